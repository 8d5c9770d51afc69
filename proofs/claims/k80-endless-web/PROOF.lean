import PyProof.Rows.All
import HandS.GenList
import PyProof.TupleOfGen
import PyProof.CollectWalk
import HandS.WordsExc
import HandS.Evl
import HandS.ForMost
import PyProof.Draws
import Wide.All
import OpenK.AllK
import Wide.FinOn
import HandS.IsInst
import HandS.Style
import HandS.TupAny
import HandS.TupMul
import HandS.Deep
import HandS.BoundDict
import HandS.WideMore
import HandS.Codes
import KE.KUnpackStar
import HandS.Zip
import HandS.Star
import HandS.Lambda
import HandS.TupLe
import HandS.Flow
import HandS.EndTab
import KE.KRevSl
import HandS.Strs
import HandS.SortInts
import HandS.Conv
import HandS.Dict
import KE.KDictCopyH
import PySem.Challenge.RW_onebetween_k80_whole_endless_web_of_form
set_option Elab.async false
set_option linter.all false
set_option maxRecDepth 100000
section
set_option maxHeartbeats 1000000
/-! KGen1: a generator's run, cut at its sleeps: the context of each stretch leans on the heap below the generator's own frame alone. -/
namespace KG
open PySem PySem.Spec PyProof.Rows L2 GenW

/-! ### the heap below an address, of the places that p tells -/
def goneObj : Obj := { cls := .none, data := .freed }
def below (p : Addr → Bool) (n : Nat) (h : Heap) : Heap := { h with objs := (h.objs.extract 0 n).mapIdx fun i o => if p i = true then o else goneObj }
theorem below_size {p : Addr → Bool} {n : Nat} {h : Heap} (hn : n ≤ h.objs.size) : (below p n h).objs.size = n := by
  show ((h.objs.extract 0 n).mapIdx _).size = n
  rw [Array.size_mapIdx, Array.size_extract]; omega
theorem ext_get {α : Type} (xs : Array α) (n b : Nat) (hb : b < n) : (xs.extract 0 n)[b]? = xs[b]? := by
  rw [Array.getElem?_extract]
  by_cases hs : b < xs.size
  · rw [if_pos (by omega)]; simp
  · rw [if_neg (by omega)]
    exact (Array.getElem?_eq_none (by omega)).symm
theorem below_get {p : Addr → Bool} {n : Nat} {h : Heap} {b : Addr} (hb : b < n) (hp : p b = true) : (below p n h).get? b = h.get? b := by
  have e : (below p n h).objs[b]? = h.objs[b]? := by
    show ((h.objs.extract 0 n).mapIdx _)[b]? = h.objs[b]?
    rw [Array.getElem?_mapIdx, ext_get h.objs n b hb, hp]
    cases h.objs[b]? <;> rfl
  unfold Heap.get?
  rw [e]
theorem of_below {p : Addr → Bool} {n : Nat} {h : Heap} {b : Addr} {o : Obj} (e : (below p n h).get? b = some o) : (b < n ∧ p b = true) ∧ h.get? b = some o := by
  have hb : b < n := by
    have z := Heap.lt_size e
    have z' : b < ((h.objs.extract 0 n).mapIdx fun i o => if p i = true then o else goneObj).size := z
    rw [Array.size_mapIdx, Array.size_extract] at z'
    exact Nat.lt_of_lt_of_le z' (by omega)
  have hp : p b = true := by
    cases hp : p b with
    | true => rfl
    | false =>
      have e2 : (below p n h).objs[b]? = (h.objs[b]?).map fun _ => goneObj := by
        show ((h.objs.extract 0 n).mapIdx _)[b]? = _
        rw [Array.getElem?_mapIdx, ext_get h.objs n b hb, hp]
        cases h.objs[b]? <;> rfl
      unfold Heap.get? at e
      rw [e2] at e
      cases q : h.objs[b]? with
      | none => rw [q] at e; cases e
      | some u => rw [q] at e; cases e
  exact ⟨⟨hb, hp⟩, by rw [← below_get hb hp]; exact e⟩

/-! ### what stays through a generator's life -/
structure Kon where
  P : Program
  w : World
  K : PySem.W.Frag
  mg : Str → Option Value
  base : Heap
  N : List Str
  env : Env
  outer : List Env
  A : Around
  Hs : Hp
  E : XK
  /-- what stood below the frame when the generator was made -/
  old : Addr → Bool

/-- a stretch's entry: the state of its start, the heap below the frame -/
def Kon.cut (G : Kon) (s : Shared) : Shared := { s with heap := below G.old G.env.locals s.heap }
/-- a stretch's context -/
def Kon.cx (G : Kon) (pn : List (Addr × Obj)) (s : Shared) : Cx where
  prog := G.P
  w := G.w
  K := G.K
  mg := G.mg
  base := G.base
  A := G.A.deeper G.env
  N := G.N
  s_0 := G.cut s
  H_0 := G.Hs
  env := G.env
  outer := G.outer
  stack := G.env :: G.outer
  ex := []
  calm := true
  fn := fun _ => true
  pn := pn
  xe := fun e s' => wpAny (model G.P G.w) (G.A.deeper G.env) (leaving G.env e) (fun _ s'' => L2.CX G.P G.w G.outer G.Hs (G.cut s) G.E e s'' ∧ ∀ p ∈ pn, s''.heap.get? p.1 = some p.2) (fun _ _ => False) s'

structure Kon.Good (G : Kon) : Prop where
  mod : Mod G.K G.mg G.base
  kind : G.env.scope.kind = .function
  glob : G.env.globals = mainGlobals
  blt : G.env.builtins = builtinsNs
  inj : ∀ x y c, G.env.cells.lookup x = some c → G.env.cells.lookup y = some c → x = y
  has : ∀ x, (G.env.kindOf x = some .cell ∨ G.env.kindOf x = some .free) → ∃ c, G.env.cells.lookup x = some c
  cab : ∀ x c, G.env.cells.lookup x = some c → G.env.locals ≤ c
  frame : G.env.frame = some G.env.locals
  hd : G.A.handled = none
  frames : G.A.frames = some G.outer
  olt : ∀ b, G.old b = true → b < G.env.locals
  frlt : ∀ b ∈ frs G.outer, G.old b = true
  bold : ∀ b o, G.base.get? b = some o → G.old b = true
  bsz : G.base.objs.size ≤ G.env.locals
  bs : ∀ b o, G.base.get? b = some o → G.Hs b = none
  frf : ∀ b ∈ frs G.outer, G.Hs b = none
  frz : ∀ b o, G.Hs b = some o → ∃ ob u, o = .frz ob u
  hlt : ∀ b o, G.Hs b = some o → G.old b = true

/-- what a state must hold for a stretch to begin there -/
structure Kon.At (G : Kon) (s : Shared) : Prop where
  base : ∀ b o, G.base.get? b = some o → s.heap.get? b = some o
  funs : s.heap.FunFrames G.base G.outer
  size : G.env.locals ≤ s.heap.objs.size
  bare : AllBare s.gens
  hs : HOk G.P G.w G.Hs s.heap
  old : ∀ b, G.old b = true → ∃ o, s.heap.get? b = some o

theorem funs_below {base : Heap} {p : Addr → Bool} {n : Nat} {h : Heap} : ∀ (l : List Env), (∀ b ∈ frs l, p b = true) → (∀ b, p b = true → b < n) → h.FunFrames base l → (below p n h).FunFrames base l := by
  intro l
  induction l with
  | nil => intro _ _ _; trivial
  | cons env r ih =>
    intro hs hlt hl
    obtain ⟨hk, ⟨L, o, hf, hn, ho, hd⟩, hr⟩ := hl
    have hL : p L = true := hs L (by unfold frs; rw [List.filterMap_cons, hf]; exact List.mem_cons_self)
    exact ⟨hk, ⟨L, o, hf, hn, by rw [below_get (hlt L hL) hL]; exact ho, hd⟩, ih (fun b hb => hs b (by unfold frs; rw [List.filterMap_cons, hf]; exact List.mem_cons_of_mem _ hb)) hlt hr⟩

theorem Kon.Good.ok {G : Kon} (g : G.Good) {s : Shared} (t : G.At s) (pn : List (Addr × Obj)) : (G.cx pn s).Ok where
  mod := g.mod
  kind := g.kind
  glob := g.glob
  blt := g.blt
  above := by
    show (below G.old G.env.locals s.heap).objs.size ≤ G.env.locals
    rw [below_size t.size]
    exact Nat.le_refl _
  inj := g.inj
  has := g.has
  cab := fun x c _ h => by
    show (below G.old G.env.locals s.heap).objs.size ≤ c
    rw [below_size t.size]
    exact g.cab x c h
  hd := fun _ => g.hd
  frames := Around.frames_deeper g.frames
  stk := .inr ⟨rfl, g.frame⟩
  exf := fun b z => absurd (show b ∈ ([] : List Addr) from z) (by simp)
  bs := fun b o e => ⟨by
    show (below G.old G.env.locals s.heap).get? b = some o
    rw [below_get (g.olt b (g.bold b o e)) (g.bold b o e)]
    exact t.base b o e, g.bs b o e⟩
  bsz := by
    show G.base.objs.size ≤ (below G.old G.env.locals s.heap).objs.size
    rw [below_size t.size]
    exact g.bsz
  noex := fun b _ _ z => absurd (show b ∈ ([] : List Addr) from z) (by simp)
  exfs := fun b z => absurd (show b ∈ ([] : List Addr) from z) (by simp)
  funs := funs_below G.outer g.frlt g.olt t.funs
  frf := g.frf

/-- a stretch begins at s': the generator's own things are as they were at s -/
theorem rouse {G : Kon} (g : G.Good) {X : Cx} {pn' ip ip' : List (Addr × Obj)} {σ : L2.St} {H : Hp} {s s' : Shared} (I : Inv X ip σ H s) (e1 : X.prog = G.P) (e2 : X.w = G.w) (e3 : X.N = G.N) (e4 : X.env = G.env)
    (t : G.At s') (hH : ∀ b o, G.Hs b = some o → H b = some o) (hlow : ∀ b o, G.old b = true → H b = some o → G.Hs b = some o)
    (kp : ∀ b o, G.old b = false → (b = G.env.locals ∨ (∃ x, G.env.cells.lookup x = some b) ∨ H b ≠ none) → s.heap.get? b = some o → s'.heap.get? b = some o)
    (hp : ∀ p ∈ pn' ++ ip', s'.heap.get? p.1 = some p.2 ∧ H p.1 = none ∧ p.1 ≠ G.env.locals ∧ p.1 ∉ frs G.outer ∧ ∀ v, p.2.data ≠ .cell v) : Inv (G.cx pn' s') ip' σ H s' := by
  have young : ∀ b, G.env.locals ≤ b → G.old b = false := fun b hb => by
    cases q : G.old b with
    | false => rfl
    | true => exact absurd (Nat.lt_of_lt_of_le (g.olt b q) hb) (Nat.lt_irrefl _)
  have hlen : σ.length = G.N.length := by rw [← e3]; exact I.len
  have hfree : H G.env.locals = none := by rw [← e4]; exact I.free
  have hfreeC : ∀ x c, G.env.cells.lookup x = some c → H c = none := fun x c h => I.freeC x c (by rw [e4]; exact h)
  have hcell : ∀ x c, G.env.cells.lookup x = some c → ∃ v, s'.heap.IsCell c v := fun x c h => by
    obtain ⟨v, o, ho, hd⟩ := I.cell x c (by rw [e4]; exact h)
    exact ⟨v, o, kp c o (young c (g.cab x c h)) (.inr (.inl ⟨x, h⟩)) ho, hd⟩
  have hloc : ∃ m, s'.heap.Ns G.env.locals m ∧ ∀ (i : Nat) (x : Str) (v : V), G.N[i]? = some x → σ[i]? = some (some v) → Vis G.env.scope x → ∃ u, RelV v u ∧ Look G.env s'.heap m x u := by
    obtain ⟨m, ⟨o, es, ep, ho, r⟩, hl⟩ := I.loc
    rw [e4] at ho
    refine ⟨m, ⟨o, es, ep, kp _ o (young _ (Nat.le_refl _)) (.inl rfl) ho, r⟩, fun i x v h1 h2 h3 => ?_⟩
    obtain ⟨u, rv, l⟩ := hl i x v (by rw [e3]; exact h1) h2 (by rw [e4]; exact h3)
    rw [e4] at l
    refine ⟨u, rv, ?_⟩
    rcases l with l | ⟨k, c, e, oc, ho, hd⟩
    · exact .inl l
    · exact .inr ⟨k, c, e, oc, kp c oc (young c (g.cab x c e)) (.inr (.inl ⟨x, e⟩)) ho, hd⟩
  have hok : HOk G.P G.w H s'.heap := fun b u e => by
    have hI := I.hok
    rw [e1, e2] at hI
    cases hb : G.old b with
    | true =>
      have z := t.hs b u (hlow b u hb e)
      exact z.stay (fun _ _ _ q => q) (fun c q => hH c _ q) fun c xs q => hH c _ q
    | false =>
      refine (hI b u e).stay (fun c o hc q => ?_) (fun _ q => q) fun _ _ q => q
      have hcn : H c ≠ none := by
        rcases hc with rfl | hc
        · rw [e]; exact fun z => nomatch z
        · rw [hc]; exact fun z => nomatch z
      cases hcl : G.old c with
      | true =>
        cases hh : H c with
        | none => exact absurd hh hcn
        | some oc =>
          have z := hlow c oc hcl hh
          obtain ⟨ob, uu, ez⟩ := g.frz c oc z
          subst ez
          have y1 := (t.hs c _ z).1
          have y2 := (hI c _ hh).1
          rw [q] at y2
          rw [y1, y2]
      | false => exact kp c o hcl (.inr (.inr hcn)) q
  refine ⟨g.ok t pn', rfl, t.bare, ⟨fun b o e _ _ _ => (of_below e).2, fun b o e _ _ _ => ⟨o.slots, (of_below e).2⟩, fun b o e n _ => ?_, fun b o e _ => ⟨o, (of_below e).2⟩,
    fun b xs e => hH b _ e, fun b o u e => hH b _ e, fun b ps e => ?_⟩, hloc, hcell, hfree, hfreeC, hp, hok, hlen⟩
  · have hb := (of_below e).1.2
    cases q : H b with
    | none => rfl
    | some u =>
      have z := hlow b u hb q
      rw [show G.Hs b = none from n] at z
      cases z
  · refine ⟨#[], ?_⟩
    rw [hH b _ e]; simp
/-- within a stretch: nothing old is tracked but Hs -/
theorem low_of {G : Kon} (g : G.Good) {pn ip : List (Addr × Obj)} {σ : L2.St} {H : Hp} {s₀ s : Shared} (t : G.At s₀) (I : Inv (G.cx pn s₀) ip σ H s) :
    (∀ b o, G.Hs b = some o → H b = some o) ∧ ∀ b o, G.old b = true → H b = some o → G.Hs b = some o := by
  have up : ∀ b o, G.Hs b = some o → H b = some o := fun b o e => by
    obtain ⟨ob, u, rfl⟩ := g.frz b o e
    exact I.base.frzs b ob u e
  refine ⟨up, fun b o hb e => ?_⟩
  cases q : G.Hs b with
  | some u => rw [up b u q] at e; exact e
  | none =>
    obtain ⟨ob, ho⟩ := t.old b hb
    have z := I.base.free b ob (show (below G.old G.env.locals s₀.heap).get? b = some ob by rw [below_get (g.olt b hb) hb]; exact ho) q (by intro z; exact absurd (show b ∈ ([] : List Addr) from z) (by simp))
    rw [z] at e; cases e
/-- within a stretch: what is old is kept, the callers' frames up to slots -/
theorem old_of {G : Kon} (g : G.Good) {pn ip : List (Addr × Obj)} {σ : L2.St} {H : Hp} {s₀ s : Shared} (t : G.At s₀) (I : Inv (G.cx pn s₀) ip σ H s) :
    (∀ b o, G.old b = true → b ∉ frs G.outer → s₀.heap.get? b = some o → s.heap.get? b = some o) ∧ ∀ b o, b ∈ frs G.outer → s₀.heap.get? b = some o → ∃ sl, s.heap.get? b = some { o with slots := sl } := by
  have noex : ∀ b : Addr, b ∉ (G.cx pn s₀).ex := fun b z => absurd (show b ∈ ([] : List Addr) from z) (by simp)
  have at0 : ∀ b o, G.old b = true → s₀.heap.get? b = some o → (G.cx pn s₀).s_0.heap.get? b = some o := fun b o hb e => by
    show (below G.old G.env.locals s₀.heap).get? b = some o
    rw [below_get (g.olt b hb) hb]; exact e
  refine ⟨fun b o hb hf e => ?_, fun b o hf e => ?_⟩
  · cases q : G.Hs b with
    | none => exact I.base.keep b o (at0 b o hb e) q hf (noex b)
    | some u =>
      obtain ⟨ob, uu, rfl⟩ := g.frz b u q
      have y1 := (t.hs b _ q).1
      have y2 := (I.hok b _ ((low_of g t I).1 b _ q)).1
      rw [e] at y1
      rw [y1]; exact y2
  · exact I.base.slot b o (at0 b o (g.frlt b hf) e) (g.frf b hf) hf (noex b)
end KG

end

section
set_option maxHeartbeats 1000000
/-! KGen2: the judgement of a generator's statements: blocks, if, while, for, yield. -/
namespace KG
open PySem PySem.Spec PyProof.Rows L2 GenW

structure Run where
  G : Kon
  a : Addr
  go : Obj
  /-- the consumer's own things, and what it knows by them of all that came -/
  Ss : List Addr
  Gh : List V → Heap → Prop
  /-- what is told of an item -/
  yl : List V → V → Hp → Prop
def Run.pn (r : Run) (s₀ : Shared) : List (Addr × Obj) := (r.a, r.go) :: pinsAt r.Ss s₀.heap
abbrev Run.X (r : Run) (s₀ : Shared) : Cx := r.G.cx (r.pn s₀) s₀
structure Run.Good (r : Run) : Prop where
  g : r.G.Good
  aS : r.a ∉ r.Ss
  ao : r.G.old r.a = false
structure Run.At (r : Run) (s : Shared) : Prop where
  t : r.G.At s
  ss : ∀ S ∈ r.Ss, ∃ o, s.heap.get? S = some o ∧ ∀ v, o.data ≠ .cell v
/-- running, amid a stretch that began at s₀ -/
structure KI (r : Run) (s₀ : Shared) (ip : List (Addr × Obj)) (ys : List V) (σ : L2.St) (H : Hp) (s : Shared) : Prop where
  t : r.At s₀
  gh : r.Gh ys s₀.heap
  inv : Inv (r.X s₀) ip σ H s
/-- what a stretch tells at its end -/
structure Told (r : Run) (s₀ s : Shared) (H : Hp) : Prop where
  os : s.os = s₀.os
  bare : AllBare s.gens
  keep : ∀ b o, r.G.old b = true → b ∉ frs r.G.outer → s₀.heap.get? b = some o → s.heap.get? b = some o
  slot : ∀ b o, b ∈ frs r.G.outer → s₀.heap.get? b = some o → ∃ sl, s.heap.get? b = some { o with slots := sl }
  own : ∀ S ∈ r.Ss, ∀ o, s₀.heap.get? S = some o → s.heap.get? S = some o
  gen : s.heap.get? r.a = some r.go
  hok : HOk r.G.P r.G.w H s.heap
  up : ∀ b o, r.G.Hs b = some o → H b = some o
  low : ∀ b o, r.G.old b = true → H b = some o → r.G.Hs b = some o
  ssH : ∀ S ∈ r.Ss, H S = none
  lt : ∃ o, s.heap.get? r.G.env.locals = some o
/-- what the consumer keeps while the generator sleeps -/
structure Btw (r : Run) (s s' : Shared) : Prop where
  t : r.At s'
  keep : ∀ b o, r.G.old b = false → b ∉ r.Ss → s.heap.get? b = some o → s'.heap.get? b = some o
def KY (r : Run) : Protocol := fun n s₀ v s kap =>
  ∃ ys x H, n + 1 + ys.length = sizeLine ∧ RelV x v ∧ r.Gh ys s₀.heap ∧ r.yl ys x H ∧ Told r s₀ s H ∧ ∀ s', Btw r s s' → r.Gh (ys ++ [x]) s'.heap → kap (.send .none) s'

theorem pin_of {r : Run} {s₀ : Shared} {S : Addr} {o : Obj} (hS : S ∈ r.Ss) (e : s₀.heap.get? S = some o) : (S, o) ∈ r.pn s₀ := List.mem_cons_of_mem _ (mem_pinsAt hS e)
theorem KI.told {r : Run} (rg : r.Good) {s₀ s : Shared} {ip : List (Addr × Obj)} {ys : List V} {σ : L2.St} {H : Hp} (h : KI r s₀ ip ys σ H s) : Told r s₀ s H where
  os := h.inv.os
  bare := h.inv.bare
  keep := (old_of rg.g h.t.t h.inv).1
  slot := (old_of rg.g h.t.t h.inv).2
  own := fun S hS o e => (h.inv.pin (S, o) (List.mem_append_left _ (pin_of hS e))).1
  gen := (h.inv.pin (r.a, r.go) (List.mem_append_left _ List.mem_cons_self)).1
  hok := h.inv.hok
  up := (low_of rg.g h.t.t h.inv).1
  low := (low_of rg.g h.t.t h.inv).2
  ssH := fun S hS => by
    obtain ⟨o, e, _⟩ := h.t.ss S hS
    exact (h.inv.pin (S, o) (List.mem_append_left _ (pin_of hS e))).2.1
  lt := let ⟨_, ⟨o, _, _, e, _⟩, _⟩ := h.inv.loc; ⟨o, e⟩
/-- roused from a sleep -/
theorem KI.roused {r : Run} (rg : r.Good) {s₀ s s' : Shared} {ip : List (Addr × Obj)} {ys ys' : List V} {σ : L2.St} {H : Hp} (h : KI r s₀ ip ys σ H s) (hip : ∀ p ∈ ip, r.G.env.locals ≤ p.1 ∧ p.1 ∉ r.Ss) (b : Btw r s s') (gh : r.Gh ys' s'.heap) :
    KI r s' ip ys' σ H s' := by
  have T := h.told rg
  have young : ∀ b, r.G.env.locals ≤ b → r.G.old b = false := fun b hb => by
    cases q : r.G.old b with
    | false => rfl
    | true => exact absurd (Nat.lt_of_lt_of_le (rg.g.olt b q) hb) (Nat.lt_irrefl _)
  have pinS : ∀ S ∈ r.Ss, ∃ o, s.heap.get? S = some o ∧ H S = none ∧ S ≠ r.G.env.locals ∧ S ∉ frs r.G.outer ∧ ∀ v, o.data ≠ .cell v := fun S hS => by
    obtain ⟨o, e, _⟩ := h.t.ss S hS
    exact ⟨o, h.inv.pin (S, o) (List.mem_append_left _ (pin_of hS e))⟩
  refine ⟨b.t, gh, rouse rg.g h.inv rfl rfl rfl rfl b.t.t T.up T.low (fun c o hc hw e => b.keep c o hc (fun hS => ?_) e) fun p hp => ?_⟩
  · obtain ⟨ob, e1, e2, e3, e4, e5⟩ := pinS c hS
    rcases hw with hw | ⟨x, hx⟩ | hw
    · exact e3 hw
    · obtain ⟨v, oc, h1, h2⟩ := h.inv.cell x c hx
      rw [e1] at h1; cases h1
      exact e5 v h2
    · exact hw e2
  · rcases List.mem_append.mp hp with hp | hp
    · rcases List.mem_cons.mp hp with hp | hp
      · subst hp
        obtain ⟨e1, e2⟩ := h.inv.pin (r.a, r.go) (List.mem_append_left _ List.mem_cons_self)
        exact ⟨b.keep r.a r.go rg.ao rg.aS e1, e2⟩
      · obtain ⟨hS, e⟩ := of_pinsAt hp
        obtain ⟨ob, e1, e2, e3, e4, e5⟩ := pinS p.1 hS
        obtain ⟨o', e', d⟩ := b.t.ss p.1 hS
        rw [e] at e'; cases e'
        exact ⟨e, e2, e3, e4, d⟩
    · obtain ⟨e1, e2⟩ := h.inv.pin p (List.mem_append_right _ hp)
      exact ⟨b.keep p.1 p.2 (young p.1 (hip p hp).1) (hip p hp).2 e1, e2⟩

/-! ### the judgement -/
def KSP (r : Run) (ip : List (Addr × Obj)) (D : GEnds) (s₀ : Shared) (ys : List V) (f : Flow) (s : Shared) : Prop :=
  match f with
  | .next => ∃ σ H, KI r s₀ ip ys σ H s ∧ D.nx ys σ H
  | .brk => ∃ σ H, KI r s₀ ip ys σ H s ∧ D.bk ys σ H
  | .cont => ∃ σ H, KI r s₀ ip ys σ H s ∧ D.ct ys σ H
  | .ret u => ∃ v σ H, KI r s₀ ip ys σ H s ∧ RelV v u ∧ D.rt ys v H
structure KC (r : Run) (ip : List (Addr × Obj)) (c : Code) (fs : List Frame) (gd : Bool → Bool) : Prop where
  ip : ∀ p ∈ ip, r.G.env.locals ≤ p.1 ∧ p.1 ∉ r.Ss
  over : r.G.A.over c fs = r.G.A.deeper r.G.env
  split : splitAtGen fs = none
  guard : fs.any Frame.guarded = false
  gd : gd false = false
structure KK (r : Run) (ip : List (Addr × Obj)) (R : GenEnd) (c : Code) (fs : List Frame) (K : Flow → Sem PySem.Fin) (J : Value → Sem PySem.Fin) (D : GEnds) : Prop where
  ok : ∀ (n : Nat) (ys : List V) (s₀ s : Shared) (f : Flow), n + ys.length = sizeLine → KSP r ip D s₀ ys f s → Seg (model r.G.P r.G.w) r.G.A R (KY r) n s₀ c (K f) fs s
  exc : ∀ (n : Nat) (s₀ : Shared) (e : Value) (s : Shared), r.At s₀ → (r.X s₀).xe e s → Seg (model r.G.P r.G.w) r.G.A R (KY r) n s₀ c (J e) fs s
structure KS (r : Run) (st : Stmt) (t : TGn) : Prop where
  run : ∀ (R : GenEnd) (ip : List (Addr × Obj)) (n : Nat) (ys : List V) (s₀ : Shared) (c : Code) (fs : List Frame) (K : Flow → Sem PySem.Fin) (J : Value → Sem PySem.Fin) (gd : Bool → Bool) (lv : List Value → List Value) (s : Shared) (σ : L2.St) (H : Hp) (D : GEnds),
    KC r ip c fs gd → n + ys.length = sizeLine → KK r ip R c fs K J D → KI r s₀ ip ys σ H s → t D ys σ H → Seg (model r.G.P r.G.w) r.G.A R (KY r) n s₀ c ((exec st r.G.env).wrap K J gd lv) fs s
structure KSs (r : Run) (st : List Stmt) (t : TGn) : Prop where
  run : ∀ (R : GenEnd) (ip : List (Addr × Obj)) (n : Nat) (ys : List V) (s₀ : Shared) (c : Code) (fs : List Frame) (K : Flow → Sem PySem.Fin) (J : Value → Sem PySem.Fin) (gd : Bool → Bool) (lv : List Value → List Value) (s : Shared) (σ : L2.St) (H : Hp) (D : GEnds),
    KC r ip c fs gd → n + ys.length = sizeLine → KK r ip R c fs K J D → KI r s₀ ip ys σ H s → t D ys σ H → Seg (model r.G.P r.G.w) r.G.A R (KY r) n s₀ c ((execs st r.G.env).wrap K J gd lv) fs s

section
variable {r : Run} {st : Stmt} {rest : List Stmt}
theorem ksp_of {ip : List (Addr × Obj)} {D : GEnds} {s₀ : Shared} {ys : List V} {f : Flow} {s : Shared} (t : r.At s₀) (gh : r.Gh ys s₀.heap) (h : SP (r.X s₀) ip (D.at ys) f s) : KSP r ip D s₀ ys f s := by
  cases f with
  | next => obtain ⟨σ, H, I, q⟩ := h; exact ⟨σ, H, ⟨t, gh, I⟩, q⟩
  | brk => obtain ⟨σ, H, I, q⟩ := h; exact ⟨σ, H, ⟨t, gh, I⟩, q⟩
  | cont => obtain ⟨σ, H, I, q⟩ := h; exact ⟨σ, H, ⟨t, gh, I⟩, q⟩
  | ret u => obtain ⟨v, σ, H, I, q1, q⟩ := h; exact ⟨v, σ, H, ⟨t, gh, I⟩, q1, q⟩
theorem ks_ps {t : TS} (h : ∀ s₀, PS (r.X s₀) st t) : KS r st (tPlain t) :=
  ⟨fun R ip n ys s₀ c fs K J gd lv s σ H D g hn k hI ht => by
    refine seg_wrap ?_
    rw [g.over]
    exact wpAny_mono ((h s₀).run ip s σ H (D.at ys) hI.inv ht) (fun f s' hs => k.ok n ys s₀ s' f hn (ksp_of hI.t hI.gh hs)) fun x s' hx => k.exc n s₀ x s' hI.t hx⟩
theorem kss_pss {t : TS} (h : ∀ s₀, PSs (r.X s₀) rest t) : KSs r rest (tPlain t) :=
  ⟨fun R ip n ys s₀ c fs K J gd lv s σ H D g hn k hI ht => by
    refine seg_wrap ?_
    rw [g.over]
    exact wpAny_mono ((h s₀).run ip s σ H (D.at ys) hI.inv ht) (fun f s' hs => k.ok n ys s₀ s' f hn (ksp_of hI.t hI.gh hs)) fun x s' hx => k.exc n s₀ x s' hI.t hx⟩
theorem kss_nil : KSs r [] tG0 :=
  ⟨fun R ip n ys s₀ c fs K J gd lv s σ H D g hn k hI ht => seg_execs_nil (k.ok n ys s₀ s .next hn ⟨σ, H, hI, ht⟩)⟩
theorem kss_cons {t u : TGn} (a : KS r st t) (b : KSs r rest u) : KSs r (st :: rest) (tGThen t u) := by
  refine ⟨fun R ip n ys s₀ c fs K J gd lv s σ H D g hn k hI ht => seg_execs_cons ?_⟩
  refine a.run R ip n ys s₀ c fs _ J gd lv s σ H { D with nx := fun ys' σ' H' => u D ys' σ' H' } g hn ⟨fun n' ys' s₀' s' f hn' hs => ?_, k.exc⟩ hI ht
  cases f with
  | next =>
    obtain ⟨σ', H', I', q⟩ := hs
    exact b.run R ip n' ys' s₀' c fs K J gd lv s' σ' H' D g hn' k I' q
  | brk => exact k.ok n' ys' s₀' s' .brk hn' hs
  | cont => exact k.ok n' ys' s₀' s' .cont hn' hs
  | ret u => exact k.ok n' ys' s₀' s' (.ret u) hn' hs
theorem kss_one {t : TGn} (a : KS r st t) : KSs r [st] (tGThen t tG0) := kss_cons a kss_nil

/-! ### if -/
def tGIf (c : TT) (t u : TGn) : TGn := fun D ys σ H => c σ H fun b H1 => if b = true then t D ys σ H1 else u D ys σ H1
theorem ks_if {test : Expr} {x y : List Stmt} {pos : Pos} {tc : TT} {t u : TGn} (hc : ∀ s₀, PT (r.X s₀) test tc) (hx : KSs r x t) (hy : KSs r y u) : KS r (.If test x y pos) (tGIf tc t u) := by
  refine ⟨fun R ip n ys s₀ c fs K J gd lv s σ H D g hn k hI ht => ?_⟩
  rw [exec_If]
  refine seg_bind_wrap (wpAny_standAt ?_)
  refine seg_bind_wrap ?_
  rw [g.over]
  refine wpAny_mono ((hc s₀).run ip s σ H _ hI.inv ht) (fun b s1 hb => ?_) fun e s1 hx => k.exc n s₀ e s1 hI.t hx
  obtain ⟨H1, I1, q⟩ := hb
  cases b with
  | true => exact hx.run R ip n ys s₀ c fs K J gd lv s1 σ H1 D g hn k ⟨hI.t, hI.gh, I1⟩ q
  | false => exact hy.run R ip n ys s₀ c fs K J gd lv s1 σ H1 D g hn k ⟨hI.t, hI.gh, I1⟩ q

/-! ### yield -/
def tKYield (yl : List V → V → Hp → Prop) (te : TE) : TGn := fun D ys σ H => ys.length < sizeLine ∧ te σ H fun x H1 => yl ys x H1 ∧ D.nx (ys ++ [x]) σ H1
theorem ks_yield (rg : r.Good) {e : Expr} {yp pos : Pos} {te : TE} (he : ∀ s₀, PE (r.X s₀) e te) (hco : r.G.env.scope.isCoroutine = false := by rfl) (hi : interactive r.G.env = false := by rfl) : KS r (.Expr (.Yield (some e) yp) pos) (tKYield r.yl te) := by
  refine ⟨fun R ip n ys s₀ c fs K J gd lv s σ H D g hn k hI ht => ?_⟩
  obtain ⟨hlt, ht⟩ := ht
  obtain ⟨n, rfl⟩ : ∃ m, n = m + 1 := ⟨n - 1, by omega⟩
  refine seg_Expr_Yield g.split g.gd g.guard ?_ hco hi
  rw [g.over]
  refine wpAny_mono ((he s₀).run ip s σ H _ hI.inv ht) (fun v s' hv => ?_) fun x s' hx => k.exc _ s₀ x s' hI.t hx
  obtain ⟨x, H1, I1, rv, hy, q⟩ := hv
  have K1 : KI r s₀ ip ys σ H1 s' := ⟨hI.t, hI.gh, I1⟩
  intro kap hk
  refine ⟨ys, x, H1, hn, rv, hI.gh, hy, K1.told rg, fun s'' hb gh => hk .none s'' ?_⟩
  refine k.ok n (ys ++ [x]) s'' s'' .next ?_ ⟨σ, H1, K1.roused rg g.ip hb gh, q⟩
  rw [List.length_append, List.length_singleton]; omega
end
end KG

end

section
set_option maxHeartbeats 1000000
/-! KGen3: loops of a generator: while, for. -/
namespace KG
open PySem PySem.Spec PyProof.Rows L2 GenW

section
variable {r : Run}
theorem kc_in {ip ip' : List (Addr × Obj)} {c c' : Code} {fs : List Frame} {gd : Bool → Bool} {k : Result → Sem PySem.Fin} {l kp : List Value} {p : Pos} (g : KC r ip c fs gd) (hip : ∀ p ∈ ip', r.G.env.locals ≤ p.1 ∧ p.1 ∉ r.Ss) (hw : c'.weight = 0) (hu : c'.cUnits = 0) :
    KC r ip' c' (.ret k none (gd false) l c p kp :: fs) id where
  ip := hip
  over := (over_loop hw hu).trans g.over
  split := by
    show (splitAtGen fs).map _ = none
    rw [g.split]; rfl
  guard := by
    show (gd false || fs.any Frame.guarded) = false
    rw [g.gd, g.guard]; rfl
  gd := rfl
/-- an exception leaves a loop's code -/
theorem seg_out {ip : List (Addr × Obj)} {R : GenEnd} {c : Code} {fs : List Frame} {K : Flow → Sem PySem.Fin} {J : Value → Sem PySem.Fin} {gd : Bool → Bool} {lv : List Value → List Value} {D : GEnds} {n : Nat} {s₀ s : Shared} {e : Value}
    (g : KC r ip c fs gd) (k : KK r ip R c fs K J D) (t : r.At s₀) (h : cameBackBy (model r.G.P r.G.w) (r.G.A.deeper r.G.env) r.G.env (r.X s₀).xe e s) :
    Seg (model r.G.P r.G.w) r.G.A R (KY r) n s₀ c (((Sem.raise e : Sem Flow).onRaise (cameBack r.G.env)).wrap K J gd lv) fs s := by
  show Seg _ _ _ _ _ _ _ (((cameBack r.G.env e).bind fun _ => (Sem.raise e : Sem Flow)).wrap K J gd lv) _ _
  rw [Sem.bind_eq_wrap, Sem.wrap_wrap]
  refine seg_wrap ?_
  rw [g.over]
  exact wpAny_mono h (fun _ s' hx => k.exc n s₀ e s' t hx) fun x s' hx => k.exc n s₀ x s' t hx

theorem ks_while {test : Expr} {body : List Stmt} {pos : Pos} {tc : TT} {tb : TGn} (hp : ∀ s₀, PassesOwn (model r.G.P r.G.w) (r.G.A.deeper r.G.env) r.G.env (r.X s₀).xe) (hc : ∀ s₀, PT (r.X s₀) test tc) (hb : KSs r body tb) : KS r (.While test body [] pos) (tGWhile tc tb) := by
  refine ⟨fun R ip n ys s₀ c fs K J gd lv s σ H D g hn k hI ht => ?_⟩
  obtain ⟨W, ⟨m0, w0⟩, turn⟩ := ht
  refine seg_While fun p => ?_
  have gl := fun (kk : Result → Sem PySem.Fin) => kc_in (k := kk) (ip' := ip) (c' := .whileLoop test body [] r.G.env) (l := lv []) (kp := []) (p := p) g g.ip rfl rfl
  have go : ∀ (m n : Nat) (ys : List V) (s₀ s : Shared) (σ : L2.St) (H : Hp), n + ys.length = sizeLine → W m ys σ H → KI r s₀ ip ys σ H s →
      Seg (model r.G.P r.G.w) r.G.A R (KY r) n s₀ (.whileLoop test body [] r.G.env) ((model r.G.P r.G.w).den (.whileLoop test body [] r.G.env))
        (.ret (fun q => ((match q with | .ok f => (.pure f : Sem Flow) | .error e => .raise e).onRaise (cameBack r.G.env)).wrap K J gd lv) none (gd false) (lv []) c p [] :: fs) s := by
    intro m
    induction m using Nat.strongRecOn with
    | ind m ih =>
      intro n ys s₀ s σ H hn w hI
      have bad : ∀ (n : Nat) (s₀ : Shared) (x : Value) (s' : Shared), r.At s₀ → (r.X s₀).xe x s' → Seg (model r.G.P r.G.w) r.G.A R (KY r) n s₀ (.whileLoop test body [] r.G.env)
          ((do noteFrame x r.G.env; theTreesLotGoes x : Sem Unit).wrap (fun _ => .raise x) .raise id id)
          (.ret (fun q => ((match q with | .ok f => (.pure f : Sem Flow) | .error e => .raise e).onRaise (cameBack r.G.env)).wrap K J gd lv) none (gd false) (lv []) c p [] :: fs) s' := fun n s₀ x s' t hx => by
        refine seg_wrap ?_
        rw [(gl _).over]
        refine wpAny_bind (wpAny_mono (hp s₀ x s' hx) (fun _ s'' hcb => wpAny_theTreesLotGoes ?_) fun y s'' hcb => ?_)
        · exact seg_leaf (.error x) (seg_out g k t hcb)
        · exact seg_leaf (.error y) (seg_out g k t hcb)
      refine seg_whileLoop ?_
      rw [(gl _).over]
      refine wpAny_mono ((hc s₀).run ip s σ H _ hI.inv (turn m ys σ H w)) (fun b s' hb' => ?_) fun x s' hx => bad n s₀ x s' hI.t hx
      obtain ⟨H2, I2, q2⟩ := hb'
      cases b with
      | true =>
        obtain ⟨N, hN, q2⟩ := q2
        rw [if_pos rfl]
        refine hb.run R ip n ys s₀ _ _ _ _ id id s' σ H2 { D with nx := N, ct := N, bk := D.nx } (gl _) hn ⟨fun n' ys' s₀' s3 f hn' hs => ?_, fun n' s₀' x s3 t hx => bad n' s₀' x s3 t hx⟩ ⟨hI.t, hI.gh, I2⟩ q2
        cases f with
        | next =>
          obtain ⟨σ3, H3, I3, n3⟩ := hs
          obtain ⟨m', hm, w3⟩ := hN ys' σ3 H3 n3
          exact seg_again rfl (ih m' hm n' ys' s₀' s3 σ3 H3 hn' w3 I3)
        | cont =>
          obtain ⟨σ3, H3, I3, n3⟩ := hs
          obtain ⟨m', hm, w3⟩ := hN ys' σ3 H3 n3
          exact seg_again rfl (ih m' hm n' ys' s₀' s3 σ3 H3 hn' w3 I3)
        | brk => exact seg_leaf (.ok .next) (k.ok n' ys' s₀' s3 .next hn' hs)
        | ret v => exact seg_leaf (.ok (.ret v)) (k.ok n' ys' s₀' s3 (.ret v) hn' hs)
      | false =>
        rw [if_neg Bool.false_ne_true]
        refine seg_execs_nil ?_
        exact seg_leaf (.ok .next) (k.ok n ys s₀ s' .next hn ⟨σ, H2, ⟨hI.t, hI.gh, I2⟩, q2⟩)
  exact go m0 n ys s₀ s σ H hn w0 hI
end

section
variable {P : Program} {w : World} {A : Around} {R : GenEnd} {Y : Protocol} {n : Nat} {s₀ : Shared} {fs : List Frame} {s : Shared} {env : Env}
/-- one turn of a for's code -/
theorem seg_turn {tg : Expr} {it : Value} {body : List Stmt}
    (h : wpAny (model P w) (A.over (.forLoop tg it body [] env) fs) (pyNext it) (fun q s1 => match q with
        | none => Seg (model P w) A R Y n s₀ (.forLoop tg it body [] env) (.pure (.again (.block [] env))) fs s1
        | some v => wpAny (model P w) (A.over (.forLoop tg it body [] env) fs) (letOwnedTupleGo tg it v) (fun _ s2 =>
            wpAny (model P w) (A.over (.forLoop tg it body [] env) fs) (assign tg env v) (fun _ s3 =>
              Seg (model P w) A R Y n s₀ (.forLoop tg it body [] env) ((execs body env).wrap (fun f => match f with
                | .next | .cont => .pure (.again (.forLoop tg it body [] env))
                | .brk => .pure (.done .next)
                | .ret v => .pure (.done (.ret v))) (fun e => (do noteFrame e env; theTreesLotGoes e : Sem Unit).wrap (fun _ => .raise e) .raise id id) id id) fs s3)
              (fun x s' => Seg (model P w) A R Y n s₀ (.forLoop tg it body [] env) ((do noteFrame x env; theTreesLotGoes x : Sem Unit).wrap (fun _ => .raise x) .raise id id) fs s') s2)
            (fun x s' => Seg (model P w) A R Y n s₀ (.forLoop tg it body [] env) ((do noteFrame x env; theTreesLotGoes x : Sem Unit).wrap (fun _ => .raise x) .raise id id) fs s') s1)
      (fun x s' => Seg (model P w) A R Y n s₀ (.forLoop tg it body [] env) ((do noteFrame x env; theTreesLotGoes x : Sem Unit).wrap (fun _ => .raise x) .raise id id) fs s') s) :
    Seg (model P w) A R Y n s₀ (.forLoop tg it body [] env) ((model P w).den (.forLoop tg it body [] env)) fs s := by
  show Seg _ A R Y n s₀ _ ((forTurn tg it body [] env).onRaise (fun x => do noteFrame x env; theTreesLotGoes x)) fs s
  rw [Sem.onRaise_eq_wrap]
  rw [Sem.wrap_congr (forTurn tg it body [] env) _ _ (K' := .pure) (H' := fun e => (do noteFrame e env; theTreesLotGoes e : Sem Unit).wrap (fun _ => .raise e) .raise id id) (fun _ => rfl)
    (fun e => by first | exact Sem.bind_eq_wrap _ _ | (show (do noteFrame e env; theTreesLotGoes e : Sem Unit).bind (fun _ => .raise e) = _; rw [Sem.bind_eq_wrap]))]
  unfold forTurn
  refine seg_bind_wrap (wpAny_standAt ?_)
  refine seg_bind_wrap (wpAny_onRaise (wpAny_mono h (fun q s1 h1 => ?_) fun _ _ h' => wpAny_standAt h'))
  cases q with
  | none => exact h1
  | some v =>
    refine seg_bind_wrap (wpAny_mono h1 (fun _ s2 h2 => ?_) fun _ _ h' => h')
    refine seg_bind_wrap (wpAny_mono h2 (fun _ s3 h3 => ?_) fun _ _ h' => h')
    rw [Sem.bind_eq_wrap', Sem.wrap_wrap]
    rw [Sem.wrap_congr (execs body env) _ _ (K' := fun f => match f with
            | .next | .cont => .pure (.again (.forLoop tg it body [] env))
            | .brk => .pure (.done .next)
            | .ret v => .pure (.done (.ret v))) (H' := (fun e => (do noteFrame e env; theTreesLotGoes e : Sem Unit).wrap (fun _ => .raise e) .raise id id))
        (fun f => by cases f <;> rfl) (fun e => by rfl)]
    exact h3
end

section
variable {r : Run}
/-- for: W the invariant by the turn and a measure -/
def tGFor (wi : TI) (g : TG) (tb : TGn) : TGn := fun D ys σ H => wi σ H fun J H1 => ∃ W : Nat → Nat → List V → L2.St → Hp → Prop, (∃ m, W 0 m ys σ H1) ∧ ∀ i m ys σ H, W i m ys σ H →
  (J.stop i H ∧ D.nx ys σ H) ∨ (J.go i H ∧ ∃ N : List V → L2.St → Hp → Prop, (∀ ys' σ' H', N ys' σ' H' → ∃ m', m' < m ∧ W (i + 1) m' ys' σ' H') ∧ ∀ x H', J.yld i H x H' → g x σ H' fun σ2 H2 => tb { D with nx := N, ct := N, bk := D.nx } ys σ2 H2)
theorem ks_for {tg iter : Expr} {body : List Stmt} {wi : TI} {g : TG} {tb : TGn} {pos : Pos} (hp : ∀ s₀, PassesOwn (model r.G.P r.G.w) (r.G.A.deeper r.G.env) r.G.env (r.X s₀).xe) (hi : ∀ s₀, PI (r.X s₀) tg iter wi) (hg : ∀ s₀, PG (r.X s₀) tg g) (hb : KSs r body tb)
    (hs : ∀ x, foldedSetIterable iter r.G.env x = pure x := by intro _; rfl) : KS r (.For tg iter body [] pos) (tGFor wi g tb) := by
  refine ⟨fun R ip n ys s₀ c fs K J gd lv s σ H D kc hn k hI ht => ?_⟩
  rw [exec_For]
  refine seg_bind_wrap (wpAny_standAt ?_)
  refine seg_bind_wrap ?_
  rw [kc.over]
  refine wpAny_mono ((hi s₀).run ip s σ H _ hI.inv ht) (fun v s1 h1 => ?_) fun x s' hx => k.exc n s₀ x s' hI.t hx
  rw [hs]
  refine seg_bind_wrap (wpAny_pure ?_)
  refine seg_bind_wrap (wpAny_standAt ?_)
  refine seg_bind_wrap (wpAny_holding ?_)
  rw [kc.over]
  refine wpAny_mono h1 (fun itv s2 h2 => ?_) fun x s' hx => k.exc n s₀ x s' hI.t hx
  obtain ⟨it, fp, tn, Jt, H2, e, I2, T, st2, f2, W, ⟨m0, w0⟩, turn⟩ := h2
  subst e
  -- what stays true of the iterator's objects
  have fpS : ∀ b ∈ fp, r.G.env.locals ≤ b ∧ b ∉ r.Ss := fun b hb => by
    obtain ⟨f0, f1, f2', f3, f4, f5⟩ := f2 b hb
    refine ⟨?_, fun hS => ?_⟩
    · rcases f3 with z | z
      · exact absurd (show b ∈ ([] : List Addr) from z) (by simp)
      · have z' : (below r.G.old r.G.env.locals s₀.heap).objs.size ≤ b := z
        rw [below_size hI.t.t.size] at z'
        exact z'
    · obtain ⟨o, eo, _⟩ := hI.t.ss b hS
      exact f5 (b, o) (List.mem_append_left _ (pin_of hS eo)) rfl
  have stat : ∀ {s₀' : Shared} {H' : Hp} {s' : Shared} {σ' : L2.St} {ys' : List V}, KI r s₀' ip ys' σ' H' s' → (∀ b ∈ fp, H' b = none) → ∀ b ∈ fp, FpOk (r.X s₀') ip H' b := fun {s₀' H' s' σ' ys'} hK hn b hb => by
    obtain ⟨f0, f1, f2', f3, f4, f5⟩ := f2 b hb
    refine ⟨hn b hb, f1, f2', .inr ?_, f4, fun p hp => ?_⟩
    · show (below r.G.old r.G.env.locals s₀'.heap).objs.size ≤ b
      rw [below_size hK.t.t.size]
      exact (fpS b hb).1
    · rcases List.mem_append.mp hp with hp | hp
      · rcases List.mem_cons.mp hp with hp | hp
        · rw [hp]
          exact f5 (r.a, r.go) (List.mem_append_left _ List.mem_cons_self)
        · obtain ⟨hS, _⟩ := of_pinsAt hp
          exact fun z => (fpS b hb).2 (z ▸ hS)
      · exact f5 p (List.mem_append_right _ hp)
  refine seg_call fun p => ?_
  have gl := fun (kk : Result → Sem PySem.Fin) => kc_in (k := kk) (ip' := ip) (c' := .forLoop tg (.ref it) body [] r.G.env) (l := lv []) (kp := []) (p := p) kc kc.ip rfl rfl
  have go : ∀ (m i n : Nat) (ys : List V) (s₀ s : Shared) (σ : L2.St) (H : Hp), n + ys.length = sizeLine → W i m ys σ H → KI r s₀ ip ys σ H s → tn i s.heap → (∀ b ∈ fp, H b = none) →
      Seg (model r.G.P r.G.w) r.G.A R (KY r) n s₀ (.forLoop tg (.ref it) body [] r.G.env) ((model r.G.P r.G.w).den (.forLoop tg (.ref it) body [] r.G.env))
        (.ret (fun q => ((match q with | .ok f => (.pure f : Sem Flow) | .error e => .raise e).onRaise (cameBack r.G.env)).wrap K J gd lv) none (gd false) (lv []) c p [] :: fs) s := by
    intro m
    induction m using Nat.strongRecOn with
    | ind m ih =>
      intro i n ys s₀ s σ H hn wv hI st fr
      have bad : ∀ (n : Nat) (s₀ : Shared) (x : Value) (s' : Shared), r.At s₀ → (r.X s₀).xe x s' → Seg (model r.G.P r.G.w) r.G.A R (KY r) n s₀ (.forLoop tg (.ref it) body [] r.G.env)
          ((do noteFrame x r.G.env; theTreesLotGoes x : Sem Unit).wrap (fun _ => .raise x) .raise id id)
          (.ret (fun q => ((match q with | .ok f => (.pure f : Sem Flow) | .error e => .raise e).onRaise (cameBack r.G.env)).wrap K J gd lv) none (gd false) (lv []) c p [] :: fs) s' := fun n s₀ x s' t hx => by
        refine seg_wrap ?_
        rw [(gl _).over]
        refine wpAny_bind (wpAny_mono (hp s₀ x s' hx) (fun _ s'' hcb => wpAny_theTreesLotGoes ?_) fun y s'' hcb => ?_)
        · exact seg_leaf (.error x) (seg_out kc k t hcb)
        · exact seg_leaf (.error y) (seg_out kc k t hcb)
      refine seg_turn ?_
      rw [(gl _).over]
      rcases turn i m ys σ H wv with ⟨stop, qn⟩ | ⟨gogo, N, hN, step⟩
      · refine wpAny_mono (T.done (r.X s₀) rfl rfl rfl rfl i ip s σ H (r.X s₀).xe hI.inv (stat hI fr) st stop) (fun q s4 ⟨hq, I4⟩ => ?_) fun x s' hx => bad n s₀ x s' hI.t hx
        subst hq
        refine seg_again rfl ?_
        show Seg _ _ _ _ _ _ _ (.pure (.done .next)) _ _
        exact seg_leaf (.ok .next) (k.ok n ys s₀ s4 .next hn ⟨σ, H, ⟨hI.t, hI.gh, I4⟩, qn⟩)
      · refine wpAny_mono (T.item (r.X s₀) rfl rfl rfl rfl i ip s σ H (r.X s₀).xe hI.inv (stat hI fr) st gogo) (fun q s4 ⟨u, hq, h4⟩ => ?_) fun x s' hx => bad n s₀ x s' hI.t hx
        subst hq
        refine wpAny_mono h4 (fun _ s5 ⟨x, H5, I5, r5, y5, st5, fr5⟩ => ?_) fun x s' hx => bad n s₀ x s' hI.t hx
        have I5' := I5.pinned (stat ⟨hI.t, hI.gh, I5⟩ fr5) (T.obj _ _ st5)
        refine wpAny_mono ((hg s₀).run _ s5 σ H5 x u _ I5' r5 (step x H5 y5)) (fun _ s6 ⟨σ6, H6, I6, q6⟩ => ?_) fun x s' hx => bad n s₀ x s' hI.t hx
        have back : ∀ {s₀' : Shared} {ys7 : List V} {σ7 : L2.St} {H7 : Hp} {s7 : Shared}, KI r s₀' (ip ++ pinsAt fp s5.heap) ys7 σ7 H7 s7 → KI r s₀' ip ys7 σ7 H7 s7 := fun {s₀' ys7 σ7 H7 s7} h => ⟨h.t, h.gh, h.inv.unpinned⟩
        have again : ∀ {n7 : Nat} {s₀' : Shared} {ys7 : List V} {σ7 : L2.St} {H7 : Hp} {s7 : Shared}, n7 + ys7.length = sizeLine → KI r s₀' (ip ++ pinsAt fp s5.heap) ys7 σ7 H7 s7 → N ys7 σ7 H7 →
            Seg (model r.G.P r.G.w) r.G.A R (KY r) n7 s₀' (.forLoop tg (.ref it) body [] r.G.env) ((model r.G.P r.G.w).den (.forLoop tg (.ref it) body [] r.G.env))
              (.ret (fun q => ((match q with | .ok f => (.pure f : Sem Flow) | .error e => .raise e).onRaise (cameBack r.G.env)).wrap K J gd lv) none (gd false) (lv []) c p [] :: fs) s7 := fun {n7 s₀' ys7 σ7 H7 s7} hn7 I7 nn => by
          obtain ⟨m', hm, w7⟩ := hN ys7 σ7 H7 nn
          refine ih m' hm (i + 1) n7 ys7 s₀' s7 σ7 H7 hn7 w7 (back I7) (T.keep _ _ _ st5 fun b hb o e => (I7.inv.pin (b, o) (List.mem_append_right _ (List.mem_append_right _ (mem_pinsAt hb e)))).1) fun b hb => ?_
          obtain ⟨o, e, d⟩ := T.obj _ _ st5 b hb
          exact (I7.inv.pin (b, o) (List.mem_append_right _ (List.mem_append_right _ (mem_pinsAt hb e)))).2.1
        refine hb.run R (ip ++ pinsAt fp s5.heap) n ys s₀ _ _ _ _ id id s6 σ6 H6 { D with nx := N, ct := N, bk := D.nx } ⟨fun p hp => ?_, (gl _).over, (gl _).split, (gl _).guard, rfl⟩ hn ⟨fun n' ys' s₀' s7 f hn' h7 => ?_, fun n' s₀' x s7 t hx => bad n' s₀' x s7 t hx⟩ ⟨hI.t, hI.gh, I6⟩ q6
        · rcases List.mem_append.mp hp with hp | hp
          · exact kc.ip p hp
          · exact fpS p.1 (of_pinsAt hp).1
        · cases f with
          | next => obtain ⟨σ7, H7, I7, n7⟩ := h7; exact seg_again rfl (again hn' I7 n7)
          | cont => obtain ⟨σ7, H7, I7, n7⟩ := h7; exact seg_again rfl (again hn' I7 n7)
          | brk => obtain ⟨σ7, H7, I7, q7⟩ := h7; exact seg_leaf (.ok .next) (k.ok n' ys' s₀' s7 .next hn' ⟨σ7, H7, back I7, q7⟩)
          | ret v => obtain ⟨x7, σ7, H7, I7, r7, q7⟩ := h7; exact seg_leaf (.ok (.ret v)) (k.ok n' ys' s₀' s7 (.ret v) hn' ⟨x7, σ7, H7, back I7, r7, q7⟩)
  exact go m0 0 n ys s₀ s2 σ H2 hn w0 ⟨hI.t, hI.gh, I2⟩ st2 fun b hb => (f2 b hb).1
end
end KG

end

section
set_option maxHeartbeats 1000000
/-! KGen4: a generator def's promise; what a call makes; the consumers that draw all. -/
namespace KG
open PySem PySem.Spec PyProof.Rows L2 GenW

/-- what stood is kept through stretches and sleeps -/
structure Since (G : Kon) (s s' : Shared) : Prop where
  os : s'.os = s.os
  bare : AllBare s'.gens
  keep : ∀ b o, G.old b = true → b ∉ frs G.outer → s.heap.get? b = some o → s'.heap.get? b = some o
  slot : ∀ b o, b ∈ frs G.outer → s.heap.get? b = some o → ∃ sl, s'.heap.get? b = some { o with slots := sl }
  lt : ∃ o, s'.heap.get? G.env.locals = some o
theorem Since.trans {G : Kon} {s s1 s2 : Shared} (a : Since G s s1) (b : Since G s1 s2) : Since G s s2 where
  os := b.os.trans a.os
  bare := b.bare
  keep := fun c o h1 h2 e => b.keep c o h1 h2 (a.keep c o h1 h2 e)
  slot := fun c o h e => by
    obtain ⟨sl, e1⟩ := a.slot c o h e
    obtain ⟨sl', e2⟩ := b.slot c _ h e1
    exact ⟨sl', e2⟩
  lt := b.lt
theorem Told.since {r : Run} {s₀ s : Shared} {H : Hp} (T : Told r s₀ s H) : Since r.G s₀ s := ⟨T.os, T.bare, T.keep, T.slot, T.lt⟩
/-- where all that is old is kept a stretch may begin -/
theorem Since.at {G : Kon} (g : G.Good) {s s' : Shared} (t : G.At s) (S : Since G s s') : G.At s' := by
  have nofr : ∀ b o, G.base.get? b = some o → b ∉ frs G.outer := fun b o e hb => by
    have z := (t.funs.mem hb).1
    rw [e] at z; cases z
  have all : ∀ (l : List Env), (∀ b ∈ frs l, b ∈ frs G.outer) → s.heap.FunFrames G.base l → s'.heap.FunFrames G.base l := by
    intro l
    induction l with
    | nil => intro _ _; trivial
    | cons env l ih =>
      intro hs hl
      obtain ⟨hk, ⟨L, o, hf, hn, ho, hd⟩, hr⟩ := hl
      have hL : L ∈ frs G.outer := hs L (by unfold frs; rw [List.filterMap_cons, hf]; exact List.mem_cons_self)
      obtain ⟨sl, e⟩ := S.slot L o hL ho
      exact ⟨hk, ⟨L, _, hf, hn, e, hd⟩, ih (fun b hb => hs b (by unfold frs; rw [List.filterMap_cons, hf]; exact List.mem_cons_of_mem _ hb)) hr⟩
  refine ⟨fun b o e => S.keep b o (g.bold b o e) (nofr b o e) (t.base b o e), all _ (fun _ h => h) t.funs, (let ⟨_, e⟩ := S.lt; Nat.le_of_lt (Heap.lt_size e)), S.bare, fun b o e => ?_, fun b hb => ?_⟩
  · obtain ⟨ob, u, rfl⟩ := g.frz b o e
    refine (t.hs b _ e).stay (fun c v hc q => ?_) (fun _ z => z) fun _ _ z => z
    rcases hc with rfl | hc
    · refine S.keep _ v (g.hlt _ _ e) (fun hf => ?_) q
      have z := g.frf _ hf
      rw [e] at z; cases z
    · obtain ⟨ob', u', z⟩ := g.frz _ _ hc
      cases z
  · obtain ⟨o, e⟩ := t.old b hb
    by_cases hf : b ∈ frs G.outer
    · obtain ⟨sl, e'⟩ := S.slot b o hf e
      exact ⟨_, e'⟩
    · exact ⟨o, S.keep b o hb hf e⟩
theorem Kon.At.gens {G : Kon} {s : Shared} (t : G.At s) {X : Array GenState} (hX : AllBare X) : G.At { s with gens := X } := ⟨t.base, t.funs, t.size, hX, t.hs, t.old⟩
theorem Since.gens {G : Kon} {s s' : Shared} (t : Since G s s') {X : Array GenState} (hX : AllBare X) : Since G s { s' with gens := X } := ⟨t.os, hX, t.keep, t.slot, t.lt⟩

/-- the end of a run -/
def KEnd (r : Run) (Q : List V → Hp → Prop) : GenEnd := fun n s₀ q s =>
  ((q = .ok (.ret .none) ∨ q = .ok .next) ∧ ∃ ys H, n + ys.length = sizeLine ∧ r.Gh ys s₀.heap ∧ Told r s₀ s H ∧ Q ys H) ∨
  ∃ e, q = .error e ∧ (∃ s₀, L2.CX r.G.P r.G.w r.G.outer r.G.Hs (r.G.cut s₀) r.G.E e s) ∧ s.heap.get? r.a = some r.go

/-- a generator def's promise: arguments, what it may read of the heap (all locked), what is told of an item, what is wanted at the end, an exception -/
abbrev SpK := List V → Hp → (List V → V → Hp → Prop) → (List V → Hp → Prop) → XK → Prop
/-- what is read by the generator: locked things of the caller's -/
def Plain (u : HO) : Prop := (∃ xs, u = .lst xs) ∨ (∃ xs, u = .tup xs) ∨ ∃ kvs, u = .dK kvs
theorem Plain.swap {P : Program} {w : World} {H H' : Hp} {h : Heap} {a : Addr} {ob : Obj} {u : HO} (p : Plain u) (x : ObjOk P w H h a (.frz ob u)) : ObjOk P w H' h a (.frz ob u) := by
  rcases p with ⟨xs, rfl⟩ | ⟨xs, rfl⟩ | ⟨kvs, rfl⟩
  · exact x
  · exact x
  · exact x
structure Shares (H Hs : Hp) : Prop where
  sub : ∀ b o, Hs b = some o → H b = some o
  frz : ∀ b o, Hs b = some o → ∃ ob u, o = .frz ob u ∧ Plain u
def noHp : Hp := fun _ => none
theorem Shares.none (H : Hp) : Shares H noHp where
  sub := fun b o e => nomatch (show Option.none = some o from e)
  frz := fun b o e => nomatch (show Option.none = some o from e)
/-- what a call gives -/
def KMade (P : Program) (w : World) (k : Nat) (outer : List Env) (Hs : Hp) (sc : Shared) (yl : List V → V → Hp → Prop) (Q : List V → Hp → Prop) (E : XK) (u : Value) (s' : Shared) : Prop :=
  ∃ (a : Addr) (g : Nat) (c : Code) (go : Obj) (G : Around → Kon), u = .ref a ∧ (∀ h : Heap, h.get? a = some go → h.IsGen a g) ∧ s'.heap.get? a = some go ∧ s'.gens[g]? = some (.fresh c) ∧ sc.heap.get? a = none ∧
    s'.os = sc.os ∧ AllBare s'.gens ∧ (∀ b o, sc.heap.get? b = some o → s'.heap.get? b = some o) ∧ (∃ o, s'.heap.get? sc.heap.objs.size = some o) ∧
    (∀ A, (G A).P = P ∧ (G A).w = w ∧ (G A).outer = outer ∧ (G A).Hs = Hs ∧ (G A).E = E ∧ (G A).A = A ∧ (G A).env.locals = sc.heap.objs.size ∧ (G A).old = fun b => (sc.heap.get? b).isSome) ∧
    ∀ (A : Around), Room k A → A.frames = some outer → (G A).Good ∧ (G A).At s' ∧ ∀ (Ss : List Addr) (Gh : List V → Heap → Prop) (s2 : Shared), a ∉ Ss → (∀ S ∈ Ss, s'.heap.objs.size ≤ S) → Run.At ⟨G A, a, go, Ss, Gh, yl⟩ s2 → (∀ b o, s'.heap.get? b = some o → s2.heap.get? b = some o) → Gh [] s2.heap →
      Seg (model P w) A (KEnd ⟨G A, a, go, Ss, Gh, yl⟩ Q) (KY ⟨G A, a, go, Ss, Gh, yl⟩) sizeLine s2 c ((model P w).den c) [] s2

structure KFn (P : Program) (w : World) (K : PySem.W.Frag) (mg : Str → Option Value) (base : Heap) (k : Nat) (f : Addr) (fd : FuncData) (ps : List Str) (sp : SpK) : Prop where
  len : ∀ vs Hs yl Q E, sp vs Hs yl Q E → vs.length = ps.length
  run : ∀ (A : Around) (outer : List Env) (s : Shared) (H Hs : Hp) (args : Args) (us : List Value) (vs : List V) (yl : List V → V → Hp → Prop) (Q : List V → Hp → Prop) (E : XK), Room k A → Env0 P w K mg base A outer s H → Shares H Hs → BindsTo s fd args (ps.zip us) → Vals vs us → sp vs Hs yl Q E →
    codeAny (model P w) A (.call (.ref f) args) (fun q s' => match q with | .ok (.ret u) => KMade P w k outer Hs s yl Q E u s' | _ => False) s

/-- the run of a def's body, A the around of its frame -/
def konOf (P : Program) (w : World) (K : PySem.W.Frag) (mg : Str → Option Value) (base : Heap) (N : List Str) (env : Env) (outer : List Env) (Hs : Hp) (E : XK) (sc : Shared) (A : Around) : Kon :=
  ⟨P, w, K, mg, base, N, env, outer, A, Hs, E, fun b => (sc.heap.get? b).isSome⟩

/-- THE RULE: a generator def, by its body -/
theorem kfn_of {P : Program} {w : World} {K : PySem.W.Frag} {mg : Str → Option Value} {base : Heap} {k : Nat} {f : Addr} {name qual : Str} {params : Arguments} {body : List Stmt} {scope : Scope} {dV kV doc pm cdv ct oc : Value} {an od : Option Addr}
    {osl : Array (Option Value)} {N ps : List Str} {sp : SpK} (lk : K.lookup f = some ⟨oc, od, .func (PySem.W.fnOf name qual params body scope dV kV doc pm an cdv ct), osl⟩) (hcd : PySem.W.codeIn K cdv qual = true) (S : GScope N ps scope)
    (len : ∀ vs H yl Q E, sp vs H yl Q E → vs.length = ps.length)
    (hbody : ∀ (A : Around) (outer : List Env) (sc : Shared) (Hs : Hp) (vs : List V) (yl : List V → V → Hp → Prop) (Q : List V → Hp → Prop) (E : XK) (a : Addr) (go : Obj) (Ss : List Addr) (Gh : List V → Heap → Prop),
      Room k (A.deeper (envOfC qual scope sc.heap.objs.size f cdv)) → Run.Good ⟨konOf P w K mg base N (envOfC qual scope sc.heap.objs.size f cdv) outer Hs E sc A, a, go, Ss, Gh, yl⟩ → sp vs Hs yl Q E →
      ∃ t, KSs ⟨konOf P w K mg base N (envOfC qual scope sc.heap.objs.size f cdv) outer Hs E sc A, a, go, Ss, Gh, yl⟩ body t ∧ t { nx := fun ys _ H' => Q ys H', rt := fun ys v H' => v = .non ∧ Q ys H' } [] (start N vs) Hs) :
    KFn P w K mg base (k + 1) f (PySem.W.fnOf name qual params body scope dV kV doc pm an cdv ct) ps sp := by
  refine ⟨len, fun A outer s H Hs args us vs yl Q E hr e0 sh hb rv hsp => ?_⟩
  have hl := len _ _ _ _ _ hsp
  have KX : K.In s.heap := e0.mod.kin.keeps fun b o e => (e0.bs b o e).1
  have lim : s.heap.NoLimit := e0.mod.nolimit.keeps fun b o e => (e0.bs b o e).1
  have hkind : ∀ y ∈ ps.zip us, scope.names.lookup y.1 = some .local ∨ (scope.names.lookup y.1 = some .cell ∧ ((cellsFrom (s.heap.objs.size + 1) scope.names []).lookup y.1).isSome = true) := fun ⟨n, v⟩ hy => by
    rcases S.par n (List.of_mem_zip hy).1 with q | q
    · exact .inl q
    · exact .inr ⟨q, PySem.W.cellsFrom_some _ _ _ (.inl q)⟩
  -- the heap with Hs alone tracked
  have hsok : HOk P w Hs s.heap := fun b o e => by
    obtain ⟨ob, u, rfl, pl⟩ := sh.frz b o e
    exact pl.swap (e0.hok b _ (sh.sub b _ e))
  have gone : ∀ b, H b = none → Hs b = none := fun b hn => by
    cases q : Hs b with
    | none => rfl
    | some u =>
      have z := sh.sub b u q
      rw [hn] at z; cases z
  have e0s : Env0 P w K mg base A outer s Hs := ⟨e0.frames, e0.mod, fun b o e => ⟨(e0.bs b o e).1, gone b (e0.bs b o e).2⟩, e0.bsz, e0.funs, fun b hb => gone b (e0.frf b hb), hsok, e0.bare⟩
  refine codeAny_call_generator hr.depth (KX _ _ lk) rfl S.co S.gen rfl (PySem.W.codeRec_of KX hcd) (hb _ _ _ _ ?_)
  refine wpAny_newFunctionEnv_cells S.kind hkind fun env he s1 x => ?_
  subst he
  refine ⟨lim.keeps x.toInCall.keep, ?_⟩
  obtain ⟨h1, tk, es1, hk1⟩ := x.done
  have os1 : s1.os = s.os := by rw [es1]
  have gen1 : s1.gens = s.gens := by rw [es1]
  have lt1 : s.heap.objs.size < s1.heap.objs.size := x.toInCall.ns.lt
  have kp1 : ∀ b o, s.heap.get? b = some o → s1.heap.get? b = some o := x.toInCall.keep
  have main : ∀ (go : Obj) (nm qn : Value) (tk2 : Nat), go.cls = .type "generator" → go.data = .fields #[.int s1.gens.size 0, nm, qn] → go.slots = #[] → (∀ h : Heap, (h.push go).get? h.objs.size = some go) →
      KMade P w (k + 1) outer Hs s yl Q E (.ref s1.heap.objs.size) { s1 with gens := s1.gens.push (.fresh (.func body (envOfC qual scope s.heap.objs.size f cdv))), toks := tk2, heap := s1.heap.push go } := by
    intro go nm qn tk2 hgc hgd0 hgs hgp
    have hpushed : (s1.heap.push go).get? s1.heap.objs.size = some go := hgp _
    have young : ∀ b, s.heap.objs.size ≤ b → (s.heap.get? b).isSome = false := fun b hb => by
      rw [Heap.get?_none_of_le hb]; rfl
    refine ⟨s1.heap.objs.size, s1.gens.size, _, go, konOf P w K mg base N (envOfC qual scope s.heap.objs.size f cdv) outer Hs E s, rfl, fun h e => ⟨go, nm, qn, e, hgc, hgd0, hgs⟩, hpushed, Array.getElem?_push_size .., Heap.get?_none_of_le (Nat.le_of_lt lt1), os1, AllBare.push (by rw [gen1]; exact e0.bare) rfl,
      fun b o e => Heap.get?_push_of_some _ (kp1 b o e), ?_, fun A => ⟨rfl, rfl, rfl, rfl, rfl, rfl, rfl, rfl⟩, fun Aw hrw hfr => ?_⟩
    · obtain ⟨oL, _, _, hoL, _⟩ := x.toInCall.ns
      exact ⟨oL, Heap.get?_push_of_some _ hoL⟩
    have e0w : Env0 P w K mg base Aw outer s Hs := ⟨hfr, e0.mod, e0s.bs, e0.bsz, e0.funs, e0s.frf, hsok, e0.bare⟩
    have I1 : Inv (gcxOf P w K mg base N qual scope f cdv Aw outer s Hs E []) [] (start N vs) Hs s1 := inv_startG S hrw.hd e0w hl rv x
    have G : (konOf P w K mg base N (envOfC qual scope s.heap.objs.size f cdv) outer Hs E s Aw).Good :=
      { mod := e0.mod, kind := S.kind, glob := rfl, blt := rfl, inj := I1.ok.inj, has := I1.ok.has, cab := fun y c h => I1.ok.cab y c rfl h, frame := rfl, hd := hrw.hd, frames := hfr,
        olt := fun b hb => by
          obtain ⟨o, e⟩ := Option.isSome_iff_exists.mp hb
          exact Heap.lt_size e
        frlt := fun b hb => by
          obtain ⟨_, o, e, _⟩ := e0.funs.mem hb
          show (s.heap.get? b).isSome = true
          rw [e]; rfl
        bold := fun b o e => by
          show (s.heap.get? b).isSome = true
          rw [(e0.bs b o e).1]; rfl
        bsz := e0.bsz, bs := fun b o e => (e0s.bs b o e).2, frf := e0s.frf
        frz := fun b o e => by
          obtain ⟨ob, u, z, _⟩ := sh.frz b o e
          exact ⟨ob, u, z⟩
        hlt := fun b o e => by
          obtain ⟨ob, u, rfl, _⟩ := sh.frz b o e
          show (s.heap.get? b).isSome = true
          rw [(hsok b _ e).1]; rfl }
    have kpp : ∀ b o, s.heap.get? b = some o → (s1.heap.push go).get? b = some o := fun b o e => Heap.get?_push_of_some _ (kp1 b o e)
    refine ⟨G, ⟨fun b o e => kpp b o (e0.bs b o e).1, e0.funs.of_keeps fun b o e _ => ⟨o, kpp b o e, rfl⟩, ?_, AllBare.push (by rw [gen1]; exact e0.bare) rfl, hsok.kept kpp, fun b hb => ?_⟩, fun Ss Gh s2 haS hSs t2 hk2 hGh => ?_⟩
    · show s.heap.objs.size ≤ (s1.heap.push go).objs.size
      rw [Heap.size_push]; exact Nat.le_succ_of_le (Nat.le_of_lt lt1)
    · obtain ⟨o, e⟩ := Option.isSome_iff_exists.mp hb
      exact ⟨o, kpp b o e⟩
    have rg : Run.Good ⟨konOf P w K mg base N (envOfC qual scope s.heap.objs.size f cdv) outer Hs E s Aw, s1.heap.objs.size, go, Ss, Gh, yl⟩ := ⟨G, haS, young _ (Nat.le_of_lt lt1)⟩
    obtain ⟨t, ht, hq⟩ := hbody Aw outer s Hs vs yl Q E s1.heap.objs.size go Ss Gh (hrw.deeper _) rg hsp
    have kp2 : ∀ b o, s1.heap.get? b = some o → s2.heap.get? b = some o := fun b o e => hk2 b o (Heap.get?_push_of_some _ e)
    have yg : ∀ b, s1.heap.objs.size ≤ b → Hs b = none ∧ b ≠ s.heap.objs.size ∧ b ∉ frs outer := fun b hb => ⟨I1.hok.fresh hb, Nat.ne_of_gt (Nat.lt_of_lt_of_le lt1 hb), I1.nofs hb⟩
    have hpn : ∀ p ∈ Run.pn ⟨konOf P w K mg base N (envOfC qual scope s.heap.objs.size f cdv) outer Hs E s Aw, s1.heap.objs.size, go, Ss, Gh, yl⟩ s2 ++ [], s2.heap.get? p.1 = some p.2 ∧ Hs p.1 = none ∧ p.1 ≠ s.heap.objs.size ∧ p.1 ∉ frs outer ∧ ∀ v, p.2.data ≠ .cell v := fun p hp => by
      rw [List.append_nil] at hp
      rcases List.mem_cons.mp hp with hp | hp
      · subst hp
        obtain ⟨y1, y2, y3⟩ := yg s1.heap.objs.size (Nat.le_refl _)
        exact ⟨hk2 _ _ hpushed, y1, y2, y3, fun v q => by rw [hgd0] at q; cases q⟩
      · obtain ⟨hS, e⟩ := of_pinsAt hp
        have hz : s1.heap.objs.size ≤ p.1 := by
          have q : (s1.heap.push go).objs.size ≤ p.1 := hSs p.1 hS
          rw [Heap.size_push] at q
          exact Nat.le_of_succ_le q
        obtain ⟨y1, y2, y3⟩ := yg p.1 hz
        obtain ⟨o', e', d⟩ := t2.ss p.1 hS
        rw [e] at e'; cases e'
        exact ⟨e, y1, y2, y3, d⟩
    have J : Inv (Run.X ⟨konOf P w K mg base N (envOfC qual scope s.heap.objs.size f cdv) outer Hs E s Aw, s1.heap.objs.size, go, Ss, Gh, yl⟩ s2) [] (start N vs) Hs s2 :=
      rouse G I1 rfl rfl rfl rfl t2.t (fun _ _ e => e) (fun _ _ _ e => e) (fun b o _ _ e => kp2 b o e) hpn
    have hI : KI ⟨konOf P w K mg base N (envOfC qual scope s.heap.objs.size f cdv) outer Hs E s Aw, s1.heap.objs.size, go, Ss, Gh, yl⟩ s2 [] [] (start N vs) Hs s2 := ⟨t2, hGh, J⟩
    refine seg_func ?_
    refine ht.run _ [] sizeLine [] s2 _ [] _ _ id id s2 (start N vs) Hs _ ⟨fun p hp => (by simp at hp), over_func, rfl, rfl, rfl⟩ (Nat.add_zero _) ⟨fun n ys s₀ s' fl hn hs => ?_, fun n s₀ e s' t0 hx => ?_⟩ hI hq
    · cases fl with
      | next =>
        obtain ⟨σ', H', hI', hQ⟩ := hs
        exact seg_end (.ok (.ret .none)) (.inl ⟨.inl rfl, ys, H', hn, hI'.gh, hI'.told rg, hQ⟩)
      | brk => obtain ⟨_, _, _, q⟩ := hs; exact False.elim q
      | cont => obtain ⟨_, _, _, q⟩ := hs; exact False.elim q
      | ret u =>
        obtain ⟨v, σ', H', hI', rv', ev, hQ⟩ := hs
        subst ev
        have eu : u = Value.none := rv'
        subst eu
        exact seg_end (.ok (.ret .none)) (.inl ⟨.inl rfl, ys, H', hn, hI'.gh, hI'.told rg, hQ⟩)
    · refine seg_wrap ?_
      rw [over_func]
      refine wpAny_mono hx (fun _ s'' q => ?_) fun _ s'' q => q.elim
      exact seg_end (.error e) (.inr ⟨e, rfl, ⟨_, q.1⟩, q.2 (s1.heap.objs.size, go) List.mem_cons_self⟩)
  exact main _ _ _ _ rfl rfl rfl fun h => Heap.get?_push_size _ rfl
end KG

end

section
set_option maxHeartbeats 1000000
/-! KGen5: who draws: list, tuple, the first item by a for. -/
namespace KG
open PySem PySem.Spec PyProof.Rows L2 GenW

/-- the list that a consumer fills -/
def GhL (S : Addr) : List V → Heap → Prop := fun ys h => ∃ acc c, h.get? S = some (lstObj acc c) ∧ Vals ys acc.toList

/-- the heap grows -/
theorem Since.more {G : Kon} {s s' : Shared} (S : Since G s s') {h' : Heap} (k : ∀ b o, s'.heap.get? b = some o → h'.get? b = some o) {t : Nat} : Since G s { s' with heap := h', toks := t } where
  os := S.os
  bare := S.bare
  keep := fun b o h1 h2 e => k b o (S.keep b o h1 h2 e)
  slot := fun b o h e => by
    obtain ⟨sl, e'⟩ := S.slot b o h e
    exact ⟨sl, k _ _ e'⟩
  lt := let ⟨o, e⟩ := S.lt; ⟨o, k _ _ e⟩
/-- a young thing of the consumer's own changes -/
theorem Since.poke {G : Kon} (g : G.Good) {s s' : Shared} (S : Since G s s') {h' : Heap} {x : Addr} (hx : G.old x = false) (hL : x ≠ G.env.locals) (k : ∀ b o, b ≠ x → s'.heap.get? b = some o → h'.get? b = some o) : Since G s { s' with heap := h' } where
  os := S.os
  bare := S.bare
  keep := fun b o h1 h2 e => k b o (fun z => by rw [z, hx] at h1; cases h1) (S.keep b o h1 h2 e)
  slot := fun b o h e => by
    obtain ⟨sl, e'⟩ := S.slot b o h e
    exact ⟨sl, k b _ (fun z => by have q := g.frlt b h; rw [z, hx] at q; cases q) e'⟩
  lt := let ⟨o, e⟩ := S.lt; ⟨o, k _ _ (Ne.symm hL) e⟩

section
variable {P : Program} {w : World} {G : Kon} {a : Addr} {go : Obj} {S : Addr} {yl : List V → V → Hp → Prop} {Q : List V → Hp → Prop}
/-- the loop that fills a list -/
theorem kdrain (g0 : G.Good) (hP : G.P = P) (hw : G.w = w) (hE : G.E = E0) {A : Around} {R : Result → Shared → Prop} {g : Nat} {res : Value} {sb : Shared}
    (hh : A.handled = none) (hd : A.depth < recursionLimit) (hGA : G.A = A.in1.in1) (hg : ∀ h : Heap, h.get? a = some go → h.IsGen a g) (hSa : S ≠ a) (hSo : G.old S = false) (hao : G.old a = false) (hSL : S ≠ G.env.locals)
    (tb : G.At sb)
    (hend : ∀ s' acc c H' ys, Since G sb s' → s'.heap.get? S = some (lstObj acc c) → Vals ys acc.toList → ys.length ≤ sizeLine → HOk P w H' s'.heap → (∀ b o, G.Hs b = some o → H' b = some o) → (∀ b o, G.old b = true → H' b = some o → G.Hs b = some o) → H' S = none → Q ys H' → R (.ok (.ret res)) s') :
    ∀ (m : Nat) (s : Shared), Since G sb s → s.heap.get? a = some go → (∃ o, s.heap.get? S = some o ∧ ∀ v, o.data ≠ .cell v) →
      (∃ gs, s.gens[g]? = some gs ∧ gs.Goes (model P w) A.in1.in1 (KEnd ⟨G, a, go, [S], GhL S, yl⟩ Q) (KY ⟨G, a, go, [S], GhL S, yl⟩) m (.send .none) (s.setGen g .running)) →
      codeAny (model P w) A (.builtin "list.extend.loop" ⟨[.ref S, .ref a, res], []⟩) R s := by
  subst hP hw
  have goes : ∀ {gs : GenState} {B : Around} {n : Nat} {q : Resume} {s : Shared}, gs.Goes (model G.P G.w) B (KEnd ⟨G, a, go, [S], GhL S, yl⟩ Q) (KY ⟨G, a, go, [S], GhL S, yl⟩) n q s →
      gs.Goes (model G.P G.w) B (fun n s₀ q s => ((q = .ok (.ret .none) ∨ q = .ok .next) ∧ (∃ ys H, n + ys.length = sizeLine ∧ GhL S ys s₀.heap ∧ Told ⟨G, a, go, [S], GhL S, yl⟩ s₀ s H ∧ Q ys H)) ∨
        ∃ e, q = .error e ∧ ((∃ s₀, L2.CX G.P G.w G.outer G.Hs (G.cut s₀) G.E e s) ∧ s.heap.get? a = some go)) (KY ⟨G, a, go, [S], GhL S, yl⟩) n q s := fun h => h
  have lim : ∀ s, Since G sb s → s.heap.NoLimit := fun s h => g0.mod.nolimit.keeps (h.at g0 tb).base
  have sg : ∀ {s : Shared} {x : GenState}, Since G sb s → x.bare = true → Since G sb (s.setGen g x) := fun {s x} h hx => ⟨h.os, allBare_setGen h.bare hx, h.keep, h.slot, h.lt⟩
  have told : ∀ {s s1 : Shared} {H : Hp} {x : GenState}, Since G sb s → Told ⟨G, a, go, [S], GhL S, yl⟩ (s.setGen g x) s1 H → Since G sb s1 := fun {s s1 H x} h T =>
    Since.trans h ⟨T.os, T.bare, T.keep, T.slot, T.lt⟩
  have fin : ∀ {n : Nat} {s s₁ : Shared}, Since G sb s → (∃ ys H, n + ys.length = sizeLine ∧ GhL S ys (s.setGen g .running).heap ∧ Told ⟨G, a, go, [S], GhL S, yl⟩ (s.setGen g .running) s₁ H ∧ Q ys H) → ∀ h', (∀ b o, s₁.heap.get? b = some o → h'.get? b = some o) →
      R (.ok (.ret res)) { s₁.setGen g .finished with heap := h' } := fun {n s s₁} hs hp h' hk => by
    obtain ⟨ys, H, hn, ⟨acc, c, hS, hv⟩, T, hQ⟩ := hp
    have S1 := told hs T
    exact hend _ acc c H ys ((sg (s := s₁) S1 rfl).more (t := s₁.toks) hk) (hk _ _ (T.own S List.mem_cons_self _ hS)) hv (by omega) (T.hok.kept hk) T.up T.low (T.ssH S List.mem_cons_self) hQ
  have bad : ∀ {s : Shared} {e : Value}, (∃ s₀, L2.CX G.P G.w G.outer G.Hs (G.cut s₀) G.E e s) → False := fun {s e} ⟨s₀, h⟩ => by
    obtain ⟨_, _, _, _, _, _, _, _, _, _, _, _, z⟩ := h
    rw [hE] at z
    exact z.elim
  intro m
  induction m with
  | zero =>
    intro s hs ha hS ⟨gs, hgs, hgo⟩
    refine codeAny_builtin F.entry_extend_loop ?_
    rw [Around.under_plainId F.plain_extend_loop _]
    show wpAny _ A.in1 (pyNext (.ref a) >>= _) _ _ s
    refine wpAny_bind (next_genG (A := A.in1) hh (lim s hs) hd (hg _ ha) hgs (goes hgo) (fun v s₁ gs' hbare hv => ?_) (fun s₁ hp h' hk => ?_) fun e s₁ he => (bad he.1).elim)
    · obtain ⟨ys, x, H, hn, rv, gh, hy, T, hk⟩ := hv
      have S1 := told hs T
      obtain ⟨acc, c, hSo', hvl⟩ := gh
      have hS1 := T.own S List.mem_cons_self _ hSo'
      refine False.elim (hk { s₁ with heap := s₁.heap.update S (Obj.mapSeq (·.push v)) } ⟨⟨(S1.poke g0 hSo hSL fun b o hb e => (Heap.get?_update_other _ _ (Ne.symm hb)).trans e).at g0 tb, fun S' hS' => ?_⟩, fun b o hb hbS e => (Heap.get?_update_other _ _ fun (z : S = b) => hbS (by rw [← z]; exact List.mem_cons_self)).trans e⟩ ?_)
      · obtain rfl := List.mem_singleton.mp hS'
        exact ⟨_, Heap.get?_update_self _ hS1 rfl, fun v q => by cases q⟩
      · refine ⟨acc.push v, _, Heap.get?_update_self _ hS1 rfl, ?_⟩
        rw [Array.toList_push]
        exact hvl.append (.cons rv .nil)
    · exact wpAny_pure (fin hs hp h' hk)
  | succ m ih =>
    intro s hs ha hS ⟨gs, hgs, hgo⟩
    have hgl : g < s.gens.size := (Array.getElem?_eq_some_iff.mp hgs).1
    refine codeAny_builtin F.entry_extend_loop ?_
    rw [Around.under_plainId F.plain_extend_loop _]
    show wpAny _ A.in1 (pyNext (.ref a) >>= _) _ _ s
    refine wpAny_bind (wpAny_gsz (n := g + 1) hgl (next_genG (A := A.in1) hh (lim s hs) hd (hg _ ha) hgs (goes hgo) (fun v s₁ gs' hbare hv => ?_) (fun s₁ hp h' hk => ?_) fun e s₁ he => (bad he.1).elim))
    · intro hsz
      obtain ⟨ys, x, H, hn, rv, gh, hy, T, hk⟩ := hv
      have S1 := told hs T
      obtain ⟨acc, c, hSo', hvl⟩ := gh
      have hS1 := T.own S List.mem_cons_self _ hSo'
      have hasz : acc.size < sizeLine := by
        have e1 := hvl.length
        have e2 : acc.toList.length = acc.size := by simp
        omega
      show wpAny _ A.in1 (updateSeq S (·.push v) >>= _) _ _ _
      refine wpAny_bind ?_
      refine wpAny_updateSeq hS1 rfl (wpAny_pure ⟨plainId_quiet F.plain_extend_loop _, ?_⟩) (Nat.le_of_lt hasz) (by show (acc.push v).size ≤ sizeLine + 1; rw [Array.size_push]; omega)
      have keep3 : ∀ b o, b ≠ S → s₁.heap.get? b = some o → (s₁.heap.update S (Obj.mapSeq (·.push v))).get? b = some o := fun b o hbS e => (Heap.get?_update_other _ _ (Ne.symm hbS)).trans e
      have hsz1 : g < s₁.gens.size := by
        have q : (s₁.setGen g gs').gens.size = s₁.gens.size := setGen_size _ _ _
        have hsz' : g + 1 ≤ (s₁.setGen g gs').gens.size := hsz
        omega
      have S2 : Since G sb { s₁.setGen g gs' with heap := s₁.heap.update S (Obj.mapSeq (·.push v)) } := (sg (s := s₁) S1 hbare).poke g0 hSo hSL keep3
      have hSn : (s₁.heap.update S (Obj.mapSeq (·.push v))).get? S = some (Obj.mapSeq (·.push v) (lstObj acc c)) := Heap.get?_update_self _ hS1 rfl
      refine ih { s₁.setGen g gs' with heap := s₁.heap.update S (Obj.mapSeq (·.push v)) } S2 (keep3 a go (Ne.symm hSa) T.gen) ⟨_, hSn, fun v q => by cases q⟩ ⟨gs', setGen_at hsz1, ?_⟩
      refine hk _ ⟨⟨(sg S2 rfl).at g0 tb, fun S' hS' => ?_⟩, fun b o hb hbS e => keep3 b o (fun z => hbS (by rw [z]; exact List.mem_cons_self)) e⟩ ?_
      · obtain rfl := List.mem_singleton.mp hS'
        exact ⟨_, hSn, fun v q => by cases q⟩
      · refine ⟨acc.push v, _, hSn, ?_⟩
        rw [Array.toList_push]
        exact hvl.append (.cons rv .nil)
    · intro hsz
      exact wpAny_pure (fin hs hp h' hk)
end
end KG

end

section
set_option maxHeartbeats 1000000
/-! KGen6: list(g), tuple(g), the first item by a for, over the layer. -/
namespace KG
open PySem PySem.Spec PyProof.Rows L2 GenW

/-- behind the drawing: the caller's heap and what the generator tells, as one -/
theorem join {X : Cx} {pins : List (Addr × Obj)} {σ : L2.St} {H H' Hs : Hp} {sc s1 : Shared} {G : Kon} (I : Inv X pins σ H sc) (hold : G.old = fun b => (sc.heap.get? b).isSome) (hout : G.outer = X.stack) (sh : Shares H Hs) (hHs : G.Hs = Hs)
    (Sn : Since G sc s1) (hok : HOk X.prog X.w H' s1.heap) (up : ∀ b o, G.Hs b = some o → H' b = some o) (low : ∀ b o, G.old b = true → H' b = some o → G.Hs b = some o) :
    ∃ Hm : Hp, Un (frs X.stack) [] H Hm sc.heap s1.heap ∧ HOk X.prog X.w Hm s1.heap ∧ Evl.Ex H Hm ∧ Evl.Ex H' Hm ∧ (∀ b, G.old b = false → Hm b = H' b) := by
  have oldT : ∀ b o, H b = some o → G.old b = true := fun b o e => by
    obtain ⟨u, hu⟩ := objOk_get (I.hok b o e)
    rw [hold]
    show (sc.heap.get? b).isSome = true
    rw [hu]; rfl
  have kp : ∀ b o, b ∉ frs X.stack → sc.heap.get? b = some o → s1.heap.get? b = some o := fun b o hb e => by
    refine Sn.keep b o ?_ (by rw [hout]; exact hb) e
    rw [hold]
    show (sc.heap.get? b).isSome = true
    rw [e]; rfl
  have nfr : ∀ b o, H b = some o → b ∉ frs X.stack := fun b o e hb => by
    rw [I.stkFree b hb] at e; cases e
  have nfz : ∀ b o, G.old b = true → H' b = some o → ∃ ob u, o = .frz ob u ∧ Plain u := fun b o h e => by
    have z := low b o h e
    rw [hHs] at z
    exact sh.frz b o z
  refine ⟨fun b => if G.old b = true then H b else H' b, ⟨fun b o e _ hf _ => kp b o hf e, fun b o e _ hf _ => ?_, fun b o e n _ => ?_, fun b o e _ => ?_, fun b xs e => ?_, fun b o u e => ?_, fun b ps e => ⟨#[], ?_⟩⟩, fun b o e => ?_, fun b o e => ?_, fun b o e => ?_, fun b h => ?_⟩
  · exact Sn.slot b o (by rw [hout]; exact hf) e
  · have hb : G.old b = true := by
      rw [hold]
      show (sc.heap.get? b).isSome = true
      rw [e]; rfl
    show (if G.old b = true then H b else H' b) = none
    rw [if_pos hb]; exact n
  · by_cases hf : b ∈ frs X.stack
    · obtain ⟨sl, q⟩ := Sn.slot b o (by rw [hout]; exact hf) e
      exact ⟨_, q⟩
    · exact ⟨o, kp b o hf e⟩
  · show (if G.old b = true then H b else H' b) = _
    rw [if_pos (oldT b _ e)]; exact e
  · show (if G.old b = true then H b else H' b) = _
    rw [if_pos (oldT b _ e)]; exact e
  · show (if G.old b = true then H b else H' b) = _
    rw [if_pos (oldT b _ e)]; simp [e]
  · by_cases hb : G.old b = true
    · have e' : H b = some o := by
        have z : (if G.old b = true then H b else H' b) = some o := e
        rw [if_pos hb] at z; exact z
      refine (I.hok b o e').stay (fun c v hc q => ?_) (fun c q => ?_) fun c xs q => ?_
      · refine kp c v ?_ q
        rcases hc with rfl | hc
        · exact nfr _ _ e'
        · exact nfr _ _ hc
      · show (if G.old c = true then H c else H' c) = _
        rw [if_pos (oldT c _ q)]; exact q
      · show (if G.old c = true then H c else H' c) = _
        rw [if_pos (oldT c _ q)]; exact q
    · have e' : H' b = some o := by
        have z : (if G.old b = true then H b else H' b) = some o := e
        rw [if_neg hb] at z; exact z
      refine (hok b o e').stay (fun _ _ _ q => q) (fun c q => ?_) fun c xs q => ?_
      · show (if G.old c = true then H c else H' c) = _
        by_cases hc : G.old c = true
        · obtain ⟨_, _, z, _⟩ := nfz c _ hc q
          cases z
        · rw [if_neg hc]; exact q
      · show (if G.old c = true then H c else H' c) = _
        by_cases hc : G.old c = true
        · obtain ⟨_, _, z, _⟩ := nfz c _ hc q
          cases z
        · rw [if_neg hc]; exact q
  · show (if G.old b = true then H b else H' b) = _
    rw [if_pos (oldT b _ e)]; exact e
  · show (if G.old b = true then H b else H' b) = _
    by_cases hb : G.old b = true
    · rw [if_pos hb]
      have z := low b o hb e
      rw [hHs] at z
      exact sh.sub b o z
    · rw [if_neg hb]; exact e
  · show (if G.old b = true then H b else H' b) = _
    rw [if_neg (by rw [h]; exact Bool.false_ne_true)]

/-! ### the drawing of all -/
section
variable {P : Program} {w : World} {A : Around} {E : Value → Shared → Prop} {s : Shared} {k : Nat} {outer : List Env} {Hs : Hp} {sc : Shared} {yl : List V → V → Hp → Prop} {Q : List V → Hp → Prop} {u : Value}
/-- what a drawing tells: a list at S, its items, the heap -/
def Drawn (P : Program) (w : World) (outer : List Env) (Hs : Hp) (sc : Shared) (Q : List V → Hp → Prop) (S : Addr) (s' : Shared) : Prop :=
  ∃ (G : Kon) (acc : Array Value) (c : Nat) (H' : Hp) (ys : List V), G.outer = outer ∧ G.Hs = Hs ∧ (G.old = fun b => (sc.heap.get? b).isSome) ∧ sc.heap.objs.size ≤ S ∧ Since G sc s' ∧ s'.heap.get? S = some (lstObj acc c) ∧ Vals ys acc.toList ∧ ys.length ≤ sizeLine ∧
    HOk P w H' s'.heap ∧ (∀ b o, G.Hs b = some o → H' b = some o) ∧ (∀ b o, G.old b = true → H' b = some o → G.Hs b = some o) ∧ H' S = none ∧ Q ys H'
/-- the loop begins: the new list at S -/
theorem kfill {R : Result → Shared → Prop} {res : Value} {S : Addr} {B : Around} (hr3 : Room k B.in1.in1) (hdB : B.depth < recursionLimit) (hfr : B.frames = some outer) {a : Addr} {g : Nat} {c : Code} {go : Obj} {G : Around → Kon} {s2 : Shared}
    (hg : ∀ h : Heap, h.get? a = some go → h.IsGen a g) (ha : s.heap.get? a = some go) (hgs : s.gens[g]? = some (.fresh c)) (han : sc.heap.get? a = none) (hos : s.os = sc.os) (hb : AllBare s.gens) (hkp : ∀ b o, sc.heap.get? b = some o → s.heap.get? b = some o) (hlo : ∃ o, s.heap.get? sc.heap.objs.size = some o)
    (hG : ∀ A, (G A).P = P ∧ (G A).w = w ∧ (G A).outer = outer ∧ (G A).Hs = Hs ∧ (G A).E = E0 ∧ (G A).A = A ∧ (G A).env.locals = sc.heap.objs.size ∧ (G A).old = fun b => (sc.heap.get? b).isSome)
    (wake : ∀ (A : Around), Room k A → A.frames = some outer → (G A).Good ∧ (G A).At s ∧ ∀ (Ss : List Addr) (Gh : List V → Heap → Prop) (s2 : Shared), a ∉ Ss → (∀ S ∈ Ss, s.heap.objs.size ≤ S) → Run.At ⟨G A, a, go, Ss, Gh, yl⟩ s2 → (∀ b o, s.heap.get? b = some o → s2.heap.get? b = some o) → Gh [] s2.heap →
      Seg (model P w) A (KEnd ⟨G A, a, go, Ss, Gh, yl⟩ Q) (KY ⟨G A, a, go, Ss, Gh, yl⟩) sizeLine s2 c ((model P w).den c) [] s2)
    (hS : S = s.heap.objs.size) (h2 : s2.gens = s.gens) (ho2 : s2.os = s.os) (hk2 : ∀ b o, s.heap.get? b = some o → s2.heap.get? b = some o) (hS2 : ∃ c, s2.heap.get? S = some (lstObj #[] c))
    (hend : ∀ s', Drawn P w outer Hs sc Q S s' → R (.ok (.ret res)) s') : codeAny (model P w) B (.builtin "list.extend.loop" ⟨[.ref S, .ref a, res], []⟩) R s2 := by
  have hfr3 : B.in1.in1.frames = some outer := hfr
  obtain ⟨e1, e2, e3, e4, e5, e6, e7, e8⟩ := hG B.in1.in1
  obtain ⟨g0, t, wk⟩ := wake B.in1.in1 hr3 hfr3
  have hSn : s.heap.get? S = none := by rw [hS]; exact Heap.get?_none_of_le (Nat.le_refl _)
  have hSc : sc.heap.get? S = none := by
    cases q : sc.heap.get? S with
    | none => rfl
    | some o => have z := hkp S o q; rw [hSn] at z; cases z
  have hSa : S ≠ a := fun z => by rw [z, ha] at hSn; cases hSn
  have hSo : (G B.in1.in1).old S = false := by rw [e8]; show (sc.heap.get? S).isSome = false; rw [hSc]; rfl
  have hao : (G B.in1.in1).old a = false := by rw [e8]; show (sc.heap.get? a).isSome = false; rw [han]; rfl
  obtain ⟨oL, hoL⟩ := hlo
  have hlt : sc.heap.objs.size < S := by rw [hS]; exact Heap.lt_size hoL
  have bare2 : AllBare s2.gens := by rw [h2]; exact hb
  have os2 : s2.os = sc.os := ho2.trans hos
  have old_some : ∀ b, (G B.in1.in1).old b = true → ∃ o, sc.heap.get? b = some o := fun b hb => by
    rw [e8] at hb
    exact Option.isSome_iff_exists.mp hb
  have S2 : Since (G B.in1.in1) s s2 := ⟨ho2, bare2, fun b o _ _ e => hk2 b o e, fun b o _ e => ⟨o.slots, hk2 b o e⟩, ⟨oL, by rw [e7]; exact hk2 _ _ hoL⟩⟩
  obtain ⟨cS, hcS⟩ := hS2
  have gl : g < s2.gens.size := by rw [h2]; exact (Array.getElem?_eq_some_iff.mp hgs).1
  refine kdrain (P := P) (w := w) (G := G B.in1.in1) (a := a) (go := go) (S := S) (yl := yl) (Q := Q) g0 e1 e2 e5 (A := B) (g := g) (sb := s) hr3.hd hdB e6 hg hSa hSo hao (by rw [e7]; exact Nat.ne_of_gt hlt) t
    (fun s' acc c' H' ys q1 q2 q3 q4 q5 q6 q7 q8 q9 => hend s' ⟨G B.in1.in1, acc, c', H', ys, e3, e4, e8, Nat.le_of_lt hlt, ⟨q1.os.trans hos, q1.bare, fun b o h1 h2 e => q1.keep b o h1 h2 (hkp b o e), fun b o h e => q1.slot b o h (hkp b o e), q1.lt⟩, q2, q3, q4, q5, q6, q7, q8, q9⟩)
    sizeLine s2 S2 (hk2 _ _ ha) ⟨_, hcS, fun v q => by cases q⟩ ⟨.fresh c, by rw [h2]; exact hgs, rfl, ?_⟩
  refine wk [S] (GhL S) (s2.setGen g .running) (fun hm => hSa (List.mem_singleton.mp hm).symm) (fun S' hS' => ?_) ⟨(Since.at g0 t ⟨ho2, allBare_setGen bare2 rfl, S2.keep, S2.slot, S2.lt⟩), fun S' hS' => ?_⟩ (fun b o e => hk2 b o e) ⟨#[], cS, hcS, .nil⟩
  · rw [List.mem_singleton.mp hS', hS]; exact Nat.le_refl _
  · rw [List.mem_singleton.mp hS']
    exact ⟨_, hcS, fun v q => by cases q⟩

/-- list(g) -/
theorem kcall_list {Q' : Value → Shared → Prop} (hr : Room (k + 3) A) (hfr : A.frames = some outer) (h : KMade P w k outer Hs sc yl Q E0 u s) (hQ : ∀ S s', Drawn P w outer Hs sc Q S s' → Q' (.ref S) s') : wpAny (model P w) A (call (.type "list") [u]) Q' E s := by
  obtain ⟨a, g, c, go, G, rfl, hg, ha, hgs, han, hos, hb, hkp, hlo, hG, wake⟩ := h
  have hSa : s.heap.objs.size ≠ a := Nat.ne_of_gt (Heap.lt_size ha)
  refine callType_codes (Q₁ := fun obj s₁ => obj = .ref s.heap.objs.size ∧ s₁ = { s with heap := s.heap.push { cls := .type "list", data := .seq #[] } }) F.called_list (F.typeCall_list_1 _) F.entry_list_init
    (code_list_new _ ⟨rfl, rfl⟩) fun obj s₁ h₁ => ?_
  obtain ⟨rfl, rfl⟩ := h₁
  have hS : (s.heap.push { cls := .type "list", data := .seq #[] }).get? s.heap.objs.size = some { cls := .type "list", data := .seq #[] } := Heap.get?_push_size _ rfl
  refine ⟨⟨_, hS, rfl⟩, F.args_list_init_2 _ _, ?_⟩
  show wpAny _ A.in1.in1 (do let old ← Builtin.List.listItems (.ref s.heap.objs.size); Builtin.List.listUpdate (.ref s.heap.objs.size) (fun _ => #[]); letGo old.toList.reverse; Builtin.List.listExtendWith (.ref s.heap.objs.size) (.ref a) .none) _ _ _
  refine wpAny_bind ?_
  unfold Builtin.List.listItems
  refine wpAny_bind (wpAny_seqItems hS rfl (wpAny_pure ?_))
  show wpAny _ A.in1.in1 (updateSeq s.heap.objs.size (fun _ => #[]) >>= fun _ => letGo (#[] : Array Value).toList.reverse >>= fun _ => Builtin.List.listExtendWith (.ref s.heap.objs.size) (.ref a) .none) _ _ _
  refine wpAny_bind (wpAny_updateSeq hS rfl ?_)
  have hS2 := Heap.get?_update_self (Obj.mapSeq (fun _ => (#[] : Array Value))) hS rfl
  refine wpAny_bind (wpAny_letGo ?_)
  unfold Builtin.List.listExtendWith
  have up : ∀ (h : Heap) (f : Obj → Obj), (∀ b o, s.heap.get? b = some o → h.get? b = some o) → ∀ b o, s.heap.get? b = some o → (h.update s.heap.objs.size f).get? b = some o := fun h f q b o e =>
    (Heap.get?_update_other _ _ (Ne.symm (Nat.ne_of_lt (Heap.lt_size e)))).trans (q b o e)
  have k1 : ∀ b o, s.heap.get? b = some o → (s.heap.push { cls := .type "list", data := .seq #[] }).get? b = some o := fun b o e => Heap.get?_push_of_some _ e
  have k2 := up _ (Obj.mapSeq (fun _ => (#[] : Array Value))) k1
  have gty : ∀ {h : Heap}, (∀ b o, s.heap.get? b = some o → h.get? b = some o) → h.IsGen a g := fun {h} q => hg h (q a go ha)
  refine wpAny_bind (wpAny_typeOf (Heap.IsGen.typeIs (s := { s with heap := _ }) (gty k2)) ?_)
  have h1 : Builtin.List.listSameRef (.ref s.heap.objs.size) (.ref a) = false := by simp [Builtin.List.listSameRef, hSa]
  have h2 : (Value.type "generator" == Value.type "list") = false := by decide
  have h3 : (Value.type "generator" == Value.type "tuple") = false := by decide
  simp only [h1, h2, h3, Bool.or_false, Bool.false_eq_true, if_false]
  refine wpAny_bind (wpAny_pyIter_gen (s := { s with heap := _ }) (gty k2) ?_)
  refine wpAny_bind (wpAny_holding ?_)
  unfold Builtin.List.listLengthHint
  refine wpAny_bind (wpAny_specialOf (Heap.IsGen.typeIs (s := { s with heap := _ }) (gty k2)) F.gen_no_len ?_)
  show wpAny _ A.in1.in1 (specialOf (Value.ref a) (Str.ofString "__length_hint__") >>= _) _ _ _
  refine wpAny_bind (wpAny_specialOf (Heap.IsGen.typeIs (s := { s with heap := _ }) (gty k2)) F.gen_no_hint ?_)
  refine wpAny_pure ?_
  show wpAny _ A.in1.in1 (rule "list.extend.makes-room" >>= fun _ => Builtin.List.listTouch (.ref s.heap.objs.size) >>= fun _ =>
    again (.builtin "list.extend.loop" ⟨[.ref s.heap.objs.size, .ref a, .none], []⟩)) _ _ _
  refine wpAny_bind (wpAny_rule ?_)
  refine wpAny_bind ?_
  show wpAny _ A.in1.in1 (updateSeq s.heap.objs.size (·.push .none) >>= fun _ => updateSeq s.heap.objs.size (·.pop)) _ _ _
  refine wpAny_bind (wpAny_updateSeq hS2 rfl ?_)
  have hS3 := Heap.get?_update_self (Obj.mapSeq (·.push Value.none)) hS2 rfl
  refine wpAny_updateSeq (hz := by seq_fits) hS3 rfl ?_
  have hS4 := Heap.get?_update_self (Obj.mapSeq (·.pop)) hS3 rfl
  have k4 := up _ (Obj.mapSeq (·.pop)) (up _ (Obj.mapSeq (·.push Value.none)) k2)
  refine wpAny_pure ⟨plainId_quiet F.plain_extend_loop _, ?_⟩
  have hr3 : Room k A.in1.in1.in1 := ⟨hr.hd, by have := hr.dp; show A.depth + 3 * k + 5 < _; omega, by have := hr.un; show A.units + 1 + 1 + 1 + 16 * k + 200 < _; omega⟩
  exact kfill (B := A.in1) hr3 (by have := hr.dp; show A.depth < _; omega) hfr hg ha hgs han hos hb hkp hlo hG wake rfl rfl rfl k4 ⟨_, hS4⟩ fun s' hD => ⟨rfl, hQ _ s' hD⟩

/-- tuple(g): first the items are gathered -/
theorem kcollect {Q' : List Value → Shared → Prop} (hr : Room (k + 3) A) (hfr : A.frames = some outer) (h : KMade P w k outer Hs sc yl Q E0 u s) (hQ : ∀ S s' acc c, s'.heap.get? S = some (lstObj acc c) → Drawn P w outer Hs sc Q S s' → Q' acc.toList s') : wpAny (model P w) A (collect u) Q' E s := by
  obtain ⟨a, g, c, go, G, rfl, hg, ha, hgs, han, hos, hb, hkp, hlo, hG, wake⟩ := h
  have hSa : s.heap.objs.size ≠ a := Nat.ne_of_gt (Heap.lt_size ha)
  unfold collect
  refine wpAny_bind (wpAny_runValue (codeAny_builtin F.entry_proto_collect ?_))
  rw [Around.under_plainId F.plain_proto_collect _]
  show wpAny _ A.in1 (newList [] >>= fun l => again (.builtin "list.__iadd__" ⟨[l, .ref a], []⟩)) _ _ s
  refine wpAny_bind (wpAny_newObj_type ?_)
  refine wpAny_pure ⟨plainId_quiet F.plain_list_iadd _, codeAny_builtin F.entry_list_iadd ?_⟩
  rw [Around.under_plainId F.plain_list_iadd _]
  show wpAny _ A.in1 (Builtin.List.listExtendWith (.ref s.heap.objs.size) (.ref a) (.ref s.heap.objs.size)) _ _ _
  unfold Builtin.List.listExtendWith
  have k1 : ∀ b o, s.heap.get? b = some o → (s.heap.push { cls := .type "list", data := .seq ([] : List Value).toArray }).get? b = some o := fun b o e => Heap.get?_push_of_some _ e
  have gty : ∀ {h : Heap}, (∀ b o, s.heap.get? b = some o → h.get? b = some o) → h.IsGen a g := fun {h} q => hg h (q a go ha)
  refine wpAny_bind (wpAny_typeOf (Heap.IsGen.typeIs (s := { s with heap := _ }) (gty k1)) ?_)
  have h1 : Builtin.List.listSameRef (.ref s.heap.objs.size) (.ref a) = false := by simp [Builtin.List.listSameRef, hSa]
  have h2 : (Value.type "generator" == Value.type "list") = false := by decide
  have h3 : (Value.type "generator" == Value.type "tuple") = false := by decide
  simp only [h1, h2, h3, Bool.or_false, Bool.false_eq_true, if_false]
  refine wpAny_bind (wpAny_pyIter_gen (s := { s with heap := _ }) (gty k1) ?_)
  refine wpAny_bind (wpAny_holding ?_)
  unfold Builtin.List.listLengthHint
  refine wpAny_bind (wpAny_specialOf (Heap.IsGen.typeIs (s := { s with heap := _ }) (gty k1)) F.gen_no_len ?_)
  show wpAny _ A.in1 (specialOf (Value.ref a) (Str.ofString "__length_hint__") >>= _) _ _ _
  refine wpAny_bind (wpAny_specialOf (Heap.IsGen.typeIs (s := { s with heap := _ }) (gty k1)) F.gen_no_hint ?_)
  refine wpAny_pure ?_
  show wpAny _ A.in1 (rule "list.extend.makes-room" >>= fun _ => Builtin.List.listTouch (.ref s.heap.objs.size) >>= fun _ =>
    again (.builtin "list.extend.loop" ⟨[.ref s.heap.objs.size, .ref a, .ref s.heap.objs.size], []⟩)) _ _ _
  refine wpAny_bind (wpAny_rule ?_)
  have hS1 : (s.heap.push { cls := .type "list", data := .seq ([] : List Value).toArray }).get? s.heap.objs.size = some { cls := .type "list", data := .seq ([] : List Value).toArray } := Heap.get?_push_size _ rfl
  refine wpAny_bind ?_
  show wpAny _ A.in1 (updateSeq s.heap.objs.size (·.push .none) >>= fun _ => updateSeq s.heap.objs.size (·.pop)) _ _ _
  refine wpAny_bind (wpAny_updateSeq hS1 rfl ?_)
  have hS2 := Heap.get?_update_self (Obj.mapSeq (·.push Value.none)) hS1 rfl
  refine wpAny_updateSeq hS2 rfl ?_
  have hS3 := Heap.get?_update_self (Obj.mapSeq (·.pop)) hS2 rfl
  have up : ∀ (h : Heap) (f : Obj → Obj), (∀ b o, s.heap.get? b = some o → h.get? b = some o) → ∀ b o, s.heap.get? b = some o → (h.update s.heap.objs.size f).get? b = some o := fun h f q b o e =>
    (Heap.get?_update_other _ _ (Ne.symm (Nat.ne_of_lt (Heap.lt_size e)))).trans (q b o e)
  have k3 := up _ (Obj.mapSeq (·.pop)) (up _ (Obj.mapSeq (·.push Value.none)) k1)
  have hr3 : Room k A.in1.in1 := ⟨hr.hd, by have := hr.dp; show A.depth + 3 * k + 5 < _; omega, by have := hr.un; show A.units + 1 + 1 + 16 * k + 200 < _; omega⟩
  refine wpAny_pure ⟨plainId_quiet F.plain_extend_loop _, ?_⟩
  refine kfill (B := A) hr3 (by have := hr.dp; show A.depth < _; omega) hfr hg ha hgs han hos hb hkp hlo hG wake rfl rfl rfl k3 ⟨_, hS3⟩ fun s' hD => ?_
  obtain ⟨G', acc, c', H', ys, q1, q2, q3, q4, q5, q6, q7⟩ := id hD
  show wpAny _ A (load s.heap.objs.size >>= _) _ _ s'
  refine wpAny_bind (wpAny_load q6 ?_)
  exact wpAny_pure (hQ _ s' acc c' q6 hD)

theorem code_tuple_draw {Q₁ : Value → Shared → Prop} (hr : Room (k + 5) A) (hfr : A.frames = some outer) (h : KMade P w k outer Hs sc yl Q E0 u s)
    (hQ : ∀ S s' acc c, s'.heap.get? S = some (lstObj acc c) → Drawn P w outer Hs sc Q S s' → Q₁ (.ref s'.heap.objs.size) { s' with heap := s'.heap.push { cls := .type "tuple", data := .seq acc } }) :
    codeAny (model P w) A (.call (.builtin "tuple.__new__") ⟨[.type "tuple", u], []⟩) (wants Q₁ E) s := by
  refine codeAny_of_tree ?_
  show wpAny _ A.in1 (do checkBuiltinCall "tuple.__new__" ⟨[.type "tuple", u], []⟩; again (.builtin "tuple.__new__" ⟨[.type "tuple", u], []⟩)) _ _ s
  refine wpAny_bind (wpAny_of_eq (F.newCall_tuple_1 _) (wpAny_pure ⟨plainId_quiet F.plain_tuple_new _, codeAny_builtin F.entry_tuple_new ?_⟩))
  rw [Around.under_plainId F.plain_tuple_new _]
  have hsub := sub_tuple_self
  have hinit := init_tuple_lookup
  have hmh := madeHere_tuple
  have hrb : Room (k + 3) A.in1 := ⟨hr.hd, by have := hr.dp; show A.depth + 3 * (k + 3) + 5 < _; omega, by have := hr.un; show A.units + 1 + 16 * (k + 3) + 200 < _; omega⟩
  obtain ⟨a, g, c, go, G, rfl, hg, ha, hrest⟩ := id h
  have hTI : s.TypeIs (.ref a) "generator" := (hg _ ha).typeIs
  wp_walk using wpAny_typeOf hTI, kcollect hrb hfr h
  intro S s' acc c' hS hD
  show wpAny _ _ (Builtin.Tuple.tupleExact acc.toList.toArray >>= fun v => ret v) _ _ _
  unfold Builtin.Tuple.tupleExact
  have hz : acc.size ≤ sizeLine := by
    obtain ⟨G', acc', c2, H', ys, q1, q2, q3, q4, q5, q6, q7, q8, q9⟩ := hD
    rw [hS] at q6
    cases q6
    have e1 := q7.length
    have e2 : acc.toList.length = acc.size := by simp
    omega
  refine wpAny_bind (wpAny_newObj_type ?_ (by show acc.toList.toArray.size ≤ sizeLine; simp only [Array.toArray_toList]; exact hz))
  refine wpAny_pure ?_
  have e : acc.toList.toArray = acc := by simp
  rw [e]
  exact hQ S s' acc c' hS hD
theorem kcall_tuple {Q' : Value → Shared → Prop} (hr : Room (k + 7) A) (hfr : A.frames = some outer) (h : KMade P w k outer Hs sc yl Q E0 u s)
    (hQ : ∀ S s' acc c, s'.heap.get? S = some (lstObj acc c) → Drawn P w outer Hs sc Q S s' → Q' (.ref s'.heap.objs.size) { s' with heap := s'.heap.push { cls := .type "tuple", data := .seq acc } }) : wpAny (model P w) A (call (.type "tuple") [u]) Q' E s := by
  have hrb : Room (k + 5) A.in1 := ⟨hr.hd, by have := hr.dp; show A.depth + 3 * (k + 5) + 5 < _; omega, by have := hr.un; show A.units + 1 + 16 * (k + 5) + 200 < _; omega⟩
  refine callType_codes (Q₁ := fun obj s₁ => s₁.TypeIs obj "tuple" ∧ Q' obj s₁) F.called_tuple (F.typeCall_tuple_1 _) F.entry_object_init
    (code_tuple_draw hrb hfr h fun S s' acc c hS hD => ⟨⟨_, Heap.get?_push_size _ rfl, rfl⟩, hQ S s' acc c hS hD⟩) fun obj s₁ h₁ => ?_
  exact ⟨h₁.1, F.args_object_init_2 obj _, object_init_meets F.called_tuple.init.lookup F.called_tuple.made (by decide) P w A.in1 _ s₁ ⟨h₁.1, rfl, h₁.2⟩⟩
end
end KG

end

section
set_option maxHeartbeats 1000000
/-! KGen7: the rules over the layer: f(..) of a generator def, list of it, tuple of it, a for that takes its first item alone. -/
namespace KG
open PySem PySem.Spec PyProof.Rows L2 GenW

/-- an expression whose value is a generator that has not begun -/
abbrev TKG := L2.St → Hp → (Hp → (List V → V → Hp → Prop) → (List V → Hp → Prop) → Prop) → Prop
structure PKGen (X : Cx) (k : Nat) (e : Expr) (tg : TKG) : Prop where
  run : ∀ (pins : List (Addr × Obj)) (s : Shared) (σ : L2.St) (H : Hp) (C : Hp → (List V → V → Hp → Prop) → (List V → Hp → Prop) → Prop), Inv X pins σ H s → tg σ H C → wpAny (model X.prog X.w) X.A (eval e X.env)
    (fun u s' => ∃ H1 yl Q Hs sc, Inv X pins σ H1 sc ∧ Shares H1 Hs ∧ C H1 yl Q ∧ KMade X.prog X.w k X.stack Hs sc yl Q E0 u s') X.xe s
def tKCall (sp : SpK) (t : TA) : TKG := fun σ H C => t σ H fun vs H1 => ∃ yl Q Hs, Shares H1 Hs ∧ sp vs Hs yl Q E0 ∧ C H1 yl Q
section
variable {X : Cx} {k : Nat} {f : Addr} {fd : FuncData} {ps : List Str} {sp : SpK} {x : Str} {p pos : Pos} {e : Expr} {es : List Expr} {t : TA} {tg : TKG}
theorem pkgen_call (F : KFn X.prog X.w X.K X.mg X.base k f fd ps sp) (hr : Room k X.A) (hg : Gl X x) (hm : X.mg x = some (.ref f)) (hk : PySem.W.keepIn X.K (.ref f) = true) (hb : Binds X.K fd ps [])
    (ha : PA X (e :: es) t) (hdb : (x == ("__debug__" : Str)) = false := by decide) (he : starEach (e :: es) X.env = (false, eval e X.env) :: starEach es X.env := by rfl) (hpl : (backTo pos (starEach es X.env)).any (·.1) = false := by rfl) :
    PKGen X k (.Call (.Name x p) (e :: es) [] pos) (tKCall sp t) := by
  refine ⟨fun pins s σ H C I h => ?_⟩
  refine wpAny_Call_Name_kw (ld_glob I hg hm ?_ hdb)
  refine PySem.W.callWith_K (h₀ := X.base) I.ok.mod.kin hk (thn (ha.run pos pins s σ H _ I h) fun us s1 ⟨vs, H1, I1, r, yl, Q, Hs, sh, hsp, q⟩ => ⟨I1.kIn, ?_⟩) he hpl
  have hl : us.length = ps.length := by rw [← r.length]; exact F.len _ _ _ _ _ hsp
  refine wpAny_call (codeAny_mono (F.run X.A X.stack s1 H1 Hs ⟨us, []⟩ us vs yl Q E0 hr I1.env0 sh (by have z := hb s1 us I1.kIn (by rw [List.append_nil]; exact hl); rw [List.append_nil] at z; exact z) r hsp) fun q' s' hq => ?_)
  cases q' with
  | error e => exact False.elim hq
  | ok fl =>
    cases fl with
    | ret u => exact ⟨H1, yl, Q, Hs, s1, I1, sh, q, hq⟩
    | next => exact False.elim hq
    | brk => exact False.elim hq
    | cont => exact False.elim hq

/-- list(g), tuple(g) -/
def tListK (tg : TKG) : TE := fun σ H Qv => tg σ H fun H1 yl Q => ∀ ys H' Hm p, Q ys H' → ys.length ≤ sizeLine → Evl.Ex H1 Hm → Evl.Ex H' Hm → Hm p = none → Qv (.ref p) (upd Hm p (.lst ys))
def tTupK (tg : TKG) : TE := fun σ H Qv => tg σ H fun H1 yl Q => ∀ ys H' Hm p, Q ys H' → ys.length ≤ sizeLine → Evl.Ex H1 Hm → Evl.Ex H' Hm → Hm p = none → Qv (.ref p) (upd Hm p (.tup ys))
theorem pe_listK {nm : Str} (h : PKGen X k e tg) (hr : Room (k + 3) X.A) (hg : Gl X nm) (hmg : X.mg nm = none) (hv : bootBuiltins nm = some (.type "list")) (hnm : nm ≠ "__name__" := by decide) (hdb : (nm == ("__debug__" : Str)) = false := by decide)
    (he : starEach [e] X.env = (false, eval e X.env) :: starEach [] X.env := by rfl) : PE X (.Call (.Name nm p) [e] [] pos) (tListK tg) := by
  refine ⟨fun pins s σ H Q I hq => ?_⟩
  refine wpAny_Call_Name_kw (ld_blt I hg hmg hv ?_ hnm hdb)
  refine PyProof.Rows.callWith_type1 ?_ he rfl
  rw [he]
  show wpAny _ _ (spliced ((false, eval e X.env) :: backTo pos (starEach [] X.env))) _ _ s
  refine Calls.spliced_cons (thn (h.run pins s σ H _ I hq) fun u s1 ⟨H1, yl, Q1, Hs, sc, I1, sh, hc, hK⟩ => ?_)
  refine Calls.spliced_nil ?_
  refine kcall_list hr I1.ok.frames hK fun S s' hD => ?_
  obtain ⟨G, acc, c, H', ys, q1, q2, q3, q4, q5, q6, q7, q8, q9, q10, q11, q12, q13⟩ := hD
  obtain ⟨Hm, un, hok, x1, x2, x3⟩ := join I1 q3 q1 sh q2 q5 q9 q10 q11
  have hn : Hm S = none := by
    rw [x3 S]
    · exact q12
    · rw [q3]
      show (sc.heap.get? S).isSome = false
      rw [Heap.get?_none_of_le q4]; rfl
  exact ⟨.ref S, upd Hm S (.lst ys), I1.drained q4 q8 q6 q7 ExOk.nil q5.os q5.bare un hok hn, rfl, hc ys H' Hm S q13 q8 x1 x2 hn⟩
theorem pe_tupK {nm : Str} (h : PKGen X k e tg) (hr : Room (k + 7) X.A) (hg : Gl X nm) (hmg : X.mg nm = none) (hv : bootBuiltins nm = some (.type "tuple")) (hnm : nm ≠ "__name__" := by decide) (hdb : (nm == ("__debug__" : Str)) = false := by decide)
    (he : starEach [e] X.env = (false, eval e X.env) :: starEach [] X.env := by rfl) : PE X (.Call (.Name nm p) [e] [] pos) (tTupK tg) := by
  refine ⟨fun pins s σ H Q I hq => ?_⟩
  refine wpAny_Call_Name_kw (ld_blt I hg hmg hv ?_ hnm hdb)
  refine PyProof.Rows.callWith_type1 ?_ he rfl
  rw [he]
  show wpAny _ _ (spliced ((false, eval e X.env) :: backTo pos (starEach [] X.env))) _ _ s
  refine Calls.spliced_cons (thn (h.run pins s σ H _ I hq) fun u s1 ⟨H1, yl, Q1, Hs, sc, I1, sh, hc, hK⟩ => ?_)
  refine Calls.spliced_nil ?_
  refine kcall_tuple hr I1.ok.frames hK fun S s' acc0 c0 hS hD => ?_
  obtain ⟨G, acc, c, H', ys, q1, q2, q3, q4, q5, q6, q7, q8, q9, q10, q11, q12, q13⟩ := hD
  rw [hS] at q6
  cases q6
  obtain ⟨Hm, un, hok, x1, x2, x3⟩ := join I1 q3 q1 sh q2 q5 q9 q10 q11
  have J : Inv X pins σ Hm s' := I1.call' (ch := []) q5.os un hok q5.bare fun b z => by simp at z
  have hn : Hm s'.heap.objs.size = none := J.hok.fresh (Nat.le_refl _)
  refine ⟨.ref s'.heap.objs.size, upd Hm s'.heap.objs.size (.tup ys), J.laid (t' := s'.toks) (fun b o e => Heap.get?_push_of_some _ e) (Nat.le_refl _) ?_, rfl, hc ys H' Hm _ q13 q8 x1 x2 hn⟩
  exact ⟨q8, acc0.toList, q7, ⟨_, Heap.get?_push_size _ rfl, rfl, 0, by simp⟩⟩

/-- for x in g: body, where the body always leaves -/
def tFor1 (tg : TKG) (g : TG) (tb : TS) : TS := fun D σ H => tg σ H fun H1 yl Q =>
  (∀ H' Hm, Q [] H' → Evl.Ex H1 Hm → Evl.Ex H' Hm → D.nx σ Hm) ∧
  (∀ x H' Hm, yl [] x H' → Evl.Ex H1 Hm → Evl.Ex H' Hm → g x σ Hm fun σ2 H2 => tb { D with nx := fun _ _ => False, ct := fun _ _ => False, bk := D.nx } σ2 H2)
theorem ps_for1 {tgt iter : Expr} {body : List Stmt} {g : TG} {tb : TS} (hp : PassesOwn (model X.prog X.w) X.A X.env X.xe) (hc : X.calm = true) (hi : PKGen X k iter tg) (hr : Room (k + 1) X.A) (hg : PG X tgt g) (hb : PSs X body tb)
    (hs : ∀ x, foldedSetIterable iter X.env x = pure x := by intro _; rfl) : PS X (.For tgt iter body [] pos) (tFor1 tg g tb) := by
  refine ⟨fun pins s σ H D I h => ?_⟩
  refine wpAny_For (thn (hi.run pins s σ H _ I h) fun u s1 ⟨H1, yl, Q, Hs, sc, I1, sh, hcn, hK⟩ => ?_) hs
  obtain ⟨a, gn, c, go, G, rfl, hgen, ha, hgs, han, hos, hba, hkp, hlo, hG, wake⟩ := hK
  refine wpAny_pyIter_gen (hgen _ ha) ?_
  have hr1 : Room k X.A.in1 := hr.in1
  obtain ⟨e1, e2, e3, e4, e5, e6, e7, e8⟩ := hG X.A.in1
  obtain ⟨g0, t, wk⟩ := wake X.A.in1 hr1 I1.ok.frames
  have hao : (G X.A.in1).old a = false := by rw [e8]; show (sc.heap.get? a).isSome = false; rw [han]; rfl
  have goes : GenState.Goes (model X.prog X.w) X.A.in1 (fun n s₀ q s => ((q = .ok (.ret .none) ∨ q = .ok .next) ∧ (∃ ys H, n + ys.length = sizeLine ∧ True ∧ Told ⟨G X.A.in1, a, go, [], fun _ _ => True, yl⟩ s₀ s H ∧ Q ys H)) ∨
        ∃ e, q = .error e ∧ ((∃ s₀, L2.CX (G X.A.in1).P (G X.A.in1).w (G X.A.in1).outer (G X.A.in1).Hs ((G X.A.in1).cut s₀) (G X.A.in1).E e s) ∧ s.heap.get? a = some go)) (KY ⟨G X.A.in1, a, go, [], fun _ _ => True, yl⟩) sizeLine (.fresh c) (.send .none) (s1.setGen gn .running) :=
    ⟨rfl, wk [] (fun _ _ => True) (s1.setGen gn .running) (by simp) (fun S hS => by simp at hS) ⟨Since.at g0 t ⟨rfl, allBare_setGen hba rfl, fun _ _ _ _ e => e, fun b o _ e => ⟨o.slots, e⟩, by obtain ⟨o, e⟩ := hlo; exact ⟨o, by rw [e7]; exact e⟩⟩, fun S hS => by simp at hS⟩ (fun b o e => e) trivial⟩
  have bad : ∀ {s : Shared} {e : Value}, (∃ s₀, L2.CX (G X.A.in1).P (G X.A.in1).w (G X.A.in1).outer (G X.A.in1).Hs ((G X.A.in1).cut s₀) (G X.A.in1).E e s) → False := fun {s e} ⟨s₀, h⟩ => by
    obtain ⟨_, _, _, _, _, _, _, _, _, _, _, _, z⟩ := h
    rw [e5] at z
    exact z.elim
  have sin : ∀ {s2 : Shared} {H' : Hp}, Told ⟨G X.A.in1, a, go, [], fun _ _ => True, yl⟩ (s1.setGen gn .running) s2 H' → Since (G X.A.in1) sc s2 := fun {s2 H'} T =>
    ⟨T.os.trans hos, T.bare, fun b o h1 h2 e => T.keep b o h1 h2 (hkp b o e), fun b o h e => T.slot b o h (hkp b o e), T.lt⟩
  have lim : s1.heap.NoLimit := I1.ok.mod.nolimit.keeps fun b o e => hkp b o (I1.bk b o e)
  refine codeAny_forLoop_any (fun n s' => n = 0 ∧ s' = s1) ?_ 0 ⟨rfl, rfl⟩
  rintro n s' ⟨rfl, rfl⟩
  refine wpAny_passesOwn hp (next_genG (A := X.A) hr.hd lim hr.depth (hgen _ ha) hgs goes (fun v s2 gs' hbare hv => ?_) (fun s2 hpq h' hk => ?_) fun e s2 he => (bad he.1).elim)
  · -- an item
    obtain ⟨ys, x, H', hn, rv, _, hy, T, _⟩ := hv
    have hys : ys = [] := by
      have z : 1 ≤ sizeLine := by rw [sizeLine_eq]; decide
      have : ys.length = 0 := by omega
      exact List.length_eq_zero_iff.mp this
    subst hys
    have hokT := T.hok
    rw [show (⟨G X.A.in1, a, go, [], fun _ _ => True, yl⟩ : Run).G = G X.A.in1 from rfl, e1, e2] at hokT
    obtain ⟨Hm, un, hok, x1, x2, x3⟩ := join I1 e8 e3 sh e4 (sin T) hokT T.up T.low
    have J : Inv X pins σ Hm (s2.setGen gn gs') := I1.call' (ch := []) (T.os.trans hos) un hok (allBare_setGen T.bare hbare) fun b z => by simp at z
    obtain ⟨go', nm, qn, g1, g2, g3, g4⟩ := hgen _ T.gen
    have hgo : s2.heap.get? a = some go' := g1
    refine wpAny_passesOwn hp (go_of (s := s2.setGen gn gs') (o := go') hgo g2 g3 (by decide) ?_)
    refine wpAny_passesOwn hp (thn (hg.run _ (s2.setGen gn gs') σ Hm x v _ J rv (hcn.2 x H' Hm hy x1 x2)) fun _ s6 ⟨σ6, H6, I6, q6⟩ => ?_)
    refine wpAny_passesOwn hp (thn (hb.run _ s6 σ6 H6 _ I6 q6) fun f s7 q7 => ?_)
    cases f with
    | next => obtain ⟨_, _, _, z⟩ := q7; exact z.elim
    | cont => obtain ⟨_, _, _, z⟩ := q7; exact z.elim
    | brk => obtain ⟨σ7, H7, I7, q7⟩ := q7; exact ⟨σ7, H7, I7, q7⟩
    | ret v => obtain ⟨x7, σ7, H7, I7, r7, q7⟩ := q7; exact ⟨x7, σ7, H7, I7, r7, q7⟩
  · -- none
    obtain ⟨ys, H', hn, _, T, hQ⟩ := hpq
    have hys : ys = [] := by
      have : ys.length = 0 := by omega
      exact List.length_eq_zero_iff.mp this
    subst hys
    have hokT := T.hok
    rw [show (⟨G X.A.in1, a, go, [], fun _ _ => True, yl⟩ : Run).G = G X.A.in1 from rfl, e1, e2] at hokT
    obtain ⟨Hm, un, hok, x1, x2, x3⟩ := join I1 e8 e3 sh e4 (sin T) hokT T.up T.low
    have J : Inv X pins σ Hm (s2.setGen gn .finished) := I1.call' (ch := []) (T.os.trans hos) un hok (allBare_setGen T.bare rfl) fun b z => by simp at z
    exact wpAny_execs_nil ⟨σ, Hm, J.kept (t' := s2.toks) hk, hcn.1 H' Hm hQ x1 x2⟩
end
end KG

end

section
set_option maxHeartbeats 1000000
/-! KEnum: enumerate of a text and of a tuple. -/
namespace PySem
open Sem (wp)
theorem meets_enumT (l : Addr) (o : Obj) (items : Array Value) (n : Nat) (hc : o.cls = .type "tuple") (hdt : o.data = .seq items n) :
    Meets (Builtin.«enumerate.__new__» ⟨[.type "enumerate", .ref l], []⟩) (fun _ R s => s.heap.get? l = some o ∧
      R (.ok (.ret (.ref (s.heap.push { cls := .type "tuple_iterator", data := .fields #[.ref l, .int 0 0] }).objs.size)))
        { s with heap := (s.heap.push { cls := .type "tuple_iterator", data := .fields #[.ref l, .int 0 0] }).push { cls := .type "enumerate", data := .fields #[.none, .bool false, .ref s.heap.objs.size, rawInt 0, .none, .none] } }) :=
  .of_wp fun prog w A R s h => by
    obtain ⟨hp, g, d, tk, os⟩ := s; obtain ⟨hl, h⟩ := h
    have hsub := sub_enumerate
    have hL : PyProof.Rows.IsTup (Shared.heap ⟨hp, g, d, tk, os⟩) l items := ⟨_, hl, hc, n, hdt⟩
    wp_walk using AutoSeq1.wpAny_loadPart' hl
    refine wpAny_stack_any fun st => wpAny_pure ?_
    split
    · rename_i c _ _ _ _ _
      cases (c == Value.type "enumerate")
      · wp_walk using AutoSeq1.wpAny_loadPart' hl, PyProof.Rows.iter_tuple hL
        exact ⟨_, rfl, h⟩
      · wp_walk using AutoSeq1.wpAny_loadPart' hl, PyProof.Rows.iter_tuple hL
        exact ⟨_, rfl, h⟩
    · wp_walk using AutoSeq1.wpAny_loadPart' hl, PyProof.Rows.iter_tuple hL
      exact ⟨_, rfl, h⟩
end PySem
namespace KG
open PySem PySem.Spec PyProof.Rows L2 GenW

section
variable {prog : Program} {w : World} {A : Around} {E : Value → Shared → Prop} {s : Shared}
theorem call_enumT {l : Addr} {items : Array Value} {Q : Value → Shared → Prop} (hL : IsTup s.heap l items)
    (h : ∀ h', IsEnum h' (s.heap.objs.size + 1) s.heap.objs.size 0 .none → IsTupIter h' s.heap.objs.size l 0 → h'.objs.size = s.heap.objs.size + 2 →
      (∀ b o, s.heap.get? b = some o → h'.get? b = some o) → Q (.ref (s.heap.objs.size + 1)) { s with heap := h' }) :
    wpAny (model prog w) A (call (.type "enumerate") [.ref l]) Q E s := by
  obtain ⟨o, hl, hc, n, hd⟩ := hL
  refine callType_new F.called_enumerate (by decide) (F.typeCall_enumerate_1 _) (F.newCall_enumerate_1 _) (fun obj => F.args_object_init_2 obj _) F.entry_enumerate_new
    (meets_enumT l o items n hc hd) ⟨hl, ?_⟩
  have hz : (s.heap.push { cls := .type "tuple_iterator", data := .fields #[.ref l, .int 0 0] }).objs.size = s.heap.objs.size + 1 := Heap.size_push ..
  show _ ∧ _
  rw [hz]
  have he : IsEnum ((s.heap.push { cls := .type "tuple_iterator", data := .fields #[.ref l, .int 0 0] }).push
      { cls := .type "enumerate", data := .fields #[.none, .bool false, .ref s.heap.objs.size, rawInt 0, .none, .none] }) (s.heap.objs.size + 1) s.heap.objs.size 0 .none := by
    have q := Heap.get?_push_size (s.heap.push { cls := .type "tuple_iterator", data := .fields #[.ref l, .int 0 0] })
      (o := { cls := .type "enumerate", data := .fields #[.none, .bool false, .ref s.heap.objs.size, rawInt 0, .none, .none] }) rfl
    rw [hz] at q; exact q
  exact ⟨⟨_, he, rfl⟩, h _ he ⟨_, Heap.get?_push_of_some _ (Heap.get?_push_size _ rfl), rfl, rfl⟩ (by rw [Heap.size_push, hz]) fun b o x => Heap.get?_push_of_some _ (Heap.get?_push_of_some _ x)⟩
end
theorem drawsT {prog : Program} {w : World} {A : Around} (hh : A.handled = none) (it l : Addr) (hne : l ≠ it) (items : Array Value) :
    Draws prog w A it [it, l] items.size (fun i v => items[i]? = some v) (fun i h => IsTupIter h it l i ∧ IsTup h l items) where
  live := fun _ _ st => let ⟨o, ho, _⟩ := st.1; ⟨o, ho⟩
  frame := fun _ _ _ st hk => ⟨let ⟨o, ho, q⟩ := st.1; ⟨o, hk it (by simp) o ho, q⟩, let ⟨o, ho, q⟩ := st.2; ⟨o, hk l (by simp) o ho, q⟩⟩
  item := fun i s Q E hi st hQ => by
    unfold Builtin.SmallTypes.nextOf
    refine wpAny_bind (special_tup_item st.1 st.2 (x := items[i]) (by simp [hi]) fun h' hit' hs' => wpAny_pure ?_)
    exact hQ _ h' s.toks (by simp [hi]) ⟨hit', let ⟨o, ho, q⟩ := st.2; ⟨o, hs'.extBut l o hne ho, q⟩⟩ hs'
  done := fun s Q E st hE => by
    unfold Builtin.SmallTypes.nextOf
    refine wpAny_bind (special_tup_end hh st.1 st.2 (by simp) fun e h' hS hk => ?_)
    obtain ⟨a, o, vs, rfl, ho, hc, _⟩ := hS
    exact hE h' a hk ⟨o, ho, hc⟩

/-- each item of the tuple at a in a new pair -/
def IteT (K : PySem.W.Frag) (a : Addr) : It :=
  ⟨fun i H => ∃ (xs : List V) (x : V), SqT K H a xs ∧ xs[i]? = some x, fun i H v H' => ∃ T x, v = .ref T ∧ H T = none ∧ H' = upd H T (.tup [.int (i : Nat), x]) ∧ ∀ xs, SqT K H a xs → xs[i]? = some x, fun i H => ∃ xs : List V, SqT K H a xs ∧ xs.length ≤ i⟩
/-- each sign of a text in a new pair -/
def IteS (x : Str) : It :=
  ⟨fun i _ => i < x.cps.size, fun i H v H' => ∃ T c, v = .ref T ∧ H T = none ∧ H' = upd H T (.tup [.int (i : Nat), .str ⟨#[c]⟩]) ∧ x.cps[i]? = some c, fun i _ => x.cps.size ≤ i⟩

theorem turn_enumT {P : Program} {w : World} {K : PySem.W.Frag} {elts : List Expr} {kk : Nat} {tpos : Pos} (a e it : Addr) (hai : a ≠ it) :
    Turn P w K (.Tuple elts kk tpos) (IteT K a) [e, it] e (fun i h => (∃ old, IsEnum h e it ((i : Nat) : Int) old) ∧ IsTupIter h it a i ∧ e ≠ it ∧ e ≠ a) where
  mem := by simp
  obj := fun i h st b hb => by
    obtain ⟨⟨old, he⟩, ⟨o, ho, hc, hd⟩, _⟩ := st
    rcases List.mem_cons.mp hb with z | z
    · rw [z]; exact ⟨_, he, fun v q => nomatch q⟩
    · rw [List.mem_singleton.mp z]; exact ⟨o, ho, fun v q => by rw [hd] at q; cases q⟩
  keep := fun i h h' st k => let ⟨⟨old, he⟩, ⟨o, ho, q⟩, hne⟩ := st; ⟨⟨old, k e (by simp) _ he⟩, ⟨o, k it (by simp) o ho, q⟩, hne⟩
  item := by
    intro X hP hw hK hc i pins s σ H E I hf st hg
    subst hP hw hK
    obtain ⟨⟨old, he⟩, hit, hne, hna⟩ := st
    obtain ⟨xs, x, hq, hx⟩ := hg
    obtain ⟨its, rv, p, hz⟩ := I.tuple hq
    have hil : i < its.toArray.size := by
      have e1 := rv.length
      have e2 := (List.getElem?_eq_some_iff.mp hx).1
      simp only [List.size_toArray]; omega
    have hel : e < s.heap.objs.size := Heap.lt_size he
    have hitl : it < s.heap.objs.size := by obtain ⟨_, q, _⟩ := hit; exact Heap.lt_size q
    refine wpAny_pyNext_enum_itemD (drawsT (A := X.A.in1) (I.ok.hd hc) it a hai its.toArray) he ⟨hit, p⟩ hil hne (by simp [hne, hna]) fun u h' tk hu ho hit' hT hsz hk => ?_
    have ru : RelV x u := by
      obtain ⟨u', hu', ru'⟩ := rv.get hx
      rw [List.getElem?_toArray, hu'] at hu
      cases hu; exact ru'
    refine ⟨_, rfl, wpAny_letOwnedTupleGo_enum (s := { s with heap := h', toks := tk + 1 }) ho fun h'' he' sb => ?_⟩
    have hT2 : h''.get? s.heap.objs.size = some { cls := .type "tuple", data := .seq #[.int i tk, u] } := (sb.2 _ (Nat.ne_of_gt hel)).trans hT
    have new : ObjOk X.prog X.w (upd H s.heap.objs.size (.tup [.int (i : Nat), x])) h'' s.heap.objs.size (.tup [.int (i : Nat), x]) :=
      ⟨by show 2 ≤ sizeLine; decide, [.int i tk, u], .cons ⟨_, rfl⟩ (.cons ru .nil), ⟨_, hT2, rfl, _, rfl⟩⟩
    have I1 : Inv X pins σ (upd H s.heap.objs.size (.tup [.int (i : Nat), x])) { s with heap := h'', toks := tk + 1 } :=
      I.turnedNew (ch := [e, it]) (fun b ob hb q => (sb.2 b (fun z => hb (by simp [z]))).trans (hk b ob (fun z => hb (by simp [z])) (fun z => hb (by simp [z])) q)) hf (Nat.le_refl _) new
    refine ⟨.ref s.heap.objs.size, _, I1, rfl, ⟨_, x, rfl, I.hok.fresh (Nat.le_refl _), rfl, fun ys hy => by rw [I.tuple_inj hy hq]; exact hx⟩, ⟨⟨u, ?_⟩, ?_, hne, hna⟩, fun b hb => ?_⟩
    · have e1 : ((i + 1 : Nat) : Int) = (i : Int) + 1 := by omega
      rw [e1]; exact he'
    · obtain ⟨o, ho', q⟩ := hit'.1
      exact ⟨o, (sb.2 it (Ne.symm hne)).trans ho', q⟩
    · have hb' : b < s.heap.objs.size := by
        rcases List.mem_cons.mp hb with z | z
        · rw [z]; exact hel
        · rw [List.mem_singleton.mp z]; exact hitl
      rw [upd_ne (Nat.ne_of_lt hb')]
      exact (hf b hb).1
  done := by
    intro X hP hw hK hc i pins s σ H E I hf st hg
    subst hP hw hK
    obtain ⟨⟨old, he⟩, hit, hne, hna⟩ := st
    obtain ⟨xs, hq, hx⟩ := hg
    obtain ⟨its, rv, p, hz⟩ := I.tuple hq
    obtain ⟨f0, f1, f2, f3, f4, f5⟩ := hf it (by simp)
    have hl := rv.length
    refine wpAny_bind (wpAny_attempt (wpAny_callSpecial?_slot (name := Str.ofString "__next__") ⟨_, he, rfl⟩ F.slot_enumerate_next (wpAny_call_entry F.slot_enumerate_next ⟨_, he, rfl⟩ F.entry_enumerate_next ?_ (F.args_enumerate_next_1 _))))
    show wpAny _ _ (field (.ref e) 2 >>= _) _ _ _
    refine wpAny_bind (wpAny_field he rfl (x := .ref it) rfl ?_)
    unfold Builtin.SmallTypes.nextOf
    refine wpAny_bind (wpAny_bind (special_tup_end (A := X.A.in1) (I.ok.hd hc) hit p (by simp; omega) fun ex h' hS hk => ?_))
    obtain ⟨ea, o, vs, rfl, ho, hcl, _⟩ := hS
    refine wpAny_bind (wpAny_isInstance (T := "StopIteration") (b := true) ⟨o, ho, hcl⟩ isSubtype_stop ?_)
    exact wpAny_pure ⟨rfl, I.turned (t' := s.toks) (fun b o hb q => hk b o hb q) f0 f1 f3 f4 f5⟩
  self := fun A i s Q E st h => let ⟨⟨_, he⟩, _⟩ := st; wpAny_pyIter_enum he h

theorem turn_enumS {P : Program} {w : World} {K : PySem.W.Frag} {elts : List Expr} {kk : Nat} {tpos : Pos} (z : Str) (t : Tok) (ty : String) (hty : ty = "str_ascii_iterator" ∨ ty = "str_iterator") (e it : Addr) :
    Turn P w K (.Tuple elts kk tpos) (IteS z) [e, it] e (fun i h => (∃ old, IsEnum h e it ((i : Nat) : Int) old) ∧ h.IsStrIter it ty z t i ∧ e ≠ it) where
  mem := by simp
  obj := fun i h st b hb => by
    obtain ⟨⟨old, he⟩, ⟨o, ho, hc, hd⟩, _⟩ := st
    rcases List.mem_cons.mp hb with y | y
    · rw [y]; exact ⟨_, he, fun v q => nomatch q⟩
    · rw [List.mem_singleton.mp y]; exact ⟨o, ho, fun v q => by rw [hd] at q; cases q⟩
  keep := fun i h h' st k => let ⟨⟨old, he⟩, ⟨o, ho, q⟩, hne⟩ := st; ⟨⟨old, k e (by simp) _ he⟩, ⟨o, k it (by simp) o ho, q⟩, hne⟩
  item := by
    intro X hP hw hK hc i pins s σ H E I hf st hg
    subst hP hw hK
    obtain ⟨⟨old, he⟩, hit, hne⟩ := st
    have D : Draws X.prog X.w X.A.in1 it [it] z.cps.size (fun i v => ∃ c u, z.cps[i]? = some c ∧ v = .str ⟨#[c]⟩ u) (fun i h => h.IsStrIter it ty z t i) := by
      rcases hty with q | q
      · rw [q]; exact Draws.strAscii (A := X.A.in1) (I.ok.hd hc) it z t
      · rw [q]; exact Draws.strWide (A := X.A.in1) (I.ok.hd hc) it z t
    have hel : e < s.heap.objs.size := Heap.lt_size he
    have hitl : it < s.heap.objs.size := by obtain ⟨_, q, _⟩ := hit; exact Heap.lt_size q
    refine wpAny_pyNext_enum_itemD D he hit hg hne (by simp [hne]) fun u h' tk hu ho hit' hT hsz hk => ?_
    obtain ⟨c, uu, hcx, rfl⟩ := hu
    refine ⟨_, rfl, wpAny_letOwnedTupleGo_enum (s := { s with heap := h', toks := tk + 1 }) ho fun h'' he' sb => ?_⟩
    have hT2 : h''.get? s.heap.objs.size = some { cls := .type "tuple", data := .seq #[.int i tk, .str ⟨#[c]⟩ uu] } := (sb.2 _ (Nat.ne_of_gt hel)).trans hT
    have new : ObjOk X.prog X.w (upd H s.heap.objs.size (.tup [.int (i : Nat), .str ⟨#[c]⟩])) h'' s.heap.objs.size (.tup [.int (i : Nat), .str ⟨#[c]⟩]) :=
      ⟨by show 2 ≤ sizeLine; decide, [.int i tk, .str ⟨#[c]⟩ uu], .cons ⟨_, rfl⟩ (.cons ⟨_, rfl⟩ .nil), ⟨_, hT2, rfl, _, rfl⟩⟩
    have I1 : Inv X pins σ (upd H s.heap.objs.size (.tup [.int (i : Nat), .str ⟨#[c]⟩])) { s with heap := h'', toks := tk + 1 } :=
      I.turnedNew (ch := [e, it]) (fun b ob hb q => (sb.2 b (fun z => hb (by simp [z]))).trans (hk b ob (fun z => hb (by simp [z])) (fun z => hb (by simp [z])) q)) hf (Nat.le_refl _) new
    refine ⟨.ref s.heap.objs.size, _, I1, rfl, ⟨_, c, rfl, I.hok.fresh (Nat.le_refl _), rfl, hcx⟩, ⟨⟨.str ⟨#[c]⟩ uu, ?_⟩, ?_, hne⟩, fun b hb => ?_⟩
    · have e1 : ((i + 1 : Nat) : Int) = (i : Int) + 1 := by omega
      rw [e1]; exact he'
    · obtain ⟨o, ho', q⟩ := hit'
      exact ⟨o, (sb.2 it (Ne.symm hne)).trans ho', q⟩
    · have hb' : b < s.heap.objs.size := by
        rcases List.mem_cons.mp hb with y | y
        · rw [y]; exact hel
        · rw [List.mem_singleton.mp y]; exact hitl
      rw [upd_ne (Nat.ne_of_lt hb')]
      exact (hf b hb).1
  done := by
    intro X hP hw hK hc i pins s σ H E I hf st hg
    subst hP hw hK
    obtain ⟨⟨old, he⟩, hit, hne⟩ := st
    obtain ⟨f0, f1, f2, f3, f4, f5⟩ := hf it (by simp)
    have hx : z.cps[i]? = none := Array.getElem?_eq_none hg
    refine wpAny_bind (wpAny_attempt (wpAny_callSpecial?_slot (name := Str.ofString "__next__") ⟨_, he, rfl⟩ F.slot_enumerate_next (wpAny_call_entry F.slot_enumerate_next ⟨_, he, rfl⟩ F.entry_enumerate_next ?_ (F.args_enumerate_next_1 _))))
    show wpAny _ _ (field (.ref e) 2 >>= _) _ _ _
    refine wpAny_bind (wpAny_field he rfl (x := .ref it) rfl ?_)
    refine wpAny_bind ?_
    rcases hty with q | q
    · rw [q] at hit
      refine wpAny_nextOf_ascii_end (A := X.A.in1) (I.ok.hd hc) hit hx fun h' ea hk ho => ?_
      obtain ⟨o, ho, hcl⟩ := ho
      refine wpAny_bind (wpAny_isInstance (T := "StopIteration") (b := true) ⟨o, ho, hcl⟩ isSubtype_stop ?_)
      exact wpAny_pure ⟨rfl, I.turned (t' := s.toks) (fun b o hb q => hk b o hb q) f0 f1 f3 f4 f5⟩
    · rw [q] at hit
      refine wpAny_nextOf_wide_end (A := X.A.in1) (I.ok.hd hc) hit hx fun h' ea hk ho => ?_
      obtain ⟨o, ho, hcl⟩ := ho
      refine wpAny_bind (wpAny_isInstance (T := "StopIteration") (b := true) ⟨o, ho, hcl⟩ isSubtype_stop ?_)
      exact wpAny_pure ⟨rfl, I.turned (t' := s.toks) (fun b o hb q => hk b o hb q) f0 f1 f3 f4 f5⟩
  self := fun A i s Q E st h => let ⟨⟨_, he⟩, _⟩ := st; wpAny_pyIter_enum he h

section
variable {X : Cx} {e : Expr} {ta : TA} {p pos tpos : Pos} {elts : List Expr} {kk : Nat}
def iEnumT (K : PySem.W.Frag) (ta : TA) : TI := fun σ H R => ta σ H fun vs H1 => ∃ a xs, vs = [.ref a] ∧ SqT K H1 a xs ∧ R (IteT K a) H1
theorem pi_enumT (hg : Gl X "enumerate") (hm : X.mg "enumerate" = none) (ha : PA X [e] ta) (hs : starEach [e] X.env = [(false, eval e X.env)] := by rfl) :
    PI X (.Tuple elts kk tpos) (.Call (.Name "enumerate" p) [e] [] pos) (iEnumT X.K ta) := by
  refine ⟨fun pins s σ H R I h => ?_⟩
  refine Call_ (ld_blt I hg hm boot_enumerate (PyProof.Rows.callWith_type1 (thn (ha.run pos pins s σ H _ I h) fun us s1 ⟨vs, H1, I1, r1, q1⟩ => ?_) hs rfl))
  obtain ⟨a, xs, ex, hq, q⟩ := q1
  subst ex
  cases r1 with
  | cons r rr =>
    cases rr
    cases r
    obtain ⟨its, rv, p', hz⟩ := I1.tuple hq
    have hal : a < s1.heap.objs.size := p'.lt
    refine call_enumT p' fun h' he hit hsz hk => wpAny_pyIter_enum he ?_
    have I2 : Inv X pins σ H1 { s1 with heap := h' } := I1.kept (t' := s1.toks) hk
    refine ⟨s1.heap.objs.size + 1, [s1.heap.objs.size + 1, s1.heap.objs.size], _, _, H1, rfl, I2, turn_enumT a (s1.heap.objs.size + 1) s1.heap.objs.size (Nat.ne_of_lt hal), ⟨⟨.none, he⟩, hit, Nat.succ_ne_self _, Nat.ne_of_gt (Nat.lt_succ_of_lt hal)⟩, fun b hb => ?_, q⟩
    have hle : s1.heap.objs.size ≤ b := by
      rcases List.mem_cons.mp hb with z | z
      · rw [z]; exact Nat.le_add_right _ _
      · rw [List.mem_singleton.mp z]; exact Nat.le_refl _
    exact I1.fpOk hle (I1.hok.fresh hle)
def iEnumS (ta : TA) : TI := fun σ H R => ta σ H fun vs H1 => ∃ z, vs = [.str z] ∧ R (IteS z) H1
theorem pi_enumS (hg : Gl X "enumerate") (hm : X.mg "enumerate" = none) (ha : PA X [e] ta) (hs : starEach [e] X.env = [(false, eval e X.env)] := by rfl) :
    PI X (.Tuple elts kk tpos) (.Call (.Name "enumerate" p) [e] [] pos) (iEnumS ta) := by
  refine ⟨fun pins s σ H R I h => ?_⟩
  refine Call_ (ld_blt I hg hm boot_enumerate (PyProof.Rows.callWith_type1 (thn (ha.run pos pins s σ H _ I h) fun us s1 ⟨vs, H1, I1, r1, q1⟩ => ?_) hs rfl))
  obtain ⟨z, ex, q⟩ := q1
  subst ex
  cases r1 with
  | cons r rr =>
    cases rr
    obtain ⟨t, rfl⟩ := r
    refine call_enumerate_str fun h' he hit hsz hk => wpAny_pyIter_enum he ?_
    have I2 : Inv X pins σ H1 { s1 with heap := h' } := I1.kept (t' := s1.toks) hk
    have hty : strIterType z = "str_ascii_iterator" ∨ strIterType z = "str_iterator" := by
      unfold strIterType
      cases z.cps.all (· < 128)
      · exact .inr rfl
      · exact .inl rfl
    refine ⟨s1.heap.objs.size + 1, [s1.heap.objs.size + 1, s1.heap.objs.size], _, _, H1, rfl, I2, turn_enumS z t (strIterType z) hty (s1.heap.objs.size + 1) s1.heap.objs.size, ⟨⟨.none, he⟩, hit, Nat.succ_ne_self _⟩, fun b hb => ?_, q⟩
    have hle : s1.heap.objs.size ≤ b := by
      rcases List.mem_cons.mp hb with z | z
      · rw [z]; exact Nat.le_add_right _ _
      · rw [List.mem_singleton.mp z]; exact Nat.le_refl _
    exact I1.fpOk hle (I1.hok.fresh hle)
end
end KG

end

section
set_option maxHeartbeats 1000000
/-! KGuard: promises of defs that are called where no container is being shown (repr of data may be asked within). -/
namespace KG
open PySem PySem.Spec PyProof.Rows L2

/-- nothing is being shown around -/
abbrev NoShow (A : Around) : Prop := A.guards = some []
/-- as FnOk, where nothing is being shown -/
structure FnG (P : Program) (w : World) (K : PySem.W.Frag) (mg : Str → Option Value) (base : Heap) (CX : CXT) (k : Nat) (f : Addr) (fd : FuncData) (ps : List Str) (sp : Sp) : Prop where
  len : ∀ vs H Q E, sp vs H Q E → vs.length = ps.length
  run : ∀ (A : Around) (outer : List Env) (s : Shared) (H : Hp) (args : Args) (us : List Value) (vs : List V) (Q : VK) (E : XK), Room k A → NoShow A → Env0 P w K mg base A outer s H → BindsTo s fd args (ps.zip us) → Vals vs us → sp vs H Q E →
    codeAny (model P w) A (.call (.ref f) args) (CR CX outer P w H s Q E) s
section
variable {P : Program} {w : World} {K : PySem.W.Frag} {mg : Str → Option Value} {base : Heap} {CX : CXT} {j k : Nat} {f : Addr} {fd : FuncData} {ps : List Str} {sp : Sp}
theorem FnG.of (F : FnOk P w K mg base CX k f fd ps sp) : FnG P w K mg base CX k f fd ps sp := ⟨F.len, fun A outer s H args us vs Q E hr _ => F.run A outer s H args us vs Q E hr⟩
theorem FnG.mono (F : FnG P w K mg base CX j f fd ps sp) (h : j ≤ k) : FnG P w K mg base CX k f fd ps sp := ⟨F.len, fun A outer s H args us vs Q E hr => F.run A outer s H args us vs Q E (hr.mono h)⟩
/-- THE RULE of a def, its body read where nothing is being shown; what the caller tracks is held at the entry -/
theorem fng_of {name qual : Str} {params : Arguments} {body : List Stmt} {scope : Scope} {dV kV doc pm cdv ct oc : Value} {an od : Option Addr} {osl : Array (Option Value)} {N : List Str}
    (lk : K.lookup f = some ⟨oc, od, .func (PySem.W.fnOf name qual params body scope dV kV doc pm an cdv ct), osl⟩) (hcd : PySem.W.codeIn K cdv qual = true) (S : FnScope N ps scope) (len : ∀ vs H Q E, sp vs H Q E → vs.length = ps.length)
    (hbody : ∀ (A : Around) (outer : List Env) (s : Shared) (H : Hp) (vs : List V) (Q : VK) (E : XK), Room k (A.deeper (envOfC qual scope s.heap.objs.size f cdv)) → NoShow A → HOk P w H s.heap → sp vs H Q E →
      ∃ t, PSs (cxOf CX P w K mg base N qual scope f cdv A outer s H E) body t ∧ t { nx := fun _ H' => Q .non H', rt := Q } (start N vs) H) :
    FnG P w K mg base CX (k + 1) f (PySem.W.fnOf name qual params body scope dV kV doc pm an cdv ct) ps sp := by
  refine ⟨len, fun A outer s H args us vs Q E hr ns e0 hb rv hsp => ?_⟩
  have inK : K.In s.heap := e0.mod.kin.keeps fun b o e => (e0.bs b o e).1
  have free : s.heap.NoLimit := e0.mod.nolimit.keeps fun b o e => (e0.bs b o e).1
  have hkind : ∀ y ∈ ps.zip us, scope.names.lookup y.1 = some .local ∨ (scope.names.lookup y.1 = some .cell ∧ ((cellsFrom (s.heap.objs.size + 1) scope.names []).lookup y.1).isSome = true) := fun ⟨n, v⟩ hy =>
    (S.par n (List.of_mem_zip hy).1).elim .inl fun q => .inr ⟨q, PySem.W.cellsFrom_some _ _ _ (.inl q)⟩
  refine codeAny_call_function hr.depth (inK _ _ lk) rfl S.co S.gen rfl (PySem.W.codeRec_of inK hcd) (hb _ _ _ _ ?_)
  refine wpAny_newFunctionEnv_cells S.kind hkind fun env he s1 x => ?_
  subst he
  refine ⟨free.keeps x.toInCall.keep, codeAny_func ?_⟩
  obtain ⟨t, ht, hq⟩ := hbody A outer s H vs Q E (hr.deeper _) ns e0.hok hsp
  have I : Inv (cxOf CX P w K mg base N qual scope f cdv A outer s H E) [] (start N vs) H s1 := inv_start S hr.hd e0 (len _ _ _ _ hsp) rv x
  refine wpAny_mono (ht.run [] s1 (start N vs) H _ I hq) (fun fl s' hs => ?_) fun e s' hs => hs
  cases fl with
  | ret u =>
    obtain ⟨v, σ', H', J, r', q⟩ := hs
    exact ⟨v, H', J.os, J.bare, J.base, J.hok, r', q⟩
  | next =>
    obtain ⟨σ', H', J, q⟩ := hs
    exact ⟨V.non, H', J.os, J.bare, J.base, J.hok, rfl, q⟩
  | brk =>
    obtain ⟨_, _, _, q⟩ := hs
    exact q.elim
  | cont =>
    obtain ⟨_, _, _, q⟩ := hs
    exact q.elim
/-- by the words of HandS: no exception leaves -/
theorem fun_okG {x qual : Str} {st : Stmt} {N : List Str} (F : Fun K x qual st f fd) (S : FnScope N ps (defScope st)) (len : ∀ vs H Q E, sp vs H Q E → vs.length = ps.length)
    (hbody : ∀ (cdv : Value) (A : Around) (outer : List Env) (s : Shared) (H : Hp) (vs : List V) (Q : VK) (E : XK), Room k (A.deeper (envOfC qual (defScope st) s.heap.objs.size f cdv)) → NoShow A → HOk P w H s.heap → sp vs H Q E →
      ∃ t, PSs (cxOf CX0 P w K mg base N qual (defScope st) f cdv A outer s H E).nox (defBody st) t ∧ t { nx := fun _ H' => Q .non H', rt := Q } (start N vs) H) : FnG P w K mg base CX0 (k + 1) f fd ps sp := by
  obtain ⟨oc, od, kV, doc, pm, an, cdv, ct, osl, rfl, lk, hcd⟩ := F.ex
  refine fng_of lk hcd S len fun A outer s H vs Q E hr ns hok hsp => ?_
  obtain ⟨t, h, q⟩ := hbody cdv A outer s H vs Q E hr ns hok hsp
  exact ⟨t, h.nox, q⟩
/-- .. where one may leave -/
theorem fun_okGX {x qual : Str} {st : Stmt} {N : List Str} (F : Fun K x qual st f fd) (S : FnScope N ps (defScope st)) (len : ∀ vs H Q E, sp vs H Q E → vs.length = ps.length)
    (hbody : ∀ (cdv : Value) (A : Around) (outer : List Env) (s : Shared) (H : Hp) (vs : List V) (Q : VK) (E : XK), Room k (A.deeper (envOfC qual (defScope st) s.heap.objs.size f cdv)) → NoShow A → HOk P w H s.heap → sp vs H Q E →
      ∃ t, PSs (cxOf (L2.CX P w) P w K mg base N qual (defScope st) f cdv A outer s H E) (defBody st) t ∧ t { nx := fun _ H' => Q .non H', rt := Q } (start N vs) H) : FnG P w K mg base (L2.CX P w) (k + 1) f fd ps sp := by
  obtain ⟨oc, od, kV, doc, pm, an, cdv, ct, osl, rfl, lk, hcd⟩ := F.ex
  exact fng_of lk hcd S len fun A outer s H vs Q E hr ns hok hsp => hbody cdv A outer s H vs Q E hr ns hok hsp
end

section
variable {X : Cx} {CX : CXT} {k : Nat} {f : Addr} {fd : FuncData} {ps : List Str} {sp : Sp} {dvs : List V} {ds : List Value} {E : XK} {x : Str} {p pos : Pos} {e : Expr} {es : List Expr} {t : TA}
theorem run_fng {pins : List (Addr × Obj)} {σ : L2.St} {H : Hp} {s : Shared} {Q : VK} {us : List Value} {vs : List V} (F : FnG X.prog X.w X.K X.mg X.base CX k f fd ps sp) (hr : Room k X.A) (ns : NoShow X.A) (hb : Binds X.K fd ps ds) (hd : Vals dvs ds) (hx : Passes CX X E)
    (I : Inv X pins σ H s) (r : Vals vs us) (h : sp (vs ++ dvs) H Q E) : wpAny (model X.prog X.w) X.A (call (.ref f) us) (EP X pins σ Q) X.xe s := by
  have hl : (us ++ ds).length = ps.length := by rw [← (r.append hd).length]; exact F.len _ _ _ _ h
  refine wpAny_call (codeAny_mono (F.run X.A X.stack s H ⟨us, []⟩ (us ++ ds) (vs ++ dvs) Q E hr ns I.env0 (hb s us I.kIn hl) (r.append hd) h) fun q s' hq => ?_)
  cases q with
  | error e => exact hx pins σ H s e s' I hq
  | ok fl =>
    cases fl with
    | ret u => exact I.after hq
    | next => exact False.elim hq
    | brk => exact False.elim hq
    | cont => exact False.elim hq
theorem pe_callG (F : FnG X.prog X.w X.K X.mg X.base CX k f fd ps sp) (hr : Room k X.A) (ns : NoShow X.A) (hg : Gl X x) (hm : X.mg x = some (.ref f)) (hk : PySem.W.keepIn X.K (.ref f) = true) (hb : Binds X.K fd ps ds) (hd : Vals dvs ds) (hx : Passes CX X E)
    (ha : PA X (e :: es) t) (hdb : (x == ("__debug__" : Str)) = false := by decide) (he : starEach (e :: es) X.env = (false, eval e X.env) :: starEach es X.env := by rfl) (hpl : (backTo pos (starEach es X.env)).any (·.1) = false := by rfl) :
    PE X (.Call (.Name x p) (e :: es) [] pos) (tCall sp dvs E t) := by
  refine ⟨fun pins s σ H Q I h => wpAny_Call_Name_kw (ld_glob I hg hm ?_ hdb)⟩
  exact PySem.W.callWith_K (h₀ := X.base) I.ok.mod.kin hk (thn (ha.run pos pins s σ H _ I h) fun us s1 ⟨vs, H1, I1, r, q⟩ => ⟨I1.kIn, run_fng F hr ns hb hd hx I1 r q⟩) he hpl
theorem pe_callG0 (F : FnG X.prog X.w X.K X.mg X.base CX k f fd ps sp) (hr : Room k X.A) (ns : NoShow X.A) (hg : Gl X x) (hm : X.mg x = some (.ref f)) (hk : PySem.W.keepIn X.K (.ref f) = true) (hb : Binds X.K fd ps ds) (hd : Vals dvs ds) (hx : Passes CX X E)
    (hdb : (x == ("__debug__" : Str)) = false := by decide) : PE X (.Call (.Name x p) [] [] pos) (tCall sp dvs E tNil) :=
  ⟨fun pins s σ H Q I h => wpAny_Call_Name_kw (ld_glob I hg hm (PySem.W.callWith_K0 I.kIn hk (run_fng (us := []) F hr ns hb hd hx I .nil h)) hdb)⟩
end

/-! ### repr -/
theorem boot_repr : bootBuiltins "repr" = some (.builtin "repr") := by decide +kernel
/-- no dict within -/
theorem Dp.nodict {K : PySem.W.Frag} {H : Hp} : ∀ {d : PyData} {v : V}, Dp K H v d → d.hasDict = false
  | .none, _, _ => rfl
  | .bool _, _, _ => rfl
  | .int _, _, _ => rfl
  | .str _, _, _ => rfl
  | .list ds, _, h => by
    cases h with
    | lst _ h =>
      show PyData.hasDictAll ds = false
      exact DpAllNo h
  | .tuple ds, _, h => by
    cases h with
    | tup _ h =>
      show PyData.hasDictAll ds = false
      exact DpAllNo h
where DpAllNo {K : PySem.W.Frag} {H : Hp} : ∀ {ds : List PyData} {vs : List V}, DpAll K H vs ds → PyData.hasDictAll ds = false
  | [], _, _ => rfl
  | d :: ds, _, h => by
    cases h with
    | cons h1 h2 =>
      show (d.hasDict || PyData.hasDictAll ds) = false
      rw [Dp.nodict h1, DpAllNo h2]; rfl
/-- repr of data -/
def rRepr (K : PySem.W.Frag) : List V → Hp → VK → Prop := fun xs H Q => ∃ v d, xs = [v] ∧ Dp K H v d ∧ d.showable = true ∧ d.depth < 64 ∧ d.shown.length ≤ sizeLine ∧ Q (.str d.shown) H
theorem call_repr {X : Cx} {k : Nat} (hr : Room k X.A) (ns : NoShow X.A) : CallR X (.builtin "repr") (rRepr X.K) := by
  intro pins s σ H xs us Q I r h
  obtain ⟨v, d, rfl, hd, hsh, hdp, hz, q⟩ := h
  obtain ⟨u, rfl, ru⟩ := vals1 r
  have hu := hr.units
  cases hd with
  | non =>
    obtain rfl : u = Value.none := ru
    exact PySem.P.repr_of_none ⟨.str "None", H, I.tok _, ⟨_, rfl⟩, q⟩
  | bl b =>
    obtain rfl : u = Value.bool b := ru
    exact PySem.P.repr_of_bool ⟨.str (PyData.bool b).shown, H, I.tok _, ⟨_, rfl⟩, q⟩
  | int i =>
    obtain ⟨t, rfl⟩ := ru
    exact PySem.P.repr_of_int (by simpa [PyData.showable] using hsh) ⟨.str (PyData.int i).shown, H, I.tok _, ⟨_, rfl⟩, q⟩
  | str x =>
    obtain ⟨t, rfl⟩ := ru
    exact PySem.P.repr_of_str ⟨.str (PyData.str x).shown, H, I.tok _, ⟨_, rfl⟩, q⟩ hz
  | lst hq ha =>
    obtain rfl : u = Value.ref _ := ru
    obtain ⟨as, hrd⟩ := Dp.reads I _ _ _ (Dp.lst hq ha) rfl
    exact repr_of_reads' hrd hsh (fun z => by rw [Dp.nodict (Dp.lst hq ha)] at z; cases z) ns (by omega) (fun _ _ e => e)
      (fun h' u tk hk => ⟨.str _, H, I.kept (t' := tk) hk, ⟨_, rfl⟩, q⟩) hz
  | tup hq ha =>
    obtain rfl : u = Value.ref _ := ru
    obtain ⟨as, hrd⟩ := Dp.reads I _ _ _ (Dp.tup hq ha) rfl
    exact repr_of_reads' hrd hsh (fun z => by rw [Dp.nodict (Dp.tup hq ha)] at z; cases z) ns (by omega) (fun _ _ e => e)
      (fun h' u tk hk => ⟨.str _, H, I.kept (t' := tk) hk, ⟨_, rfl⟩, q⟩) hz

/-! ### the law's own end -/
/-- the law's promise at the heap behind the top -/
theorem law_callG {P : Program} {w : World} {K : PySem.W.Frag} {mg mb : Str → Option Value} {CX : CXT} {k : Nat} {fa a : Addr} {fd : FuncData} {x : Str} {sp : Sp} {s₁ : Shared} {vs : List Value} {ns : List Int}
    (KX : K.In s₁.heap) (hns : s₁.heap.Ns mainGlobals mg) (hb : s₁.heap.Ns builtinsNs mb) (hbb : ∀ x : Str, x ≠ "__name__" → mb x = bootBuiltins x) (lim : s₁.heap.NoLimit) (hg : s₁.gens = #[])
    (ha : s₁.heap.get? a = some { cls := .type "list", data := .seq vs.toArray }) (hi : IntsAre vs ns) (hl : ns.length ≤ sizeLine) (hr : Room k callerA)
    (F : ∀ base : Heap, K.In base → base.Ns mainGlobals mg → FnG P w K mg base CX k fa fd [x] sp) (hbind : ∀ (s : Shared) (u : Value), BindsTo s fd ⟨[u], []⟩ [(x, u)])
    (hsp : ∀ H : Hp, Only H → SqL K H a (ns.map V.int) → sp [.ref a] H (fun v _ => v = .bl true) fun _ _ _ => False)
    (hCX : ∀ H e s', CX [] H s₁ (fun _ _ _ => False) e s' → False) :
    codeAny (model P w) callerA (.call (.ref fa) ⟨[.ref a], []⟩) (fun q s' => q = .ok (.ret (.bool true)) ∧ OldK s₁.heap s'.heap ∧ s'.os = s₁.os ∧ AllBare s'.gens) s₁ := by
  have rv := vals_ints hi
  have lenV := hi.length
  have nobody : ∀ b : Addr, b ∉ frs ([] : List Env) := fun b z => absurd (show b ∈ ([] : List Addr) from z) (by simp)
  -- H tracks the script at most
  have go : ∀ H : Hp, Only H → SqL K H a (ns.map V.int) → HOk P w H s₁.heap → (∀ b, H b ≠ none → b = a) → (H a ≠ none → K.lookup a = none) →
      codeAny (model P w) callerA (.call (.ref fa) ⟨[.ref a], []⟩) (fun q s' => q = .ok (.ret (.bool true)) ∧ OldK s₁.heap s'.heap ∧ s'.os = s₁.os ∧ AllBare s'.gens) s₁ := by
    intro H hO hS hok hA hK
    have noD : ∀ {b : Addr} {o : Obj} {es : Array DictEntry} {ep : Nat}, s₁.heap.get? b = some o → o.data = .dict es ep → H b = none := fun {b o es ep} e d => by
      cases q : H b with
      | none => rfl
      | some u =>
        obtain rfl := hA b (by rw [q]; simp)
        rw [ha] at e; cases e
        exact nomatch (show Data.seq vs.toArray _ = Data.dict es ep from d)
    have nsT : ∀ {b : Addr} {m : Str → Option Value}, s₁.heap.Ns b m → (hidT s₁.heap H).Ns b m := fun {b m} ⟨o, es, ep, e, d, q⟩ => ⟨o, es, ep, hidT_get e (noD e d), d, q⟩
    have inB : K.In (hidT s₁.heap H) := fun b o e => hidT_get (KX b o e) (by
      cases q : H b with
      | none => rfl
      | some u =>
        obtain rfl := hA b (by rw [q]; simp)
        rw [hK (by rw [q]; simp)] at e; cases e)
    have md : Mod K mg (hidT s₁.heap H) := ⟨inB, nsT hns, ⟨mb, nsT hb, hbb⟩, let ⟨mc, h1, h2⟩ := lim; ⟨mc, nsT h1, h2⟩⟩
    have e0 : Env0 P w K mg (hidT s₁.heap H) callerA [] s₁ H := ⟨rfl, md, fun b o e => of_hidT e, Nat.le_of_eq (hidT_size _ _), trivial, fun b hb => absurd hb (nobody b), hok, .of_eq hg⟩
    refine codeAny_mono ((F _ inB (nsT hns)).run callerA [] s₁ H ⟨[.ref a], []⟩ [.ref a] [.ref a] _ _ hr rfl e0 (hbind s₁ (.ref a)) (.cons rfl .nil) (hsp H hO hS)) fun q s' h => ?_
    cases q with
    | error e => exact (hCX H e s' h).elim
    | ok fl =>
      cases fl with
      | next => exact False.elim h
      | brk => exact False.elim h
      | cont => exact False.elim h
      | ret u =>
        obtain ⟨v, H', os, bare, un, hok', r', ev⟩ := h
        obtain rfl : v = .bl true := ev
        obtain rfl : u = Value.bool true := r'
        refine ⟨rfl, OldK.of_keep fun b o e => ?_, os, bare⟩
        cases q : H b with
        | none => exact un.keep b o e q (nobody b) (by simp)
        | some u =>
          rcases hO b with z | ⟨ob, xs, z⟩
          · rw [q] at z; cases z
          · have y1 := (hok b _ z).1
            have y2 := (hok' b _ (un.frzs b ob _ z)).1
            rw [e] at y1; cases y1
            exact y2
  cases hk : K.lookup a with
  | some o =>
    have e := KX a o hk
    rw [ha] at e
    cases e
    refine go (fun _ => none) (fun _ => .inl rfl) (.inr ⟨_, vs.toArray, _, hk, rfl, rfl, rfl, by rw [List.size_toArray, lenV]; exact hl, by simpa using rv⟩) (fun b u z => nomatch (show (none : Option HO) = some u from z)) (fun b z => absurd rfl z) fun z => absurd rfl z
  | none =>
    refine go (fun b => if b = a then some (.frz { cls := .type "list", data := .seq vs.toArray } (.lst (ns.map V.int))) else none) (fun b => ?_) (.inl (.inr ⟨{ cls := .type "list", data := .seq vs.toArray }, if_pos rfl⟩)) (fun b u z => ?_) (fun b z => ?_) fun _ => hk
    · by_cases hb : b = a
      · exact .inr ⟨_, _, if_pos hb⟩
      · exact .inl (if_neg hb)
    · by_cases hb : b = a
      · have y := (if_pos hb).symm.trans z
        cases y
        subst hb
        exact ⟨ha, by rw [List.length_map]; exact hl, vs, _, rv, ha⟩
      · exact nomatch ((if_neg hb).symm.trans z)
    · by_cases hb : b = a
      · exact hb
      · exact absurd (if_neg hb) z
theorem walk_ofG {l : PySem.W.OpenLaw} {n k : Nat} {q : Program} {loose : List Str} {XP : (Str → Option Value) → Heap → Prop} {YP : World → Heap → Prop} {d : DefRec} {K : Params → PySem.W.Frag} {CX : World → CXT} {sp : World → Sp} {x : Str}
    (hn : l.most = some n) (hn2 : n ≤ sizeLine) (hdf : d.params.defaults = []) (hr : Room k callerA) (hY : ∀ (w : World) (h : Heap), YP w h → (K w.params).In h)
    (F : ∀ (w : World) (mg : Str → Option Value) (fa : Addr) (h : Heap), (K w.params).In h → h.Ns mainGlobals mg → mg d.name = some (.ref fa) →
      ∃ fd : FuncData, (∀ (s : Shared) (u : Value), BindsTo s fd ⟨[u], []⟩ [(x, u)]) ∧ ∀ base : Heap, (K w.params).In base → base.Ns mainGlobals mg → FnG l.prog w (K w.params) mg base (CX w) k fa fd [x] (sp w))
    (hsp : ∀ (w : World) (H : Hp) (a : Addr) (ns : List Int), ns.length ≤ n → Only H → SqL (K w.params) H a (ns.map V.int) → sp w [.ref a] H (fun v _ => v = .bl true) fun _ _ _ => False)
    (hCX : ∀ (w : World) (H : Hp) (s : Shared) (e : Value) (s' : Shared), CX w [] H s (fun _ _ _ => False) e s' → False) :
    PySem.W.WalkO q loose XP YP l.row.toRowW d [] (fun f vs => PySem.call f vs) := by
  refine Att.attach_call hn hdf fun w s₀ s₁ mg mb fa o pm cd doc a vs ns G Y ho hd hcd hmg hobj hints hlen hg => ?_
  obtain ⟨fd, hb, hF⟩ := F w mg fa _ (hY w _ Y) G.T.g hmg
  exact law_callG (hY w _ Y) G.T.g G.T.b G.T.builtins G.T.nolimit hg hobj hints (Nat.le_trans hlen hn2) hr hF hb (fun H hO hS => hsp w H a ns hlen hO hS) fun H e s' => hCX w H s₁ e s'
end KG

end

section
set_option maxHeartbeats 1000000
/-! KTerm: terms as trees and as lists of codes; steps down. Plain Lean. -/
namespace KT

inductive T where
  | lf (c : Nat)
  | nd (l r : T)
  deriving DecidableEq, Repr

def isL (c : Nat) : Bool := decide (97 ≤ c) && decide (c ≤ 122)
theorem isL_ne {c : Nat} (h : isL c = true) : c ≠ 42 := by
  unfold isL at h
  simp at h
  omega
def enc : T → List Nat
  | .lf c => [c]
  | .nd l r => 42 :: (enc l ++ enc r)
def ok : T → Bool
  | .lf c => isL c
  | .nd l r => ok l && ok r
/-- the number of letters -/
def sz : T → Nat
  | .lf _ => 1
  | .nd l r => sz l + sz r
theorem sz_pos : ∀ t, 1 ≤ sz t
  | .lf _ => Nat.le_refl _
  | .nd l r => by have := sz_pos l; simp only [sz]; omega
theorem enc_len : ∀ t, (enc t).length + 1 = 2 * sz t
  | .lf _ => rfl
  | .nd l r => by
    have h1 := enc_len l
    have h2 := enc_len r
    simp only [enc, sz, List.length_cons, List.length_append]; omega
theorem enc_pos (t : T) : 1 ≤ (enc t).length := by have := enc_len t; have := sz_pos t; omega
theorem ok_nd {l r : T} : ok (.nd l r) = true ↔ ok l = true ∧ ok r = true := by simp [ok]

/-- the length of as many terms as are wanted -/
def eat : Nat → List Nat → Nat
  | 0, _ => 0
  | _ + 1, [] => 0
  | w + 1, c :: r => 1 + eat (if c = 42 then w + 2 else w) r
theorem eat_enc : ∀ (t : T), ok t = true → ∀ (w : Nat) (r : List Nat), eat (w + 1) (enc t ++ r) = (enc t).length + eat w r
  | .lf c, h, w, r => by
    have hc : c ≠ 42 := isL_ne h
    show eat (w + 1) (c :: r) = 1 + eat w r
    simp only [eat, if_neg hc]
  | .nd a b, h, w, r => by
    obtain ⟨ha, hb⟩ := ok_nd.mp h
    show eat (w + 1) (42 :: (enc a ++ enc b) ++ r) = _
    simp only [List.cons_append, eat, if_true, List.append_assoc]
    rw [eat_enc a ha (w + 1) (enc b ++ r), eat_enc b hb w r]
    simp only [enc, List.length_cons, List.length_append]; omega
theorem eat_one {t : T} (h : ok t = true) (r : List Nat) : eat 1 (enc t ++ r) = (enc t).length := by
  rw [eat_enc t h 0 r]; simp [eat]
/-- so many terms, one behind the other -/
def encs (ts : List T) : List Nat := (ts.map enc).flatten
theorem encs_nil : encs [] = [] := rfl
theorem encs_cons (t : T) (ts : List T) : encs (t :: ts) = enc t ++ encs ts := rfl

/-- the test of a term -/
def scan : Nat → List Nat → Bool
  | w, [] => w == 0
  | w, c :: r => if w = 0 ∨ (c ≠ 42 ∧ isL c = false) then false else scan (if c = 42 then w + 1 else w - 1) r
def isT (l : List Nat) : Bool := (decide (1 ≤ l.length) && decide (l.length ≤ 399)) && scan 1 l
theorem scan_enc : ∀ (t : T), ok t = true → ∀ (w : Nat) (r : List Nat), scan (w + 1) (enc t ++ r) = scan w r
  | .lf c, h, w, r => by
    have hc : c ≠ 42 := isL_ne h
    have hl : isL c = true := h
    show scan (w + 1) (c :: r) = _
    rw [scan, if_neg (by simp [hl]), if_neg hc]
    simp
  | .nd a b, h, w, r => by
    obtain ⟨ha, hb⟩ := ok_nd.mp h
    show scan (w + 1) (42 :: (enc a ++ enc b) ++ r) = _
    rw [List.cons_append, scan, if_neg (by simp), if_pos rfl, List.append_assoc, scan_enc a ha (w + 1) (enc b ++ r), scan_enc b hb w r]
theorem isT_enc {t : T} (h : ok t = true) (hz : sz t ≤ 200) : isT (enc t) = true := by
  have h1 := scan_enc t h 0 []
  rw [List.append_nil] at h1
  have h2 := enc_len t
  have h3 := sz_pos t
  unfold isT
  rw [h1]
  simp [scan]
  omega
theorem isT_more {t : T} (h : ok t = true) (c : Nat) : isT (enc t ++ [c]) = false := by
  have h1 := scan_enc t h 0 [c]
  unfold isT
  rw [h1]
  simp [scan]
theorem isT_less {t : T} (h : ok t = true) : isT (42 :: enc t) = false := by
  have h1 := scan_enc t h 1 []
  rw [List.append_nil] at h1
  unfold isT
  rw [scan, if_neg (by simp), if_pos rfl, h1]
  simp [scan]
/-- scanned text is made of terms -/
theorem of_scan : ∀ (n : Nat) (l : List Nat) (w : Nat), l.length ≤ n → scan w l = true → ∃ ts : List T, ts.length = w ∧ (∀ t ∈ ts, ok t = true) ∧ l = encs ts := by
  intro n
  induction n with
  | zero =>
    intro l w hl h
    have : l = [] := List.length_eq_zero_iff.mp (by omega)
    subst this
    refine ⟨[], ?_, by simp, rfl⟩
    simp [scan] at h
    exact h.symm
  | succ n ih =>
    intro l w hl h
    cases l with
    | nil =>
      refine ⟨[], ?_, by simp, rfl⟩
      simp [scan] at h
      exact h.symm
    | cons c r =>
      rw [scan] at h
      by_cases hb : w = 0 ∨ (c ≠ 42 ∧ isL c = false)
      · rw [if_pos hb] at h; cases h
      · rw [if_neg hb] at h
        have hw : w ≠ 0 := fun z => hb (.inl z)
        have hlr : r.length ≤ n := by simp only [List.length_cons] at hl; omega
        by_cases hc : c = 42
        · rw [if_pos hc] at h
          obtain ⟨ts, h1, h2, h3⟩ := ih r (w + 1) hlr h
          match ts, h1, h2, h3 with
          | a :: b :: ts, h1, h2, h3 =>
            refine ⟨.nd a b :: ts, by simp only [List.length_cons] at h1 ⊢; omega, fun t ht => ?_, ?_⟩
            · rcases List.mem_cons.mp ht with z | z
              · rw [z]; exact ok_nd.mpr ⟨h2 a (by simp), h2 b (by simp)⟩
              · exact h2 t (by simp [z])
            · rw [h3, hc, encs_cons, encs_cons, encs_cons]
              simp [enc]
          | [a], h1, _, _ => simp only [List.length_cons, List.length_nil] at h1; omega
          | [], h1, _, _ => simp only [List.length_nil] at h1; omega
        · rw [if_neg hc] at h
          have hl' : isL c = true := by
            cases q : isL c with
            | true => rfl
            | false => exact absurd (.inr ⟨hc, q⟩) hb
          obtain ⟨ts, h1, h2, h3⟩ := ih r (w - 1) hlr h
          refine ⟨.lf c :: ts, by simp only [List.length_cons]; omega, fun t ht => ?_, ?_⟩
          · rcases List.mem_cons.mp ht with z | z
            · rw [z]; exact hl'
            · exact h2 t z
          · rw [h3, encs_cons]; rfl
theorem isT_iff (l : List Nat) : isT l = true ↔ ∃ t, ok t = true ∧ sz t ≤ 200 ∧ l = enc t := by
  constructor
  · intro h
    unfold isT at h
    simp only [Bool.and_eq_true, decide_eq_true_eq] at h
    obtain ⟨⟨h1, h2⟩, h3⟩ := h
    obtain ⟨ts, h4, h5, h6⟩ := of_scan _ l 1 (Nat.le_refl _) h3
    match ts, h4, h5, h6 with
    | [t], _, h5, h6 =>
      have e : l = enc t := by rw [h6, encs_cons, encs_nil, List.append_nil]
      refine ⟨t, h5 t (by simp), ?_, e⟩
      have := enc_len t
      rw [← e] at this
      omega
  · rintro ⟨t, h1, h2, rfl⟩
    exact isT_enc h1 h2

/-- terms are read in one way -/
theorem enc_inj : ∀ (t u : T), ok t = true → ok u = true → ∀ (r s : List Nat), enc t ++ r = enc u ++ s → t = u ∧ r = s
  | .lf c, .lf d, _, _, r, s, h => by
    have h' : c :: r = d :: s := h
    injection h' with h1 h2
    exact ⟨by rw [h1], h2⟩
  | .lf c, .nd a b, h1, _, r, s, h => by
    have h' : c :: r = 42 :: ((enc a ++ enc b) ++ s) := h
    injection h' with h2 _
    exact absurd h2 (isL_ne h1)
  | .nd a b, .lf c, _, h1, r, s, h => by
    have h' : 42 :: ((enc a ++ enc b) ++ r) = c :: s := h
    injection h' with h2 _
    exact absurd h2.symm (isL_ne h1)
  | .nd a b, .nd c d, h1, h2, r, s, h => by
    have h' : 42 :: ((enc a ++ enc b) ++ r) = 42 :: ((enc c ++ enc d) ++ s) := h
    injection h' with _ h3
    rw [List.append_assoc, List.append_assoc] at h3
    obtain ⟨e1, e2⟩ := enc_inj a c (ok_nd.mp h1).1 (ok_nd.mp h2).1 _ _ h3
    obtain ⟨e3, e4⟩ := enc_inj b d (ok_nd.mp h1).2 (ok_nd.mp h2).2 _ _ e2
    exact ⟨by rw [e1, e3], e4⟩
theorem enc_inj' {t u : T} (h1 : ok t = true) (h2 : ok u = true) (h : enc t = enc u) : t = u :=
  (enc_inj t u h1 h2 [] [] (by rw [h])).1

/-- the parts of a term in the order of their begins, each with what stands around it -/
def subs : T → List (T × (T → T))
  | .lf c => [(.lf c, fun x => x)]
  | .nd a b => (.nd a b, fun x => x) :: ((subs a).map (fun p => (p.1, fun x => .nd (p.2 x) b)) ++ (subs b).map (fun p => (p.1, fun x => .nd a (p.2 x))))
theorem subs_len : ∀ t, (subs t).length = (enc t).length
  | .lf _ => rfl
  | .nd a b => by simp only [subs, enc, List.length_cons, List.length_append, List.length_map, subs_len a, subs_len b]
/-- where a part begins -/
theorem subs_at : ∀ (t : T) (i : Nat) (s : T) (f : T → T), (subs t)[i]? = some (s, f) →
    (∀ x, enc (f x) = (enc t).take i ++ enc x ++ (enc t).drop (i + (enc s).length)) ∧ (enc t).drop i = enc s ++ (enc t).drop (i + (enc s).length) ∧ f s = t ∧
    (ok t = true → ok s = true ∧ ∀ x, ok x = true → ok (f x) = true) ∧ ∀ x, sz (f x) + sz s = sz t + sz x
  | .lf c, i, s, f, h => by
    cases i with
    | succ i => simp [subs] at h
    | zero =>
      simp only [subs, List.getElem?_cons_zero, Option.some.injEq, Prod.mk.injEq] at h
      obtain ⟨rfl, rfl⟩ := h
      exact ⟨fun x => by simp [enc], by simp [enc], rfl, fun h => ⟨h, fun _ h => h⟩, fun x => Nat.add_comm _ _⟩
  | .nd a b, i, s, f, h => by
    cases i with
    | zero =>
      simp only [subs, List.getElem?_cons_zero, Option.some.injEq, Prod.mk.injEq] at h
      obtain ⟨rfl, rfl⟩ := h
      exact ⟨fun x => by simp, by simp, rfl, fun h => ⟨h, fun _ h => h⟩, fun x => Nat.add_comm _ _⟩
    | succ i =>
      simp only [subs, List.getElem?_cons_succ] at h
      by_cases hi : i < (subs a).length
      · rw [List.getElem?_append_left (by simpa using hi), List.getElem?_map] at h
        cases q : (subs a)[i]? with
        | none => rw [q] at h; cases h
        | some p =>
          obtain ⟨s', f'⟩ := p
          rw [q] at h
          simp only [Option.map_some, Option.some.injEq, Prod.mk.injEq] at h
          obtain ⟨rfl, rfl⟩ := h
          obtain ⟨h1, h2, h3, h4, h5⟩ := subs_at a i s' f' q
          have hl : i + (enc s').length ≤ (enc a).length := by
            have e := congrArg List.length h2
            have hi' : i < (enc a).length := by rw [← subs_len]; exact hi
            simp only [List.length_drop, List.length_append] at e
            by_cases hq : i + (enc s').length ≤ (enc a).length
            · exact hq
            · omega
          have hi' : i ≤ (enc a).length := by rw [← subs_len]; omega
          have e0 : i + 1 + (enc s').length = (i + (enc s').length) + 1 := by omega
          refine ⟨fun x => ?_, ?_, by show T.nd (f' s') b = _; rw [h3], fun h => ⟨(h4 (ok_nd.mp h).1).1, fun x hx => ok_nd.mpr ⟨(h4 (ok_nd.mp h).1).2 x hx, (ok_nd.mp h).2⟩⟩, fun x => ?_⟩
          · simp only [enc]
            rw [h1 x, e0, List.take_succ_cons, List.drop_succ_cons, List.take_append_of_le_length hi', List.drop_append_of_le_length hl]
            simp
          · simp only [enc]
            rw [e0, List.drop_succ_cons, List.drop_succ_cons, List.drop_append_of_le_length hi', List.drop_append_of_le_length hl, h2]
            simp
          · have := h5 x
            simp only [sz]; omega
      · rw [List.getElem?_append_right (by simpa using hi), List.getElem?_map] at h
        simp only [List.length_map] at h
        cases q : (subs b)[i - (subs a).length]? with
        | none => rw [q] at h; cases h
        | some p =>
          obtain ⟨s', f'⟩ := p
          rw [q] at h
          simp only [Option.map_some, Option.some.injEq, Prod.mk.injEq] at h
          obtain ⟨rfl, rfl⟩ := h
          obtain ⟨h1, h2, h3, h4, h5⟩ := subs_at b _ s' f' q
          rw [subs_len] at h1 h2 hi
          have hi' : (enc a).length ≤ i := by omega
          have e0 : i + 1 + (enc s').length = (i + (enc s').length) + 1 := by omega
          have e1 : i + (enc s').length - (enc a).length = i - (enc a).length + (enc s').length := by omega
          refine ⟨fun x => ?_, ?_, by show T.nd a (f' s') = _; rw [h3], fun h => ⟨(h4 (ok_nd.mp h).2).1, fun x hx => ok_nd.mpr ⟨(ok_nd.mp h).1, (h4 (ok_nd.mp h).2).2 x hx⟩⟩, fun x => ?_⟩
          · simp only [enc]
            rw [h1 x, e0, List.take_succ_cons, List.drop_succ_cons, List.take_append, List.drop_append, List.take_of_length_le hi', List.drop_of_length_le (by omega : (enc a).length ≤ i + (enc s').length), e1]
            simp
          · simp only [enc]
            rw [e0, List.drop_succ_cons, List.drop_succ_cons, List.drop_append, List.drop_append, List.drop_of_length_le hi', List.drop_of_length_le (by omega : (enc a).length ≤ i + (enc s').length), e1, h2]
            simp
          · have := h5 x
            simp only [sz]; omega
theorem subs_some (t : T) {i : Nat} (h : i < (enc t).length) : ∃ s f, (subs t)[i]? = some (s, f) := by
  rw [← subs_len] at h
  exact ⟨_, _, List.getElem?_eq_getElem h⟩

/-! ### the three rules -/
def red1 : T → List (Nat × T)
  | .nd (.nd _ y) (.nd y' _) => if y = y' then [(1, y)] else []
  | _ => []
def red2 : T → List (Nat × T)
  | .nd x (.nd (.nd x' y) _) => if x' = x then [(2, .nd x' y)] else []
  | _ => []
def red3 : T → List (Nat × T)
  | .nd (.nd _ (.nd y z')) z => if z' = z then [(3, .nd y z')] else []
  | _ => []
def red (t : T) : List (Nat × T) := red1 t ++ (red2 t ++ red3 t)
theorem red_lf (c : Nat) : red (.lf c) = [] := rfl
theorem red1_mem {t : T} {r : Nat} {u : T} : (r, u) ∈ red1 t ↔ ∃ x y z, t = .nd (.nd x y) (.nd y z) ∧ r = 1 ∧ u = y := by
  constructor
  · intro h
    match t, h with
    | .nd (.nd x y) (.nd y' z), h =>
      simp only [red1] at h
      by_cases e : y = y'
      · subst e
        rw [if_pos rfl] at h
        obtain ⟨h1, h2⟩ := Prod.mk.inj (List.mem_singleton.mp h)
        exact ⟨x, y, z, rfl, h1, h2⟩
      · rw [if_neg e] at h; simp at h
    | .lf _, h => simp [red1] at h
    | .nd (.lf _) _, h => simp [red1] at h
    | .nd (.nd _ _) (.lf _), h => simp [red1] at h
  · rintro ⟨x, y, z, rfl, rfl, rfl⟩
    simp [red1]
theorem red2_mem {t : T} {r : Nat} {u : T} : (r, u) ∈ red2 t ↔ ∃ x y z, t = .nd x (.nd (.nd x y) z) ∧ r = 2 ∧ u = .nd x y := by
  constructor
  · intro h
    match t, h with
    | .nd x (.nd (.nd x' y) z), h =>
      simp only [red2] at h
      by_cases e : x' = x
      · subst e
        rw [if_pos rfl] at h
        obtain ⟨h1, h2⟩ := Prod.mk.inj (List.mem_singleton.mp h)
        exact ⟨x', y, z, rfl, h1, h2⟩
      · rw [if_neg e] at h; simp at h
    | .lf _, h => simp [red2] at h
    | .nd _ (.lf _), h => simp [red2] at h
    | .nd _ (.nd (.lf _) _), h => simp [red2] at h
  · rintro ⟨x, y, z, rfl, rfl, rfl⟩
    simp [red2]
theorem red3_mem {t : T} {r : Nat} {u : T} : (r, u) ∈ red3 t ↔ ∃ x y z, t = .nd (.nd x (.nd y z)) z ∧ r = 3 ∧ u = .nd y z := by
  constructor
  · intro h
    match t, h with
    | .nd (.nd x (.nd y z')) z, h =>
      simp only [red3] at h
      by_cases e : z' = z
      · subst e
        rw [if_pos rfl] at h
        obtain ⟨h1, h2⟩ := Prod.mk.inj (List.mem_singleton.mp h)
        exact ⟨x, y, z', rfl, h1, h2⟩
      · rw [if_neg e] at h; simp at h
    | .lf _, h => simp [red3] at h
    | .nd (.lf _) _, h => simp [red3] at h
    | .nd (.nd _ (.lf _)) _, h => simp [red3] at h
  · rintro ⟨x, y, z, rfl, rfl, rfl⟩
    simp [red3]
theorem red_sz {t : T} {r : Nat} {u : T} (h : (r, u) ∈ red t) : sz u < sz t ∧ (ok t = true → ok u = true) ∧ r < 4 := by
  unfold red at h
  rcases List.mem_append.mp h with h | h
  · obtain ⟨x, y, z, rfl, rfl, rfl⟩ := red1_mem.mp h
    have := sz_pos x; have := sz_pos z; have := sz_pos u
    exact ⟨by simp only [sz]; omega, fun q => (ok_nd.mp (ok_nd.mp q).1).2, by omega⟩
  · rcases List.mem_append.mp h with h | h
    · obtain ⟨x, y, z, rfl, rfl, rfl⟩ := red2_mem.mp h
      have := sz_pos x; have := sz_pos z
      exact ⟨by simp only [sz]; omega, fun q => (ok_nd.mp (ok_nd.mp q).2).1, by omega⟩
    · obtain ⟨x, y, z, rfl, rfl, rfl⟩ := red3_mem.mp h
      have := sz_pos x; have := sz_pos z
      exact ⟨by simp only [sz]; omega, fun q => (ok_nd.mp (ok_nd.mp q).1).2, by omega⟩
/-- the steps down: index, rule, result -/
def stepsAt (i : Nat) (p : T × (T → T)) : List (Nat × Nat × T) := (red p.1).map fun q => (i, q.1, p.2 q.2)
def stepsFrom (i : Nat) : List (T × (T → T)) → List (Nat × Nat × T)
  | [] => []
  | p :: ps => stepsAt i p ++ stepsFrom (i + 1) ps
def steps (t : T) : List (Nat × Nat × T) := stepsFrom 0 (subs t)
end KT

end

section
set_option maxHeartbeats 1000000
/-! KOps: readings of operations that ask by the values at hand; texts by their codes. -/
namespace KG
open PySem PySem.Spec PyProof.Rows L2

/-- a text by its codes -/
def S (l : List Nat) : V := .str ⟨l.toArray⟩
theorem S_inj {a b : List Nat} : (S a = S b) ↔ a = b := by
  constructor
  · intro h
    have h1 : (⟨a.toArray⟩ : Str) = ⟨b.toArray⟩ := V.str.inj h
    have h2 : a.toArray = b.toArray := congrArg Str.cps h1
    exact List.toArray_inj h2
  · rintro rfl
    rfl
theorem str_len (l : List Nat) : (⟨l.toArray⟩ : Str).length = l.length := by simp [Str.length]
theorem str_cat (a b : List Nat) : (⟨a.toArray⟩ : Str) ++ ⟨b.toArray⟩ = ⟨(a ++ b).toArray⟩ := by
  show Str.append _ _ = _
  simp [Str.append]
theorem str_of (z : Str) : z = ⟨z.cps.toList.toArray⟩ := by cases z; simp
theorem V_str (z : Str) : V.str z = S z.cps.toList := by
  unfold S
  rw [← str_of]
/-- the bound of sizes that these readings ask -/
theorem line_ge : 1000000 ≤ sizeLine := by decide
theorem line_of {n : Nat} (h : n ≤ 1000000) : n ≤ sizeLine := Nat.le_trans h line_ge

section
variable {X : Cx} {pos : Pos}
theorem pe_S {x : Str} {j : Nat} (l : List Nat) (h : x.cps.toList = l) : PE X (.Constant (.str x) j pos) (tC (S l)) := by
  have e : V.str x = S l := by rw [V_str, h]
  rw [← e]
  exact pe_str
theorem pe_globS {x z : Str} (l : List Nat) (h : z.cps.toList = l) (hg : Gl X x) (hm : ∃ t, X.mg x = some (.str z t)) (hd : (x == ("__debug__" : Str)) = false := by decide) : PE X (.Name x pos) (tC (S l)) := by
  obtain ⟨t, hm⟩ := hm
  have e : V.str z = S l := by rw [V_str, h]
  rw [← e]
  exact pe_glob (v := .str z) hg hm ⟨t, rfl⟩ hd
theorem pe_globI {x : Str} {i : Int} (hg : Gl X x) (hm : ∃ t, X.mg x = some (.int i t)) (hd : (x == ("__debug__" : Str)) = false := by decide) : PE X (.Name x pos) (tC (.int i)) := by
  obtain ⟨t, hm⟩ := hm
  exact pe_glob (v := .int i) hg hm ⟨t, rfl⟩ hd
theorem pe_globR {x : Str} {a : Addr} (hg : Gl X x) (hm : X.mg x = some (.ref a)) (hd : (x == ("__debug__" : Str)) = false := by decide) : PE X (.Name x pos) (tC (.ref a)) := pe_glob (v := .ref a) hg hm rfl hd
end

/-! ### + -/
def kAdd (K : PySem.W.Frag) : R2 := fun x y H Q => match x, y with
  | .int i, .int j => Q (.int (i + j)) H
  | .str i, .str j => i.length + j.length ≤ 1000000 ∧ Q (.str (i ++ j)) H
  | .ref a, .ref b => rCat (.ref a) (.ref b) H Q ∨ rCatA K (.ref a) (.ref b) H Q
  | _, _ => False
section
variable {K : PySem.W.Frag} {H : Hp} {Q : VK}
theorem kAdd_i {i j : Int} : kAdd K (.int i) (.int j) H Q ↔ Q (.int (i + j)) H := Iff.rfl
theorem kAdd_s {i j : List Nat} : kAdd K (S i) (S j) H Q ↔ i.length + j.length ≤ 1000000 ∧ Q (S (i ++ j)) H := by
  show (_ ∧ Q (.str _) H) ↔ _
  rw [str_len, str_len, str_cat]
  exact Iff.rfl
theorem op_kAdd {X : Cx} : OpR X (binaryOp .Add) (kAdd X.K) := by
  intro pins s σ H x y v u Q I rx ry h
  cases x with
  | int i => cases y with
    | int j => exact op_add pins s σ H _ _ v u Q I rx ry ⟨i, j, rfl, rfl, h⟩
    | _ => exact False.elim h
  | str i => cases y with
    | str j => exact op_add_str pins s σ H _ _ v u Q I rx ry ⟨i, j, rfl, rfl, line_of h.1, h.2⟩
    | _ => exact False.elim h
  | ref a => cases y with
    | ref b =>
      rcases h with h | h
      · exact op_cat pins s σ H _ _ v u Q I rx ry h
      · exact op_catA pins s σ H _ _ v u Q I rx ry h
    | _ => exact False.elim h
  | _ => exact False.elim h
/-- x += e at a name -/
theorem ip_kAdd {X : Cx} : PIp X .Add (fun x y H Q => match x, y with | .int i, .int j => Q (.int (i + j)) H | .str i, .str j => i.length + j.length ≤ 1000000 ∧ Q (.str (i ++ j)) H | _, _ => False) := by
  intro pins s σ H x y v u Q I rx ry h
  cases x with
  | int i => cases y with
    | int j => exact iop_add pins s σ H _ _ v u Q I rx ry ⟨i, j, rfl, rfl, h⟩
    | _ => exact False.elim h
  | str i => cases y with
    | str j => exact iop_add_str pins s σ H _ _ v u Q I rx ry ⟨i, j, rfl, rfl, line_of h.1, h.2⟩
    | _ => exact False.elim h
  | _ => exact False.elim h
end

/-! ### ints -/
def kInt (C : Int → Int → Prop) (g : Int → Int → V) : R2 := fun x y H Q => match x, y with
  | .int i, .int j => C i j ∧ Q (g i j) H
  | _, _ => False
theorem kInt_i {C : Int → Int → Prop} {g : Int → Int → V} {i j : Int} {H : Hp} {Q : VK} : kInt C g (.int i) (.int j) H Q ↔ C i j ∧ Q (g i j) H := Iff.rfl
def kInt0 (g : Int → Int → V) : R2 := fun x y H Q => match x, y with
  | .int i, .int j => Q (g i j) H
  | _, _ => False
theorem kInt0_i {g : Int → Int → V} {i j : Int} {H : Hp} {Q : VK} : kInt0 g (.int i) (.int j) H Q ↔ Q (g i j) H := Iff.rfl
theorem op_kI {X : Cx} {f : Value → Value → Sem Value} {C : Int → Int → Prop} {g : Int → Int → V} (h : OpR X f (rI C g)) : OpR X f (kInt C g) := by
  intro pins s σ H x y v u Q I rx ry h'
  cases x with
  | int i => cases y with
    | int j => exact h pins s σ H _ _ v u Q I rx ry ⟨i, j, rfl, rfl, h'.1, h'.2⟩
    | _ => exact False.elim h'
  | _ => exact False.elim h'
theorem op_kI0 {X : Cx} {f : Value → Value → Sem Value} {g : Int → Int → V} (h : OpR X f (rI0 g)) : OpR X f (kInt0 g) := by
  intro pins s σ H x y v u Q I rx ry h'
  cases x with
  | int i => cases y with
    | int j => exact h pins s σ H _ _ v u Q I rx ry ⟨i, j, rfl, rfl, h'⟩
    | _ => exact False.elim h'
  | _ => exact False.elim h'
section
variable {X : Cx}
theorem op_kSub : OpR X (binaryOp .Sub) (kInt0 fun i j => .int (i - j)) := op_kI0 op_sub
theorem op_kFdiv : OpR X (binaryOp .FloorDiv) (kInt CDivW fun i j => .int (i / j)) := op_kI op_fdivW
theorem op_kMod : OpR X (binaryOp .Mod) (kInt (fun _ j => 0 < j) fun i j => .int (i % j)) := op_kI op_mod
theorem op_kPow : OpR X (binaryOp .Pow) (kInt CPow fun i j => .int (i ^ j.toNat)) := op_kI op_pow
theorem op_kLt : OpR X (compareOp .Lt) (kInt0 fun i j => .bl (decide (i < j))) := op_kI0 op_lt
theorem op_kLe : OpR X (compareOp .LtE) (kInt0 fun i j => .bl (decide (i ≤ j))) := op_kI0 op_le
theorem op_kGt : OpR X (compareOp .Gt) (kInt0 fun i j => .bl (decide (j < i))) := op_kI0 op_gt
theorem op_kGe : OpR X (compareOp .GtE) (kInt0 fun i j => .bl (decide (j ≤ i))) := op_kI0 op_ge
end
/-! ### * -/
def kMul (K : PySem.W.Frag) : R2 := fun x y H Q => match x, y with
  | .int i, .int j => (CMulW i j ∨ CMul i j) ∧ Q (.int (i * j)) H
  | .str z, .int k => 2 ≤ k ∧ k ≤ 1000 ∧ 1 ≤ z.length ∧ z.length ≤ 1000 ∧ Q (S (List.replicate k.toNat z.cps.toList).flatten) H
  | .ref a, .int k => rRep (.ref a) (.int k) H Q ∨ rRepT K (.ref a) (.int k) H Q
  | _, _ => False
theorem fold_cat (a : Array Nat) : ∀ (n : Nat) (acc : Array Nat), ((List.replicate n a).foldl (· ++ ·) acc).toList = acc.toList ++ (List.replicate n a.toList).flatten
  | 0, acc => by simp
  | n + 1, acc => by
    rw [List.replicate_succ, List.foldl_cons, fold_cat a n, List.replicate_succ, List.flatten_cons, Array.toList_append, List.append_assoc]
theorem op_mulStr {X : Cx} : OpR X (binaryOp .Mult) (fun x y H Q => ∃ (z : Str) (k : Int), x = .str z ∧ y = .int k ∧ 2 ≤ k ∧ k ≤ 1000 ∧ 1 ≤ z.length ∧ z.length ≤ 1000 ∧ Q (S (List.replicate k.toNat z.cps.toList).flatten) H) := by
  intro pins s σ H x y v u Q I rx ry h
  obtain ⟨z, k, rfl, rfl, k1, k2, z1, z2, q⟩ := h
  obtain ⟨t, rfl⟩ := rx
  obtain ⟨t', rfl⟩ := ry
  have hm : z.length * k.toNat ≤ 1000 * 1000 := Nat.mul_le_mul z2 (by omega)
  have e1 : ¬ k < 1 := by omega
  have e2 : (k == 1 || z.length == 0) = false := by
    rw [Bool.or_eq_false_iff]
    exact ⟨beq_eq_false_iff_ne.mpr (by omega), beq_eq_false_iff_ne.mpr (by omega)⟩
  have e3 : (⟨(List.replicate k.toNat z.cps).foldl (· ++ ·) #[]⟩ : Str) = ⟨((List.replicate k.toNat z.cps.toList).flatten).toArray⟩ := by
    have := fold_cat z.cps k.toNat #[]
    rw [Array.toList_empty, List.nil_append] at this
    rw [← this]
  refine PySem.P.mul_str ?_ (fun _ _ => ?_) (fun _ _ => ?_) ?_
  · have h1 : ¬ k < -(2 ^ 63 : Int) := by omega
    have h2 : ¬ k ≥ 2 ^ 63 := by omega
    rw [decide_eq_false h1, decide_eq_false h2] <;> rfl
  · have h3 : (z.length : Int) * k ≤ 2 ^ 63 - 1 := by
      have h4 : ((z.length * k.toNat : Nat) : Int) ≤ ((1000 * 1000 : Nat) : Int) := Int.ofNat_le.mpr hm
      rw [Int.natCast_mul, Int.toNat_of_nonneg (by omega)] at h4
      omega
    have h5 := Int.le_ediv_of_mul_le (show 0 < k by omega) h3
    omega
  · unfold Builtin.Str.tooLong
    refine decide_eq_false ?_
    have := line_ge
    first | omega | (have hh : sizeLine ≥ 1000000 := this; omega)
  · rw [if_neg e1, if_neg (by rw [e2]; exact Bool.false_ne_true), e3]
    refine ⟨?_, .str _, H, I.tok _, ⟨_, rfl⟩, q⟩
    have e4 : ((List.replicate k.toNat z.cps.toList).flatten).length = k.toNat * z.length := by simp [Str.length]
    first
      | (rw [str_len, e4, Nat.mul_comm]; exact line_of hm)
      | (show Str.length _ ≤ _; rw [str_len, e4, Nat.mul_comm]; exact line_of hm)
theorem op_kMul {X : Cx} : OpR X (binaryOp .Mult) (kMul X.K) := by
  intro pins s σ H x y v u Q I rx ry h
  cases x with
  | int i => cases y with
    | int j =>
      rcases h.1 with h1 | h1
      · exact op_mulW pins s σ H _ _ v u Q I rx ry ⟨i, j, rfl, rfl, h1, h.2⟩
      · exact op_mul pins s σ H _ _ v u Q I rx ry ⟨i, j, rfl, rfl, h1, h.2⟩
    | _ => exact False.elim h
  | str z => cases y with
    | int j => exact op_mulStr pins s σ H _ _ v u Q I rx ry ⟨z, j, rfl, rfl, h⟩
    | _ => exact False.elim h
  | ref a => cases y with
    | int j =>
      rcases h with h | h
      · exact op_rep pins s σ H _ _ v u Q I rx ry h
      · exact op_repT pins s σ H _ _ v u Q I rx ry h
    | _ => exact False.elim h
  | _ => exact False.elim h
theorem kMul_i {K : PySem.W.Frag} {i j : Int} {H : Hp} {Q : VK} : kMul K (.int i) (.int j) H Q ↔ (CMulW i j ∨ CMul i j) ∧ Q (.int (i * j)) H := Iff.rfl
theorem kMul_s {K : PySem.W.Frag} {l : List Nat} {k : Int} {H : Hp} {Q : VK} : kMul K (S l) (.int k) H Q ↔ 2 ≤ k ∧ k ≤ 1000 ∧ 1 ≤ l.length ∧ l.length ≤ 1000 ∧ Q (S (List.replicate k.toNat l).flatten) H := by
  show (_ ∧ _ ∧ _ ∧ _ ∧ Q (S (List.replicate k.toNat (List.toArray l).toList).flatten) H) ↔ _
  rw [str_len, List.toList_toArray]
/-! ### == -/
def kEq (K : PySem.W.Frag) : R2 := fun x y H Q => if scal x y = true then Q (.bl (decide (x = y))) H else rEqD K x y H Q
def kNe (K : PySem.W.Frag) : R2 := fun x y H Q => if scal x y = true then Q (.bl (!decide (x = y))) H else rNeD K x y H Q
section
variable {K : PySem.W.Frag} {H : Hp} {Q : VK} {X : Cx}
theorem op_kEq {k : Nat} (hr : Room k X.A) : OpR X (compareOp .Eq) (kEq X.K) := by
  intro pins s σ H x y v u Q I rx ry h
  unfold kEq at h
  split at h
  · rename_i c
    exact op_eq pins s σ H _ _ v u Q I rx ry ⟨c, h⟩
  · exact op_eqD hr.units pins s σ H _ _ v u Q I rx ry h
theorem op_kNe {k : Nat} (hr : Room k X.A) : OpR X (compareOp .NotEq) (kNe X.K) := by
  intro pins s σ H x y v u Q I rx ry h
  unfold kNe at h
  split at h
  · rename_i c
    exact op_ne pins s σ H _ _ v u Q I rx ry ⟨c, h⟩
  · exact op_neD hr.units pins s σ H _ _ v u Q I rx ry h
theorem kEq_i {i j : Int} : kEq K (.int i) (.int j) H Q ↔ Q (.bl (decide (i = j))) H := by
  unfold kEq
  rw [if_pos (by rfl)]
  simp only [V.int.injEq]
theorem kEq_s {i j : List Nat} : kEq K (S i) (S j) H Q ↔ Q (.bl (decide (i = j))) H := by
  unfold kEq
  rw [if_pos (by rfl)]
  have e : decide (S i = S j) = decide (i = j) := by rw [decide_eq_decide]; exact S_inj
  rw [e]
theorem kNe_i {i j : Int} : kNe K (.int i) (.int j) H Q ↔ Q (.bl (!decide (i = j))) H := by
  unfold kNe
  rw [if_pos (by rfl)]
  simp only [V.int.injEq]
theorem kNe_s {i j : List Nat} : kNe K (S i) (S j) H Q ↔ Q (.bl (!decide (i = j))) H := by
  unfold kNe
  rw [if_pos (by rfl)]
  have e : decide (S i = S j) = decide (i = j) := by rw [decide_eq_decide]; exact S_inj
  rw [e]
theorem kEq_b {i j : Bool} : kEq K (.bl i) (.bl j) H Q ↔ Q (.bl (decide (i = j))) H := by
  unfold kEq
  rw [if_pos (by rfl)]
  simp only [V.bl.injEq]
theorem kNe_b {i j : Bool} : kNe K (.bl i) (.bl j) H Q ↔ Q (.bl (!decide (i = j))) H := by
  unfold kNe
  rw [if_pos (by rfl)]
  simp only [V.bl.injEq]
theorem kEq_D {x : V} {a : Addr} : kEq K x (.ref a) H Q ↔ rEqD K x (.ref a) H Q := by
  unfold kEq
  rw [if_neg (by cases x <;> simp [scal])]
theorem kNe_D {x : V} {a : Addr} : kNe K x (.ref a) H Q ↔ rNeD K x (.ref a) H Q := by
  unfold kNe
  rw [if_neg (by cases x <;> simp [scal])]
end
/-! ### is -/
def kIsN : R2 := fun x y H Q => match y with
  | .non => Q (.bl (match x with | .non => true | _ => false)) H
  | .bl b => (match x with | .bl a => Q (.bl (decide (a = b))) H | _ => False)
  | _ => False
def kNotN : R2 := fun x y H Q => match y with
  | .non => Q (.bl (match x with | .non => false | _ => true)) H
  | .bl b => (match x with | .bl a => Q (.bl (!decide (a = b))) H | _ => False)
  | _ => False
section
variable {X : Cx}
theorem op_kIsN : OpR X (compareOp .Is) kIsN := by
  intro pins s σ H x y v u Q I rx ry h
  cases y with
  | non => exact op_isN pins s σ H _ _ v u Q I rx ry ⟨rfl, by cases x <;> exact h⟩
  | bl b => cases x with
    | bl a => exact op_isBl pins s σ H _ _ v u Q I rx ry ⟨a, b, rfl, rfl, h⟩
    | _ => exact False.elim h
  | _ => exact False.elim h
theorem op_kNotN : OpR X (compareOp .IsNot) kNotN := by
  intro pins s σ H x y v u Q I rx ry h
  cases y with
  | non => exact op_notN pins s σ H _ _ v u Q I rx ry ⟨rfl, by cases x <;> exact h⟩
  | bl b => cases x with
    | bl a => exact op_notBl pins s σ H _ _ v u Q I rx ry ⟨a, b, rfl, rfl, h⟩
    | _ => exact False.elim h
  | _ => exact False.elim h
end
/-! ### in -/
def kIn (K : PySem.W.Frag) : R2 := fun x y H Q => match y with
  | .str z => ∃ c, x = S [c] ∧ Q (.bl (decide (c ∈ z.cps.toList))) H
  | .ref a => rIn K false x (.ref a) H Q ∨ rInD K x (.ref a) H Q
  | _ => False
def kNotIn (K : PySem.W.Frag) : R2 := fun x y H Q => match y with
  | .str z => ∃ c, x = S [c] ∧ Q (.bl (!decide (c ∈ z.cps.toList))) H
  | .ref a => rIn K true x (.ref a) H Q ∨ rNotInD K x (.ref a) H Q
  | _ => False
section
variable {X : Cx} {K : PySem.W.Frag} {H : Hp} {Q : VK}
theorem op_kIn {k : Nat} (hr : Room k X.A) : OpR X (compareOp .In) (kIn X.K) := by
  intro pins s σ H x y v u Q I rx ry h
  have hu := hr.un
  cases y with
  | str z =>
    obtain ⟨c, rfl, q⟩ := h
    exact op_in_sign pins s σ H _ _ v u Q I rx ry ⟨c, z, rfl, rfl, q⟩
  | ref a =>
    rcases h with h | h
    · exact op_in_seq pins s σ H _ _ v u Q I rx ry h
    · exact op_inD (by omega) pins s σ H _ _ v u Q I rx ry h
  | _ => exact False.elim h
theorem op_kNotIn {k : Nat} (hr : Room k X.A) : OpR X (compareOp .NotIn) (kNotIn X.K) := by
  intro pins s σ H x y v u Q I rx ry h
  have hu := hr.un
  cases y with
  | str z =>
    obtain ⟨c, rfl, q⟩ := h
    exact op_notIn_sign pins s σ H _ _ v u Q I rx ry ⟨c, z, rfl, rfl, q⟩
  | ref a =>
    rcases h with h | h
    · exact op_notIn_seq pins s σ H _ _ v u Q I rx ry h
    · exact op_notInD (by omega) pins s σ H _ _ v u Q I rx ry h
  | _ => exact False.elim h
theorem kIn_s {c : Nat} {l : List Nat} : kIn K (S [c]) (S l) H Q ↔ Q (.bl (decide (c ∈ l))) H := by
  constructor
  · rintro ⟨d, e, q⟩
    have e2 := S_inj.mp e
    cases e2
    simpa using q
  · intro q
    exact ⟨c, rfl, by simpa using q⟩
theorem kNotIn_s {c : Nat} {l : List Nat} : kNotIn K (S [c]) (S l) H Q ↔ Q (.bl (!decide (c ∈ l))) H := by
  constructor
  · rintro ⟨d, e, q⟩
    have e2 := S_inj.mp e
    cases e2
    simpa using q
  · intro q
    exact ⟨c, rfl, by simpa using q⟩
end
/-! ### len -/
def kLen (K : PySem.W.Frag) : List V → Hp → VK → Prop := fun xs H Q => match xs with
  | [.str z] => z.length ≤ 1000000 ∧ Q (.int z.length) H
  | [.ref p] => (∃ ys, (SqL K H p ys ∨ SqT K H p ys) ∧ Q (.int ys.length) H) ∨ ∃ kvs, H p = some (.dK kvs) ∧ Q (.int kvs.length) H
  | _ => False
theorem kLen_s {K : PySem.W.Frag} {l : List Nat} {H : Hp} {Q : VK} : kLen K [S l] H Q ↔ l.length ≤ 1000000 ∧ Q (.int l.length) H := by
  show (_ ∧ Q (.int (Str.length _ : Nat)) H) ↔ _
  rw [str_len]
theorem call_kLen {X : Cx} : CallR X (.builtin "len") (kLen X.K) := by
  intro pins s σ H xs us Q I r h
  match xs, r, h with
  | [.str z], r, h => exact call_len_str pins s σ H _ us Q I r ⟨z, rfl, line_of h.1, h.2⟩
  | [.ref p], r, h =>
    rcases h with ⟨ys, h, q⟩ | ⟨kvs, h, q⟩
    · exact call_len_seq pins s σ H _ us Q I r ⟨p, ys, rfl, h, q⟩
    · exact call_lenD pins s σ H _ us Q I r ⟨p, kvs, rfl, h, q⟩
/-! ### subscripts -/
def kIx (K : PySem.W.Frag) : R2 := fun x y H Q => match x, y with
  | .str z, .int i => z.length ≤ 1000000 ∧ ∃ c, atI z.cps.toList i = some c ∧ Q (S [c]) H
  | .ref p, .int i => ∃ xs v, (SqL K H p xs ∨ SqT K H p xs) ∧ atI xs i = some v ∧ Q v H
  | _, _ => False
theorem ix_k {X : Cx} : IxR X (kIx X.K) := by
  intro value slice pins s σ H x y v u Q I rx ry h hs
  cases x with
  | str z => cases y with
    | int i =>
      obtain ⟨hz, c, hc, q⟩ := h
      exact ix_str value slice pins s σ H _ _ v u Q I rx ry ⟨z, i, c, rfl, rfl, line_of hz, hc, q⟩ hs
    | _ => exact False.elim h
  | ref p => cases y with
    | int i =>
      obtain ⟨xs, w, hx, hc, q⟩ := h
      rcases hx with hx | hx
      · exact ix_list value slice pins s σ H _ _ v u Q I rx ry ⟨p, xs, i, w, rfl, rfl, hx, hc, q⟩ hs
      · exact ix_tup value slice pins s σ H _ _ v u Q I rx ry ⟨p, xs, i, w, rfl, rfl, hx, hc, q⟩ hs
    | _ => exact False.elim h
  | _ => exact False.elim h
theorem kIx_s {K : PySem.W.Frag} {l : List Nat} {i : Int} {H : Hp} {Q : VK} : kIx K (S l) (.int i) H Q ↔ l.length ≤ 1000000 ∧ ∃ c, atI l i = some c ∧ Q (S [c]) H := by
  show (_ ∧ ∃ c, atI (List.toArray l).toList i = some c ∧ _) ↔ _
  rw [str_len, List.toList_toArray]
/-! ### slices -/
def cutL (l : List Nat) (lo hi : Option Int) : List Nat := (l.drop (HT.sIx l.length 0 lo)).take (HT.sIx l.length l.length hi - HT.sIx l.length 0 lo)
def kSl (K : PySem.W.Frag) : V → Option Int → Option Int → Hp → VK → Prop := fun x lo hi H Q => match x with
  | .str z => z.length ≤ 1000000 ∧ Q (S (cutL z.cps.toList lo hi)) H
  | .ref p => rSlA K (.ref p) lo hi H Q ∨ rSlL K (.ref p) lo hi H Q
  | _ => False
theorem cutS_S (z : Str) (lo hi : Option Int) : V.str (cutS z lo hi) = S (cutL z.cps.toList lo hi) := by
  unfold cutS cutL S
  rw [show z.length = z.cps.toList.length by simp [Str.length]]
theorem sl_k {X : Cx} : SlR X (kSl X.K) := by
  intro pins s σ H x v vl vu lo hi sl Q I rx hs pl pu h
  cases x with
  | str z =>
    refine sl_str pins s σ H _ v vl vu lo hi sl Q I rx hs pl pu ⟨z, rfl, line_of h.1, ?_⟩
    rw [cutS_S]
    exact h.2
  | ref p =>
    rcases h with h | h
    · exact sl_tupA pins s σ H _ v vl vu lo hi sl Q I rx hs pl pu h
    · exact sl_list pins s σ H _ v vl vu lo hi sl Q I rx hs pl pu h
  | _ => exact False.elim h
theorem kSl_s {K : PySem.W.Frag} {l : List Nat} {lo hi : Option Int} {H : Hp} {Q : VK} : kSl K (S l) lo hi H Q ↔ l.length ≤ 1000000 ∧ Q (S (cutL l lo hi)) H := by
  show (_ ∧ Q (S (cutL (List.toArray l).toList lo hi)) H) ↔ _
  rw [str_len, List.toList_toArray]
theorem cutL_lo {l : List Nat} {i : Nat} (h : i ≤ l.length) : cutL l (some (i : Int)) none = l.drop i := by
  unfold cutL
  have e : HT.sIx l.length 0 (some (i : Int)) = i := by
    rw [HT.sIx_nat]
    omega
  rw [e, HT.sIx_none, List.take_of_length_le (by simp)]
theorem cutL_hi {l : List Nat} {j : Nat} (h : j ≤ l.length) : cutL l none (some (j : Int)) = l.take j := by
  unfold cutL
  have e : HT.sIx l.length l.length (some (j : Int)) = j := by
    rw [HT.sIx_nat]
    omega
  rw [e, HT.sIx_none, List.drop_zero, Nat.sub_zero]
theorem cutL_both {l : List Nat} {i j : Nat} (hi : i ≤ j) (hj : j ≤ l.length) : cutL l (some (i : Int)) (some (j : Int)) = (l.drop i).take (j - i) := by
  unfold cutL
  have e : HT.sIx l.length l.length (some (j : Int)) = j := by
    rw [HT.sIx_nat]
    omega
  have e2 : HT.sIx l.length 0 (some (i : Int)) = i := by
    rw [HT.sIx_nat]
    omega
  rw [e, e2]
/-! ### isinstance(x, T), T a built-in type by its name -/
def kindV (K : PySem.W.Frag) (x : V) (H : Hp) : Option String := match x with
  | .non => some "NoneType"
  | .bl _ => some "bool"
  | .int _ => some "int"
  | .str _ => some "str"
  | .ref p => (match H p with
    | some (.lst _) => some "list"
    | some (.tup _) => some "tuple"
    | some (.dK _) => some "dict"
    | _ => none)
  | _ => none
def kIsi (K : PySem.W.Frag) : List V → Hp → VK → Prop := fun xs H Q => match xs with
  | [x, .ty n] => (match kindV K x H with
    | some m => (match kitB m n with
      | some b => Q (.bl b) H
      | none => False)
    | none => rIsi K [x, .ty n] H Q)
  | [x, .ref C] => rIsi K [x, .ref C] H Q
  | _ => False
theorem kind_ty {K : PySem.W.Frag} {x : V} {H : Hp} {m : String} (h : kindV K x H = some m) : TyX K H x (.type m) := by
  cases x with
  | non => cases h; exact .base (.non)
  | bl b => cases h; exact .base (.bl b)
  | int i => cases h; exact .base (.int i)
  | str z => cases h; exact .base (.str z)
  | ref p =>
    unfold kindV at h
    cases e : H p with
    | none => simp only [e] at h; cases h
    | some o =>
      cases o with
      | lst xs => simp only [e] at h; cases h; exact .base (.lst e)
      | tup xs => simp only [e] at h; cases h; exact .base (.tup e)
      | dK kvs => simp only [e] at h; cases h; exact .base (.dK e)
      | _ => simp only [e] at h; cases h
  | _ => cases h
theorem call_kIsi {X : Cx} : CallR X (.builtin "isinstance") (kIsi X.K) := by
  intro pins s σ H xs us Q I r h
  match xs, r, h with
  | [x, .ty n], r, h =>
    unfold kIsi at h
    simp only at h
    split at h
    · rename_i m hm
      split at h
      · rename_i b hb
        exact call_isi pins s σ H _ us Q I r ⟨x, .ty n, .type m, .type n, b, rfl, .ty n, kind_ty hm, kit_ty hb, h⟩
      · exact h.elim
    · exact call_isi pins s σ H _ us Q I r h
  | [x, .ref C], r, h => exact call_isi pins s σ H _ us Q I r h
theorem kit_str_str : kitB "str" "str" = some true := by decide +kernel
theorem kIsi_of {K : PySem.W.Frag} {x : V} {n m : String} {b : Bool} {H : Hp} {Q : VK} (h : kindV K x H = some m) (hb : kitB m n = some b) : kIsi K [x, .ty n] H Q ↔ Q (.bl b) H := by
  unfold kIsi
  simp only [h, hb]
/-- for x in a text, a list or a tuple -/
def iK (K : PySem.W.Frag) (te : TE) : TI := fun σ H R => te σ H fun v H1 => match v with
  | .str z => R (Its z) H1
  | .ref a => ((∃ xs, SqL K H1 a xs) ∧ R (Itl K a) H1) ∨ ((∃ xs, SqT K H1 a xs) ∧ R (Itt K a) H1)
  | _ => False
theorem pi_k {X : Cx} {tg e : Expr} {te : TE} (he : PE X e te) : PI X tg e (iK X.K te) := by
  refine ⟨fun pins s σ H R I h => ?_⟩
  refine thn (he.run pins s σ H _ I h) fun v s1 ⟨y, H1, I1, r1, q⟩ => ?_
  cases y with
  | str x =>
    obtain ⟨t, rfl⟩ := r1
    cases ha : x.cps.all (· < 128)
    · exact wpAny_pyIter_wide ha (pi_one (tk := s1.toks) I1 _ (turn_str _ x t "str_iterator" (.inr rfl)) ⟨_, Heap.get?_push_size _ rfl, rfl, rfl⟩ q)
    · exact wpAny_pyIter_ascii ha (pi_one (tk := s1.toks) I1 _ (turn_str _ x t "str_ascii_iterator" (.inl rfl)) ⟨_, Heap.get?_push_size _ rfl, rfl, rfl⟩ q)
  | ref a =>
    cases r1
    rcases q with ⟨⟨xs, hq⟩, q⟩ | ⟨⟨xs, hq⟩, q⟩
    · obtain ⟨its, rv, p, hz⟩ := I1.list hq
      refine wpAny_pyIter_list p.isList ?_
      refine ⟨s1.heap.objs.size, [s1.heap.objs.size], _, _, H1, rfl, I1.kept (t' := s1.toks) fun b o e => Heap.get?_push_of_some _ e, turn_list a _, ⟨_, Heap.get?_push_size _ rfl, rfl, rfl⟩, fun b hb => ?_, q⟩
      have e : b = s1.heap.objs.size := by simpa using hb
      subst e
      exact I1.fpOk (Nat.le_refl _) (I1.hok.fresh (Nat.le_refl _))
    · obtain ⟨its, rv, p, hz⟩ := I1.tuple hq
      refine wpAny_pyIter_tuple (show s1.heap.IsTuple a its.toArray from p) ?_
      refine ⟨s1.heap.objs.size, [s1.heap.objs.size], _, _, H1, rfl, I1.kept (t' := s1.toks) fun b o e => Heap.get?_push_of_some _ e, turn_tuple a _, ⟨_, Heap.get?_push_size _ rfl, rfl, rfl⟩, fun b hb => ?_, q⟩
      have e : b = s1.heap.objs.size := by simpa using hb
      subst e
      exact I1.fpOk (Nat.le_refl _) (I1.hok.fresh (Nat.le_refl _))
  | _ => exact q.elim
/-! ### rows to walk -/
/-- an expression that has this value, and changes nothing -/
abbrev Is (te : TE) (σ : L2.St) (H : Hp) (v : V) : Prop := ∀ Q : VK, Q v H → te σ H Q
theorem is_var {i : Nat} {σ : L2.St} {H : Hp} {v : V} (h : σ[i]? = some (some v)) : Is (tVar i) σ H v := fun _ q => ⟨v, h, q⟩
/-- all the for-loops over one row: n items, the i-th one given by P -/
theorem loop_of {J : It} {n : Nat} {g : TG} {tb : TS} {D : Ends} {σ : L2.St} {H : Hp} (P : Nat → V → Hp → Hp → Prop) (Pv : Nat → L2.St → Hp → Prop)
    (hgo : ∀ i σ H, i < n → Pv i σ H → J.go i H) (hy : ∀ i H x H', i < n → J.yld i H x H' → P i x H H') (hst : ∀ σ H, Pv n σ H → J.stop n H) (h0 : Pv 0 σ H)
    (hs : ∀ i x σ H H', i < n → P i x H H' → Pv i σ H → g x σ H' fun σ2 H2 => tb { D with nx := Pv (i + 1), ct := Pv (i + 1), bk := D.nx } σ2 H2) (hd : ∀ σ H, Pv n σ H → D.nx σ H) :
    ∃ W : Nat → Nat → L2.St → Hp → Prop, (∃ m, W 0 m σ H) ∧ ∀ i m σ H, W i m σ H →
      (J.stop i H ∧ D.nx σ H) ∨ (J.go i H ∧ ∃ N : L2.St → Hp → Prop, (∀ σ' H', N σ' H' → ∃ m', m' < m ∧ W (i + 1) m' σ' H') ∧ ∀ x H', J.yld i H x H' → g x σ H' fun σ2 H2 => tb { D with nx := N, ct := N, bk := D.nx } σ2 H2) := by
  refine ⟨fun i m σ H => m = n - i ∧ i ≤ n ∧ Pv i σ H, ⟨n, by simp, Nat.zero_le _, h0⟩, ?_⟩
  rintro i m σ H ⟨rfl, hi, p⟩
  by_cases hlt : i < n
  · exact .inr ⟨hgo i σ H hlt p, Pv (i + 1), fun σ' H' p' => ⟨n - (i + 1), by omega, rfl, hlt, p'⟩, fun x H' y => hs i x σ H H' hlt (hy i H x H' hlt y) p⟩
  · have e : i = n := by omega
    subst e
    exact .inl ⟨hst σ H p, hd σ H p⟩
theorem its_go {l : List Nat} {i : Nat} {H : Hp} : (Its ⟨l.toArray⟩).go i H ↔ i < l.length := by simp [Its]
theorem its_stop {l : List Nat} {i : Nat} {H : Hp} : (Its ⟨l.toArray⟩).stop i H ↔ l.length ≤ i := by simp [Its]
theorem its_yld {l : List Nat} {i : Nat} {H H' : Hp} {v : V} : (Its ⟨l.toArray⟩).yld i H v H' ↔ H' = H ∧ ∃ c, l[i]? = some c ∧ v = S [c] := by
  simp [Its, S]
/-- for x in s: s a text -/
theorem loop_S {K : PySem.W.Frag} {te : TE} {l : List Nat} {j : Nat} {tb : TS} {D : Ends} {σ : L2.St} {H : Hp} (hv : Is te σ H (S l)) (Pv : Nat → L2.St → Hp → Prop) (h0 : Pv 0 σ H)
    (hs : ∀ i c σ H, l[i]? = some c → Pv i σ H → tb { D with nx := Pv (i + 1), ct := Pv (i + 1), bk := D.nx } (σ.set j (some (S [c]))) H) (hd : ∀ σ H, Pv l.length σ H → D.nx σ H) :
    tFor (iK K te) (gName j) tb D σ H :=
  hv _ (loop_of (n := l.length) (fun i x H H' => H' = H ∧ ∃ c, l[i]? = some c ∧ x = S [c]) Pv (fun i _ _ hi _ => its_go.mpr hi) (fun i H x H' _ y => its_yld.mp y) (fun _ _ _ => its_stop.mpr (Nat.le_refl _)) h0
    (fun i x σ H H' _ p pv => by
      obtain ⟨rfl, c, hc, rfl⟩ := p
      exact hs i c σ _ hc pv) hd)
/-- for x in t: t a tuple -/
theorem loop_T {te : TE} {K : PySem.W.Frag} {a : Addr} {xs : List V} {g : TG} {tb : TS} {D : Ends} {σ : L2.St} {H : Hp} (hv : Is te σ H (.ref a)) (Pv : Nat → L2.St → Hp → Prop) (h0 : Pv 0 σ H)
    (hx : ∀ i σ H, i ≤ xs.length → Pv i σ H → SqT K H a xs)
    (hs : ∀ i x σ H, xs[i]? = some x → Pv i σ H → g x σ H fun σ2 H2 => tb { D with nx := Pv (i + 1), ct := Pv (i + 1), bk := D.nx } σ2 H2) (hd : ∀ σ H, Pv xs.length σ H → D.nx σ H) :
    tFor (iK K te) g tb D σ H := hv _ (.inr ⟨⟨xs, hx 0 σ H (Nat.zero_le _) h0⟩, for_tup Pv h0 hx hs hd⟩)
theorem loop_L {te : TE} {K : PySem.W.Frag} {a : Addr} {xs : List V} {g : TG} {tb : TS} {D : Ends} {σ : L2.St} {H : Hp} (hv : Is te σ H (.ref a)) (Pv : Nat → L2.St → Hp → Prop) (h0 : Pv 0 σ H)
    (hx : ∀ i σ H, i ≤ xs.length → Pv i σ H → SqL K H a xs)
    (hs : ∀ i x σ H, xs[i]? = some x → Pv i σ H → g x σ H fun σ2 H2 => tb { D with nx := Pv (i + 1), ct := Pv (i + 1), bk := D.nx } σ2 H2) (hd : ∀ σ H, Pv xs.length σ H → D.nx σ H) :
    tFor (iK K te) g tb D σ H := hv _ (.inl ⟨⟨xs, hx 0 σ H (Nat.zero_le _) h0⟩, for_list Pv h0 hx hs hd⟩)
/-- for x in range(n) -/
theorem loop_R {ta : TA} {n : Int} {j : Nat} {tb : TS} {D : Ends} {σ : L2.St} {H : Hp} (hv : ∀ Q : List V → Hp → Prop, Q [.int n] H → ta σ H Q) (hn : n ≤ 1000000 ∧ -1000000 ≤ n) (Pv : Nat → L2.St → Hp → Prop) (h0 : Pv 0 σ H)
    (hs : ∀ i σ H, i < n.toNat → Pv i σ H → tb { D with nx := Pv (i + 1), ct := Pv (i + 1), bk := D.nx } (σ.set j (some (.int (i : Nat)))) H) (hd : ∀ σ H, Pv n.toNat σ H → D.nx σ H) :
    tFor (iRng1 ta) (gName j) tb D σ H := hv _ ⟨n, rfl, by omega, by omega, for_range (lo := 0) Pv h0 (fun i σ H hi p => by
      show tb _ (σ.set j (some (.int (0 + (i : Nat))))) H
      rw [Int.zero_add]
      exact hs i σ H hi p) hd⟩
/-! ### x op= e at a name -/
def kAug : TIp := fun x y H Q => match x, y with
  | .int i, .int j => Q (.int (i + j)) H
  | .str i, .str j => i.length + j.length ≤ 1000000 ∧ Q (.str (i ++ j)) H
  | _, _ => False
theorem ip_kAug {X : Cx} : PIp X .Add kAug := ip_kAdd
theorem kAug_i {i j : Int} {H : Hp} {Q : VK} : kAug (.int i) (.int j) H Q ↔ Q (.int (i + j)) H := Iff.rfl
/-! ### truth -/
theorem tru_S {K : PySem.W.Frag} {l : List Nat} {H : Hp} (h : l.length ≤ 1000000) : TruV K (S l) H (!l.isEmpty) := by
  refine ⟨by rw [str_len]; exact line_of h, ?_⟩
  rw [str_len]
  cases l <;> simp <;> omega
end KG

end

section
set_option maxHeartbeats 1000000
/-! KMeth: methods of lists and dicts; defs of the text by their row of facts. -/
namespace KG
open PySem PySem.Spec PyProof.Rows L2

section
variable {K : PySem.W.Frag} {H : Hp} {l : Addr} {xs : List V} {y : V} {Q : VK}
theorem tyL (h : H l = some (.lst xs)) : tyV K "list" (.ref l) H := .inl ⟨rfl, xs, SqL.of h⟩
theorem tyDk {d : Addr} {kvs : List (Key × V)} (h : H d = some (.dK kvs)) : tyV K "dict" (.ref d) H := .inr (.inr (.inl ⟨rfl, .inl ⟨kvs, h⟩⟩))
theorem rApp (h : H l = some (.lst xs)) (hz : xs.length < 1000000) (q : Q .non (upd H l (.lst (xs ++ [y])))) : rAppend (.ref l) [y] H Q := ⟨l, xs, y, rfl, rfl, h, Nat.lt_of_lt_of_le hz line_ge, q⟩
/-- d.setdefault(k, v) as a call -/
theorem mt_setdefault {X : Cx} : MtR X "dict.setdefault" rSetd := by
  intro pins s σ H x vs v us Q I rx rv h
  obtain ⟨a, kvs, k, d, rfl, rfl, ea, hl, w1, w2⟩ := h
  cases rx
  cases rv with
  | cons ry rv =>
    cases rv with
    | cons rd rv =>
      cases rv
      obtain ⟨z, hd, vs0, rel, dd⟩ := dk_of I.hok ea
      have dd2 := dd
      obtain ⟨o, es, ep, eo, exd, hdat, _⟩ := dd2
      have hz : vs0.length ≤ sizeLine := by rw [← rel.length]; exact z
      refine call_meetsIn PySem.F.slot_dict_setdefault dd.typeIs PySem.F.entry_dict_setdefault (PySem.F.args_dict_setdefault_3 _ _ _) (PySem.kt_meets_setdefault (mixKind X.prog X.w) _ (kV_is ry) hd _) ⟨vs0, dd, hz, fun u hu => ?_, fun hn h' dd' hs => ?_⟩
      · have rr := rel.val k
        rw [hu] at rr
        cases hv : valV kvs k with
        | none => rw [hv] at rr; exact False.elim rr
        | some x =>
          rw [hv] at rr
          exact (⟨x, H, I.tok _, rr, w1 x hv⟩ : EP X pins σ Q u _)
      · have rr := rel.val k
        rw [hn] at rr
        cases hv : valV kvs k with
        | some x => rw [hv] at rr; exact False.elim rr
        | none =>
          have hl2 : (putK kvs k d).length ≤ sizeLine := by have := length_putK kvs k d; omega
          exact (⟨d, _, d_write (t' := s.toks + 1) I (by rw [ea]; exact True.intro) hs (let ⟨q, _, _, hq, _⟩ := dd'; ⟨q, hq⟩) (dk_new hl2 hd (rel.put k rd) dd'), rd, w2 hv⟩ : EP X pins σ Q _ _)
end

/-- a def of the text where the top left it -/
structure Df (K : PySem.W.Frag) (mg : Str → Option Value) (x : Str) (st : Stmt) (ps : List Str) where
  f : Addr
  fd : FuncData
  F : Fun K x x st f fd
  g : mg x = some (.ref f)
  b : Binds K fd ps []
section
variable {X : Cx} {st : Stmt} {x : Str} {ps : List Str} {k : Nat} {sp : Sp} {p pos : Pos} {e : Expr} {es : List Expr} {t : TA}
theorem callD {D : Df X.K X.mg x st ps} (F : FnG X.prog X.w X.K X.mg X.base CX0 k D.f D.fd ps sp) (hr : Room k X.A) (ns : NoShow X.A) (hg : Gl X x)
    (ha : PA X (e :: es) t) (hdb : (x == ("__debug__" : Str)) = false := by decide) (he : starEach (e :: es) X.env = (false, eval e X.env) :: starEach es X.env := by rfl) (hpl : (backTo pos (starEach es X.env)).any (·.1) = false := by rfl) :
    PE X (.Call (.Name x p) (e :: es) [] pos) (tCall sp [] E0 t) := pe_callG F hr ns hg D.g D.F.kp D.b .nil pass0 ha hdb he hpl
theorem callO {D : Df X.K X.mg x st ps} (F : FnOk X.prog X.w X.K X.mg X.base CX0 k D.f D.fd ps sp) (hr : Room k X.A) (hg : Gl X x)
    (ha : PA X (e :: es) t) (hdb : (x == ("__debug__" : Str)) = false := by decide) (he : starEach (e :: es) X.env = (false, eval e X.env) :: starEach es X.env := by rfl) (hpl : (backTo pos (starEach es X.env)).any (·.1) = false := by rfl) :
    PE X (.Call (.Name x p) (e :: es) [] pos) (tCall sp [] E0 t) := pe_call F hr hg D.g D.F.kp D.b .nil pass0 ha hdb he hpl
theorem callO0 {D : Df X.K X.mg x st ps} (F : FnOk X.prog X.w X.K X.mg X.base CX0 k D.f D.fd ps sp) (hr : Room k X.A) (hg : Gl X x)
    (hdb : (x == ("__debug__" : Str)) = false := by decide) :
    PE X (.Call (.Name x p) [] [] pos) (tCall sp [] E0 tNil) := pe_call0 F hr hg D.g D.F.kp D.b .nil pass0 hdb
theorem callD0 {D : Df X.K X.mg x st ps} (F : FnG X.prog X.w X.K X.mg X.base CX0 k D.f D.fd ps sp) (hr : Room k X.A) (ns : NoShow X.A) (hg : Gl X x)
    (hdb : (x == ("__debug__" : Str)) = false := by decide) :
    PE X (.Call (.Name x p) [] [] pos) (tCall sp [] E0 tNil) := pe_callG0 F hr ns hg D.g D.F.kp D.b .nil pass0 hdb
end
/-! ### is x None, as a test's word; what a reading of a test asks -/
theorem iteB {b : Bool} {P Q : Prop} : (if b = true then P else Q) ↔ (match b with | true => P | false => Q) := by cases b <;> simp
end KG

end

section
set_option maxHeartbeats 1000000
/-! KGo: words that bring a reading to what it asks. -/
namespace KG
open PySem PySem.Spec PyProof.Rows L2
section
variable {K : PySem.W.Frag} {H : Hp} {b c : Bool} {i : Int} {l : List Nat} {Q : VK} {Qb : Bool → Prop}
theorem tru_b : (∃ k, TruV K (.bl b) H k ∧ Qb k) ↔ Qb b := by
  constructor
  · rintro ⟨k, h, q⟩
    have e : k = b := h
    subst e
    exact q
  · exact fun q => ⟨b, rfl, q⟩
theorem tru_i : (∃ k, TruV K (.int i) H k ∧ Qb k) ↔ Qb (i != 0) := by
  constructor
  · rintro ⟨k, h, q⟩
    have e : k = (i != 0) := h
    subst e
    exact q
  · exact fun q => ⟨_, rfl, q⟩
theorem tru_n : (∃ k, TruV K .non H k ∧ Qb k) ↔ Qb false := by
  constructor
  · rintro ⟨k, h, q⟩
    have e : k = false := h
    subst e
    exact q
  · exact fun q => ⟨_, rfl, q⟩
theorem ex_bl {p : Bool → Prop} : (∃ k, V.bl b = V.bl k ∧ p k) ↔ p b := by
  constructor
  · rintro ⟨k, h, q⟩
    cases h
    exact q
  · exact fun q => ⟨_, rfl, q⟩
theorem ex_some {p : V → Prop} {v : V} : (∃ w, some (some v) = some (some w) ∧ p w) ↔ p v := by
  constructor
  · rintro ⟨k, h, q⟩
    cases h
    exact q
  · exact fun q => ⟨_, rfl, q⟩
theorem ex_int {p : Int → Prop} : (∃ k, V.int i = V.int k ∧ p k) ↔ p i := by
  constructor
  · rintro ⟨k, h, q⟩
    cases h
    exact q
  · exact fun q => ⟨_, rfl, q⟩
theorem dec_one {c d : Nat} : decide ([c] = [d]) = decide (c = d) := by rw [decide_eq_decide]; simp
theorem isi_S {m : String} {r : Bool} (h : kitB "str" m = some r) : kIsi K [S l, .ty m] H Q ↔ Q (.bl r) H := kIsi_of (x := S l) rfl h
theorem isi_i {m : String} {r : Bool} (h : kitB "int" m = some r) : kIsi K [.int i, .ty m] H Q ↔ Q (.bl r) H := kIsi_of (x := .int i) rfl h
theorem isi_b {m : String} {r : Bool} (h : kitB "bool" m = some r) : kIsi K [.bl b, .ty m] H Q ↔ Q (.bl r) H := kIsi_of (x := .bl b) rfl h
theorem isi_n {m : String} {r : Bool} (h : kitB "NoneType" m = some r) : kIsi K [.non, .ty m] H Q ↔ Q (.bl r) H := kIsi_of (x := .non) rfl h
theorem kit_ss : kitB "str" "str" = some true := by decide +kernel
theorem isN_S : kIsN (S l) .non H Q ↔ Q (.bl false) H := Iff.rfl
theorem isN_i : kIsN (.int i) .non H Q ↔ Q (.bl false) H := Iff.rfl
theorem isN_n : kIsN .non .non H Q ↔ Q (.bl true) H := Iff.rfl
theorem isN_r {a : Addr} : kIsN (.ref a) .non H Q ↔ Q (.bl false) H := Iff.rfl
theorem notN_S : kNotN (S l) .non H Q ↔ Q (.bl true) H := Iff.rfl
theorem notN_i : kNotN (.int i) .non H Q ↔ Q (.bl true) H := Iff.rfl
theorem notN_n : kNotN .non .non H Q ↔ Q (.bl false) H := Iff.rfl
theorem notN_r {a : Addr} : kNotN (.ref a) .non H Q ↔ Q (.bl true) H := Iff.rfl
theorem isN_b : kIsN (.bl b) (.bl c) H Q ↔ Q (.bl (decide (b = c))) H := Iff.rfl
theorem notN_b : kNotN (.bl b) (.bl c) H Q ↔ Q (.bl (!decide (b = c))) H := Iff.rfl
theorem ifT {P Q : Prop} : (if true = true then P else Q) ↔ P := by simp
theorem ifF {P Q : Prop} : (if false = true then P else Q) ↔ Q := by simp
theorem par_2 {v w : V} {p : V → V → Prop} : (∃ a b, [v, w] = [a, b] ∧ p a b) ↔ p v w := by
  constructor
  · rintro ⟨a, b, h, q⟩
    cases h
    exact q
  · exact fun q => ⟨_, _, rfl, q⟩
theorem par_3 {u v w : V} {p : V → V → V → Prop} : (∃ a b c, [u, v, w] = [a, b, c] ∧ p a b c) ↔ p u v w := by
  constructor
  · rintro ⟨a, b, c, h, q⟩
    cases h
    exact q
  · exact fun q => ⟨_, _, _, rfl, q⟩
theorem cx_K {CX : CXT} {P : Program} {w : World} {K : PySem.W.Frag} {mg : Str → Option Value} {base : Heap} {N : List Str} {qual : Str} {scope : Scope} {f : Addr} {cd : Value} {A : Around} {outer : List Env} {s : Shared} {H : Hp} {E : XK} :
    (cxOf CX P w K mg base N qual scope f cd A outer s H E).K = K := rfl
theorem cx_Kn {CX : CXT} {P : Program} {w : World} {K : PySem.W.Frag} {mg : Str → Option Value} {base : Heap} {N : List Str} {qual : Str} {scope : Scope} {f : Addr} {cd : Value} {A : Around} {outer : List Env} {s : Shared} {H : Hp} {E : XK} :
    (cxOf CX P w K mg base N qual scope f cd A outer s H E).nox.K = K := rfl
end
/-! ### a reading at its place, fully applied: the ways of an if stay folded till it is decided -/
def BrS (b : Bool) (t u : TS) : TS := fun D σ H => if b = true then t D σ H else u D σ H
def BrE (b : Bool) (t u : TE) : TE := fun σ H Q => if b = true then t σ H Q else u σ H Q
def BrA (b : Bool) (u : TT) : TT := fun σ H Q => if b = true then u σ H Q else Q false H
def BrO (b : Bool) (u : TT) : TT := fun σ H Q => if b = true then Q true H else u σ H Q
def BrAV (b : Bool) (u : TE) : TE := fun σ H Q => if b = true then u σ H Q else Q (.bl false) H
def BrOV (b : Bool) (u : TE) : TE := fun σ H Q => if b = true then Q (.bl true) H else u σ H Q
def BrC (b : Bool) (r : R2) (y : V) (u : TE) : TE := fun σ H Q => if b = true then u σ H fun w' H4 => r y w' H4 Q else Q (.bl false) H
section
variable {t u : TS} {ta tb tc te : TE} {tt tu : TT} {as bs : TA} {D : Ends} {σ : L2.St} {H : Hp} {Q : VK} {Qb : Bool → Hp → Prop} {Qs : List V → Hp → Prop} {Qg : L2.St → Hp → Prop} {i j k : Nat} {v x y z : V} {r r' : R2} {g : TG} {gs : TGs} {K : PySem.W.Frag} {Qo : Option Int → Hp → Prop} {to : TO}
theorem b_St : BrS true t u D σ H = t D σ H := if_pos rfl
theorem b_Sf : BrS false t u D σ H = u D σ H := if_neg Bool.false_ne_true
theorem b_Et : BrE true ta tb σ H Q = ta σ H Q := if_pos rfl
theorem b_Ef : BrE false ta tb σ H Q = tb σ H Q := if_neg Bool.false_ne_true
theorem b_At : BrA true tu σ H Qb = tu σ H Qb := if_pos rfl
theorem b_Af : BrA false tu σ H Qb = Qb false H := if_neg Bool.false_ne_true
theorem b_Ot : BrO true tu σ H Qb = Qb true H := if_pos rfl
theorem b_Of : BrO false tu σ H Qb = tu σ H Qb := if_neg Bool.false_ne_true
theorem b_AVt : BrAV true ta σ H Q = ta σ H Q := if_pos rfl
theorem b_AVf : BrAV false ta σ H Q = Q (.bl false) H := if_neg Bool.false_ne_true
theorem b_OVt : BrOV true ta σ H Q = Q (.bl true) H := if_pos rfl
theorem b_OVf : BrOV false ta σ H Q = ta σ H Q := if_neg Bool.false_ne_true
theorem b_Ct : BrC true r y ta σ H Q = ta σ H fun w' H4 => r y w' H4 Q := if_pos rfl
theorem b_Cf : BrC false r y ta σ H Q = Q (.bl false) H := if_neg Bool.false_ne_true
theorem g_seq : tSeq t u D σ H = t { D with nx := u D } σ H := rfl
theorem g_asg : tAsg te g D σ H = te σ H fun x H1 => g x σ H1 D.nx := rfl
theorem g_name : gName i v σ H Qg = Qg (σ.set i (some v)) H := rfl
theorem g_ret : tRet te D σ H = te σ H D.rt := rfl
theorem g_retN : tRetN D σ H = D.rt .non H := rfl
theorem g_next : tNext D σ H = D.nx σ H := rfl
theorem g_brk : tBreak D σ H = D.bk σ H := rfl
theorem g_cont : tCont D σ H = D.ct σ H := rfl
theorem g_drop : tDrop te D σ H = te σ H fun _ H1 => D.nx σ H1 := rfl
theorem g_ifS : tIfS tt t u D σ H = tt σ H fun b H1 => BrS b t u D σ H1 := rfl
theorem g_if : tIf tt ta tb σ H Q = tt σ H fun b H1 => BrE b ta tb σ H1 Q := rfl
theorem g_and : tAnd tt tu σ H Qb = tt σ H fun c H1 => BrA c tu σ H1 Qb := rfl
theorem g_or : tOr tt tu σ H Qb = tt σ H fun c H1 => BrO c tu σ H1 Qb := rfl
theorem g_not : tNot tt σ H Qb = tt σ H fun c H1 => Qb (!c) H1 := rfl
theorem g_andV : tAndV ta tb σ H Q = ta σ H fun x H1 => ∃ c, x = .bl c ∧ BrAV c tb σ H1 Q := rfl
theorem g_orV : tOrV ta tb σ H Q = ta σ H fun x H1 => ∃ c, x = .bl c ∧ BrOV c tb σ H1 Q := rfl
theorem g_notV : tNotV ta σ H Q = ta σ H fun x H1 => ∃ c, x = .bl c ∧ Q (.bl (!c)) H1 := rfl
theorem g_chain : tChain r r' ta tb tc σ H Q = ta σ H fun x H1 => tb σ H1 fun y H2 => r x y H2 fun z H3 => ∃ k, z = .bl k ∧ BrC k r' y tc σ H3 Q := rfl
theorem g_test : tTest te σ H Qb = te σ H fun x H' => ∃ k, x = .bl k ∧ Qb k H' := rfl
theorem g_B : tB te σ H Qb = te σ H fun x H' => ∃ k, x = .bl k ∧ Qb k H' := rfl
theorem g_op : tOp r ta tb σ H Q = ta σ H fun x H1 => tb σ H1 fun y H2 => r x y H2 Q := rfl
theorem g_un {f : V → Hp → VK → Prop} : tUn f ta σ H Q = ta σ H fun x H1 => f x H1 Q := rfl
theorem g_neg {n : Int} {f : Int → V} : rU f (.int n) H Q ↔ Q (f n) H := by
  constructor
  · rintro ⟨k, h, q⟩
    cases h
    exact q
  · exact fun q => ⟨_, rfl, q⟩
theorem g_var : tVar i σ H Q = ∃ v, σ[i]? = some (some v) ∧ Q v H := rfl
theorem g_c : tC v σ H Q = Q v H := rfl
theorem g_nil : tNil σ H Qs = Qs [] H := rfl
theorem g_cons : tCons ta as σ H Qs = ta σ H fun x H1 => as σ H1 fun xs H2 => Qs (x :: xs) H2 := rfl
theorem g_CB {f : List V → Hp → VK → Prop} : tCB f as σ H Q = as σ H fun vs H1 => f vs H1 Q := rfl
theorem g_call {sp : Sp} {dvs : List V} {E : XK} : tCall sp dvs E as σ H Q = as σ H fun vs H1 => sp (vs ++ dvs) H1 Q E := rfl
theorem g_par : tPar i j as D σ H = as σ H fun vs H1 => ∃ v w, vs = [v, w] ∧ D.nx ((σ.set i (some v)).set j (some w)) H1 := rfl
theorem g_par3 : tPar3 i j k as D σ H = as σ H fun vs H1 => ∃ u v w, vs = [u, v, w] ∧ D.nx (((σ.set i (some u)).set j (some v)).set k (some w)) H1 := rfl
theorem g_aug {ti : TIp} : tAug i te ti D σ H = ∃ x, σ[i]? = some (some x) ∧ te σ H fun y H1 => ti x y H1 fun z H2 => D.nx (σ.set i (some z)) H2 := rfl
theorem g_sl {f : V → Option Int → Option Int → Hp → VK → Prop} {tl th : TO} : tSl f te tl th σ H Q = te σ H fun x H1 => tl σ H1 fun l H2 => th σ H2 fun u H3 => f x l u H3 Q := rfl
theorem g_part : tPart te σ H Qo = te σ H fun x H1 => ∃ i, x = .int i ∧ Qo (some i) H1 := rfl
theorem g_nopart : tNoPart σ H Qo = Qo none H := rfl
theorem g_tup : tTup as σ H Q = as σ H fun xs H1 => xs.length ≤ sizeLine ∧ ∀ p, H1 p = none → Q (.ref p) (upd H1 p (.tup xs)) := rfl
theorem g_lst : tLst as σ H Q = as σ H fun xs H1 => xs.length ≤ sizeLine ∧ ∀ p, H1 p = none → Q (.ref p) (upd H1 p (.lst xs)) := rfl
theorem g_gtup : gTup K i gs v σ H Qg = ∃ a xs, v = .ref a ∧ SqT K H a xs ∧ xs.length = i ∧ gs xs σ H Qg := rfl
theorem g_gcons {vs : List V} {w : V} : gCons g gs (w :: vs) σ H Qg ↔ g w σ H fun σ' H' => gs vs σ' H' Qg := by
  constructor
  · rintro ⟨a, b, h, q⟩
    cases h
    exact q
  · exact fun q => ⟨_, _, rfl, q⟩
theorem g_gnil : gNil [] σ H Qg ↔ Qg σ H := by
  constructor
  · exact fun q => q.2
  · exact fun q => ⟨rfl, q⟩
theorem g_BM {T : String} {f : V → List V → Hp → VK → Prop} : tBM K T f te as σ H Q = te σ H fun x H1 => tyV K T x H1 ∧ as σ H1 fun xs H2 => f x xs H2 Q := rfl
theorem g_dnew : tDNewK σ H Q = ∀ p, H p = none → Q (.ref p) (upd H p (.dK [])) := rfl
end
/-! ### an if by its cases -/
section
variable {p : Prop} [Decidable p] {b : Bool} {t u : TS} {ta tb : TE} {tu : TT} {D : Ends} {σ : L2.St} {H : Hp} {Q : VK} {Qb : Bool → Hp → Prop} {r : R2} {y : V}
theorem br_S (h1 : p → t D σ H) (h2 : ¬ p → u D σ H) : BrS (decide p) t u D σ H := by
  by_cases h : p
  · rw [decide_eq_true h, b_St]; exact h1 h
  · rw [decide_eq_false h, b_Sf]; exact h2 h
theorem br_Sn (h1 : p → u D σ H) (h2 : ¬ p → t D σ H) : BrS (!decide p) t u D σ H := by
  by_cases h : p
  · rw [decide_eq_true h, Bool.not_true, b_Sf]; exact h1 h
  · rw [decide_eq_false h, Bool.not_false, b_St]; exact h2 h
theorem br_Sb (h1 : b = true → t D σ H) (h2 : b = false → u D σ H) : BrS b t u D σ H := by
  cases b
  · rw [b_Sf]; exact h2 rfl
  · rw [b_St]; exact h1 rfl
theorem br_Sm (h1 : b = true → u D σ H) (h2 : b = false → t D σ H) : BrS (!b) t u D σ H := by
  cases b
  · rw [Bool.not_false, b_St]; exact h2 rfl
  · rw [Bool.not_true, b_Sf]; exact h1 rfl
theorem br_E (h1 : p → ta σ H Q) (h2 : ¬ p → tb σ H Q) : BrE (decide p) ta tb σ H Q := by
  by_cases h : p
  · rw [decide_eq_true h, b_Et]; exact h1 h
  · rw [decide_eq_false h, b_Ef]; exact h2 h
theorem br_En (h1 : p → tb σ H Q) (h2 : ¬ p → ta σ H Q) : BrE (!decide p) ta tb σ H Q := by
  by_cases h : p
  · rw [decide_eq_true h, Bool.not_true, b_Ef]; exact h1 h
  · rw [decide_eq_false h, Bool.not_false, b_Et]; exact h2 h
theorem br_Eb (h1 : b = true → ta σ H Q) (h2 : b = false → tb σ H Q) : BrE b ta tb σ H Q := by
  cases b
  · rw [b_Ef]; exact h2 rfl
  · rw [b_Et]; exact h1 rfl
theorem br_Em (h1 : b = true → tb σ H Q) (h2 : b = false → ta σ H Q) : BrE (!b) ta tb σ H Q := by
  cases b
  · rw [Bool.not_false, b_Et]; exact h2 rfl
  · rw [Bool.not_true, b_Ef]; exact h1 rfl
theorem br_A (h1 : p → tu σ H Qb) (h2 : ¬ p → Qb false H) : BrA (decide p) tu σ H Qb := by
  by_cases h : p
  · rw [decide_eq_true h, b_At]; exact h1 h
  · rw [decide_eq_false h, b_Af]; exact h2 h
theorem br_An (h1 : p → Qb false H) (h2 : ¬ p → tu σ H Qb) : BrA (!decide p) tu σ H Qb := by
  by_cases h : p
  · rw [decide_eq_true h, Bool.not_true, b_Af]; exact h1 h
  · rw [decide_eq_false h, Bool.not_false, b_At]; exact h2 h
theorem br_Ab (h1 : b = true → tu σ H Qb) (h2 : b = false → Qb false H) : BrA b tu σ H Qb := by
  cases b
  · rw [b_Af]; exact h2 rfl
  · rw [b_At]; exact h1 rfl
theorem br_Am (h1 : b = true → Qb false H) (h2 : b = false → tu σ H Qb) : BrA (!b) tu σ H Qb := by
  cases b
  · rw [Bool.not_false, b_At]; exact h2 rfl
  · rw [Bool.not_true, b_Af]; exact h1 rfl
theorem br_O (h1 : p → Qb true H) (h2 : ¬ p → tu σ H Qb) : BrO (decide p) tu σ H Qb := by
  by_cases h : p
  · rw [decide_eq_true h, b_Ot]; exact h1 h
  · rw [decide_eq_false h, b_Of]; exact h2 h
theorem br_On (h1 : p → tu σ H Qb) (h2 : ¬ p → Qb true H) : BrO (!decide p) tu σ H Qb := by
  by_cases h : p
  · rw [decide_eq_true h, Bool.not_true, b_Of]; exact h1 h
  · rw [decide_eq_false h, Bool.not_false, b_Ot]; exact h2 h
theorem br_Ob (h1 : b = true → Qb true H) (h2 : b = false → tu σ H Qb) : BrO b tu σ H Qb := by
  cases b
  · rw [b_Of]; exact h2 rfl
  · rw [b_Ot]; exact h1 rfl
theorem br_Om (h1 : b = true → tu σ H Qb) (h2 : b = false → Qb true H) : BrO (!b) tu σ H Qb := by
  cases b
  · rw [Bool.not_false, b_Ot]; exact h2 rfl
  · rw [Bool.not_true, b_Of]; exact h1 rfl
theorem br_AV (h1 : p → ta σ H Q) (h2 : ¬ p → Q (.bl false) H) : BrAV (decide p) ta σ H Q := by
  by_cases h : p
  · rw [decide_eq_true h, b_AVt]; exact h1 h
  · rw [decide_eq_false h, b_AVf]; exact h2 h
theorem br_AVn (h1 : p → Q (.bl false) H) (h2 : ¬ p → ta σ H Q) : BrAV (!decide p) ta σ H Q := by
  by_cases h : p
  · rw [decide_eq_true h, Bool.not_true, b_AVf]; exact h1 h
  · rw [decide_eq_false h, Bool.not_false, b_AVt]; exact h2 h
theorem br_AVb (h1 : b = true → ta σ H Q) (h2 : b = false → Q (.bl false) H) : BrAV b ta σ H Q := by
  cases b
  · rw [b_AVf]; exact h2 rfl
  · rw [b_AVt]; exact h1 rfl
theorem br_AVm (h1 : b = true → Q (.bl false) H) (h2 : b = false → ta σ H Q) : BrAV (!b) ta σ H Q := by
  cases b
  · rw [Bool.not_false, b_AVt]; exact h2 rfl
  · rw [Bool.not_true, b_AVf]; exact h1 rfl
theorem br_OV (h1 : p → Q (.bl true) H) (h2 : ¬ p → ta σ H Q) : BrOV (decide p) ta σ H Q := by
  by_cases h : p
  · rw [decide_eq_true h, b_OVt]; exact h1 h
  · rw [decide_eq_false h, b_OVf]; exact h2 h
theorem br_OVn (h1 : p → ta σ H Q) (h2 : ¬ p → Q (.bl true) H) : BrOV (!decide p) ta σ H Q := by
  by_cases h : p
  · rw [decide_eq_true h, Bool.not_true, b_OVf]; exact h1 h
  · rw [decide_eq_false h, Bool.not_false, b_OVt]; exact h2 h
theorem br_OVb (h1 : b = true → Q (.bl true) H) (h2 : b = false → ta σ H Q) : BrOV b ta σ H Q := by
  cases b
  · rw [b_OVf]; exact h2 rfl
  · rw [b_OVt]; exact h1 rfl
theorem br_OVm (h1 : b = true → ta σ H Q) (h2 : b = false → Q (.bl true) H) : BrOV (!b) ta σ H Q := by
  cases b
  · rw [Bool.not_false, b_OVt]; exact h2 rfl
  · rw [Bool.not_true, b_OVf]; exact h1 rfl
theorem br_C (h1 : p → (ta σ H fun w' H4 => r y w' H4 Q)) (h2 : ¬ p → Q (.bl false) H) : BrC (decide p) r y ta σ H Q := by
  by_cases h : p
  · rw [decide_eq_true h, b_Ct]; exact h1 h
  · rw [decide_eq_false h, b_Cf]; exact h2 h
theorem br_Cn (h1 : p → Q (.bl false) H) (h2 : ¬ p → (ta σ H fun w' H4 => r y w' H4 Q)) : BrC (!decide p) r y ta σ H Q := by
  by_cases h : p
  · rw [decide_eq_true h, Bool.not_true, b_Cf]; exact h1 h
  · rw [decide_eq_false h, Bool.not_false, b_Ct]; exact h2 h
theorem br_Cb (h1 : b = true → (ta σ H fun w' H4 => r y w' H4 Q)) (h2 : b = false → Q (.bl false) H) : BrC b r y ta σ H Q := by
  cases b
  · rw [b_Cf]; exact h2 rfl
  · rw [b_Ct]; exact h1 rfl
theorem br_Cm (h1 : b = true → Q (.bl false) H) (h2 : b = false → (ta σ H fun w' H4 => r y w' H4 Q)) : BrC (!b) r y ta σ H Q := by
  cases b
  · rw [Bool.not_false, b_Ct]; exact h2 rfl
  · rw [Bool.not_true, b_Cf]; exact h1 rfl
end
/-! ### while -/
def NX (W : Nat → L2.St → Hp → Prop) (m : Nat) : L2.St → Hp → Prop := fun σ H => ∃ m', m' < m ∧ W m' σ H
def BrW (b : Bool) (W : Nat → L2.St → Hp → Prop) (m : Nat) (tb : TS) : TS := fun D σ H1 => if b = true then ∃ N : L2.St → Hp → Prop, (∀ σ' H', N σ' H' → ∃ m', m' < m ∧ W m' σ' H') ∧ tb { D with nx := N, ct := N, bk := D.nx } σ H1 else D.nx σ H1
theorem g_while {tt : TT} {tb : TS} {D : Ends} {σ : L2.St} {H : Hp} : tWhile tt tb D σ H = ∃ W : Nat → L2.St → Hp → Prop, (∃ m, W m σ H) ∧ ∀ m σ H, W m σ H → tt σ H fun b H1 => BrW b W m tb D σ H1 := rfl
section
variable {p : Prop} [Decidable p] {W : Nat → L2.St → Hp → Prop} {m : Nat} {tb : TS} {D : Ends} {σ : L2.St} {H : Hp}
theorem b_Wt (h : tb { D with nx := NX W m, ct := NX W m, bk := D.nx } σ H) : BrW true W m tb D σ H := by
  show if true = true then _ else _
  rw [if_pos rfl]
  exact ⟨NX W m, fun _ _ h => h, h⟩
theorem b_Wf (h : D.nx σ H) : BrW false W m tb D σ H := by
  show if false = true then _ else _
  rw [if_neg Bool.false_ne_true]
  exact h
theorem br_W (h1 : p → tb { D with nx := NX W m, ct := NX W m, bk := D.nx } σ H) (h2 : ¬ p → D.nx σ H) : BrW (decide p) W m tb D σ H := by
  by_cases h : p
  · rw [decide_eq_true h]; exact b_Wt (h1 h)
  · rw [decide_eq_false h]; exact b_Wf (h2 h)
end
end KG

end

section
set_option maxHeartbeats 1000000
/-! KLc: comprehensions, walks with their places; dicts by texts. -/
namespace KG
open PySem PySem.Spec PyProof.Rows L2

/-- what a turn of a comprehension has to reach -/
def BrL (b : Bool) (te : TE) (D : Addr) (Nx : Hp → Prop) (σ2 : L2.St) (H3 : Hp) : Prop :=
  if b = true then te σ2 H3 fun y H4 => ∃ acc, H4 D = some (.lst acc) ∧ acc.length < sizeLine ∧ Nx (upd H4 D (.lst (acc ++ [y]))) else Nx H3
section
variable {te : TE} {D : Addr} {Nx : Hp → Prop} {σ : L2.St} {H : Hp} {p : Prop} [Decidable p] {b : Bool}
theorem b_Lt : BrL true te D Nx σ H = te σ H fun y H4 => ∃ acc, H4 D = some (.lst acc) ∧ acc.length < sizeLine ∧ Nx (upd H4 D (.lst (acc ++ [y]))) := if_pos rfl
theorem b_Lf : BrL false te D Nx σ H = Nx H := if_neg Bool.false_ne_true
theorem br_L (h1 : p → te σ H fun y H4 => ∃ acc, H4 D = some (.lst acc) ∧ acc.length < sizeLine ∧ Nx (upd H4 D (.lst (acc ++ [y])))) (h2 : ¬ p → Nx H) : BrL (decide p) te D Nx σ H := by
  by_cases h : p
  · rw [decide_eq_true h, b_Lt]; exact h1 h
  · rw [decide_eq_false h, b_Lf]; exact h2 h
theorem br_Ln (h1 : p → Nx H) (h2 : ¬ p → te σ H fun y H4 => ∃ acc, H4 D = some (.lst acc) ∧ acc.length < sizeLine ∧ Nx (upd H4 D (.lst (acc ++ [y])))) : BrL (!decide p) te D Nx σ H := by
  by_cases h : p
  · rw [decide_eq_true h, Bool.not_true, b_Lf]; exact h1 h
  · rw [decide_eq_false h, Bool.not_false, b_Lt]; exact h2 h
theorem br_Lb (h1 : b = true → te σ H fun y H4 => ∃ acc, H4 D = some (.lst acc) ∧ acc.length < sizeLine ∧ Nx (upd H4 D (.lst (acc ++ [y])))) (h2 : b = false → Nx H) : BrL b te D Nx σ H := by
  cases b
  · rw [b_Lf]; exact h2 rfl
  · rw [b_Lt]; exact h1 rfl
theorem br_Lm (h1 : b = true → Nx H) (h2 : b = false → te σ H fun y H4 => ∃ acc, H4 D = some (.lst acc) ∧ acc.length < sizeLine ∧ Nx (upd H4 D (.lst (acc ++ [y])))) : BrL (!b) te D Nx σ H := by
  cases b
  · rw [Bool.not_false, b_Lt]; exact h2 rfl
  · rw [Bool.not_true, b_Lf]; exact h1 rfl
theorem g_yes {Qb : Bool → Hp → Prop} : tYes σ H Qb = Qb true H := rfl
theorem g_wipe0 : wipe σ [] = σ := rfl
theorem g_wipe1 {v : Nat} : wipe σ [v] = σ.set v none := rfl
theorem g_wipe3 {v u t : Nat} : wipe σ [v, u, t] = ((σ.set t none).set u none).set v none := rfl
theorem g_wipe2 {v u : Nat} : wipe σ [v, u] = (σ.set u none).set v none := rfl
end
theorem lc_of {J : It} {n : Nat} {g : TG} {tt : TT} {te : TE} {vs : List Nat} {σ : L2.St} {H1 : Hp} {D : Addr} {Qd : Hp → Prop} (P : Nat → V → Hp → Hp → Prop) (Pv : Nat → Hp → Prop)
    (hgo : ∀ i H, i < n → Pv i H → J.go i H) (hy : ∀ i H x H', i < n → J.yld i H x H' → P i x H H') (hst : ∀ H, Pv n H → J.stop n H) (h0 : Pv 0 (upd H1 D (.lst [])))
    (hs : ∀ i x H H', i < n → P i x H H' → Pv i H → g x (wipe σ vs) H' fun σ2 H2 => wipe σ2 vs = wipe σ vs ∧ tt σ2 H2 fun b H3 => BrL b te D (Pv (i + 1)) σ2 H3) (hd : ∀ H, Pv n H → Qd H) :
    ∃ W : Nat → Nat → Hp → Prop, (∃ m, W 0 m (upd H1 D (.lst []))) ∧ ∀ i m H, W i m H →
      (J.stop i H ∧ Qd H) ∨ (J.go i H ∧ ∃ Nx : Hp → Prop, (∀ H', Nx H' → ∃ m', m' < m ∧ W (i + 1) m' H') ∧ ∀ x H', J.yld i H x H' → g x (wipe σ vs) H' fun σ2 H2 => wipe σ2 vs = wipe σ vs ∧ tt σ2 H2 fun b H3 =>
        if b = true then te σ2 H3 fun y H4 => ∃ acc, H4 D = some (.lst acc) ∧ acc.length < sizeLine ∧ Nx (upd H4 D (.lst (acc ++ [y]))) else Nx H3) := by
  refine ⟨fun i m H => m = n - i ∧ i ≤ n ∧ Pv i H, ⟨n, by simp, Nat.zero_le _, h0⟩, ?_⟩
  rintro i m H ⟨rfl, hi, p⟩
  by_cases hlt : i < n
  · exact .inr ⟨hgo i H hlt p, Pv (i + 1), fun H' p' => ⟨n - (i + 1), by omega, rfl, hlt, p'⟩, fun x H' y => hs i x H H' hlt (hy i H x H' hlt y) p⟩
  · have e : i = n := by omega
    subst e
    exact .inl ⟨hst H p, hd H p⟩
section
variable {K : PySem.W.Frag} {te0 te : TE} {g : TG} {tt : TT} {vs : List Nat} {σ : L2.St} {H : Hp} {Q : VK}
theorem lc_S {l : List Nat} (hv : Is te0 σ H (S l)) (Pv : Addr → Nat → Hp → Prop) (h0 : ∀ D, H D = none → Pv D 0 (upd H D (.lst [])))
    (hs : ∀ D i c H', H D = none → l[i]? = some c → Pv D i H' → g (S [c]) (wipe σ vs) H' fun σ2 H2 => wipe σ2 vs = wipe σ vs ∧ tt σ2 H2 fun b H3 => BrL b te D (Pv D (i + 1)) σ2 H3)
    (hd : ∀ D H', H D = none → Pv D l.length H' → Q (.ref D) H') : tLc (iK K te0) g tt te vs σ H Q :=
  hv _ fun D hD => lc_of (n := l.length) (fun i x H H' => H' = H ∧ ∃ c, l[i]? = some c ∧ x = S [c]) (Pv D) (fun i _ hi _ => its_go.mpr hi) (fun i H x H' _ y => its_yld.mp y) (fun _ _ => its_stop.mpr (Nat.le_refl _)) (h0 D hD)
    (fun i x H H' _ p pv => by
      obtain ⟨rfl, c, hc, rfl⟩ := p
      exact hs D i c _ hD hc pv) (fun H' p => hd D H' hD p)
theorem lc_L {a : Addr} {xs : List V} (hv : Is te0 σ H (.ref a)) (hx0 : SqL K H a xs) (Pv : Addr → Nat → Hp → Prop) (h0 : ∀ D, H D = none → Pv D 0 (upd H D (.lst [])))
    (hx : ∀ D i H', H D = none → i ≤ xs.length → Pv D i H' → SqL K H' a xs)
    (hs : ∀ D i x H', H D = none → xs[i]? = some x → Pv D i H' → g x (wipe σ vs) H' fun σ2 H2 => wipe σ2 vs = wipe σ vs ∧ tt σ2 H2 fun b H3 => BrL b te D (Pv D (i + 1)) σ2 H3)
    (hd : ∀ D H', H D = none → Pv D xs.length H' → Q (.ref D) H') : tLc (iK K te0) g tt te vs σ H Q :=
  hv _ (.inl ⟨⟨xs, hx0⟩, fun D hD => lc_list (Pv D) (h0 D hD) (fun i H' hi p => hx D i H' hD hi p) (fun i x H' hi p => hs D i x H' hD hi p) (fun H' p => hd D H' hD p)⟩)
theorem lc_T {a : Addr} {xs : List V} (hv : Is te0 σ H (.ref a)) (hx0 : SqT K H a xs) (Pv : Addr → Nat → Hp → Prop) (h0 : ∀ D, H D = none → Pv D 0 (upd H D (.lst [])))
    (hx : ∀ D i H', H D = none → i ≤ xs.length → Pv D i H' → SqT K H' a xs)
    (hs : ∀ D i x H', H D = none → xs[i]? = some x → Pv D i H' → g x (wipe σ vs) H' fun σ2 H2 => wipe σ2 vs = wipe σ vs ∧ tt σ2 H2 fun b H3 => BrL b te D (Pv D (i + 1)) σ2 H3)
    (hd : ∀ D H', H D = none → Pv D xs.length H' → Q (.ref D) H') : tLc (iK K te0) g tt te vs σ H Q :=
  hv _ (.inr ⟨⟨xs, hx0⟩, fun D hD => lc_tup (Pv D) (h0 D hD) (fun i H' hi p => hx D i H' hD hi p) (fun i x H' hi p => hs D i x H' hD hi p) (fun H' p => hd D H' hD p)⟩)
theorem lc_R {ta : TA} {n : Int} (hv : ∀ Q : List V → Hp → Prop, Q [.int n] H → ta σ H Q) (hn : n ≤ 1000000 ∧ -1000000 ≤ n) (Pv : Addr → Nat → Hp → Prop) (h0 : ∀ D, H D = none → Pv D 0 (upd H D (.lst [])))
    (hs : ∀ D i H', H D = none → i < n.toNat → Pv D i H' → g (.int (i : Nat)) (wipe σ vs) H' fun σ2 H2 => wipe σ2 vs = wipe σ vs ∧ tt σ2 H2 fun b H3 => BrL b te D (Pv D (i + 1)) σ2 H3)
    (hd : ∀ D H', H D = none → Pv D n.toNat H' → Q (.ref D) H') : tLc (iRng1 ta) g tt te vs σ H Q :=
  hv _ ⟨n, rfl, by omega, by omega, fun D hD => lc_range (lo := 0) (Pv D) (h0 D hD) (fun i H' hi p => by
    have := hs D i H' hD hi p
    rw [← Int.zero_add ((i : Nat) : Int)] at this
    exact this) (fun H' p => hd D H' hD p)⟩
end
/-! ### walks with their places -/
theorem ites_go {l : List Nat} {i : Nat} {H : Hp} : (IteS ⟨l.toArray⟩).go i H ↔ i < l.length := by simp [IteS]
theorem ites_stop {l : List Nat} {i : Nat} {H : Hp} : (IteS ⟨l.toArray⟩).stop i H ↔ l.length ≤ i := by simp [IteS]
theorem ites_yld {l : List Nat} {i : Nat} {H H' : Hp} {v : V} : (IteS ⟨l.toArray⟩).yld i H v H' ↔ ∃ T c, v = .ref T ∧ H T = none ∧ H' = upd H T (.tup [.int (i : Nat), S [c]]) ∧ l[i]? = some c := by
  simp [IteS, S]
/-! ### dicts by texts: the keys single signs -/
def ks (c : Nat) : Key := .inr ⟨#[c]⟩
theorem ks_kV (c : Nat) : kV (ks c) = S [c] := rfl
theorem ks_inj {a b : Nat} : ks a = ks b ↔ a = b := by
  constructor
  · intro h
    have h1 : (⟨#[a]⟩ : Str) = ⟨#[b]⟩ := Sum.inr.inj h
    have h2 : #[a] = #[b] := congrArg Str.cps h1
    simpa using h2
  · rintro rfl
    rfl
/-- the dict of a row of signs with texts -/
def kvs (b : List (Nat × List Nat)) : List (Key × V) := b.map fun p => (ks p.1, S p.2)
theorem valV_kvs (c : Nat) : ∀ b : List (Nat × List Nat), valV (kvs b) (ks c) = (b.lookup c).map S
  | [] => rfl
  | (d, x) :: r => by
    have ih := valV_kvs c r
    by_cases h : d = c
    · subst h
      rw [show kvs ((d, x) :: r) = (ks d, S x) :: kvs r from rfl, valV_pos rfl]
      simp [List.lookup]
    · have h2 : ¬ ks d = ks c := fun e => h (ks_inj.mp e)
      rw [show kvs ((d, x) :: r) = (ks d, S x) :: kvs r from rfl, valV_neg h2, ih]
      have h3 : (c == d) = false := beq_eq_false_iff_ne.mpr (fun e => h e.symm)
      simp [List.lookup, h3]
theorem putK_kvs {c : Nat} {x : List Nat} {b : List (Nat × List Nat)} (h : b.lookup c = none) : putK (kvs b) (ks c) (S x) = kvs (b ++ [(c, x)]) := by
  have h1 : ((kvs b).any fun kv => decide (kv.1 = ks c)) = false := by
    rw [valV_any, valV_kvs, h]
    rfl
  unfold putK
  rw [if_neg (by rw [h1]; exact Bool.false_ne_true)]
  simp [kvs]
theorem kvs_len (b : List (Nat × List Nat)) : (kvs b).length = b.length := by simp [kvs]
/-! ### join -/
theorem joinL_nil : ∀ ls : List (List Nat), TL.joinL [] ls = ls.flatten
  | [] => rfl
  | [p] => by simp [TL.joinL]
  | p :: q :: r => by
    show p ++ ([] ++ TL.joinL [] (q :: r)) = _
    rw [joinL_nil (q :: r)]
    simp
def kJoin (K : PySem.W.Frag) : V → List V → Hp → VK → Prop := fun x xs H Q => ∃ a p, ∃ ys : List Str, x = .str a ∧ xs = [.ref p] ∧ (SqL K H p (ys.map V.str) ∨ SqT K H p (ys.map V.str)) ∧
  (ys.map (·.length)).sum + ys.length * a.length ≤ 16777216 ∧ Q (.str (Txt.join a ys)) H
theorem join_run {K : PySem.W.Frag} {H : Hp} {Q : VK} {a : List Nat} {p : Addr} {ls : List (List Nat)} (h : SqL K H p (ls.map S) ∨ SqT K H p (ls.map S)) (hz : (ls.map (·.length)).sum + ls.length * a.length ≤ 1000000) (q : Q (S (TL.joinL a ls)) H) : kJoin K (S a) [.ref p] H Q := by
  have e : ls.map S = (ls.map SX.S).map V.str := by rw [List.map_map]; rfl
  refine ⟨SX.S a, p, ls.map SX.S, rfl, rfl, by rw [← e]; exact h, ?_, ?_⟩
  · rw [SX.lens, List.length_map, SX.S_len]
    omega
  · rw [SX.join_S]
    exact q
section
variable {σ : L2.St} {H : Hp} {Q : VK} {to te td ty tx : TE} {K : PySem.W.Frag}
theorem g_M1 {r : V → List V → Hp → VK → Prop} : tM1 r to te σ H Q = to σ H fun x H1 => (∃ a, x = .str a) ∧ te σ H1 fun y H2 => r x [y] H2 Q := rfl
theorem g_dget2 : tDGet2 td ty tx σ H Q = td σ H fun x H1 => ∃ a, x = .ref a ∧ IsD H1 a ∧ ty σ H1 fun y H2 => tx σ H2 fun z H3 => ∃ o, DGet H3 a y o ∧ Q (o.getD z) H3 := rfl
theorem g_isS {l : List Nat} : (∃ a, S l = .str a) ↔ True := ⟨fun _ => trivial, fun _ => ⟨_, rfl⟩⟩
end
end KG

end

section
set_option maxHeartbeats 1000000
/-! KGenGo: readings of generator bodies at their place; their loops; walks with places. -/
namespace KG
open PySem PySem.Spec PyProof.Rows L2 GenW

def BrG (b : Bool) (t u : TGn) : TGn := fun D ys σ H => if b = true then t D ys σ H else u D ys σ H
section
variable {t u : TGn} {ts : TS} {D : GEnds} {ys : List V} {σ : L2.St} {H : Hp} {c : TT} {te : TE} {yl : List V → V → Hp → Prop} {p : Prop} [Decidable p] {b : Bool}
theorem b_Gt : BrG true t u D ys σ H = t D ys σ H := if_pos rfl
theorem b_Gf : BrG false t u D ys σ H = u D ys σ H := if_neg Bool.false_ne_true
theorem br_G (h1 : p → t D ys σ H) (h2 : ¬ p → u D ys σ H) : BrG (decide p) t u D ys σ H := by
  by_cases h : p
  · rw [decide_eq_true h, b_Gt]; exact h1 h
  · rw [decide_eq_false h, b_Gf]; exact h2 h
theorem k_then : tGThen t u D ys σ H = t { D with nx := fun ys' σ' H' => u D ys' σ' H' } ys σ H := rfl
theorem k_0 : tG0 D ys σ H = D.nx ys σ H := rfl
theorem k_plain : tPlain ts D ys σ H = ts { nx := D.nx ys, rt := D.rt ys, bk := D.bk ys, ct := D.ct ys } σ H := rfl
theorem k_if : tGIf c t u D ys σ H = c σ H fun b H1 => BrG b t u D ys σ H1 := rfl
theorem k_yield : tKYield yl te D ys σ H = (ys.length < sizeLine ∧ te σ H fun x H1 => yl ys x H1 ∧ D.nx (ys ++ [x]) σ H1) := rfl
end
theorem kloop_of {J : It} {n : Nat} {g : TG} {tb : TGn} {D : GEnds} {ys : List V} {σ : L2.St} {H : Hp} (P : Nat → V → Hp → Hp → Prop) (Pv : Nat → List V → L2.St → Hp → Prop)
    (hgo : ∀ i ys σ H, i < n → Pv i ys σ H → J.go i H) (hy : ∀ i H x H', i < n → J.yld i H x H' → P i x H H') (hst : ∀ ys σ H, Pv n ys σ H → J.stop n H) (h0 : Pv 0 ys σ H)
    (hs : ∀ i x ys σ H H', i < n → P i x H H' → Pv i ys σ H → g x σ H' fun σ2 H2 => tb { D with nx := Pv (i + 1), ct := Pv (i + 1), bk := D.nx } ys σ2 H2) (hd : ∀ ys σ H, Pv n ys σ H → D.nx ys σ H) :
    ∃ W : Nat → Nat → List V → L2.St → Hp → Prop, (∃ m, W 0 m ys σ H) ∧ ∀ i m ys σ H, W i m ys σ H →
      (J.stop i H ∧ D.nx ys σ H) ∨ (J.go i H ∧ ∃ N : List V → L2.St → Hp → Prop, (∀ ys' σ' H', N ys' σ' H' → ∃ m', m' < m ∧ W (i + 1) m' ys' σ' H') ∧ ∀ x H', J.yld i H x H' → g x σ H' fun σ2 H2 => tb { D with nx := N, ct := N, bk := D.nx } ys σ2 H2) := by
  refine ⟨fun i m ys σ H => m = n - i ∧ i ≤ n ∧ Pv i ys σ H, ⟨n, by simp, Nat.zero_le _, h0⟩, ?_⟩
  rintro i m ys σ H ⟨rfl, hi, p⟩
  by_cases hlt : i < n
  · exact .inr ⟨hgo i ys σ H hlt p, Pv (i + 1), fun ys' σ' H' p' => ⟨n - (i + 1), by omega, rfl, hlt, p'⟩, fun x H' y => hs i x ys σ H H' hlt (hy i H x H' hlt y) p⟩
  · have e : i = n := by omega
    subst e
    exact .inl ⟨hst ys σ H p, hd ys σ H p⟩
/-- for i, x in enumerate(s), in a generator: s a text -/
theorem kloop_eS {ta : TA} {l : List Nat} {g : TG} {tb : TGn} {D : GEnds} {ys : List V} {σ : L2.St} {H : Hp} (hv : ∀ Q : List V → Hp → Prop, Q [S l] H → ta σ H Q) (Pv : Nat → List V → L2.St → Hp → Prop) (h0 : Pv 0 ys σ H)
    (hs : ∀ i c ys σ H T, l[i]? = some c → H T = none → Pv i ys σ H → g (.ref T) σ (upd H T (.tup [.int (i : Nat), S [c]])) fun σ2 H2 => tb { D with nx := Pv (i + 1), ct := Pv (i + 1), bk := D.nx } ys σ2 H2)
    (hd : ∀ ys σ H, Pv l.length ys σ H → D.nx ys σ H) : tGFor (iEnumS ta) g tb D ys σ H :=
  hv _ ⟨⟨l.toArray⟩, rfl, kloop_of (n := l.length) (fun i x H H' => ∃ T c, x = .ref T ∧ H T = none ∧ H' = upd H T (.tup [.int (i : Nat), S [c]]) ∧ l[i]? = some c) Pv (fun i _ _ _ hi _ => ites_go.mpr hi) (fun i H x H' _ y => ites_yld.mp y)
    (fun _ _ _ _ => ites_stop.mpr (Nat.le_refl _)) h0 (fun i x ys σ H H' _ p pv => by
      obtain ⟨T, c, rfl, hT, rfl, hc⟩ := p
      exact hs i c ys σ H T hc hT pv) hd⟩
/-- for i, x in enumerate(t), in a generator: t a tuple -/
theorem kloop_eT {K : PySem.W.Frag} {ta : TA} {a : Addr} {xs : List V} {g : TG} {tb : TGn} {D : GEnds} {ys : List V} {σ : L2.St} {H : Hp} (hv : ∀ Q : List V → Hp → Prop, Q [.ref a] H → ta σ H Q) (Pv : Nat → List V → L2.St → Hp → Prop) (h0 : Pv 0 ys σ H)
    (hx : ∀ i ys σ H, Pv i ys σ H → SqT K H a xs)
    (hs : ∀ i x ys σ H T, xs[i]? = some x → H T = none → Pv i ys σ H → g (.ref T) σ (upd H T (.tup [.int (i : Nat), x])) fun σ2 H2 => tb { D with nx := Pv (i + 1), ct := Pv (i + 1), bk := D.nx } ys σ2 H2)
    (hd : ∀ ys σ H, Pv xs.length ys σ H → D.nx ys σ H) : tGFor (iEnumT K ta) g tb D ys σ H := by
  refine hv _ ⟨a, xs, rfl, hx 0 ys σ H h0, ?_⟩
  refine kloop_of (n := xs.length) (fun i x H H' => ∃ T y, x = .ref T ∧ H T = none ∧ H' = upd H T (.tup [.int (i : Nat), y]) ∧ ∀ xs, SqT K H a xs → xs[i]? = some y) Pv (fun i ys σ H hi p => ⟨xs, xs[i], hx i ys σ H p, by simp [hi]⟩) (fun i H x H' _ y => y)
    (fun ys σ H p => ⟨xs, hx _ ys σ H p, Nat.le_refl _⟩) h0 (fun i x ys σ H H' _ p pv => ?_) hd
  obtain ⟨T, y, rfl, hT, rfl, hy⟩ := p
  exact hs i y ys σ H T (hy xs (hx i ys σ H pv)) hT pv
/-- THE RULE of a generator def, by the words -/
theorem gen_ok {P : Program} {w : World} {K : PySem.W.Frag} {mg : Str → Option Value} {base : Heap} {k : Nat} {x qual : Str} {st : Stmt} {f : Addr} {fd : FuncData} {N ps : List Str} {sp : SpK} (F : Fun K x qual st f fd) (S : GScope N ps (defScope st))
    (len : ∀ vs H yl Q E, sp vs H yl Q E → vs.length = ps.length)
    (hbody : ∀ (cdv : Value) (A : Around) (outer : List Env) (sc : Shared) (Hs : Hp) (vs : List V) (yl : List V → V → Hp → Prop) (Q : List V → Hp → Prop) (E : XK) (a : Addr) (go : Obj) (Ss : List Addr) (Gh : List V → Heap → Prop),
      Room k (A.deeper (envOfC qual (defScope st) sc.heap.objs.size f cdv)) → Run.Good ⟨konOf P w K mg base N (envOfC qual (defScope st) sc.heap.objs.size f cdv) outer Hs E sc A, a, go, Ss, Gh, yl⟩ → sp vs Hs yl Q E →
      ∃ t, KSs ⟨konOf P w K mg base N (envOfC qual (defScope st) sc.heap.objs.size f cdv) outer Hs E sc A, a, go, Ss, Gh, yl⟩ (defBody st) t ∧ t { nx := fun ys _ H' => Q ys H', rt := fun ys v H' => v = .non ∧ Q ys H' } [] (L2.start N vs) Hs) :
    KFn P w K mg base (k + 1) f fd ps sp := by
  obtain ⟨oc, od, kV, doc, pm, an, cdv, ct, osl, rfl, lk, hcd⟩ := F.ex
  exact kfn_of lk hcd S len fun A outer sc Hs vs yl Q E a go Ss Gh hr rg hsp => hbody cdv A outer sc Hs vs yl Q E a go Ss Gh hr rg hsp
theorem rx_K {G : Kon} {a : Addr} {go : Obj} {Ss : List Addr} {Gh : List V → Heap → Prop} {yl : List V → V → Hp → Prop} {s : Shared} : (Run.X ⟨G, a, go, Ss, Gh, yl⟩ s).K = G.K := rfl
theorem kon_K {P : Program} {w : World} {K : PySem.W.Frag} {mg : Str → Option Value} {base : Heap} {N : List Str} {env : Env} {outer : List Env} {Hs : Hp} {E : XK} {sc : Shared} {A : Around} : (konOf P w K mg base N env outer Hs E sc A).K = K := rfl
theorem g_never {D : Ends} {σ : L2.St} {H : Hp} : tNever D σ H = False := rfl
theorem g_tupK {tg : TKG} {σ : L2.St} {H : Hp} {Qv : VK} : tTupK tg σ H Qv = tg σ H fun H1 yl Q => ∀ ys H' Hm p, Q ys H' → ys.length ≤ sizeLine → Evl.Ex H1 Hm → Evl.Ex H' Hm → Hm p = none → Qv (.ref p) (upd Hm p (.tup ys)) := rfl
theorem g_listK {tg : TKG} {σ : L2.St} {H : Hp} {Qv : VK} : tListK tg σ H Qv = tg σ H fun H1 yl Q => ∀ ys H' Hm p, Q ys H' → ys.length ≤ sizeLine → Evl.Ex H1 Hm → Evl.Ex H' Hm → Hm p = none → Qv (.ref p) (upd Hm p (.lst ys)) := rfl
theorem g_KCall {sp : SpK} {t : TA} {σ : L2.St} {H : Hp} {C : Hp → (List V → V → Hp → Prop) → (List V → Hp → Prop) → Prop} : tKCall sp t σ H C = t σ H fun vs H1 => ∃ yl Q Hs, Shares H1 Hs ∧ sp vs Hs yl Q E0 ∧ C H1 yl Q := rfl
theorem g_for1 {tg : TKG} {g : TG} {tb : TS} {D : Ends} {σ : L2.St} {H : Hp} : tFor1 tg g tb D σ H = tg σ H fun H1 yl Q =>
  (∀ H' Hm, Q [] H' → Evl.Ex H1 Hm → Evl.Ex H' Hm → D.nx σ Hm) ∧
  (∀ x H' Hm, yl [] x H' → Evl.Ex H1 Hm → Evl.Ex H' Hm → g x σ Hm fun σ2 H2 => tb { D with nx := fun _ _ => False, ct := fun _ _ => False, bk := D.nx } σ2 H2) := rfl
/-- targets: a pair's names -/
theorem g_unpack {K : PySem.W.Frag} {gs : TGs} {n : Nat} {T : Addr} {xs : List V} {σ : L2.St} {H : Hp} {Q : L2.St → Hp → Prop} (h : SqT K H T xs) (hn : xs.length = n) (q : gs xs σ H Q) : gTup K n gs (.ref T) σ H Q := ⟨T, xs, rfl, h, hn, q⟩
/-- a tuple of the written part -/
def KTup (K : PySem.W.Frag) (a : Addr) (xs : List V) : Prop := ∃ (o : Obj) (its : Array Value) (n : Nat), K.lookup a = some o ∧ o.cls = .type "tuple" ∧ o.data = .seq its n ∧ its.size ≤ sizeLine ∧ Vals xs its.toList
theorem KTup.sq {K : PySem.W.Frag} {H : Hp} {a : Addr} {xs : List V} (h : KTup K a xs) : SqT K H a xs := .inr h
end KG

end

section
set_option maxHeartbeats 1000000
/-! KK: the rules whose readings name the written part, with its name K told (h by rfl). -/
namespace KG
open PySem PySem.Spec PyProof.Rows L2
section
variable {X : Cx} {K : PySem.W.Frag} {k : Nat}
theorem kk_add (h : X.K = K) : OpR X (binaryOp .Add) (kAdd K) := h ▸ op_kAdd
theorem kk_mul (h : X.K = K) : OpR X (binaryOp .Mult) (kMul K) := h ▸ op_kMul
theorem kk_eq (h : X.K = K) (hr : Room k X.A) : OpR X (compareOp .Eq) (kEq K) := h ▸ op_kEq hr
theorem kk_ne (h : X.K = K) (hr : Room k X.A) : OpR X (compareOp .NotEq) (kNe K) := h ▸ op_kNe hr
theorem kk_in (h : X.K = K) (hr : Room k X.A) : OpR X (compareOp .In) (kIn K) := h ▸ op_kIn hr
theorem kk_notin (h : X.K = K) (hr : Room k X.A) : OpR X (compareOp .NotIn) (kNotIn K) := h ▸ op_kNotIn hr
theorem kk_len (h : X.K = K) : CallR X (.builtin "len") (kLen K) := h ▸ call_kLen
theorem kk_isi (h : X.K = K) : CallR X (.builtin "isinstance") (kIsi K) := h ▸ call_kIsi
theorem kk_repr (h : X.K = K) (hr : Room k X.A) (ns : NoShow X.A) : CallR X (.builtin "repr") (rRepr K) := h ▸ call_repr hr ns
theorem kk_ix (h : X.K = K) : IxR X (kIx K) := h ▸ ix_k
theorem kk_sl (h : X.K = K) : SlR X (kSl K) := h ▸ sl_k
def kTupOf (K : PySem.W.Frag) : List V → Hp → VK → Prop := fun xs H Q => ∃ p ys, xs = [.ref p] ∧ ((SqL K H p ys ∧ ∀ l, H l = none → Q (.ref l) (upd H l (.tup ys))) ∨ (SqT K H p ys ∧ Q (.ref p) H))
theorem kk_tupOf (h : X.K = K) : CallR X (.type "tuple") (kTupOf K) := h ▸ call_tuple_of
def kListOf (K : PySem.W.Frag) : List V → Hp → VK → Prop := fun xs H Q => ∃ p ys, xs = [.ref p] ∧ (SqL K H p ys ∨ SqT K H p ys) ∧ ∀ l, H l = none → Q (.ref l) (upd H l (.lst ys))
theorem kk_listOf (h : X.K = K) : CallR X (.type "list") (kListOf K) := h ▸ call_list_of
theorem kk_pi {tg e : Expr} {te : TE} (h : X.K = K) (he : PE X e te) : PI X tg e (iK K te) := h ▸ pi_k he
theorem kk_piT {tg e : Expr} {ta : TA} (h : X.K = K) (hp : PI X tg e (iEnumT X.K ta)) : PI X tg e (iEnumT K ta) := h ▸ hp
theorem kk_gtup {e : Expr} {n : Nat} {t : TGs} (h : X.K = K) (hp : PG X e (gTup X.K n t)) : PG X e (gTup K n t) := h ▸ hp
theorem kk_bm {e : Expr} {T : String} {r : V → List V → Hp → VK → Prop} {to : TE} {t : TA} (h : X.K = K) (hp : PE X e (tBM X.K T r to t)) : PE X e (tBM K T r to t) := h ▸ hp
def tTruK (K : PySem.W.Frag) (ta : TE) : TT := fun σ H Q => ta σ H fun x H' => ∃ k, TruV K x H' k ∧ Q k H'
theorem kk_tru {a : Expr} {ta : TE} (h : X.K = K) (hp : PT X a (fun σ H Q => ta σ H fun x H' => ∃ k, TruV X.K x H' k ∧ Q k H')) : PT X a (tTruK K ta) := h ▸ hp
theorem kk_join {e : Expr} {to te : TE} (h : X.K = K) (hp : PE X e (tM1 (kJoin X.K) to te)) : PE X e (tM1 (kJoin K) to te) := h ▸ hp
theorem g_tru {σ : L2.St} {H : Hp} {Qb : Bool → Hp → Prop} {ta : TE} : tTruK K ta σ H Qb = ta σ H fun x H' => ∃ k, TruV K x H' k ∧ Qb k H' := rfl
/-! ### scalar built-ins by values -/
def kAbs : List V → Hp → VK → Prop := fun xs H Q => match xs with
  | [.int i] => Q (.int (if i < 0 then -i else i)) H
  | _ => False
theorem call_kAbs : CallR X (.builtin "abs") kAbs := by
  intro pins s σ H xs us Q I r h
  match xs, r, h with
  | [.int i], r, h => exact call_abs pins s σ H _ us Q I r ⟨i, rfl, h⟩
theorem kAbs_i {i : Int} {H : Hp} {Q : VK} : kAbs [.int i] H Q ↔ Q (.int (if i < 0 then -i else i)) H := Iff.rfl
def kMax : List V → Hp → VK → Prop := fun xs H Q => match xs with
  | [.int i, .int j] => Q (.int (if j > i then j else i)) H
  | _ => False
theorem call_kMax (hc : X.calm = true) : CallR X (.builtin "max") kMax := by
  intro pins s σ H xs us Q I r h
  match xs, r, h with
  | [.int i, .int j], r, h => exact call_max2 hc pins s σ H _ us Q I r ⟨i, j, rfl, h⟩
theorem kMax_i {i j : Int} {H : Hp} {Q : VK} : kMax [.int i, .int j] H Q ↔ Q (.int (if j > i then j else i)) H := Iff.rfl
def kMin : List V → Hp → VK → Prop := fun xs H Q => match xs with
  | [.int i, .int j] => Q (.int (if j < i then j else i)) H
  | _ => False
theorem call_kMin (hc : X.calm = true) : CallR X (.builtin "min") kMin := by
  intro pins s σ H xs us Q I r h
  match xs, r, h with
  | [.int i, .int j], r, h => exact call_min2 hc pins s σ H _ us Q I r ⟨i, j, rfl, h⟩
theorem kMin_i {i j : Int} {H : Hp} {Q : VK} : kMin [.int i, .int j] H Q ↔ Q (.int (if j < i then j else i)) H := Iff.rfl
def kIntOf : List V → Hp → VK → Prop := fun xs H Q => match xs with
  | [.int i] => Q (.int i) H
  | [.bl k] => Q (.int (if k then 1 else 0)) H
  | _ => False
theorem call_kInt : CallR X (.type "int") kIntOf := by
  intro pins s σ H xs us Q I r h
  match xs, r, h with
  | [.int i], r, h => exact call_int1 pins s σ H _ us Q I r (.inl ⟨i, rfl, h⟩)
  | [.bl k], r, h => exact call_int1 pins s σ H _ us Q I r (.inr ⟨k, rfl, h⟩)
theorem kIntOf_i {i : Int} {H : Hp} {Q : VK} : kIntOf [.int i] H Q ↔ Q (.int i) H := Iff.rfl
theorem kIntOf_b {b : Bool} {H : Hp} {Q : VK} : kIntOf [.bl b] H Q ↔ Q (.int (if b then 1 else 0)) H := Iff.rfl
theorem g_sub {to ti : TE} {f : TSet} {v : V} {σ : L2.St} {H : Hp} {Q : L2.St → Hp → Prop} : gSub to ti f v σ H Q = to σ H fun o H1 => ti σ H1 fun i H2 => f o i v H2 fun H3 => Q σ H3 := rfl
theorem ixL {p : Addr} {xs : List V} {i : Int} {v : V} {H : Hp} {Q : VK} (h : SqL K H p xs) (e : atI xs i = some v) (q : Q v H) : kIx K (.ref p) (.int i) H Q := ⟨xs, v, .inl h, e, q⟩
theorem ixT {p : Addr} {xs : List V} {i : Int} {v : V} {H : Hp} {Q : VK} (h : SqT K H p xs) (e : atI xs i = some v) (q : Q v H) : kIx K (.ref p) (.int i) H Q := ⟨xs, v, .inr h, e, q⟩
theorem lenL {p : Addr} {xs : List V} {H : Hp} {Q : VK} (h : SqL K H p xs) (q : Q (.int xs.length) H) : kLen K [.ref p] H Q := .inl ⟨xs, .inl h, q⟩
theorem lenT {p : Addr} {xs : List V} {H : Hp} {Q : VK} (h : SqT K H p xs) (q : Q (.int xs.length) H) : kLen K [.ref p] H Q := .inl ⟨xs, .inr h, q⟩
theorem setL {p : Addr} {xs : List V} {i : Int} {j : Nat} {v : V} {H : Hp} {Q : Hp → Prop} (h : H p = some (.lst xs)) (e : ixN xs.length i = some j) (q : Q (upd H p (.lst (xs.set j v)))) : rSetL (.ref p) (.int i) v H Q := ⟨p, xs, i, j, rfl, rfl, h, e, q⟩
end
/-! ### a heap where the dice alone have turned -/
def Dc (H : Hp) (d : Addr) : Prop := ∃ a b c : Int, H d = some (.lst [.int a, .int b, .int c])
structure Fx (d : Addr) (H H' : Hp) : Prop where
  keep : ∀ b o, b ≠ d → H b = some o → H' b = some o
  dc : Dc H' d
theorem Dc.ex {H H' : Hp} {d : Addr} (e : Evl.Ex H H') (h : Dc H d) : Dc H' d := let ⟨a, b, c, h⟩ := h; ⟨a, b, c, e _ _ h⟩
theorem Fx.refl {d : Addr} {H : Hp} (h : Dc H d) : Fx d H H := ⟨fun _ _ _ e => e, h⟩
theorem Fx.of {d : Addr} {H H' : Hp} (h : Dc H d) (e : Evl.Ex H H') : Fx d H H' := ⟨fun b o _ q => e b o q, h.ex e⟩
theorem Fx.trans {d : Addr} {H H1 H2 : Hp} (a : Fx d H H1) (b : Fx d H1 H2) : Fx d H H2 := ⟨fun c o h q => b.keep c o h (a.keep c o h q), b.dc⟩
theorem Fx.upd {d : Addr} {H : Hp} {a b c : Int} : Fx d H (upd H d (.lst [.int a, .int b, .int c])) := ⟨fun e o h q => by rw [upd_ne h]; exact q, a, b, c, upd_same⟩
theorem Fx.l {d p : Addr} {H H' : Hp} {K : PySem.W.Frag} {xs : List V} (f : Fx d H H') (h : p ≠ d) (q : SqL K H p xs) : SqL K H' p xs := by
  rcases q with (q | ⟨o, q⟩) | q
  · exact .inl (.inl (f.keep _ _ h q))
  · exact .inl (.inr ⟨o, f.keep _ _ h q⟩)
  · exact .inr q
theorem Fx.t {d p : Addr} {H H' : Hp} {K : PySem.W.Frag} {xs : List V} (f : Fx d H H') (h : p ≠ d) (q : SqT K H p xs) : SqT K H' p xs := by
  rcases q with (q | ⟨o, q⟩) | q
  · exact .inl (.inl (f.keep _ _ h q))
  · exact .inl (.inr ⟨o, f.keep _ _ h q⟩)
  · exact .inr q
/-- a thing that stands (not the dice) -/
theorem Dc.ne {H : Hp} {d p : Addr} {o : HO} (h : Dc H d) (e : H p = some o) (z : ∀ a b c : Int, o ≠ .lst [.int a, .int b, .int c]) : p ≠ d := by
  obtain ⟨a, b, c, h⟩ := h
  exact ne_of e h (z a b c)
/-! ### a heap where one list alone has grown -/
def Mx (p : Addr) (H H' : Hp) : Prop := ∀ b o, b ≠ p → H b = some o → H' b = some o
theorem Mx.refl {p : Addr} {H : Hp} : Mx p H H := fun _ _ _ e => e
theorem Mx.trans {p : Addr} {H H1 H2 : Hp} (a : Mx p H H1) (b : Mx p H1 H2) : Mx p H H2 := fun c o h q => b c o h (a c o h q)
theorem Mx.of {p : Addr} {H H' : Hp} (e : Evl.Ex H H') : Mx p H H' := fun b o _ q => e b o q
theorem Mx.upd {p : Addr} {H : Hp} {o : HO} : Mx p H (upd H p o) := fun b u h q => by rw [upd_ne h]; exact q
theorem Mx.ex {p : Addr} {H H' : Hp} {o : HO} (m : Mx p (L2.upd H p o) H') (hp : H p = none) : Evl.Ex H H' := fun b u q => by
  have h : b ≠ p := fun z => by rw [z, hp] at q; cases q
  exact m b u h (by rw [upd_ne h]; exact q)
/-- things that stand outside of p -/
theorem Mx.at {p q : Addr} {H H' : Hp} {o o' : HO} (m : Mx p H H') (hp : H p = some o) (hq : H q = some o') (ne : o ≠ o') : H' q = some o' := m q o' (fun z => ne (by rw [z, hp] at hq; exact Option.some.inj hq)) hq
end KG

end

section
set_option maxHeartbeats 1000000
/-! KConf: every way down ends in the same form. -/
namespace KT

/-- the product of two forms, brought down -/
def mul (x y : T) : T :=
  match red (.nd x y) with
  | [] => .nd x y
  | (_, u) :: _ => u
def nf : T → T
  | .lf c => .lf c
  | .nd a b => mul (nf a) (nf b)
/-- no rule applies anywhere -/
def isNf : T → Bool
  | .lf _ => true
  | .nd a b => isNf a && isNf b && (red (.nd a b)).isEmpty
theorem isNf_nd {a b : T} : isNf (.nd a b) = true ↔ isNf a = true ∧ isNf b = true ∧ red (.nd a b) = [] := by
  simp [isNf, and_assoc]
/-- what a rule gives at a product of forms is a form -/
theorem red_nf {a b u : T} {r : Nat} (ha : isNf a = true) (hb : isNf b = true) (h : (r, u) ∈ red (.nd a b)) : isNf u = true := by
  unfold red at h
  rcases List.mem_append.mp h with h | h
  · obtain ⟨x, y, z, e, _, rfl⟩ := red1_mem.mp h
    cases e
    exact (isNf_nd.mp ha).2.1
  · rcases List.mem_append.mp h with h | h
    · obtain ⟨x, y, z, e, _, rfl⟩ := red2_mem.mp h
      cases e
      exact (isNf_nd.mp hb).1
    · obtain ⟨x, y, z, e, _, rfl⟩ := red3_mem.mp h
      cases e
      exact (isNf_nd.mp ha).2.1
theorem mul_nf {a b : T} (ha : isNf a = true) (hb : isNf b = true) : isNf (mul a b) = true := by
  unfold mul
  split
  · rename_i e
    exact isNf_nd.mpr ⟨ha, hb, e⟩
  · rename_i r u l e
    exact red_nf ha hb (by rw [e]; exact List.mem_cons_self ..)
theorem nf_nf : ∀ t : T, isNf (nf t) = true
  | .lf _ => rfl
  | .nd a b => mul_nf (nf_nf a) (nf_nf b)
theorem nf_id : ∀ {t : T}, isNf t = true → nf t = t
  | .lf _, _ => rfl
  | .nd a b, h => by
    obtain ⟨ha, hb, e⟩ := isNf_nd.mp h
    show mul (nf a) (nf b) = _
    rw [nf_id ha, nf_id hb]
    unfold mul
    rw [e]
/-- the cases of a product -/
theorem mul_cases (x y : T) : (mul x y = .nd x y ∧ red (.nd x y) = []) ∨ (∃ a b c, x = .nd a b ∧ y = .nd b c ∧ mul x y = b) ∨ (∃ b c, y = .nd (.nd x b) c ∧ mul x y = .nd x b) ∨ (∃ a b, x = .nd a (.nd b y) ∧ mul x y = .nd b y) := by
  unfold mul
  split
  · rename_i e
    exact .inl ⟨rfl, e⟩
  · rename_i r u l e
    have h : (r, u) ∈ red (.nd x y) := by rw [e]; exact List.mem_cons_self ..
    refine .inr ?_
    unfold red at h
    rcases List.mem_append.mp h with h | h
    · obtain ⟨a, b, c, e2, _, rfl⟩ := red1_mem.mp h
      cases e2
      exact .inl ⟨_, _, _, rfl, rfl, rfl⟩
    · rcases List.mem_append.mp h with h | h
      · obtain ⟨a, b, c, e2, _, rfl⟩ := red2_mem.mp h
        cases e2
        exact .inr (.inl ⟨_, _, rfl, rfl⟩)
      · obtain ⟨a, b, c, e2, _, rfl⟩ := red3_mem.mp h
        cases e2
        exact .inr (.inr ⟨_, _, rfl, rfl⟩)
/-- whichever rule applies, the first one told is the product -/
theorem red_uniq {x y : T} (hx : isNf x = true) (hy : isNf y = true) {r s : Nat} {u v : T} (h : (r, u) ∈ red (.nd x y)) (h' : (s, v) ∈ red (.nd x y)) : u = v := by
  have key : ∀ {r u}, (r, u) ∈ red (.nd x y) → (∃ a b c, x = .nd a b ∧ y = .nd b c ∧ u = b) ∨ (∃ b c, y = .nd (.nd x b) c ∧ u = .nd x b) ∨ (∃ a b, x = .nd a (.nd b y) ∧ u = .nd b y) := by
    intro r u h
    unfold red at h
    rcases List.mem_append.mp h with h | h
    · obtain ⟨a, b, c, e2, _, rfl⟩ := red1_mem.mp h
      cases e2
      exact .inl ⟨_, _, _, rfl, rfl, rfl⟩
    · rcases List.mem_append.mp h with h | h
      · obtain ⟨a, b, c, e2, _, rfl⟩ := red2_mem.mp h
        cases e2
        exact .inr (.inl ⟨_, _, rfl, rfl⟩)
      · obtain ⟨a, b, c, e2, _, rfl⟩ := red3_mem.mp h
        cases e2
        exact .inr (.inr ⟨_, _, rfl, rfl⟩)
  have sz1 : ∀ {a b : T}, sz (.nd a b) = sz a + sz b := fun {_ _} => rfl
  rcases key h with ⟨a, b, c, e1, e2, e3⟩ | ⟨b, c, e1, e2⟩ | ⟨a, b, e1, e2⟩ <;> rcases key h' with ⟨a', b', c', f1, f2, f3⟩ | ⟨b', c', f1, f2⟩ | ⟨a', b', f1, f2⟩
  · subst e1; cases f1; rw [e3, f3]
  · -- x = a b, y = b c = (x b') c': b = x b', so x = a (x b'): too long
    subst e1; subst e2
    injection f1 with f1 _
    have := congrArg sz f1
    have := sz_pos a; have := sz_pos b'
    simp only [sz] at *
    omega
  · subst e1; subst e2
    injection f1 with _ f1
    have := congrArg sz f1
    have := sz_pos b'; have := sz_pos c
    simp only [sz] at *
    omega
  · subst f1; subst f2
    injection e1 with e1 _
    have := congrArg sz e1
    have := sz_pos a'; have := sz_pos b
    simp only [sz] at *
    omega
  · rw [e1] at f1
    injection f1 with f1 _
    injection f1 with _ f1
    rw [e2, f2, f1]
  · -- y = (x b) c, x = a' (b' y)
    have h1 := congrArg sz e1
    have h2 := congrArg sz f1
    have := sz_pos b; have := sz_pos c; have := sz_pos a'; have := sz_pos b'
    simp only [sz] at *
    omega
  · subst f1; subst f2
    injection e1 with _ e1
    have := congrArg sz e1
    have := sz_pos b; have := sz_pos c'
    simp only [sz] at *
    omega
  · have h1 := congrArg sz e1
    have h2 := congrArg sz f1
    have := sz_pos b'; have := sz_pos c'; have := sz_pos a; have := sz_pos b
    simp only [sz] at *
    omega
  · rw [e1] at f1
    injection f1 with _ f1
    injection f1 with f1 _
    rw [e2, f2, f1]
theorem mul_red {x y u : T} {r : Nat} (hx : isNf x = true) (hy : isNf y = true) (h : (r, u) ∈ red (.nd x y)) : mul x y = u := by
  unfold mul
  split
  · rename_i e
    rw [e] at h
    cases h
  · rename_i s v l e
    exact red_uniq hx hy (by rw [e]; exact List.mem_cons_self ..) h
theorem mul1 {a b c : T} (hx : isNf (.nd a b) = true) (hy : isNf (.nd b c) = true) : mul (.nd a b) (.nd b c) = b := mul_red (r := 1) hx hy (by simp [red, red1])
theorem mul2 {x b c : T} (hx : isNf x = true) (hy : isNf (.nd (.nd x b) c) = true) : mul x (.nd (.nd x b) c) = .nd x b := mul_red (r := 2) hx hy (by simp [red, red2])
theorem mul3 {a b y : T} (hx : isNf (.nd a (.nd b y)) = true) (hy : isNf y = true) : mul (.nd a (.nd b y)) y = .nd b y := mul_red (r := 3) hx hy (by simp [red, red3])
theorem mul_left {x y : T} (hx : isNf x = true) (hy : isNf y = true) : (∃ p, mul x y = .nd p y ∧ isNf (.nd p y) = true) ∨ ∃ c, y = .nd (mul x y) c := by
  rcases mul_cases x y with ⟨e, h⟩ | ⟨a, b, c, rfl, rfl, e⟩ | ⟨b, c, rfl, e⟩ | ⟨a, b, rfl, e⟩
  · exact .inl ⟨x, e, isNf_nd.mpr ⟨hx, hy, h⟩⟩
  · exact .inr ⟨c, by rw [e]⟩
  · exact .inr ⟨c, by rw [e]⟩
  · exact .inl ⟨b, e, (isNf_nd.mp hx).2.1⟩
theorem mul_right {y z : T} (hy : isNf y = true) (hz : isNf z = true) : (∃ r, mul y z = .nd y r ∧ isNf (.nd y r) = true) ∨ ∃ q, y = .nd q (mul y z) := by
  rcases mul_cases y z with ⟨e, h⟩ | ⟨a, b, c, rfl, rfl, e⟩ | ⟨b, c, rfl, e⟩ | ⟨a, b, rfl, e⟩
  · exact .inl ⟨z, e, isNf_nd.mpr ⟨hy, hz, h⟩⟩
  · exact .inr ⟨a, by rw [e]⟩
  · exact .inl ⟨b, e, (isNf_nd.mp hz).1⟩
  · exact .inr ⟨a, by rw [e]⟩
theorem mul_irr {a b : T} (h : isNf (.nd a b) = true) : mul a b = .nd a b := by
  unfold mul
  rw [(isNf_nd.mp h).2.2]
/-- THE LAW of central groupoids, at forms -/
theorem central {x y z : T} (hx : isNf x = true) (hy : isNf y = true) (hz : isNf z = true) : mul (mul x y) (mul y z) = y := by
  rcases mul_left hx hy with ⟨p, e1, n1⟩ | ⟨c, e1⟩ <;> rcases mul_right hy hz with ⟨r, e2, n2⟩ | ⟨q, e2⟩
  · rw [e1, e2]
    exact mul1 n1 n2
  · rw [e1]
    have n3 : isNf (mul y z) = true := mul_nf hy hz
    generalize mul y z = R at e2 n3 ⊢
    subst e2
    exact mul3 n1 n3
  · rw [e2]
    have n3 : isNf (mul x y) = true := mul_nf hx hy
    generalize mul x y = P at e1 n3 ⊢
    subst e1
    exact mul2 n3 n2
  · have e3 : T.nd (mul x y) c = .nd q (mul y z) := e1.symm.trans e2
    injection e3 with e4 e5
    have e6 : y = .nd (mul x y) (mul y z) := e1.trans (congrArg (T.nd (mul x y)) e5)
    rw [e6] at hy
    rw [mul_irr hy]
    exact e6.symm
/-- the other two rules follow -/
theorem central2 {x y z : T} (hx : isNf x = true) (hy : isNf y = true) (hz : isNf z = true) : mul x (mul (mul x y) z) = mul x y := by
  have h := central (mul_nf hx hx) (mul_nf hx hy) hz
  rw [central hx hx hy] at h
  exact h
theorem central3 {x y z : T} (hx : isNf x = true) (hy : isNf y = true) (hz : isNf z = true) : mul (mul x (mul y z)) z = mul y z := by
  have h := central hx (mul_nf hy hz) (mul_nf hz hz)
  rw [central hy hz hz] at h
  exact h
/-- a rule keeps the form -/
theorem red_form {t u : T} {r : Nat} (h : (r, u) ∈ red t) : nf t = nf u := by
  unfold red at h
  rcases List.mem_append.mp h with h | h
  · obtain ⟨x, y, z, rfl, _, rfl⟩ := red1_mem.mp h
    exact central (nf_nf _) (nf_nf _) (nf_nf _)
  · rcases List.mem_append.mp h with h | h
    · obtain ⟨x, y, z, rfl, _, rfl⟩ := red2_mem.mp h
      exact central2 (nf_nf _) (nf_nf _) (nf_nf _)
    · obtain ⟨x, y, z, rfl, _, rfl⟩ := red3_mem.mp h
      exact central3 (nf_nf _) (nf_nf _) (nf_nf _)
/-- around a part -/
theorem subs_form : ∀ (t : T) (i : Nat) (s : T) (f : T → T), (subs t)[i]? = some (s, f) → ∀ x y, nf x = nf y → nf (f x) = nf (f y)
  | .lf c, i, s, f, h, x, y, e => by
    cases i with
    | zero =>
      simp only [subs, List.getElem?_cons_zero, Option.some.injEq, Prod.mk.injEq] at h
      obtain ⟨_, rfl⟩ := h
      exact e
    | succ i => simp [subs] at h
  | .nd a b, i, s, f, h, x, y, e => by
    cases i with
    | zero =>
      simp only [subs, List.getElem?_cons_zero, Option.some.injEq, Prod.mk.injEq] at h
      obtain ⟨_, rfl⟩ := h
      exact e
    | succ i =>
      simp only [subs, List.getElem?_cons_succ] at h
      by_cases hi : i < (subs a).length
      · rw [List.getElem?_append_left (by simpa using hi), List.getElem?_map] at h
        cases q : (subs a)[i]? with
        | none => rw [q] at h; cases h
        | some p =>
          obtain ⟨s', f'⟩ := p
          rw [q] at h
          simp only [Option.map_some, Option.some.injEq, Prod.mk.injEq] at h
          obtain ⟨_, rfl⟩ := h
          show mul (nf (f' x)) (nf b) = mul (nf (f' y)) (nf b)
          rw [subs_form a i s' f' q x y e]
      · rw [List.getElem?_append_right (by simpa using hi), List.getElem?_map] at h
        simp only [List.length_map] at h
        cases q : (subs b)[i - (subs a).length]? with
        | none => rw [q] at h; cases h
        | some p =>
          obtain ⟨s', f'⟩ := p
          rw [q] at h
          simp only [Option.map_some, Option.some.injEq, Prod.mk.injEq] at h
          obtain ⟨_, rfl⟩ := h
          show mul (nf a) (nf (f' x)) = mul (nf a) (nf (f' y))
          rw [subs_form b _ s' f' q x y e]
/-- no step: a form -/
theorem stepsFrom_nil : ∀ (ps : List (T × (T → T))) (k : Nat), stepsFrom k ps = [] ↔ ∀ p ∈ ps, red p.1 = []
  | [], _ => by simp [stepsFrom]
  | p :: ps, k => by
    simp only [stepsFrom, stepsAt, List.append_eq_nil_iff, List.map_eq_nil_iff, stepsFrom_nil ps, List.mem_cons, forall_eq_or_imp]
theorem subs_all : ∀ t : T, (∀ p ∈ subs t, red p.1 = []) ↔ isNf t = true
  | .lf c => by simp [subs, isNf, red_lf]
  | .nd a b => by
    rw [isNf_nd, ← subs_all a, ← subs_all b]
    simp only [subs, List.mem_cons, List.mem_append, List.mem_map, forall_eq_or_imp]
    constructor
    · rintro ⟨h1, h2⟩
      exact ⟨fun p hp => h2 (p.1, fun x => .nd (p.2 x) b) (.inl ⟨p, hp, rfl⟩), fun p hp => h2 (p.1, fun x => .nd a (p.2 x)) (.inr ⟨p, hp, rfl⟩), h1⟩
    · rintro ⟨h1, h2, h3⟩
      refine ⟨h3, ?_⟩
      rintro p (⟨q, hq, rfl⟩ | ⟨q, hq, rfl⟩)
      · exact h1 q hq
      · exact h2 q hq
theorem steps_nil {t : T} : steps t = [] ↔ isNf t = true := (stepsFrom_nil _ _).trans (subs_all t)
end KT

end

section
set_option maxHeartbeats 1000000
/-! KStar: x, *rest = a tuple. -/
namespace KG
open PySem PySem.Spec PyProof.Rows L2

/-- the first item, and a new list of the others -/
theorem unpack_headT {prog : Program} {w : World} {A : Around} {E : Value → Shared → Prop} {s : Shared} {l : Addr} {items : Array Value} {Q : List Value → Shared → Prop} (hl : IsTup s.heap l items) (hh : A.handled = none) (h1 : 1 ≤ items.size) (hz : items.size ≤ sizeLine)
    (hQ : ∀ (h' : Heap) (tk : Nat), (∀ b o, s.heap.get? b = some o → h'.get? b = some o) →
      Q (items.toList.take 1 ++ [Value.ref h'.objs.size] ++ []) { s with heap := h'.push { cls := .type "list", data := .seq (items.toList.drop 1).toArray }, toks := tk }) :
    wpAny (model prog w) A (unpackItems (.ref l) 2 (some 1)) Q E s := by
  obtain ⟨ol0, hol0, hc0⟩ := id hl
  have hne : l ≠ s.heap.objs.size := Nat.ne_of_lt (Heap.lt_size hol0)
  unfold unpackItems
  refine wpAny_bind ?_
  unfold notIterableAtAll
  refine wpAny_bind (wpAny_specialOf hl.typeIs slot_tuple_iter.lookup (wpAny_pure ?_))
  simp only [Bool.false_eq_true, if_false]
  refine wpAny_bind (wpAny_holding (iter_tuple hl ?_))
  refine wpAny_bind (wpAny_holding (draw_tuple hne 1 0 _ _ ⟨_, Heap.get?_push_size _ rfl, rfl, rfl⟩ (hl.push _) (by omega) fun g1 it1 sb1 => ?_))
  have tp1 : IsTup g1 l items := (hl.push _).extBut sb1.extBut hne
  rw [Nat.zero_add] at it1
  obtain ⟨oi, hoi, _⟩ := id it1
  obtain ⟨ol, hol, _⟩ := id tp1
  rw [List.drop_zero]
  have hfl : (items.toList.take 1).length = 1 := by rw [List.length_take, Array.length_toList]; omega
  rw [if_neg (by omega)]
  refine wpAny_bind (wpAny_holding (PySem.W.kun_collect (s := { s with heap := g1 }) (T := "tuple_iterator") (.inr (.inr (.inr rfl))) (Walks.tuple (A := A.in1) hh s.heap.objs.size l hne items) (fun j u st => st.1.typeIs) (k := 1) h1 ⟨it1, tp1⟩ (Heap.lt_size hoi) (Heap.lt_size hol) (fun g2 tk kp => ?_) hz))
  have hrl : (items.toList.drop 1).length = items.size - 1 := by rw [List.length_drop, Array.length_toList]
  show wpAny _ _ (if (items.toList.drop 1).length < 0 then _ else _) _ _ _
  rw [if_neg (by omega)]
  show wpAny _ _ (newList ((items.toList.drop 1).take ((items.toList.drop 1).length - 0)) >>= fun d => pure (items.toList.take 1 ++ [d] ++ (items.toList.drop 1).drop ((items.toList.drop 1).length - 0))) _ _ _
  rw [Nat.sub_zero, List.take_length, List.drop_length]
  have keep : ∀ b o, s.heap.get? b = some o → g2.get? b = some o := fun b o e => by
    have hb : b ≠ s.heap.objs.size := Nat.ne_of_lt (Heap.lt_size e)
    exact kp b o hb (sb1.extBut b o hb (Heap.get?_push_of_some _ e))
  exact wpAny_bind (wpAny_newList (wpAny_pure (hQ g2 tk keep)) (by omega))
def gHead (K : PySem.W.Frag) (t : TGs) : TG := fun v σ H Q => ∃ a x xs, v = .ref a ∧ SqT K H a (x :: xs) ∧ ∀ p, H p = none → t [x, .ref p] σ (upd H p (.lst xs)) Q
theorem pg_head {X : Cx} {K : PySem.W.Frag} {es : List Expr} {k : Nat} {pos : Pos} {t : TGs} (hK : X.K = K) (hc : X.calm = true) (h : PGs X es t)
    (hn : (assignEach es X.env).length = 2 := by rfl) (hst : (assignEach es X.env).findIdx? (·.1) = some 1 := by rfl) : PG X (.Tuple es k pos) (gHead K t) := by
  subst hK
  refine ⟨fun pins s σ H v u Q I r hw => ?_⟩
  obtain ⟨a, x, xs, e1, hq, hw⟩ := hw
  subst e1
  cases r
  obtain ⟨its, rv, ht, hz⟩ := I.tuple hq
  cases rv with
  | @cons _ y _ ys rx rr =>
    have hlen := rr.length
    rw [assign_Tuple]
    refine wpAny_bind (wpAny_standAt ?_)
    unfold unpack
    rw [hn, hst]
    refine wpAny_bind (wpAny_holding (unpack_headT ht (I.ok.hd hc) (by simp) (by simp only [List.size_toArray]; rw [List.length_cons, ← hlen]; simpa using hz) fun h' tk kp => ?_))
    have I1 : Inv X pins σ H { s with heap := h', toks := tk } := I.kept kp
    have I2 : Inv X pins σ (upd H h'.objs.size (.lst xs)) { s with heap := h'.push { cls := .type "list", data := .seq ys.toArray }, toks := tk } :=
      I1.laid (t' := tk) (fun b o e => Heap.get?_push_of_some _ e) (Nat.le_refl _) ⟨by simp only [List.length_cons] at hz; omega, ys, 0, rr, Heap.get?_push_size _ rfl⟩
    exact h.run pins _ σ _ [x, .ref h'.objs.size] _ Q I2 (.cons rx (.cons rfl .nil)) (hw _ (I1.hok.fresh (Nat.le_refl _)))
end KG

end

section
set_option maxHeartbeats 1000000
/-! KPath: any, all, zip in comprehensions, tuples cut and joined, starred targets. -/
namespace KG
open PySem PySem.Spec PyProof.Rows L2

section
variable {X : Cx} {K : PySem.W.Frag}
def kAny (K : PySem.W.Frag) : List V → Hp → VK → Prop := fun xs H Q => ∃ (a : Addr) (bs : List Bool), xs = [V.ref a] ∧ SqL K H a (bs.map V.bl) ∧ Q (.bl (bs.any id)) H
def kAll (K : PySem.W.Frag) : List V → Hp → VK → Prop := fun xs H Q => ∃ (a : Addr) (bs : List Bool), xs = [V.ref a] ∧ SqL K H a (bs.map V.bl) ∧ Q (.bl (bs.all id)) H
theorem kk_any (h : X.K = K) (hc : X.calm = true) : CallR X (.builtin "any") (kAny K) := h ▸ cr_any hc
theorem kk_all (h : X.K = K) (hc : X.calm = true) : CallR X (.builtin "all") (kAll K) := h ▸ cr_all hc
theorem anyRun {H : Hp} {Q : VK} {a : Addr} {bs : List Bool} (h : SqL K H a (bs.map V.bl)) (q : Q (.bl (bs.any id)) H) : kAny K [.ref a] H Q := ⟨a, bs, rfl, h, q⟩
theorem allRun {H : Hp} {Q : VK} {a : Addr} {bs : List Bool} (h : SqL K H a (bs.map V.bl)) (q : Q (.bl (bs.all id)) H) : kAll K [.ref a] H Q := ⟨a, bs, rfl, h, q⟩
theorem kk_zip {tg e : Expr} {ta : TA} (h : X.K = K) (hp : PI X tg e (RZ.iZipA X.K ta)) : PI X tg e (RZ.iZipA K ta) := h ▸ hp
theorem pgs_starred {e : Expr} {p : Pos} {es : List Expr} {t : TG} {u : TGs} (h1 : PG X e t) (h2 : PGs X es u)
    (hs : (assignEach (.Starred e p :: es) X.env).map (·.2) = assign e X.env :: (assignEach es X.env).map (·.2) := by rfl) : PGs X (.Starred e p :: es) (gCons t u) := by
  refine ⟨fun pins s σ H vs us Q I r h => ?_⟩
  obtain ⟨v, vr, rfl, h⟩ := h
  cases r with
  | cons r rr =>
    rw [hs]
    exact assignInOrder_cons (thn (h1.run pins s σ H _ _ _ I r h) fun _ s1 ⟨σ1, H1, I1, q1⟩ => h2.run pins s1 σ1 H1 _ _ Q I1 rr q1)
end
section
variable {K : PySem.W.Frag} {te0 te : TE} {g : TG} {tt : TT} {vs : List Nat} {σ : L2.St} {H : Hp} {Q : VK} {ta : TA}
/-- the walked thing is made first -/
theorem lc_via : tLc (iK K te0) g tt te vs σ H Q = te0 σ H fun v H1 => tLc (iK K (tC v)) g tt te vs σ H1 Q := rfl
theorem lc_viaR : tLc (iRng1 ta) g tt te vs σ H Q = ta σ H fun us H1 => tLc (iRng1 (fun _ H Q => Q us H)) g tt te vs σ H1 Q := rfl
theorem lc_viaZ : tLc (RZ.iZipA K ta) g tt te vs σ H Q = ta σ H fun us H1 => tLc (RZ.iZipA K (fun _ H Q => Q us H)) g tt te vs σ H1 Q := rfl
/-- [.. for x, y in zip(t, u)]: two tuples, the shorter one ends -/
theorem lc_Z {a b : Addr} {xs ys : List V} (hv : ∀ Q : List V → Hp → Prop, Q [.ref a, .ref b] H → ta σ H Q) (hx : SqT K H a xs) (hy : SqT K H b ys) (Pv : Addr → Nat → Hp → Prop) (h0 : ∀ D, H D = none → Pv D 0 (upd H D (.lst [])))
    (hk : ∀ D i H', H D = none → Pv D i H' → SqT K H' a xs ∧ SqT K H' b ys)
    (hs : ∀ D i x y T H', H D = none → xs[i]? = some x → ys[i]? = some y → H' T = none → Pv D i H' → g (.ref T) (wipe σ vs) (upd H' T (.tup [x, y])) fun σ2 H2 => wipe σ2 vs = wipe σ vs ∧ tt σ2 H2 fun b H3 => BrL b te D (Pv D (i + 1)) σ2 H3)
    (hd : ∀ D H', H D = none → Pv D (min xs.length ys.length) H' → Q (.ref D) H') : tLc (RZ.iZipA K ta) g tt te vs σ H Q := by
  refine hv _ ⟨a, b, xs, ys, rfl, .inr ⟨hx, hy, fun D hD => ?_⟩⟩
  refine lc_of (n := min xs.length ys.length) (fun i v H H' => ∃ T x y, v = .ref T ∧ H T = none ∧ H' = upd H T (.tup [x, y]) ∧ (∀ xs, SqT K H a xs → xs[i]? = some x) ∧ ∀ ys, SqT K H b ys → ys[i]? = some y) (Pv D)
    (fun i H hi p => ?_) (fun i H x H' _ y => y) (fun H p => ?_) (h0 D hD) (fun i v H H' hi p pv => ?_) fun H' p => hd D H' hD p
  · obtain ⟨k1, k2⟩ := hk D i H hD p
    exact ⟨xs, ys, _, _, k1, k2, List.getElem?_eq_getElem (by omega), List.getElem?_eq_getElem (by omega)⟩
  · obtain ⟨k1, k2⟩ := hk D _ H hD p
    exact ⟨xs, ys, k1, k2, by omega⟩
  · obtain ⟨T, x, y, rfl, hT, rfl, f1, f2⟩ := p
    obtain ⟨k1, k2⟩ := hk D i H hD pv
    exact hs D i x y T H hD (f1 xs k1) (f2 ys k2) hT pv
end
/-! ### tuples cut, joined, repeated: the answer stands somewhere -/
section
variable {K : PySem.W.Frag} {H : Hp} {Q : VK}
theorem SqT.ex {H H' : Hp} {a : Addr} {xs : List V} (e : Evl.Ex H H') (h : SqT K H a xs) : SqT K H' a xs := Evl.ex_t e h
theorem SqL.ex {H H' : Hp} {a : Addr} {xs : List V} (e : Evl.Ex H H') (h : SqL K H a xs) : SqL K H' a xs := Evl.ex_l e h
theorem cutT {a : Addr} {xs : List V} {lo hi : Option Int} (h : H a = some (.tup xs)) (q : ∀ p H2, Evl.Ex H H2 → H2 p = some (.tup (cutV xs lo hi)) → Q (.ref p) H2) : kSl K (.ref a) lo hi H Q := by
  refine .inl ⟨a, xs, rfl, SqT.of h, fun hw => ?_, fun hw p hp => ?_⟩
  · refine q a H (Evl.Ex.refl _) ?_
    have e : cutV xs lo hi = xs := by
      unfold cutV
      rw [hw.1, hw.2, List.drop_zero, Nat.sub_zero, List.take_length]
    rw [e]
    exact h
  · exact q p _ (Evl.Ex.new hp) upd_same
theorem catT {a b : Addr} {xs ys : List V} (hx : H a = some (.tup xs)) (hy : H b = some (.tup ys)) (hz : xs.length + ys.length ≤ 1000000) (q : ∀ p H2, Evl.Ex H H2 → H2 p = some (.tup (xs ++ ys)) → Q (.ref p) H2) : kAdd K (.ref a) (.ref b) H Q := by
  refine .inr ⟨a, b, xs, ys, rfl, rfl, SqT.of hx, SqT.of hy, line_of hz, fun e => ?_, fun _ e => ?_, fun _ _ p hp => ?_⟩
  · subst e
    exact q b H (Evl.Ex.refl _) hy
  · subst e
    exact q a H (Evl.Ex.refl _) (by rw [List.append_nil]; exact hx)
  · exact q p _ (Evl.Ex.new hp) upd_same
theorem catL {a b : Addr} {xs ys : List V} (hx : H a = some (.lst xs)) (hy : H b = some (.lst ys)) (hz : xs.length + ys.length ≤ 1000000) (q : ∀ p, H p = none → Q (.ref p) (upd H p (.lst (xs ++ ys)))) : kAdd K (.ref a) (.ref b) H Q :=
  .inl ⟨a, b, xs, ys, rfl, rfl, hx, hy, line_of hz, q⟩
theorem repT {a : Addr} {xs : List V} {k : Int} (h : SqT K H a xs) (hn : xs ≠ []) (k1 : 2 ≤ k) (k2 : k ≤ 1000) (hz : xs.length ≤ 1000) (q : ∀ p, H p = none → Q (.ref p) (upd H p (.tup (List.replicate k.toNat xs).flatten))) : kMul K (.ref a) (.int k) H Q :=
  .inr ⟨a, k, xs, rfl, rfl, h, hn, k1, k2, hz, q⟩
theorem tupOfL {a : Addr} {xs : List V} (h : SqL K H a xs) (q : ∀ p, H p = none → Q (.ref p) (upd H p (.tup xs))) : kTupOf K [.ref a] H Q := ⟨a, xs, rfl, .inl ⟨h, q⟩⟩
theorem listOfT {a : Addr} {xs : List V} (h : SqT K H a xs) (q : ∀ p, H p = none → Q (.ref p) (upd H p (.lst xs))) : kListOf K [.ref a] H Q := ⟨a, xs, rfl, .inr h, q⟩
theorem cutV_lo {xs : List V} {i : Nat} (h : i ≤ xs.length) : cutV xs (some (i : Int)) none = xs.drop i := by
  unfold cutV
  have e : HT.sIx xs.length 0 (some (i : Int)) = i := by
    rw [HT.sIx_nat]
    omega
  rw [e, HT.sIx_none, List.take_of_length_le (by simp)]
theorem cutV_hi {xs : List V} {j : Nat} (h : j ≤ xs.length) : cutV xs none (some (j : Int)) = xs.take j := by
  unfold cutV
  have e : HT.sIx xs.length xs.length (some (j : Int)) = j := by
    rw [HT.sIx_nat]
    omega
  rw [e, HT.sIx_none, List.drop_zero, Nat.sub_zero]
theorem cutV_last {xs : List V} : cutV xs none (some (-1)) = xs.take (xs.length - 1) := by
  unfold cutV
  have e : HT.sIx xs.length xs.length (some (-1)) = xs.length - 1 := by
    show (if (-1 : Int) < 0 then ((-1 : Int) + (xs.length : Int)).toNat else min (-1 : Int).toNat xs.length) = _
    rw [if_pos (by decide)]
    omega
  rw [e, HT.sIx_none, List.drop_zero, Nat.sub_zero]
end
end KG

end

section
set_option maxHeartbeats 1000000
/-! F1: plain data for values: lists that nobody changes are trees, changed ones are cells; the heap behind them. -/
namespace DL
open PySem PySem.Spec PyProof.Rows L2 KG

/-- the words of a lambda that was made: its code object stands at c -/
structure LF where
  qual : Str
  params : Arguments
  body : Expr
  scope : Scope
  c : Addr
abbrev LF.fd (F : LF) (pm ctv : Value) : FuncData := PySem.W.kla_fn "<lambda>" F.qual F.params F.body F.scope [] pm (.ref F.c) ctv
/-- the object at f is the lambda F, which captured nothing -/
def LamO (f : Addr) (F : LF) : HO := .ext fun h => ∃ (od : Option Addr) (sl : Array (Option Value)) (pm ctv : Value), h.get? f = some (⟨.type "function", od, .func (F.fd pm ctv), sl⟩ : Obj)
/-- a list of the written part -/
def KLst (K : PySem.W.Frag) (a : Addr) (xs : List V) : Prop := ∃ (o : Obj) (its : Array Value) (n : Nat), K.lookup a = some o ∧ o.cls = .type "list" ∧ o.dict = none ∧ o.data = .seq its n ∧ its.size ≤ sizeLine ∧ Vals xs its.toList
inductive D where
  | non | bl (b : Bool) | int (i : Int) | str (l : List Nat)
  | tup (l : List D) | lst (l : List D) | dic (l : List (Key × D))
  /-- a dict by tuples; an instance that nobody changes -/
  | dit (l : List (List Key × D)) | obj (C : Addr) (l : List (Str × D))
  /-- a cell | a thing of the written part | a built-in class | the dice -/
  | ref (n : Nat) | adr (a : Addr) | ty (n : String) | dice
  /-- a lambda | the script -/
  | lam (F : LF) | scr (l : List Int)
/-- places that turn by themselves: the dice; the tables of code objects -/
structure Hid where
  dice : Option Addr
  tabs : List (Addr × Str)
def Hid.On (dd : Hid) (p : Addr) : Prop := dd.dice = some p ∨ ∃ q, (p, q) ∈ dd.tabs
structure Hid.Ok (dd : Hid) (H : Hp) : Prop where
  dc : ∀ p, dd.dice = some p → Dc H p
  tb : LamX.Tabs dd.tabs H
theorem Hid.Ok.there {dd : Hid} {H : Hp} {p : Addr} (k : dd.Ok H) (e : dd.On p) : H p ≠ none := by
  rcases e with e | ⟨q, e⟩
  · obtain ⟨a, b, c, z⟩ := k.dc p e
    rw [z]; exact fun z => nomatch z
  · obtain ⟨ps, z, _⟩ := k.tb _ e
    rw [z]; exact fun z => nomatch z
theorem Hid.Ok.keep {dd : Hid} {H H' : Hp} (k : dd.Ok H) (h : ∀ b o, H b = some o → (dd.On b ∨ ∃ φ, o = .ext φ) → H' b = some o) : dd.Ok H' := by
  refine ⟨fun p e => ?_, fun q hq => ?_⟩
  · obtain ⟨a, b, c, z⟩ := k.dc p e
    exact ⟨a, b, c, h p _ z (.inl (.inl e))⟩
  · obtain ⟨ps, z, t, f⟩ := k.tb q hq
    refine ⟨ps, h _ _ z (.inl (.inr ⟨q.2, hq⟩)), t, fun pos cv hc => ?_⟩
    obtain ⟨c, e1, e2⟩ := f pos cv hc
    exact ⟨c, e1, h _ _ e2 (.inr ⟨_, rfl⟩)⟩
theorem Hid.Ok.upd {dd : Hid} {H : Hp} {p : Addr} {o : HO} (k : dd.Ok H) (hp : ¬ dd.On p) (he : ∀ φ, H p ≠ some (.ext φ)) : dd.Ok (L2.upd H p o) := k.keep fun b u e w => by
  have hb : b ≠ p := fun z => by
    subst z
    rcases w with w | ⟨φ, w⟩
    · exact hp w
    · rw [w] at e; exact he φ e
  rw [upd_ne hb]; exact e
inductive Cell where
  | lst (l : List D) | dic (l : List (Key × D)) | dit (l : List (List Key × D)) | ins (C : Addr) (l : List (Str × D))

section
variable (K : PySem.W.Frag) (dd : Hid) (ex : List Addr) (m : List Addr) (H : Hp)
mutual
inductive Rv : D → V → Prop
  | non : Rv .non .non
  | bl (b : Bool) : Rv (.bl b) (.bl b)
  | int (i : Int) : Rv (.int i) (.int i)
  | str (l : List Nat) : Rv (.str l) (S l)
  | tup {p : Addr} {ds : List D} {vs : List V} : p ∉ m → ¬ dd.On p ∧ p ∉ ex → Rd H p (.tup vs) → Rvs ds vs → Rv (.tup ds) (.ref p)
  | ktup {p : Addr} {ds : List D} {vs : List V} : KTup K p vs → Rvs ds vs → Rv (.tup ds) (.ref p)
  | lst {p : Addr} {ds : List D} {vs : List V} : p ∉ m → ¬ dd.On p ∧ p ∉ ex → H p = some (.lst vs) → Rvs ds vs → Rv (.lst ds) (.ref p)
  | dic {p : Addr} {ds : List (Key × D)} {vs : List (Key × V)} : p ∉ m → ¬ dd.On p ∧ p ∉ ex → H p = some (.dK vs) → ds.map (·.1) = vs.map (·.1) → Rvs (ds.map (·.2)) (vs.map (·.2)) → Rv (.dic ds) (.ref p)
  | dit {p : Addr} {ds : List (List Key × D)} {vs : List (List Key × V)} : p ∉ m → ¬ dd.On p ∧ p ∉ ex → H p = some (.dT vs) → ds.map (·.1) = vs.map (·.1) → Rvs (ds.map (·.2)) (vs.map (·.2)) → Rv (.dit ds) (.ref p)
  | obj {p dx C : Addr} {ds : List (Str × D)} {vs : List (Str × V)} : p ∉ m ∧ dx ∉ m → (¬ dd.On p ∧ p ∉ ex) ∧ ¬ dd.On dx ∧ dx ∉ ex → H p = some (.ins C dx vs) ∧ H dx = some (.own p) → ds.map (·.1) = vs.map (·.1) → Rvs (ds.map (·.2)) (vs.map (·.2)) → Rv (.obj C ds) (.ref p)
  | ref {n : Nat} {p : Addr} : m[n]? = some p → Rv (.ref n) (.ref p)
  | adr (a : Addr) : Rv (.adr a) (.ref a)
  | ty (n : String) : Rv (.ty n) (.ty n)
  | dice {p : Addr} : dd.dice = some p → Rv .dice (.ref p)
  | lam {p : Addr} {F : LF} : p ∉ m ∧ F.c ∉ m → (¬ dd.On p ∧ p ∉ ex) ∧ ¬ dd.On F.c ∧ F.c ∉ ex → H p = some (LamO p F) → H F.c = some (LamX.CodeO F.c F.qual) → Rv (.lam F) (.ref p)
  | scr {p : Addr} {l : List Int} : KLst K p (l.map V.int) ∨ (p ∉ m ∧ (¬ dd.On p ∧ p ∉ ex) ∧ Rd H p (.lst (l.map V.int))) → Rv (.scr l) (.ref p)
inductive Rvs : List D → List V → Prop
  | nil : Rvs [] []
  | cons {d : D} {ds : List D} {v : V} {vs : List V} : Rv d v → Rvs ds vs → Rvs (d :: ds) (v :: vs)
end
def CellOk : Cell → Addr → Prop
  | .lst ds, p => ∃ vs, H p = some (.lst vs) ∧ Rvs K dd ex m H ds vs
  | .dic ds, p => ∃ vs, H p = some (.dK vs) ∧ ds.map (·.1) = vs.map (·.1) ∧ Rvs K dd ex m H (ds.map (·.2)) (vs.map (·.2))
  | .dit ds, p => ∃ vs, H p = some (.dT vs) ∧ ds.map (·.1) = vs.map (·.1) ∧ Rvs K dd ex m H (ds.map (·.2)) (vs.map (·.2))
  | .ins C ds, p => ∃ vs dx, H p = some (.ins C dx vs) ∧ (H dx = some (.own p) ∧ dx ∉ m ∧ ¬ dd.On dx ∧ dx ∉ ex) ∧ ds.map (·.1) = vs.map (·.1) ∧ Rvs K dd ex m H (ds.map (·.2)) (vs.map (·.2))
/-- a list or a dict stands there -/
def Lk : Option HO → Prop
  | some (.lst _) => True
  | some (.dK _) => True
  | some (.dT _) => True
  | some (.ins _ _ _) => True
  | _ => False
structure Rel (h : List Cell) : Prop where
  nd : m.Nodup
  on : ∀ p, dd.On p → p ∉ m
  ok : dd.Ok H
  xs : ∀ p ∈ ex, p ∉ m ∧ Lk (H p)
  len : h.length = m.length
  cs : ∀ (i : Nat) (c : Cell) (p : Addr), h[i]? = some c → m[i]? = some p → CellOk K dd ex m H c p
end
section
variable {K : PySem.W.Frag} {dd : Hid} {ex : List Addr} {m m' m2 : List Addr} {H H' H2 : Hp} {h : List Cell} {p : Addr} {d : D} {v : V} {ds : List D} {vs : List V} {c : Cell} {o : HO}
theorem Lk.ne {o : Option HO} (h : Lk o) : o ≠ none := fun z => by rw [z] at h; exact h
theorem Lk.notup {o : Option HO} {xs : List V} (h : Lk o) : o ≠ some (.tup xs) := fun z => by rw [z] at h; exact h
theorem Rvs.length : ∀ {ds : List D} {vs : List V}, Rvs K dd ex m H ds vs → ds.length = vs.length
  | _, _, .nil => rfl
  | _, _, .cons _ r => by simp [Rvs.length r]
theorem Rvs.get : ∀ {ds : List D} {vs : List V} {i : Nat} {d : D}, Rvs K dd ex m H ds vs → ds[i]? = some d → ∃ v, vs[i]? = some v ∧ Rv K dd ex m H d v
  | _, _, i, _, .nil, e => by simp at e
  | _, _, 0, _, .cons r _, e => by simp at e; subst e; exact ⟨_, rfl, r⟩
  | _, _, i + 1, _, .cons _ t, e => by
    obtain ⟨v, h1, h2⟩ := Rvs.get (i := i) t (by simpa using e)
    exact ⟨v, by simpa using h1, h2⟩
theorem Rvs.getV : ∀ {ds : List D} {vs : List V} {i : Nat} {v : V}, Rvs K dd ex m H ds vs → vs[i]? = some v → ∃ d, ds[i]? = some d ∧ Rv K dd ex m H d v
  | _, _, i, _, .nil, e => by simp at e
  | _, _, 0, _, .cons r _, e => by simp at e; subst e; exact ⟨_, rfl, r⟩
  | _, _, i + 1, _, .cons _ t, e => by
    obtain ⟨v, h1, h2⟩ := Rvs.getV (i := i) t (by simpa using e)
    exact ⟨v, by simpa using h1, h2⟩
theorem Rvs.append : ∀ {ds es : List D} {vs ws : List V}, Rvs K dd ex m H ds vs → Rvs K dd ex m H es ws → Rvs K dd ex m H (ds ++ es) (vs ++ ws)
  | _, _, _, _, .nil, s => s
  | _, _, _, _, .cons r t, s => .cons r (Rvs.append t s)
theorem Rvs.take : ∀ {ds : List D} {vs : List V} (n : Nat), Rvs K dd ex m H ds vs → Rvs K dd ex m H (ds.take n) (vs.take n)
  | _, _, 0, _ => .nil
  | _, _, _ + 1, .nil => .nil
  | _, _, n + 1, .cons r t => .cons r (Rvs.take n t)
theorem Rvs.drop : ∀ {ds : List D} {vs : List V} (n : Nat), Rvs K dd ex m H ds vs → Rvs K dd ex m H (ds.drop n) (vs.drop n)
  | _, _, 0, r => r
  | _, _, _ + 1, .nil => .nil
  | _, _, n + 1, .cons _ t => Rvs.drop n t
theorem Rvs.set {d : D} {v : V} (r : Rv K dd ex m H d v) : ∀ {ds : List D} {vs : List V} (n : Nat), Rvs K dd ex m H ds vs → Rvs K dd ex m H (ds.set n d) (vs.set n v)
  | _, _, _, .nil => .nil
  | _, _, 0, .cons _ t => .cons r t
  | _, _, n + 1, .cons q t => .cons q (Rvs.set r n t)
theorem Rvs.rev : ∀ {ds : List D} {vs : List V}, Rvs K dd ex m H ds vs → Rvs K dd ex m H ds.reverse vs.reverse
  | _, _, .nil => .nil
  | _, _, .cons r t => by
    rw [List.reverse_cons, List.reverse_cons]
    exact Rvs.append (Rvs.rev t) (.cons r .nil)
theorem Rvs.one (r : Rv K dd ex m H d v) : Rvs K dd ex m H [d] [v] := .cons r .nil
/-- what grows: cells come behind the others, all that is no cell and not the dice stays -/
structure Grow (dd : Hid) (m : List Addr) (H : Hp) (m' : List Addr) (H' : Hp) : Prop where
  pre : ∃ t, m' = m ++ t ∧ ∀ p ∈ t, H p = none
  keep : ∀ p o, p ∉ m → ¬ dd.On p → H p = some o → H' p = some o
theorem Grow.refl : Grow dd m H m H := ⟨⟨[], by simp, by simp⟩, fun _ _ _ _ e => e⟩
theorem Grow.out (g : Grow dd m H m' H') (hp : p ∉ m) (e : H p = some o) : p ∉ m' := by
  obtain ⟨⟨t, rfl, ht⟩, _⟩ := g
  intro z
  rcases List.mem_append.mp z with z | z
  · exact hp z
  · rw [ht p z] at e; cases e
theorem Grow.cell (g : Grow dd m H m' H') {n : Nat} (e : m[n]? = some p) : m'[n]? = some p := by
  obtain ⟨⟨t, rfl, ht⟩, _⟩ := g
  rw [List.getElem?_append_left (List.getElem?_eq_some_iff.mp e).1]
  exact e
theorem Grow.trans (g : Grow dd m H m' H') (g2 : Grow dd m' H' m2 H2) (hn : ∀ p, p ∉ m → H p ≠ none → ¬ dd.On p → H' p ≠ none := fun p a b c => by
    cases e : H p with
    | none => exact absurd e b
    | some o => rw [g.keep p o a c e]; exact fun z => nomatch z) (hd : ∀ p, dd.On p → H' p ≠ none) (hm : ∀ p ∈ m, H' p ≠ none) : Grow dd m H m2 H2 := by
  obtain ⟨⟨t, rfl, ht⟩, k⟩ := g
  obtain ⟨⟨t2, rfl, ht2⟩, k2⟩ := g2
  refine ⟨⟨t ++ t2, by rw [List.append_assoc], fun p hp => ?_⟩, fun p o a b e => ?_⟩
  · rcases List.mem_append.mp hp with hp | hp
    · exact ht p hp
    · cases e : H p with
      | none => rfl
      | some o =>
        have z := ht2 p hp
        by_cases hq : p ∈ m
        · exact absurd z (hm p hq)
        · by_cases hw : dd.On p
          · exact absurd z (hd p hw)
          · exact absurd z (hn p hq (by rw [e]; exact fun z => nomatch z) hw)
  · refine k2 p o (fun z => ?_) b (k p o a b e)
    rcases List.mem_append.mp z with z | z
    · exact a z
    · rw [ht p z] at e; cases e
/-- the old heap's cells and dice stand in the new one -/
theorem Rel.there (R : Rel K dd ex m H h) (hp : p ∈ m) : H p ≠ none := by
  obtain ⟨i, hi, e⟩ := List.mem_iff_getElem.mp hp
  have hi2 : i < h.length := by rw [R.len]; exact hi
  have q := R.cs i h[i] p (List.getElem?_eq_getElem hi2) (by rw [List.getElem?_eq_getElem hi, e])
  cases hc : h[i] with
  | lst l => rw [hc] at q; obtain ⟨vs, z, _⟩ := q; rw [z]; exact fun z => nomatch z
  | dic l => rw [hc] at q; obtain ⟨vs, z, _⟩ := q; rw [z]; exact fun z => nomatch z
  | dit l => rw [hc] at q; obtain ⟨vs, z, _⟩ := q; rw [z]; exact fun z => nomatch z
  | ins C l => rw [hc] at q; obtain ⟨vs, dx, z, _⟩ := q; rw [z]; exact fun z => nomatch z
theorem Rel.lk (R : Rel K dd ex m H h) (hp : p ∈ m) : Lk (H p) := by
  obtain ⟨i, hi, e⟩ := List.mem_iff_getElem.mp hp
  have hi2 : i < h.length := by rw [R.len]; exact hi
  have q := R.cs i h[i] p (List.getElem?_eq_getElem hi2) (by rw [List.getElem?_eq_getElem hi, e])
  cases hc : h[i] with
  | lst l => rw [hc] at q; obtain ⟨vs, z, _⟩ := q; rw [z]; trivial
  | dic l => rw [hc] at q; obtain ⟨vs, z, _⟩ := q; rw [z]; trivial
  | dit l => rw [hc] at q; obtain ⟨vs, z, _⟩ := q; rw [z]; trivial
  | ins C l => rw [hc] at q; obtain ⟨vs, dx, z, _⟩ := q; rw [z]; trivial
theorem Rel.dth (R : Rel K dd ex m H h) (e : dd.On p) : H p ≠ none := R.ok.there e
theorem Lk.noext {o : Option HO} (h : Lk o) : ∀ φ, o ≠ some (.ext φ) := fun φ z => by rw [z] at h; exact h
theorem Grow.comp {h' : List Cell} (R' : Rel K dd ex m' H' h') (g : Grow dd m H m' H') (g2 : Grow dd m' H' m2 H2) : Grow dd m H m2 H2 :=
  g.trans g2 (hd := fun p e => R'.dth e) (hm := fun p hp => by
    obtain ⟨⟨t, rfl, ht⟩, _⟩ := g
    exact R'.there (List.mem_append_left _ hp))
theorem rd_grow (g : Grow dd m H m' H') (hp : p ∉ m) (hd : ¬ dd.On p) (e : Rd H p o) : p ∉ m' ∧ Rd H' p o := by
  rcases e with e | ⟨ob, e⟩
  · exact ⟨g.out hp e, .inl (g.keep _ _ hp hd e)⟩
  · exact ⟨g.out hp e, .inr ⟨ob, g.keep _ _ hp hd e⟩⟩
mutual
theorem Rv.grow (g : Grow dd m H m' H') : ∀ {d : D} {v : V}, Rv K dd ex m H d v → Rv K dd ex m' H' d v
  | _, _, .non => .non
  | _, _, .bl b => .bl b
  | _, _, .int i => .int i
  | _, _, .str l => .str l
  | _, _, .tup a b c r => .tup (rd_grow g a b.1 c).1 b (rd_grow g a b.1 c).2 (Rvs.grow g r)
  | _, _, .ktup k r => .ktup k (Rvs.grow g r)
  | _, _, .lst a b c r => .lst (g.out a c) b (g.keep _ _ a b.1 c) (Rvs.grow g r)
  | _, _, .dic a b c e r => .dic (g.out a c) b (g.keep _ _ a b.1 c) e (Rvs.grow g r)
  | _, _, .dit a b c e r => .dit (g.out a c) b (g.keep _ _ a b.1 c) e (Rvs.grow g r)
  | _, _, .obj a b c e r => .obj ⟨g.out a.1 c.1, g.out a.2 c.2⟩ b ⟨g.keep _ _ a.1 b.1.1 c.1, g.keep _ _ a.2 b.2.1 c.2⟩ e (Rvs.grow g r)
  | _, _, .ref e => .ref (g.cell e)
  | _, _, .adr a => .adr a
  | _, _, .ty n => .ty n
  | _, _, .dice e => .dice e
  | _, _, .lam a b c e => .lam ⟨g.out a.1 c, g.out a.2 e⟩ b (g.keep _ _ a.1 b.1.1 c) (g.keep _ _ a.2 b.2.1 e)
  | _, _, .scr c => .scr (c.imp id fun ⟨a, b, e⟩ => ⟨(rd_grow g a b.1 e).1, b, (rd_grow g a b.1 e).2⟩)
theorem Rvs.grow (g : Grow dd m H m' H') : ∀ {ds : List D} {vs : List V}, Rvs K dd ex m H ds vs → Rvs K dd ex m' H' ds vs
  | _, _, .nil => .nil
  | _, _, .cons r t => .cons (Rv.grow g r) (Rvs.grow g t)
end
theorem CellOk.grow (g : Grow dd m H m' H') (e : H' p = H p) (q : CellOk K dd ex m H c p) : CellOk K dd ex m' H' c p := by
  cases c with
  | lst l => obtain ⟨vs, z, r⟩ := q; exact ⟨vs, by rw [e]; exact z, r.grow g⟩
  | dic l => obtain ⟨vs, z, y, r⟩ := q; exact ⟨vs, by rw [e]; exact z, y, r.grow g⟩
  | dit l => obtain ⟨vs, z, y, r⟩ := q; exact ⟨vs, by rw [e]; exact z, y, r.grow g⟩
  | ins C l => obtain ⟨vs, dx, z, w, y, r⟩ := q; exact ⟨vs, dx, by rw [e]; exact z, ⟨g.keep _ _ w.2.1 w.2.2.1 w.1, g.out w.2.1 w.1, w.2.2⟩, y, r.grow g⟩
/-- a new thing that is no cell -/
theorem Rel.new (R : Rel K dd ex m H h) (hp : H p = none) : Rel K dd ex m (upd H p o) h ∧ Grow dd m H m (upd H p o) ∧ p ∉ m ∧ ¬ dd.On p ∧ p ∉ ex := by
  have h1 : p ∉ m := fun z => R.there z hp
  have h2 : ¬ dd.On p := fun z => R.dth z hp
  have g : Grow dd m H m (upd H p o) := ⟨⟨[], by simp, by simp⟩, fun q u _ _ e => by rw [upd_ne (ne_of_none e hp)]; exact e⟩
  have h3 : p ∉ ex := fun z => (R.xs p z).2.ne hp
  refine ⟨⟨R.nd, R.on, R.ok.upd h2 (by rw [hp]; exact fun _ z => nomatch z), fun q z => ⟨(R.xs q z).1, ?_⟩, R.len, fun i c q e1 e2 => ?_⟩, g, h1, h2, h3⟩
  · rw [upd_ne fun e => h3 (by rw [← e]; exact z)]
    exact (R.xs q z).2
  · refine (R.cs i c q e1 e2).grow g ?_
    exact upd_ne fun z => h1 (z ▸ List.mem_of_getElem? e2)
/-- a new cell -/
theorem Rel.newCell (R : Rel K dd ex m H h) (hp : H p = none) (hc : ∀ m' H', Grow dd m H m' H' → H' p = some o → CellOk K dd ex m' H' c p) : Rel K dd ex (m ++ [p]) (upd H p o) (h ++ [c]) ∧ Grow dd m H (m ++ [p]) (upd H p o) := by
  have h1 : p ∉ m := fun z => R.there z hp
  have h2 : ¬ dd.On p := fun z => R.dth z hp
  have g : Grow dd m H (m ++ [p]) (upd H p o) := ⟨⟨[p], rfl, fun q hq => by rw [List.mem_singleton.mp hq]; exact hp⟩, fun q u _ _ e => by rw [upd_ne (ne_of_none e hp)]; exact e⟩
  refine ⟨⟨List.nodup_append.mpr ⟨R.nd, by simp, fun a ha b hb => by rw [List.mem_singleton.mp hb]; exact fun z => h1 (z ▸ ha)⟩, fun q e z => ?_, R.ok.upd h2 (by rw [hp]; exact fun _ z => nomatch z), fun q z => ⟨fun y => ?_, ?_⟩, by simp [R.len], fun i c' q e1 e2 => ?_⟩, g⟩
  · rcases List.mem_append.mp z with z | z
    · exact R.on q e z
    · rw [List.mem_singleton.mp z] at e; exact h2 e
  · rcases List.mem_append.mp y with y | y
    · exact (R.xs q z).1 y
    · rw [List.mem_singleton.mp y] at z
      exact (R.xs p z).2.ne hp
  · rw [upd_ne fun e => (R.xs p (by rw [← e]; exact z)).2.ne hp]
    exact (R.xs q z).2
  · by_cases hi : i < h.length
    · rw [List.getElem?_append_left hi] at e1
      rw [List.getElem?_append_left (by rw [← R.len]; exact hi)] at e2
      exact (R.cs i c' q e1 e2).grow g (upd_ne fun z => h1 (z ▸ List.mem_of_getElem? e2))
    · have hi2 : i = h.length := by
        have := (List.getElem?_eq_some_iff.mp e1).1
        simp at this; omega
      subst hi2
      rw [List.getElem?_append_right (by omega)] at e1
      rw [List.getElem?_append_right (by rw [R.len]; exact Nat.le_refl _)] at e2
      simp at e1
      simp [R.len] at e2
      subst e1; subst e2
      exact hc _ _ g upd_same
/-- a cell is changed -/
theorem Rel.setCell {n : Nat} (R : Rel K dd ex m H h) (hn : m[n]? = some p) (hc : ∀ H', Grow dd m H m H' → H' p = some o → CellOk K dd ex m H' c p) : Rel K dd ex m (upd H p o) (h.set n c) ∧ Grow dd m H m (upd H p o) := by
  have hm := List.mem_of_getElem? hn
  have g : Grow dd m H m (upd H p o) := ⟨⟨[], by simp, by simp⟩, fun q u a _ e => by rw [upd_ne fun z => a (by rw [z]; exact hm)]; exact e⟩
  refine ⟨⟨R.nd, R.on, R.ok.upd (fun z => R.on p z hm) (R.lk hm).noext, fun q z => ⟨(R.xs q z).1, ?_⟩, by simp [R.len], fun i c' q e1 e2 => ?_⟩, g⟩
  · rw [upd_ne fun e => (R.xs q z).1 (by rw [e]; exact hm)]
    exact (R.xs q z).2
  · by_cases hi : i = n
    · subst hi
      rw [hn] at e2
      cases e2
      rw [List.getElem?_set_self' ] at e1
      have : i < h.length := by rw [R.len]; exact (List.getElem?_eq_some_iff.mp hn).1
      rw [List.getElem?_eq_getElem this] at e1
      simp at e1
      subst e1
      exact hc _ g upd_same
    · rw [List.getElem?_set_ne (Ne.symm hi)] at e1
      refine (R.cs i c' q e1 e2).grow g (upd_ne fun z => hi ?_)
      have l1 := (List.getElem?_eq_some_iff.mp hn)
      have l2 := (List.getElem?_eq_some_iff.mp e2)
      exact (List.getElem_inj R.nd).mp (l2.2.trans (z.trans l1.2.symm))
/-- the values of the names -/
structure REnv (K : PySem.W.Frag) (dd : Hid) (ex : List Addr) (m : List Addr) (H : Hp) (ρ : List (Option D)) (σ : L2.St) : Prop where
  len : ρ.length = σ.length
  at_ : ∀ (i : Nat) (d : D), ρ[i]? = some (some d) → ∃ v, σ[i]? = some (some v) ∧ Rv K dd ex m H d v
theorem REnv.grow {ρ : List (Option D)} {σ : L2.St} (g : Grow dd m H m' H') (r : REnv K dd ex m H ρ σ) : REnv K dd ex m' H' ρ σ := ⟨r.len, fun i d e => by
  obtain ⟨v, a, b⟩ := r.at_ i d e
  exact ⟨v, a, b.grow g⟩⟩
theorem REnv.set {ρ : List (Option D)} {σ : L2.St} {i : Nat} (r : REnv K dd ex m H ρ σ) (q : Rv K dd ex m H d v) : REnv K dd ex m H (ρ.set i (some d)) (σ.set i (some v)) := ⟨by simp [r.len], fun j e hj => by
  by_cases z : i = j
  · subst z
    by_cases hi : i < ρ.length
    · rw [List.getElem?_set_self hi] at hj
      cases hj
      exact ⟨v, List.getElem?_set_self (by rw [← r.len]; exact hi), q⟩
    · rw [List.getElem?_eq_none (by simp; omega)] at hj
      cases hj
  · rw [List.getElem?_set_ne z] at hj ⊢
    exact r.at_ j e hj⟩
theorem REnv.wipe {ρ : List (Option D)} {σ : L2.St} {i : Nat} (r : REnv K dd ex m H ρ σ) : REnv K dd ex m H (ρ.set i none) (σ.set i none) := ⟨by simp [r.len], fun j e hj => by
  by_cases z : i = j
  · subst z
    by_cases hi : i < ρ.length
    · rw [List.getElem?_set_self hi] at hj
      cases hj
    · rw [List.getElem?_eq_none (by simp; omega)] at hj
      cases hj
  · rw [List.getElem?_set_ne z] at hj ⊢
    exact r.at_ j e hj⟩
end
end DL

end

section
set_option maxHeartbeats 1000000
/-! F2: what expressions give, over plain data. -/
namespace DL
open PySem PySem.Spec PyProof.Rows L2 KG

structure Exn where
  cls : Value
  fs : Option (Str × D)
abbrev Rho := List (Option D)
abbrev DX := Exn → List Cell → Prop
abbrev DG (δ : Type) := Rho → List Cell → (δ → List Cell → Prop) → DX → Prop
abbrev DE := DG D
abbrev DT := DG Bool
abbrev DA := DG (List D)
def noX : DX := fun _ _ => False
abbrev TG0 (α : Type) := L2.St → Hp → (α → Hp → Prop) → Prop

section
variable (K : PySem.W.Frag) (dd : Hid)
def XRep (ex : List Addr) (m : List Addr) (H : Hp) (e : Exn) (cls : Value) (d : Option Addr) : Prop := cls = e.cls ∧ match e.fs with
  | none => d = none
  | some (f, x) => ∃ a v, d = some a ∧ H a = some (.xd [(f, v)]) ∧ Rv K dd ex m H x v
/-- what is raised is caught as it is wished | what comes goes on as it is wished -/
def Goes (ex : List Addr) (E : L2.St → XK) (σ : L2.St) (m : List Addr) (H : Hp) (Ed : DX) : Prop := ∀ e h' m' H', Rel K dd ex m' H' h' → Grow dd m H m' H' → Ed e h' → ∀ cls d, XRep K dd ex m' H' e cls d → E σ cls d H'
def Comes (ex : List Addr) {α δ : Type} (Rp : List Addr → Hp → δ → α → Prop) (m : List Addr) (H : Hp) (Qd : δ → List Cell → Prop) (Q : α → Hp → Prop) : Prop := ∀ d h' m' H' v, Rel K dd ex m' H' h' → Grow dd m H m' H' → Rp m' H' d v → Qd d h' → Q v H'
def EvG {α δ : Type} (Rp : List Addr → List Addr → Hp → δ → α → Prop) (E : L2.St → XK) (te : TG0 α) (f : DG δ) : Prop :=
  ∀ {ex m : List Addr} {h : List Cell} {H : Hp} {ρ : Rho} {σ : L2.St} {Qd : δ → List Cell → Prop} {Ed : DX}, Rel K dd ex m H h → REnv K dd ex m H ρ σ → f ρ h Qd Ed → Goes K dd ex E σ m H Ed → ∀ Q : α → Hp → Prop, Comes K dd ex (Rp ex) m H Qd Q → te σ H Q
abbrev EvE := EvG K dd (Rv K dd)
abbrev EvT := EvG K dd (fun _ _ _ (b c : Bool) => c = b)
abbrev EvA := EvG K dd (Rvs K dd)
/-- a two-place operation on values -/
def EvR (r : R2) (g : D → D → List Cell → (D → List Cell → Prop) → Prop) : Prop :=
  ∀ {ex m : List Addr} {h : List Cell} {H : Hp} {x y : D} {v w : V} {Qd : D → List Cell → Prop}, Rel K dd ex m H h → Rv K dd ex m H x v → Rv K dd ex m H y w → g x y h Qd → ∀ Q : VK, Comes K dd ex (Rv K dd ex) m H Qd Q → r v w H Q
/-- a call on values -/
def EvC (r : List V → Hp → VK → Prop) (g : List D → List Cell → (D → List Cell → Prop) → Prop) : Prop :=
  ∀ {ex m : List Addr} {h : List Cell} {H : Hp} {xs : List D} {vs : List V} {Qd : D → List Cell → Prop}, Rel K dd ex m H h → Rvs K dd ex m H xs vs → g xs h Qd → ∀ Q : VK, Comes K dd ex (Rv K dd ex) m H Qd Q → r vs H Q
end
section
variable {K : PySem.W.Frag} {dd : Hid} {ex m m' : List Addr} {H H' : Hp} {h h' : List Cell} {E : L2.St → XK} {σ : L2.St} {Ed : DX}
theorem Goes.later (G : Goes K dd ex E σ m H Ed) (R' : Rel K dd ex m' H' h') (g : Grow dd m H m' H') : Goes K dd ex E σ m' H' Ed := fun e h2 m2 H2 R2 g2 => G e h2 m2 H2 R2 (g.comp R' g2)
theorem Comes.later {α δ : Type} {Rp : List Addr → Hp → δ → α → Prop} {Qd : δ → List Cell → Prop} {Q : α → Hp → Prop} (G : Comes K dd ex Rp m H Qd Q) (R' : Rel K dd ex m' H' h') (g : Grow dd m H m' H') : Comes K dd ex Rp m' H' Qd Q := fun d h2 m2 H2 v R2 g2 => G d h2 m2 H2 v R2 (g.comp R' g2)
theorem Comes.now {Qd : D → List Cell → Prop} {Q : VK} {d : D} {v : V} (G : Comes K dd ex (Rv K dd ex) m H Qd Q) (R : Rel K dd ex m H h) (r : Rv K dd ex m H d v) (q : Qd d h) : Q v H := G d h m H v R Grow.refl r q
/-- a new thing -/
theorem Comes.new {Qd : D → List Cell → Prop} {Q : VK} {d : D} {o : HO} (G : Comes K dd ex (Rv K dd ex) m H Qd Q) (R : Rel K dd ex m H h) (q : Qd d h) {p : Addr} (hp : H p = none)
    (r : p ∉ m → (¬ dd.On p ∧ p ∉ ex) → (upd H p o) p = some o → Grow dd m H m (upd H p o) → Rv K dd ex m (upd H p o) d (.ref p)) : Q (.ref p) (upd H p o) := by
  obtain ⟨R2, g, a, b⟩ := R.new (o := o) hp
  exact G d h m _ _ R2 g (r a b upd_same g) q
/-- a list to be read -/
def asL (h : List Cell) : D → Option (List D)
  | .lst l => some l
  | .ref n => match h[n]? with
    | some (.lst l) => some l
    | _ => none
  | _ => none
theorem rv_list {d : D} {v : V} {l : List D} (R : Rel K dd ex m H h) (r : Rv K dd ex m H d v) (e : asL h d = some l) : ∃ p vs, v = .ref p ∧ H p = some (.lst vs) ∧ Rvs K dd ex m H l vs := by
  cases r with
  | @lst p ds vs a b c q => cases e; exact ⟨_, _, rfl, c, q⟩
  | @ref n p hn =>
    unfold asL at e
    simp only at e
    split at e
    · rename_i l' hc
      cases e
      obtain ⟨vs, z, q⟩ := R.cs n _ p hc hn
      exact ⟨_, _, rfl, z, q⟩
    · cases e
  | _ => cases e
theorem rv_tup {l : List D} {v : V} (r : Rv K dd ex m H (.tup l) v) : ∃ p vs, v = .ref p ∧ SqT K H p vs ∧ Rvs K dd ex m H l vs := by
  cases r with
  | tup a b c q => exact ⟨_, _, rfl, .inl c, q⟩
  | ktup k q => exact ⟨_, _, rfl, .inr k, q⟩
/-- a list or a tuple to be read -/
def asS (h : List Cell) : D → Option (List D)
  | .tup l => some l
  | d => asL h d
theorem rv_seq {d : D} {v : V} {l : List D} (R : Rel K dd ex m H h) (r : Rv K dd ex m H d v) (e : asS h d = some l) : ∃ p vs, v = .ref p ∧ (SqL K H p vs ∨ SqT K H p vs) ∧ Rvs K dd ex m H l vs := by
  cases d with
  | tup l' =>
    cases e
    obtain ⟨p, vs, a, b, c⟩ := rv_tup r
    exact ⟨p, vs, a, .inr b, c⟩
  | _ =>
    obtain ⟨p, vs, a, b, c⟩ := rv_list R r e
    exact ⟨p, vs, a, .inl (SqL.of b), c⟩
theorem rv_of_str {l : List Nat} {v : V} (r : Rv K dd ex m H (.str l) v) : v = S l := by cases r; rfl
theorem rv_of_int {i : Int} {v : V} (r : Rv K dd ex m H (.int i) v) : v = .int i := by cases r; rfl
theorem rv_of_bl {b : Bool} {v : V} (r : Rv K dd ex m H (.bl b) v) : v = .bl b := by cases r; rfl
end
/-! ### the readings -/
def dVar (i : Nat) : DE := fun ρ h Q _ => ∃ d, ρ[i]? = some (some d) ∧ Q d h
def dC (d : D) : DE := fun _ h Q _ => Q d h
def dOp (g : D → D → List Cell → (D → List Cell → Prop) → Prop) (fa fb : DE) : DE := fun ρ h Q E => fa ρ h (fun x h1 => fb ρ h1 (fun y h2 => g x y h2 Q) E) E
def dNil : DA := fun _ h Q _ => Q [] h
def dCons (fa : DE) (fs : DA) : DA := fun ρ h Q E => fa ρ h (fun x h1 => fs ρ h1 (fun xs h2 => Q (x :: xs) h2) E) E
def dCall (g : List D → List Cell → (D → List Cell → Prop) → Prop) (fs : DA) : DE := fun ρ h Q E => fs ρ h (fun xs h1 => g xs h1 Q) E
def dTup (fs : DA) : DE := fun ρ h Q E => fs ρ h (fun xs h1 => xs.length ≤ 1000000 ∧ Q (.tup xs) h1) E
def dLst (fs : DA) : DE := fun ρ h Q E => fs ρ h (fun xs h1 => xs.length ≤ 1000000 ∧ Q (.lst xs) h1) E
def dTest (fe : DE) : DT := fun ρ h Q E => fe ρ h (fun d h1 => ∃ b, d = .bl b ∧ Q b h1) E
/-- a way of an if, folded till it is decided -/
def DIf {δ : Type} (b : Bool) (fa fb : DG δ) : DG δ := fun ρ h Q E => if b = true then fa ρ h Q E else fb ρ h Q E
def dIf (ft : DT) (fa fb : DE) : DE := fun ρ h Q E => ft ρ h (fun b h1 => DIf b fa fb ρ h1 Q E) E
def dNow {δ : Type} (x : δ) : DG δ := fun _ h Q _ => Q x h
def dAnd (ft fu : DT) : DT := fun ρ h Q E => ft ρ h (fun b h1 => DIf b fu (dNow false) ρ h1 Q E) E
def dOr (ft fu : DT) : DT := fun ρ h Q E => ft ρ h (fun b h1 => DIf b (dNow true) fu ρ h1 Q E) E
def dNot (ft : DT) : DT := fun ρ h Q E => ft ρ h (fun b h1 => Q (!b) h1) E
def dAndV (fa fb : DE) : DE := fun ρ h Q E => fa ρ h (fun d h1 => ∃ b, d = .bl b ∧ DIf b fb (dNow (.bl false)) ρ h1 Q E) E
def dOrV (fa fb : DE) : DE := fun ρ h Q E => fa ρ h (fun d h1 => ∃ b, d = .bl b ∧ DIf b (dNow (.bl true)) fb ρ h1 Q E) E
def dNotV (fa : DE) : DE := fun ρ h Q E => fa ρ h (fun d h1 => ∃ b, d = .bl b ∧ Q (.bl (!b)) h1) E
def dChain (g g' : D → D → List Cell → (D → List Cell → Prop) → Prop) (fa fb fc : DE) : DE := fun ρ h Q E => fa ρ h (fun x h1 => fb ρ h1 (fun y h2 => g x y h2 fun z h3 => ∃ b, z = .bl b ∧ DIf b (fun ρ h Q E => fc ρ h (fun w h4 => g' y w h4 Q) E) (dNow (.bl false)) ρ h3 Q E) E) E
def dPart (fe : DE) : DG (Option Int) := fun ρ h Q E => fe ρ h (fun d h1 => ∃ i, d = .int i ∧ Q (some i) h1) E
def dNoPart : DG (Option Int) := fun _ h Q _ => Q none h
def dSl (g : D → Option Int → Option Int → List Cell → (D → List Cell → Prop) → Prop) (fa : DE) (fl fu : DG (Option Int)) : DE := fun ρ h Q E => fa ρ h (fun x h1 => fl ρ h1 (fun l h2 => fu ρ h2 (fun u h3 => g x l u h3 Q) E) E) E

/-! ### the judgements -/
section
variable (K : PySem.W.Frag) (dd : Hid) (E : L2.St → XK) (X : Cx)
def FE (e : Expr) (te : TE) (f : DE) : Prop := PE X e te ∧ EvE K dd E te f
def FT (e : Expr) (te : TT) (f : DT) : Prop := PT X e te ∧ EvT K dd E te f
def FW (e : Expr) (te : TT) (f : DT) : Prop := PW X e te ∧ EvT K dd E te f
def FA (es : List Expr) (te : TA) (f : DA) : Prop := PA X es te ∧ EvA K dd E te f
def FO (e : Option Expr) (te : TO) (f : DG (Option Int)) : Prop := PO X e te ∧ EvG K dd (fun _ _ _ (b c : Option Int) => c = b) E te f
end
section
variable {K : PySem.W.Frag} {dd : Hid} {E : L2.St → XK} {X : Cx} {e a b c : Expr} {es : List Expr} {fe fa fb fc : DE} {ft fu : DT} {fs : DA} {g g' : D → D → List Cell → (D → List Cell → Prop) → Prop} {r r' : R2} {pos : Pos} {ta tb tc te : TE} {tt tu : TT} {ts : TA}
theorem fe_var {i : Nat} (h : PE X e (tVar i)) : FE K dd E X e (tVar i) (dVar i) := ⟨h, fun R P hf _ Q q => by
  obtain ⟨d, hd, hq⟩ := hf
  obtain ⟨v, hv, rv⟩ := P.at_ _ _ hd
  exact ⟨v, hv, q.now R rv hq⟩⟩
theorem fe_c {v : V} {d : D} (h : PE X e (tC v)) (r : ∀ ex m H, Rv K dd ex m H d v) : FE K dd E X e (tC v) (dC d) := ⟨h, fun R _ hf _ Q q => q.now R (r _ _ _) hf⟩
theorem fe_int {i : Int} {j : Nat} : FE K dd E X (.Constant (.int i) j pos) (tC (.int i)) (dC (.int i)) := fe_c pe_int fun _ _ _ => .int i
theorem fe_bl {b : Bool} {j : Nat} : FE K dd E X (.Constant (.bool b) j pos) (tC (.bl b)) (dC (.bl b)) := fe_c pe_bl fun _ _ _ => .bl b
theorem fe_non {j : Nat} : FE K dd E X (.Constant .none j pos) (tC .non) (dC .non) := fe_c pe_non fun _ _ _ => .non
theorem fe_S {x : Str} {j : Nat} (l : List Nat) (h : x.cps.toList = l) : FE K dd E X (.Constant (.str x) j pos) (tC (S l)) (dC (.str l)) := fe_c (pe_S l h) fun _ _ _ => .str l
theorem fe_op {op : Operator} (ho : OpR X (binaryOp op) r) (hg : EvR K dd r g) (ha : FE K dd E X a ta fa) (hb : FE K dd E X b tb fb) : FE K dd E X (.BinOp a op b pos) (tOp r ta tb) (dOp g fa fb) := by
  obtain ⟨pa, ea⟩ := ha
  obtain ⟨pb, eb⟩ := hb
  refine ⟨pe_op ho pa pb, fun R P hf G Q q => ?_⟩
  refine ea R P hf G _ fun x h1 m1 H1 v R1 g1 r1 f1 => eb R1 (P.grow g1) f1 (G.later R1 g1) _ fun y h2 m2 H2 w R2 g2 r2 f2 => ?_
  exact hg R2 (r1.grow g2) r2 f2 Q ((q.later R1 g1).later R2 g2)
theorem fe_cmp {op : CmpOp} (ho : OpR X (compareOp op) r) (hg : EvR K dd r g) (ha : FE K dd E X a ta fa) (hb : FE K dd E X b tb fb) (hm : behindInMarks op b = false) : FE K dd E X (.Compare a [op] [b] pos) (tOp r ta tb) (dOp g fa fb) := by
  obtain ⟨pa, ea⟩ := ha
  obtain ⟨pb, eb⟩ := hb
  refine ⟨pe_cmpR ho pa pb hm, fun R P hf G Q q => ?_⟩
  refine ea R P hf G _ fun x h1 m1 H1 v R1 g1 r1 f1 => eb R1 (P.grow g1) f1 (G.later R1 g1) _ fun y h2 m2 H2 w R2 g2 r2 f2 => ?_
  exact hg R2 (r1.grow g2) r2 f2 Q ((q.later R1 g1).later R2 g2)
theorem ev_nil : EvA K dd E tNil dNil := fun R _ hf _ Q q => q [] _ _ _ [] R Grow.refl .nil hf
theorem ev_cons {ta : TE} {ts : TA} (ea : EvE K dd E ta fa) (es : EvA K dd E ts fs) : EvA K dd E (tCons ta ts) (dCons fa fs) := fun R P hf G Q q =>
  ea R P hf G _ fun x h1 m1 H1 v R1 g1 r1 f1 => es R1 (P.grow g1) f1 (G.later R1 g1) _ fun xs h2 m2 H2 vs R2 g2 r2 f2 => q (x :: xs) h2 m2 H2 (v :: vs) R2 (g1.comp R1 g2) (.cons (r1.grow g2) r2) f2
theorem fa_nil : FA K dd E X [] tNil dNil := ⟨pa_nil, ev_nil⟩
theorem fa_cons (ha : FE K dd E X a ta fa) (hs : FA K dd E X es ts fs) (he : starEach (a :: es) X.env = (false, eval a X.env) :: starEach es X.env := by rfl) : FA K dd E X (a :: es) (tCons ta ts) (dCons fa fs) := by
  obtain ⟨pa, ea⟩ := ha
  obtain ⟨ps, es'⟩ := hs
  exact ⟨pa_cons pa ps he, ev_cons ea es'⟩
theorem fe_tup {x1 : Nat} (hs : FA K dd E X es ts fs) : FE K dd E X (.Tuple es x1 pos) (tTup ts) (dTup fs) := by
  obtain ⟨ps, es'⟩ := hs
  refine ⟨pe_tup ps, fun R P hf G Q q => es' R P hf G _ fun xs h1 m1 H1 vs R1 g1 r1 f1 => ⟨line_of (by rw [← r1.length]; exact f1.1), fun p hp => ?_⟩⟩
  exact (q.later R1 g1).new R1 f1.2 hp fun a b c g => .tup a b (.inl c) (r1.grow g)
theorem fe_lst (hs : FA K dd E X es ts fs) : FE K dd E X (.List es pos) (tLst ts) (dLst fs) := by
  obtain ⟨ps, es'⟩ := hs
  refine ⟨pe_lst ps, fun R P hf G Q q => es' R P hf G _ fun xs h1 m1 H1 vs R1 g1 r1 f1 => ⟨line_of (by rw [← r1.length]; exact f1.1), fun p hp => ?_⟩⟩
  exact (q.later R1 g1).new R1 f1.2 hp fun a b c g => .lst a b c (r1.grow g)
/-! tests -/
theorem ev_if {α δ : Type} {Rp : List Addr → List Addr → Hp → δ → α → Prop} {tt : TT} {ta tb : TG0 α} {f1 f2 : DG δ} (et : EvT K dd E tt ft) (ea : EvG K dd Rp E ta f1) (eb : EvG K dd Rp E tb f2) :
    EvG K dd Rp E (fun σ H Q => tt σ H fun c H1 => if c = true then ta σ H1 Q else tb σ H1 Q) (fun ρ h Q E => ft ρ h (fun b h1 => DIf b f1 f2 ρ h1 Q E) E) := fun R P hf G Q q =>
  et R P hf G _ fun b h1 m1 H1 c R1 g1 r1 f1 => by
    subst r1
    unfold DIf at f1
    cases c
    · rw [if_neg Bool.false_ne_true] at f1 ⊢
      exact eb R1 (P.grow g1) f1 (G.later R1 g1) Q (q.later R1 g1)
    · rw [if_pos rfl] at f1 ⊢
      exact ea R1 (P.grow g1) f1 (G.later R1 g1) Q (q.later R1 g1)
theorem ev_now {α δ : Type} {Rp : List Addr → List Addr → Hp → δ → α → Prop} {x : δ} {y : α} (hr : ∀ ex m H, Rp ex m H x y) : EvG K dd Rp E (fun _ H Q => Q y H) (dNow x) := fun R _ hf _ Q q => q _ _ _ _ _ R Grow.refl (hr _ _ _) hf
theorem ev_nowB {b : Bool} : EvT K dd E (fun _ H Q => Q b H) (dNow b) := fun R _ hf _ Q q => q _ _ _ _ _ R Grow.refl rfl hf
theorem ev_andT {tt tu : TT} (e : EvT K dd E tt ft) (e2 : EvT K dd E tu fu) : EvT K dd E (tAnd tt tu) (dAnd ft fu) := ev_if (Rp := fun _ _ _ (b c : Bool) => c = b) (f1 := fu) (f2 := dNow false) (ta := tu) (tb := fun _ H Q => Q false H) e e2 ev_nowB
theorem ev_orT {tt tu : TT} (e : EvT K dd E tt ft) (e2 : EvT K dd E tu fu) : EvT K dd E (tOr tt tu) (dOr ft fu) := ev_if (Rp := fun _ _ _ (b c : Bool) => c = b) (f1 := dNow true) (f2 := fu) (ta := fun _ H Q => Q true H) (tb := tu) e ev_nowB e2
theorem fe_if (ht : FT K dd E X c tt ft) (ha : FE K dd E X a ta fa) (hb : FE K dd E X b tb fb) : FE K dd E X (.IfExp c a b pos) (tIf tt ta tb) (dIf ft fa fb) := by
  obtain ⟨pt, et⟩ := ht
  obtain ⟨pa, ea⟩ := ha
  obtain ⟨pb, eb⟩ := hb
  exact ⟨pe_ifExp pt pa pb, ev_if et ea eb⟩
theorem ev_test {te : TE} (ea : EvE K dd E te fe) : EvT K dd E (tTest te) (dTest fe) := fun R P hf G Q q => ea R P hf G _ fun d h1 m1 H1 v R1 g1 r1 f1 => by
  obtain ⟨b, rfl, f1⟩ := f1
  exact ⟨b, rv_of_bl r1, q _ _ _ _ _ R1 g1 rfl f1⟩
theorem ft_cmp {op : CmpOp} (ho : OpR X (compareOp op) r) (hg : EvR K dd r g) (ha : FE K dd E X a ta fa) (hb : FE K dd E X b tb fb) (hm : behindInMarks op b = false) : FT K dd E X (.Compare a [op] [b] pos) (tTest (tOp r ta tb)) (dTest (dOp g fa fb)) := by
  obtain ⟨pa, ea⟩ := ha
  obtain ⟨pb, eb⟩ := hb
  refine ⟨pt_cmpR ho pa pb hm, ev_test fun R P hf G Q q => ?_⟩
  refine ea R P hf G _ fun x h1 m1 H1 v R1 g1 r1 f1 => eb R1 (P.grow g1) f1 (G.later R1 g1) _ fun y h2 m2 H2 w R2 g2 r2 f2 => ?_
  exact hg R2 (r1.grow g2) r2 f2 Q ((q.later R1 g1).later R2 g2)
theorem ev_chain {ta tb tc : TE} (hg : EvR K dd r g) (hg' : EvR K dd r' g') (ea : EvE K dd E ta fa) (eb : EvE K dd E tb fb) (ec : EvE K dd E tc fc) : EvE K dd E (tChain r r' ta tb tc) (dChain g g' fa fb fc) := fun R P hf G Q q => by
  refine ea R P hf G _ fun x h1 m1 H1 v R1 g1 r1 f1 => eb R1 (P.grow g1) f1 (G.later R1 g1) _ fun y h2 m2 H2 w R2 g2 r2 f2 => ?_
  refine hg R2 (r1.grow g2) r2 f2 _ fun z h3 m3 H3 z' R3 g3 r3 f3 => ?_
  obtain ⟨k, rfl, f3⟩ := f3
  refine ⟨k, rv_of_bl r3, ?_⟩
  have P3 := ((P.grow g1).grow g2).grow g3
  have q3 := ((q.later R1 g1).later R2 g2).later R3 g3
  have G3 := ((G.later R1 g1).later R2 g2).later R3 g3
  unfold DIf at f3
  cases k
  · rw [if_neg Bool.false_ne_true] at f3 ⊢
    exact q3.now R3 (.bl false) f3
  · rw [if_pos rfl] at f3 ⊢
    exact ec R3 P3 f3 G3 _ fun w' h4 m4 H4 u R4 g4 r4 f4 => hg' R4 ((r2.grow g3).grow g4) r4 f4 Q (q3.later R4 g4)
theorem fe_chain {op op' : CmpOp} (ho : OpR X (compareOp op) r) (ho' : OpR X (compareOp op') r') (hg : EvR K dd r g) (hg' : EvR K dd r' g') (ha : FE K dd E X a ta fa) (hb : FE K dd E X b tb fb) (hc : FE K dd E X c tc fc)
    (hm : lastMarks [op, op'] [b, c] = false := by with_unfolding_all rfl) : FE K dd E X (.Compare a [op, op'] [b, c] pos) (tChain r r' ta tb tc) (dChain g g' fa fb fc) := by
  obtain ⟨pa, ea⟩ := ha
  obtain ⟨pb, eb⟩ := hb
  obtain ⟨pc, ec⟩ := hc
  exact ⟨pe_chain ho ho' pa pb pc hm, ev_chain hg hg' ea eb ec⟩
theorem ft_chain {op op' : CmpOp} (ho : OpR X (compareOp op) r) (ho' : OpR X (compareOp op') r') (hg : EvR K dd r g) (hg' : EvR K dd r' g') (ha : FE K dd E X a ta fa) (hb : FE K dd E X b tb fb) (hc : FE K dd E X c tc fc)
    (hm : lastMarks [op, op'] [b, c] = false := by with_unfolding_all rfl) : FT K dd E X (.Compare a [op, op'] [b, c] pos) (tTest (tChain r r' ta tb tc)) (dTest (dChain g g' fa fb fc)) := by
  obtain ⟨pa, ea⟩ := ha
  obtain ⟨pb, eb⟩ := hb
  obtain ⟨pc, ec⟩ := hc
  exact ⟨pt_chain ho ho' pa pb pc hm, ev_test (ev_chain hg hg' ea eb ec)⟩
theorem fw_and1 (ha : FT K dd E X a tt ft) : FW K dd E X (.BoolOp .And [a] pos) tt ft := by obtain ⟨p, e⟩ := ha; exact ⟨pw_and1 p, e⟩
theorem fw_or1 (ha : FT K dd E X a tt ft) : FW K dd E X (.BoolOp .Or [a] pos) tt ft := by obtain ⟨p, e⟩ := ha; exact ⟨pw_or1 p, e⟩
theorem fw_and (ha : FT K dd E X a tt ft) (hb : FW K dd E X (.BoolOp .And (b :: es) pos) tu fu) : FW K dd E X (.BoolOp .And (a :: b :: es) pos) (tAnd tt tu) (dAnd ft fu) := by
  obtain ⟨p, e⟩ := ha
  obtain ⟨p2, e2⟩ := hb
  exact ⟨pw_and p p2, ev_andT e e2⟩
theorem fw_or (ha : FT K dd E X a tt ft) (hb : FW K dd E X (.BoolOp .Or (b :: es) pos) tu fu) : FW K dd E X (.BoolOp .Or (a :: b :: es) pos) (tOr tt tu) (dOr ft fu) := by
  obtain ⟨p, e⟩ := ha
  obtain ⟨p2, e2⟩ := hb
  exact ⟨pw_or p p2, ev_orT e e2⟩
theorem FW.toFT (h : FW K dd E X a tt ft) : FT K dd E X a tt ft := by obtain ⟨p, e⟩ := h; exact ⟨p.pt, e⟩
theorem ft_not (ha : FT K dd E X a tt ft) : FT K dd E X (.UnaryOp .Not a pos) (tNot tt) (dNot ft) := by
  obtain ⟨p, e⟩ := ha
  exact ⟨pt_not p, fun R P hf G Q q => e R P hf G _ fun b h1 m1 H1 c R1 g1 r1 f1 => by subst r1; exact q _ _ _ _ _ R1 g1 rfl f1⟩
theorem fe_not (ha : FE K dd E X a ta fa) : FE K dd E X (.UnaryOp .Not a pos) (tNotV ta) (dNotV fa) := by
  obtain ⟨p, e⟩ := ha
  refine ⟨pe_not p, fun R P hf G Q q => e R P hf G _ fun d h1 m1 H1 v R1 g1 r1 f1 => ?_⟩
  obtain ⟨b, rfl, f1⟩ := f1
  exact ⟨b, rv_of_bl r1, q _ _ _ _ _ R1 g1 (.bl _) f1⟩
theorem fe_one {op} (ha : FE K dd E X a ta fa) : FE K dd E X (.BoolOp op [a] pos) ta fa := by obtain ⟨p, e⟩ := ha; exact ⟨pe_one p, e⟩
theorem fe_and (ha : FE K dd E X a ta fa) (hb : FE K dd E X (.BoolOp .And (b :: es) pos) tb fb) : FE K dd E X (.BoolOp .And (a :: b :: es) pos) (tAndV ta tb) (dAndV fa fb) := by
  obtain ⟨p, e⟩ := ha
  obtain ⟨p2, e2⟩ := hb
  refine ⟨pe_and p p2, fun R P hf G Q q => e R P hf G _ fun d h1 m1 H1 v R1 g1 r1 f1 => ?_⟩
  obtain ⟨k, rfl, f1⟩ := f1
  refine ⟨k, rv_of_bl r1, ?_⟩
  unfold DIf at f1
  cases k
  · rw [if_neg Bool.false_ne_true] at f1 ⊢
    exact (q.later R1 g1).now R1 (.bl false) f1
  · rw [if_pos rfl] at f1 ⊢
    exact e2 R1 (P.grow g1) f1 (G.later R1 g1) Q (q.later R1 g1)
theorem fe_or (ha : FE K dd E X a ta fa) (hb : FE K dd E X (.BoolOp .Or (b :: es) pos) tb fb) : FE K dd E X (.BoolOp .Or (a :: b :: es) pos) (tOrV ta tb) (dOrV fa fb) := by
  obtain ⟨p, e⟩ := ha
  obtain ⟨p2, e2⟩ := hb
  refine ⟨pe_or p p2, fun R P hf G Q q => e R P hf G _ fun d h1 m1 H1 v R1 g1 r1 f1 => ?_⟩
  obtain ⟨k, rfl, f1⟩ := f1
  refine ⟨k, rv_of_bl r1, ?_⟩
  unfold DIf at f1
  cases k
  · rw [if_neg Bool.false_ne_true] at f1 ⊢
    exact e2 R1 (P.grow g1) f1 (G.later R1 g1) Q (q.later R1 g1)
  · rw [if_pos rfl] at f1 ⊢
    exact (q.later R1 g1).now R1 (.bl true) f1
/-- the truth of a value -/
def dtru (h : List Cell) : D → Option Bool
  | .non => some false
  | .bl b => some b
  | .int i => some (i != 0)
  | .str l => if l.length ≤ 1000000 then some (!l.isEmpty) else none
  | .tup l => some (!l.isEmpty)
  | .lst l => some (!l.isEmpty)
  | .dic l => some (!l.isEmpty)
  | .ref n => match h[n]? with
    | some (.lst l) => some (!l.isEmpty)
    | some (.dic l) => some (!l.isEmpty)
    | _ => none
  | _ => none
theorem emp_of {α β : Type} {l : List α} {k : List β} (h : l.length = k.length) : (!l.isEmpty) = !k.isEmpty := by
  cases l <;> cases k <;> simp at h ⊢
theorem tru_of {ex m : List Addr} {h : List Cell} {H : Hp} {d : D} {v : V} {b : Bool} (R : Rel K dd ex m H h) (r : Rv K dd ex m H d v) (e : dtru h d = some b) : TruV K v H b := by
  cases d with
  | non => cases r; cases e; rfl
  | bl b => cases r; cases e; rfl
  | int i => cases r; cases e; rfl
  | str l =>
    cases r
    unfold dtru at e
    simp only at e
    split at e
    · rename_i hl
      cases e
      exact tru_S hl
    · cases e
  | tup l =>
    cases e
    obtain ⟨p, vs, rfl, s, q⟩ := rv_tup r
    exact .inr (.inl ⟨vs, s, emp_of q.length⟩)
  | lst l =>
    cases e
    obtain ⟨p, vs, rfl, s, q⟩ := rv_list R r rfl
    exact .inl ⟨vs, SqL.of s, emp_of q.length⟩
  | dic l =>
    cases e
    cases r with
    | dic a b c e q =>
      refine .inr (.inr ⟨_, c, emp_of ?_⟩)
      have := congrArg List.length e
      simpa using this
  | ref n =>
    cases r with
    | ref hn =>
      unfold dtru at e
      simp only at e
      split at e
      · rename_i l hc
        cases e
        obtain ⟨vs, z, q⟩ := R.cs n _ _ hc hn
        exact .inl ⟨vs, SqL.of z, emp_of q.length⟩
      · rename_i l hc
        cases e
        obtain ⟨vs, z, e, q⟩ := R.cs n _ _ hc hn
        refine .inr (.inr ⟨_, z, emp_of ?_⟩)
        have := congrArg List.length e
        simpa using this
      · cases e
  | _ => cases e
def dTru (fe : DE) : DT := fun ρ h Q E => fe ρ h (fun d h1 => ∃ b, dtru h1 d = some b ∧ Q b h1) E
theorem ft_tru (hK : X.K = K) (ha : FE K dd E X a ta fa) (he : ∀ whole, isTrue a X.env whole = (do let v ← whole; standAt a.pos; holding [v] (truthy v)) := by intro _; rfl) : FT K dd E X a (tTruK K ta) (dTru fa) := by
  obtain ⟨p, e⟩ := ha
  refine ⟨kk_tru hK (pt_truth p he), fun R P hf G Q q => e R P hf G _ fun d h1 m1 H1 v R1 g1 r1 f1 => ?_⟩
  obtain ⟨b, hb, f1⟩ := f1
  exact ⟨b, tru_of R1 r1 hb, q _ _ _ _ _ R1 g1 rfl f1⟩
theorem fo_none : FO K dd E X none tNoPart dNoPart := ⟨po_none, fun R _ hf _ Q q => q _ _ _ _ _ R Grow.refl rfl hf⟩
theorem fo_some (ha : FE K dd E X a ta fa) : FO K dd E X (some a) (tPart ta) (dPart fa) := by
  obtain ⟨p, e⟩ := ha
  refine ⟨po_some p, fun R P hf G Q q => e R P hf G _ fun d h1 m1 H1 v R1 g1 r1 f1 => ?_⟩
  obtain ⟨i, rfl, f1⟩ := f1
  exact ⟨i, rv_of_int r1, q _ _ _ _ _ R1 g1 rfl f1⟩
def EvS (K : PySem.W.Frag) (dd : Hid) (r : V → Option Int → Option Int → Hp → VK → Prop) (g : D → Option Int → Option Int → List Cell → (D → List Cell → Prop) → Prop) : Prop :=
  ∀ {ex m : List Addr} {h : List Cell} {H : Hp} {x : D} {v : V} {lo hi : Option Int} {Qd : D → List Cell → Prop}, Rel K dd ex m H h → Rv K dd ex m H x v → g x lo hi h Qd → ∀ Q : VK, Comes K dd ex (Rv K dd ex) m H Qd Q → r v lo hi H Q
theorem fe_sl {r : V → Option Int → Option Int → Hp → VK → Prop} {g : D → Option Int → Option Int → List Cell → (D → List Cell → Prop) → Prop} {lo hi : Option Expr} {fl fu : DG (Option Int)} {p2 : Pos} {tl tu' : TO} (hr : SlR X r) (hg : EvS K dd r g)
    (ha : FE K dd E X a ta fa) (hl : FO K dd E X lo tl fl) (hu : FO K dd E X hi tu' fu) : FE K dd E X (.Subscript a (.Slice lo hi none p2) pos) (tSl r ta tl tu') (dSl g fa fl fu) := by
  obtain ⟨p, e⟩ := ha
  obtain ⟨pl, el⟩ := hl
  obtain ⟨pu, eu⟩ := hu
  refine ⟨pe_slice hr p pl pu, fun R P hf G Q q => e R P hf G _ fun x h1 m1 H1 v R1 g1 r1 f1 => el R1 (P.grow g1) f1 (G.later R1 g1) _ fun l h2 m2 H2 l' R2 g2 r2 f2 =>
    eu R2 ((P.grow g1).grow g2) f2 ((G.later R1 g1).later R2 g2) _ fun u h3 m3 H3 u' R3 g3 r3 f3 => ?_⟩
  subst r2; subst r3
  exact hg R3 ((r1.grow g2).grow g3) f3 Q (((q.later R1 g1).later R2 g2).later R3 g3)
theorem fe_ix {r : R2} (hr : IxR X r) (hg : EvR K dd r g) (ha : FE K dd E X a ta fa) (hb : FE K dd E X b tb fb) (hs : PlainIx b := by exact fun _ _ => rfl) : FE K dd E X (.Subscript a b pos) (tOp r ta tb) (dOp g fa fb) := by
  obtain ⟨pa, ea⟩ := ha
  obtain ⟨pb, eb⟩ := hb
  refine ⟨pe_ix hr pa pb hs, fun R P hf G Q q => ?_⟩
  refine ea R P hf G _ fun x h1 m1 H1 v R1 g1 r1 f1 => eb R1 (P.grow g1) f1 (G.later R1 g1) _ fun y h2 m2 H2 w R2 g2 r2 f2 => ?_
  exact hg R2 (r1.grow g2) r2 f2 Q ((q.later R1 g1).later R2 g2)
theorem ev_CB {r : List V → Hp → VK → Prop} {gc : List D → List Cell → (D → List Cell → Prop) → Prop} {ts : TA} (hg : EvC K dd r gc) (es : EvA K dd E ts fs) : EvE K dd E (tCB r ts) (dCall gc fs) := fun R P hf G Q q =>
  es R P hf G _ fun xs h1 m1 H1 vs R1 g1 r1 f1 => hg R1 r1 f1 Q (q.later R1 g1)
theorem fe_callB {x : Str} {id : String} {p : Pos} {r : List V → Hp → VK → Prop} {gc : List D → List Cell → (D → List Cell → Prop) → Prop} (hc : CallR X (.builtin id) r) (hG : EvC K dd r gc) (hg : Gl X x) (hm : X.mg x = none) (hv : bootBuiltins x = some (.builtin id)) (ha : FA K dd E X (a :: es) ts fs)
    (hn : x ≠ "__name__" := by decide) (hdb : (x == ("__debug__" : Str)) = false := by decide) (he : starEach (a :: es) X.env = (false, eval a X.env) :: starEach es X.env := by rfl) (hpl : (backTo pos (starEach es X.env)).any (·.1) = false := by rfl) : FE K dd E X (.Call (.Name x p) (a :: es) [] pos) (tCB r ts) (dCall gc fs) := by
  obtain ⟨pa, ea⟩ := ha
  exact ⟨pe_callB hc hg hm hv pa hn hdb he hpl, ev_CB hG ea⟩
theorem fe_callTy {x : Str} {T : String} {p : Pos} {r : List V → Hp → VK → Prop} {gc : List D → List Cell → (D → List Cell → Prop) → Prop} (hc : CallR X (.type T) r) (hG : EvC K dd r gc) (hg : Gl X x) (hm : X.mg x = none) (hv : bootBuiltins x = some (.type T)) (ha : FA K dd E X (a :: es) ts fs)
    (hn : x ≠ "__name__" := by decide) (hdb : (x == ("__debug__" : Str)) = false := by decide) (he : starEach (a :: es) X.env = (false, eval a X.env) :: starEach es X.env := by rfl) (hpl : (backTo pos (starEach es X.env)).any (·.1) = false := by rfl) : FE K dd E X (.Call (.Name x p) (a :: es) [] pos) (tCB r ts) (dCall gc fs) := by
  obtain ⟨pa, ea⟩ := ha
  exact ⟨pe_callTy hc hg hm hv pa hn hdb he hpl, ev_CB hG ea⟩
end
end DL

end

section
set_option maxHeartbeats 1000000
/-! F3: operations over plain data. -/
namespace DL
open PySem PySem.Spec PyProof.Rows L2 KG

/-! ### data that == and repr look at -/
mutual
def pyD : D → Option PyData
  | .non => some .none
  | .bl b => some (.bool b)
  | .int i => some (.int i)
  | .str l => some (.str ⟨l.toArray⟩)
  | .tup l => (pyDs l).map .tuple
  | .lst l => (pyDs l).map .list
  | _ => none
def pyDs : List D → Option (List PyData)
  | [] => some []
  | d :: ds => match pyD d, pyDs ds with
    | some x, some xs => some (x :: xs)
    | _, _ => none
end
def pyC (h : List Cell) : D → Option PyData
  | .ref n => match h[n]? with
    | some (.lst l) => (pyDs l).map .list
    | _ => none
  | d => pyD d
section
variable {K : PySem.W.Frag} {dd : Hid} {ex m : List Addr} {H : Hp} {h : List Cell} {X : Cx}
mutual
theorem dp_of : ∀ {d : D} {v : V} {e : PyData}, Rv K dd ex m H d v → pyD d = some e → Dp K H v e
  | .non, _, _, .non, h => by cases h; exact .non
  | .bl b, _, _, .bl _, h => by cases h; exact .bl _
  | .int i, _, _, .int _, h => by cases h; exact .int _
  | .str l, _, _, .str _, h => by cases h; exact .str _
  | .tup l, _, _, r, h => by
    rw [pyD] at h
    cases q : pyDs l with
    | none => rw [q] at h; cases h
    | some es =>
      rw [q] at h
      cases h
      cases r with
      | tup a b c r => exact .tup (.inl c) (dps_of r q)
      | ktup k r => exact .tup (.inr k) (dps_of r q)
  | .lst l, _, _, r, h => by
    rw [pyD] at h
    cases q : pyDs l with
    | none => rw [q] at h; cases h
    | some es =>
      rw [q] at h
      cases h
      cases r with
      | lst a b c r => exact .lst (SqL.of c) (dps_of r q)
theorem dps_of : ∀ {ds : List D} {vs : List V} {es : List PyData}, Rvs K dd ex m H ds vs → pyDs ds = some es → DpAll K H vs es
  | [], _, _, .nil, h => by cases h; exact .nil
  | d :: ds, _, _, .cons r rs, h => by
    rw [pyDs] at h
    cases q1 : pyD d with
    | none => rw [q1] at h; cases h
    | some x =>
      cases q2 : pyDs ds with
      | none => rw [q1, q2] at h; cases h
      | some xs =>
        rw [q1, q2] at h
        cases h
        exact .cons (dp_of r q1) (dps_of rs q2)
end
theorem dpc_of {d : D} {v : V} {e : PyData} (R : Rel K dd ex m H h) (r : Rv K dd ex m H d v) (q : pyC h d = some e) : Dp K H v e := by
  cases d with
  | ref n =>
    unfold pyC at q
    simp only at q
    split at q
    · rename_i l hc
      cases hq : pyDs l with
      | none => rw [hq] at q; cases q
      | some es =>
        rw [hq] at q
        cases q
        cases r with
        | ref hn =>
          obtain ⟨vs, z, rs⟩ := R.cs n _ _ hc hn
          exact .lst (SqL.of z) (dps_of rs hq)
    · cases q
  | _ => exact dp_of r q
/-! ### + - * // % -/
abbrev G2 := D → D → List Cell → (D → List Cell → Prop) → Prop
abbrev GC := List D → List Cell → (D → List Cell → Prop) → Prop
def gAdd : G2 := fun x y h Q => match x, y with
  | .int i, .int j => Q (.int (i + j)) h
  | .str a, .str b => a.length + b.length ≤ 1000000 ∧ Q (.str (a ++ b)) h
  | .tup a, .tup b => a.length + b.length ≤ 1000000 ∧ Q (.tup (a ++ b)) h
  | x, y => ∃ a b, asL h x = some a ∧ asL h y = some b ∧ a.length + b.length ≤ 1000000 ∧ Q (.lst (a ++ b)) h
theorem er_add : EvR K dd (kAdd K) gAdd := by
  intro ex m h H x y v w Qd R rx ry f Q q
  unfold gAdd at f
  split at f
  · cases rx; cases ry
    exact q.now R (.int _) f
  · cases rx; cases ry
    exact kAdd_s.mpr ⟨f.1, q.now R (.str _) f.2⟩
  · rename_i a b
    obtain ⟨p, vs, rfl, s1, r1⟩ := rv_tup rx
    obtain ⟨p2, vs2, rfl, s2, r2⟩ := rv_tup ry
    have l1 := r1.length
    have l2 := r2.length
    refine .inr ⟨p, p2, vs, vs2, rfl, rfl, s1, s2, line_of (by rw [← l1, ← l2]; exact f.1), fun e => ?_, fun _ e => ?_, fun _ _ a ha => ?_⟩
    · subst e
      have : a = [] := List.length_eq_zero_iff.mp (by simpa using l1)
      subst this
      exact q.now R ry f.2
    · subst e
      have : b = [] := List.length_eq_zero_iff.mp (by simpa using l2)
      subst this
      exact q.now R rx (by rw [List.append_nil] at f; exact f.2)
    · exact q.new R f.2 ha fun a b c g => .tup a b (.inl c) ((r1.grow g).append (r2.grow g))
  · obtain ⟨a, b, e1, e2, hz, f⟩ := f
    obtain ⟨p, vs, rfl, s1, r1⟩ := rv_list R rx e1
    obtain ⟨p2, vs2, rfl, s2, r2⟩ := rv_list R ry e2
    refine .inl ⟨p, p2, vs, vs2, rfl, rfl, s1, s2, line_of (by rw [← r1.length, ← r2.length]; exact hz), fun a ha => ?_⟩
    exact q.new R f ha fun a b c g => .lst a b c ((r1.grow g).append (r2.grow g))
def gInt (C : Int → Int → Prop) (k : Int → Int → D) : G2 := fun x y h Q => match x, y with
  | .int i, .int j => C i j ∧ Q (k i j) h
  | _, _ => False
def gInt0 (k : Int → Int → D) : G2 := fun x y h Q => match x, y with
  | .int i, .int j => Q (k i j) h
  | _, _ => False
theorem er_int {C : Int → Int → Prop} {k : Int → Int → D} {k' : Int → Int → V} (hk : ∀ ex m H i j, Rv K dd ex m H (k i j) (k' i j)) : EvR K dd (kInt C k') (gInt C k) := by
  intro ex m h H x y v w Qd R rx ry f Q q
  unfold gInt at f
  split at f
  · cases rx; cases ry
    exact kInt_i.mpr ⟨f.1, q.now R (hk _ _ _ _ _) f.2⟩
  · exact f.elim
theorem er_int0 {k : Int → Int → D} {k' : Int → Int → V} (hk : ∀ ex m H i j, Rv K dd ex m H (k i j) (k' i j)) : EvR K dd (kInt0 k') (gInt0 k) := by
  intro ex m h H x y v w Qd R rx ry f Q q
  unfold gInt0 at f
  split at f
  · cases rx; cases ry
    exact kInt0_i.mpr (q.now R (hk _ _ _ _ _) f)
  · exact f.elim
def gSub : G2 := gInt0 fun i j => .int (i - j)
def gFdiv : G2 := gInt CDivW fun i j => .int (i / j)
def gMod : G2 := gInt (fun _ j => 0 < j) fun i j => .int (i % j)
def gPow : G2 := gInt CPow fun i j => .int (i ^ j.toNat)
theorem er_sub : EvR K dd (kInt0 fun i j => .int (i - j)) gSub := er_int0 fun _ _ _ _ _ => .int _
theorem er_fdiv : EvR K dd (kInt CDivW fun i j => .int (i / j)) gFdiv := er_int fun _ _ _ _ _ => .int _
theorem er_mod : EvR K dd (kInt (fun _ j => 0 < j) fun i j => .int (i % j)) gMod := er_int fun _ _ _ _ _ => .int _
theorem er_pow : EvR K dd (kInt CPow fun i j => .int (i ^ j.toNat)) gPow := er_int fun _ _ _ _ _ => .int _
def gMul : G2 := fun x y h Q => match x, y with
  | .int i, .int j => (CMulW i j ∨ CMul i j) ∧ Q (.int (i * j)) h
  | .str l, .int k => 2 ≤ k ∧ k ≤ 1000 ∧ 1 ≤ l.length ∧ l.length ≤ 1000 ∧ Q (.str (List.replicate k.toNat l).flatten) h
  | .lst l, .int k => 0 ≤ k ∧ k ≤ 1000 ∧ l.length ≤ 1000 ∧ Q (.lst (List.replicate k.toNat l).flatten) h
  | .tup l, .int k => l ≠ [] ∧ 2 ≤ k ∧ k ≤ 1000 ∧ l.length ≤ 1000 ∧ Q (.tup (List.replicate k.toNat l).flatten) h
  | _, _ => False
theorem rvs_rep {ds : List D} {vs : List V} (r : Rvs K dd ex m H ds vs) : ∀ n : Nat, Rvs K dd ex m H (List.replicate n ds).flatten (List.replicate n vs).flatten
  | 0 => .nil
  | n + 1 => by
    rw [List.replicate_succ, List.replicate_succ, List.flatten_cons, List.flatten_cons]
    exact r.append (rvs_rep r n)
theorem er_mul : EvR K dd (kMul K) gMul := by
  intro ex m h H x y v w Qd R rx ry f Q q
  unfold gMul at f
  split at f
  · cases rx; cases ry
    exact kMul_i.mpr ⟨f.1, q.now R (.int _) f.2⟩
  · cases rx; cases ry
    exact kMul_s.mpr ⟨f.1, f.2.1, f.2.2.1, f.2.2.2.1, q.now R (.str _) f.2.2.2.2⟩
  · rename_i l k
    obtain ⟨p, vs, rfl, s1, r1⟩ := rv_list R rx rfl
    cases ry
    obtain ⟨k0, k1, hl, f⟩ := f
    have hm : vs.length * k.toNat ≤ 1000 * 1000 := Nat.mul_le_mul (by rw [← r1.length]; exact hl) (by omega)
    refine .inl ⟨p, k, vs, rfl, rfl, s1, by omega, by omega, line_of hm, fun a ha => ?_⟩
    exact q.new R f ha fun a b c g => .lst a b c (rvs_rep (r1.grow g) _)
  · rename_i l k
    obtain ⟨p, vs, rfl, s1, r1⟩ := rv_tup rx
    cases ry
    obtain ⟨ne, k0, k1, hl, f⟩ := f
    refine .inr ⟨p, k, vs, rfl, rfl, s1, fun e => ?_, k0, k1, by rw [← r1.length]; exact hl, fun a ha => ?_⟩
    · subst e
      exact ne (List.length_eq_zero_iff.mp (by simpa using r1.length))
    · exact q.new R f ha fun a b c g => .tup a b (.inl c) (rvs_rep (r1.grow g) _)
  · exact f.elim
/-! ### comparisons -/
def isO : D → Bool
  | .tup _ => true
  | .lst _ => true
  | .ref _ => true
  | _ => false
def gEqv (k : Bool → Bool) : G2 := fun x y h Q => match x, y with
  | .int i, .int j => Q (.bl (k (decide (i = j)))) h
  | .str a, .str b => Q (.bl (k (decide (a = b)))) h
  | .bl a, .bl b => Q (.bl (k (decide (a = b)))) h
  | .non, .str _ => Q (.bl (k false)) h
  | .str _, .non => Q (.bl (k false)) h
  | .int _, .non => Q (.bl (k false)) h
  | .non, .int _ => Q (.bl (k false)) h
  | .int _, .str _ => Q (.bl (k false)) h
  | .str _, .int _ => Q (.bl (k false)) h
  | .non, .non => Q (.bl (k true)) h
  | x, y => (isO x || isO y) = true ∧ ∃ a b, pyC h x = some a ∧ pyC h y = some b ∧ SeqAt.shaped a = true ∧ SeqAt.shaped b = true ∧ Q (.bl (k (PyData.eqv a b))) h
def gEq : G2 := gEqv id
def gNe : G2 := gEqv not
theorem isO_ref {d : D} {v : V} (R : Rel K dd ex m H h) (r : Rv K dd ex m H d v) (e : isO d = true) : ∃ p, v = .ref p := by
  cases r <;> first | exact ⟨_, rfl⟩ | cases e
theorem scal_r {x y : V} (h : (∃ p, x = .ref p) ∨ ∃ p, y = .ref p) : scal x y = false := by
  rcases h with ⟨p, rfl⟩ | ⟨p, rfl⟩
  · cases y <;> rfl
  · cases x <;> rfl
theorem er_eq : EvR K dd (kEq K) gEq := by
  intro ex m h H x y v w Qd R rx ry f Q q
  unfold gEq gEqv at f
  split at f
  · cases rx; cases ry; exact kEq_i.mpr (q.now R (.bl _) f)
  · cases rx; cases ry; exact kEq_s.mpr (q.now R (.bl _) f)
  · cases rx; cases ry; exact kEq_b.mpr (q.now R (.bl _) f)
  all_goals try (cases rx; cases ry; unfold kEq; rw [if_pos (by rfl)]; refine q.now R (.bl _) ?_; first | exact f | (rw [decide_eq_false (by intro z; cases z)]; exact f) | (rw [decide_eq_true rfl]; exact f))
  obtain ⟨o, a, b, e1, e2, s1, s2, f⟩ := f
  unfold kEq
  rw [if_neg]
  · exact ⟨a, b, dpc_of R rx e1, dpc_of R ry e2, s1, s2, q.now R (.bl _) f⟩
  · rw [scal_r]
    · exact Bool.false_ne_true
    · rcases Bool.or_eq_true_iff.mp o with o | o
      · exact .inl (isO_ref R rx o)
      · exact .inr (isO_ref R ry o)
theorem er_ne : EvR K dd (kNe K) gNe := by
  intro ex m h H x y v w Qd R rx ry f Q q
  unfold gNe gEqv at f
  split at f
  · cases rx; cases ry; exact kNe_i.mpr (q.now R (.bl _) f)
  · cases rx; cases ry; exact kNe_s.mpr (q.now R (.bl _) f)
  · cases rx; cases ry; exact kNe_b.mpr (q.now R (.bl _) f)
  all_goals try (cases rx; cases ry; unfold kNe; rw [if_pos (by rfl)]; refine q.now R (.bl _) ?_; first | exact f | (rw [decide_eq_false (by intro z; cases z)]; exact f) | (rw [decide_eq_true rfl]; exact f))
  obtain ⟨o, a, b, e1, e2, s1, s2, f⟩ := f
  unfold kNe
  rw [if_neg]
  · exact ⟨a, b, dpc_of R rx e1, dpc_of R ry e2, s1, s2, q.now R (.bl _) f⟩
  · rw [scal_r]
    · exact Bool.false_ne_true
    · rcases Bool.or_eq_true_iff.mp o with o | o
      · exact .inl (isO_ref R rx o)
      · exact .inr (isO_ref R ry o)
/-! ### in -/
def gInv (k : Bool → Bool) : G2 := fun x y h Q => match x, y with
  | .str c, .str l => ∃ a, c = [a] ∧ Q (.bl (k (decide (a ∈ l)))) h
  | x, y => ∃ a ds es, pyC h x = some a ∧ ((∃ l, asL h y = some l ∧ pyDs l = some es) ) ∧ ds = es ∧ SeqAt.shaped a = true ∧ SeqAt.shaped (.list es) = true ∧ Q (.bl (k (es.any fun z => PyData.eqv z a))) h
def gIn : G2 := gInv id
def gNotIn : G2 := gInv not
theorem dpl_of {d : D} {v : V} {l : List D} {es : List PyData} (R : Rel K dd ex m H h) (r : Rv K dd ex m H d v) (e : asL h d = some l) (q : pyDs l = some es) : ∃ p, v = .ref p ∧ Dp K H (.ref p) (.list es) := by
  obtain ⟨p, vs, rfl, s, rs⟩ := rv_list R r e
  exact ⟨p, rfl, .lst (SqL.of s) (dps_of rs q)⟩
theorem er_in : EvR K dd (kIn K) gIn := by
  intro ex m h H x y v w Qd R rx ry f Q q
  unfold gIn gInv at f
  split at f
  · cases rx; cases ry
    obtain ⟨a, rfl, f⟩ := f
    exact kIn_s.mpr (q.now R (.bl _) f)
  · obtain ⟨a, ds, es, e1, ⟨l, el, e2⟩, rfl, s1, s2, f⟩ := f
    obtain ⟨p, rfl, dq⟩ := dpl_of R ry el e2
    exact .inr ⟨a, ds, dpc_of R rx e1, dq, s1, s2, q.now R (.bl _) f⟩
theorem er_notin : EvR K dd (kNotIn K) gNotIn := by
  intro ex m h H x y v w Qd R rx ry f Q q
  unfold gNotIn gInv at f
  split at f
  · cases rx; cases ry
    obtain ⟨a, rfl, f⟩ := f
    exact kNotIn_s.mpr (q.now R (.bl _) f)
  · obtain ⟨a, ds, es, e1, ⟨l, el, e2⟩, rfl, s1, s2, f⟩ := f
    obtain ⟨p, rfl, dq⟩ := dpl_of R ry el e2
    exact .inr ⟨a, ds, dpc_of R rx e1, dq, s1, s2, q.now R (.bl _) f⟩
/-! ### is -/
def isNon : D → Bool
  | .non => true
  | _ => false
def gIsv (k : Bool → Bool) : G2 := fun x y h Q => match x, y with
  | x, .non => Q (.bl (k (isNon x))) h
  | .bl a, .bl b => Q (.bl (k (decide (a = b)))) h
  | _, _ => False
def gIs : G2 := gIsv id
def gIsNot : G2 := gIsv not
theorem er_is : EvR K dd kIsN gIs := by
  intro ex m h H x y v w Qd R rx ry f Q q
  unfold gIs gIsv at f
  split at f
  · cases ry
    refine q.now R (.bl _) ?_
    cases rx <;> exact f
  · cases rx; cases ry
    exact q.now R (.bl _) f
  · exact f.elim
theorem er_isnot : EvR K dd kNotN gIsNot := by
  intro ex m h H x y v w Qd R rx ry f Q q
  unfold gIsNot gIsv at f
  split at f
  · cases ry
    refine q.now R (.bl _) ?_
    cases rx <;> exact f
  · cases rx; cases ry
    exact q.now R (.bl _) f
  · exact f.elim
/-! ### parts -/
def atD {α : Type} (l : List α) (i : Int) : Option α := atI l i
def gIx : G2 := fun x y h Q => match x, y with
  | .str l, .int i => l.length ≤ 1000000 ∧ ∃ c, atD l i = some c ∧ Q (.str [c]) h
  | x, .int i => ∃ l d, asS h x = some l ∧ atD l i = some d ∧ Q d h
  | _, _ => False
theorem at_rel {l : List D} {vs : List V} {i : Int} {d : D} (r : Rvs K dd ex m H l vs) (e : atD l i = some d) : ∃ v, atI vs i = some v ∧ Rv K dd ex m H d v := by
  unfold atD atI at e
  unfold atI
  rw [← r.length]
  cases q : ixN l.length i with
  | none => rw [q] at e; cases e
  | some j => rw [q] at e; exact r.get e
theorem er_ix : EvR K dd (kIx K) gIx := by
  intro ex m h H x y v w Qd R rx ry f Q q
  unfold gIx at f
  split at f
  · cases rx; cases ry
    obtain ⟨hl, c, hc, f⟩ := f
    exact kIx_s.mpr ⟨hl, c, hc, q.now R (.str _) f⟩
  · obtain ⟨l, d, e1, e2, f⟩ := f
    obtain ⟨p, vs, rfl, s, r⟩ := rv_seq R rx e1
    cases ry
    obtain ⟨v, ev, rv⟩ := at_rel r e2
    exact ⟨vs, v, s, ev, q.now R rv f⟩
  · exact f.elim
def cutD {α : Type} (l : List α) (lo hi : Option Int) : List α := (l.drop (HT.sIx l.length 0 lo)).take (HT.sIx l.length l.length hi - HT.sIx l.length 0 lo)
def gSl : D → Option Int → Option Int → List Cell → (D → List Cell → Prop) → Prop := fun x lo hi h Q => match x with
  | .str l => l.length ≤ 1000000 ∧ Q (.str (cutD l lo hi)) h
  | .tup l => Q (.tup (cutD l lo hi)) h
  | x => ∃ l, asL h x = some l ∧ Q (.lst (cutD l lo hi)) h
theorem cut_rel {l : List D} {vs : List V} {lo hi : Option Int} (r : Rvs K dd ex m H l vs) : Rvs K dd ex m H (cutD l lo hi) (cutV vs lo hi) := by
  unfold cutD cutV
  rw [← r.length]
  exact (r.drop _).take _
theorem es_sl : EvS K dd (kSl K) gSl := by
  intro ex m h H x v lo hi Qd R rx f Q q
  unfold gSl at f
  split at f
  · cases rx
    exact kSl_s.mpr ⟨f.1, q.now R (.str _) f.2⟩
  · rename_i l
    obtain ⟨p, vs, rfl, s, r⟩ := rv_tup rx
    refine .inl ⟨p, vs, rfl, s, fun hw => ?_, fun hw a ha => ?_⟩
    · refine q.now R ?_ f
      have e : cutD l lo hi = l := by
        unfold cutD
        have := r.length
        rw [this, hw.1, hw.2, List.drop_zero, Nat.sub_zero, ← this, List.take_length]
      rw [e]
      exact rx
    · exact q.new R f ha fun a b c g => .tup a b (.inl c) (cut_rel (r.grow g))
  · obtain ⟨l, e, f⟩ := f
    obtain ⟨p, vs, rfl, s, r⟩ := rv_list R rx e
    exact .inr ⟨p, vs, rfl, SqL.of s, fun a ha => q.new R f ha fun a b c g => .lst a b c (cut_rel (r.grow g))⟩
/-! ### built-ins -/
def gLen : GC := fun xs h Q => match xs with
  | [.str l] => l.length ≤ 1000000 ∧ Q (.int l.length) h
  | [.dic l] => Q (.int l.length) h
  | [.scr l] => Q (.int l.length) h
  | [x] => ∃ l, asS h x = some l ∧ Q (.int l.length) h
  | _ => False
theorem rvs1 {d : D} {vs : List V} (r : Rvs K dd ex m H [d] vs) : ∃ v, vs = [v] ∧ Rv K dd ex m H d v := by
  cases r with
  | cons r t => cases t; exact ⟨_, rfl, r⟩
theorem rvs2 {d e : D} {vs : List V} (r : Rvs K dd ex m H [d, e] vs) : ∃ v w, vs = [v, w] ∧ Rv K dd ex m H d v ∧ Rv K dd ex m H e w := by
  cases r with
  | cons r t =>
    obtain ⟨w, rfl, q⟩ := rvs1 t
    exact ⟨_, w, rfl, r, q⟩
theorem ec_len : EvC K dd (kLen K) gLen := by
  intro ex m h H xs vs Qd R rs f Q q
  unfold gLen at f
  split at f
  · obtain ⟨v, rfl, r⟩ := rvs1 rs
    cases r
    exact kLen_s.mpr ⟨f.1, q.now R (.int _) f.2⟩
  · obtain ⟨v, rfl, r⟩ := rvs1 rs
    cases r with
    | dic a b c e r =>
      refine .inr ⟨_, c, ?_⟩
      have := congrArg List.length e
      simp only [List.length_map] at this
      rw [← this]
      exact q.now R (.int _) f
  · obtain ⟨v, rfl, r⟩ := rvs1 rs
    cases r with
    | scr c =>
      refine .inl ⟨_, .inl (c.elim (fun k => .inr k) fun z => .inl z.2.2), ?_⟩
      rw [List.length_map]
      exact q.now R (.int _) f
  · obtain ⟨v, rfl, r⟩ := rvs1 rs
    obtain ⟨l, e, f⟩ := f
    obtain ⟨p, vs, rfl, s, rr⟩ := rv_seq R r e
    refine .inl ⟨vs, s, ?_⟩
    rw [← rr.length]
    exact q.now R (.int _) f
  · exact f.elim
def kindD (h : List Cell) : D → Option String
  | .non => some "NoneType"
  | .bl _ => some "bool"
  | .int _ => some "int"
  | .str _ => some "str"
  | .lst _ => some "list"
  | .dic _ => some "dict"
  | .ref n => match h[n]? with
    | some (.lst _) => some "list"
    | some (.dic _) => some "dict"
    | _ => none
  | _ => none
/-- isinstance by a built-in class -/
def gIsi : GC := fun xs h Q => match xs with
  | [.tup l, .ty n] => ∃ b, kitB "tuple" n = some b ∧ Q (.bl b) h
  | [x, .ty n] => ∃ k b, kindD h x = some k ∧ kitB k n = some b ∧ Q (.bl b) h
  | _ => False
theorem kind_of {d : D} {v : V} {k : String} (R : Rel K dd ex m H h) (r : Rv K dd ex m H d v) (e : kindD h d = some k) : kindV K v H = some k := by
  cases d with
  | non => cases r; exact e
  | bl b => cases r; exact e
  | int b => cases r; exact e
  | str b => cases r; exact e
  | lst l =>
    cases r with
    | lst a b c r => cases e; exact (by show (match H _ with | some (.lst _) => some "list" | some (.tup _) => some "tuple" | some (.dK _) => some "dict" | _ => none) = _; rw [c])
  | dic l =>
    cases r with
    | dic a b c _ r => cases e; exact (by show (match H _ with | some (.lst _) => some "list" | some (.tup _) => some "tuple" | some (.dK _) => some "dict" | _ => none) = _; rw [c])
  | ref n =>
    cases r with
    | ref hn =>
      unfold kindD at e
      simp only at e
      split at e
      · rename_i l hc
        cases e
        obtain ⟨vs, z, _⟩ := R.cs n _ _ hc hn
        show (match H _ with | some (.lst _) => some "list" | some (.tup _) => some "tuple" | some (.dK _) => some "dict" | _ => none) = _
        rw [z]
      · rename_i l hc
        cases e
        obtain ⟨vs, z, _⟩ := R.cs n _ _ hc hn
        show (match H _ with | some (.lst _) => some "list" | some (.tup _) => some "tuple" | some (.dK _) => some "dict" | _ => none) = _
        rw [z]
      · cases e
  | _ => cases e
def gAbs : GC := fun xs h Q => match xs with
  | [.int i] => Q (.int (if i < 0 then -i else i)) h
  | _ => False
theorem ec_abs : EvC K dd kAbs gAbs := by
  intro ex m h H xs vs Qd R rs f Q q
  unfold gAbs at f
  split at f
  · obtain ⟨v, rfl, r⟩ := rvs1 rs; cases r; exact kAbs_i.mpr (q.now R (.int _) f)
  · exact f.elim
def gMax : GC := fun xs h Q => match xs with
  | [.int i, .int j] => Q (.int (if j > i then j else i)) h
  | _ => False
theorem ec_max : EvC K dd kMax gMax := by
  intro ex m h H xs vs Qd R rs f Q q
  unfold gMax at f
  split at f
  · obtain ⟨v, w, rfl, r, r2⟩ := rvs2 rs; cases r; cases r2; exact kMax_i.mpr (q.now R (.int _) f)
  · exact f.elim
def gMin : GC := fun xs h Q => match xs with
  | [.int i, .int j] => Q (.int (if j < i then j else i)) h
  | _ => False
theorem ec_min : EvC K dd kMin gMin := by
  intro ex m h H xs vs Qd R rs f Q q
  unfold gMin at f
  split at f
  · obtain ⟨v, w, rfl, r, r2⟩ := rvs2 rs; cases r; cases r2; exact kMin_i.mpr (q.now R (.int _) f)
  · exact f.elim
def gIntOf : GC := fun xs h Q => match xs with
  | [.int i] => Q (.int i) h
  | [.bl b] => Q (.int (if b then 1 else 0)) h
  | _ => False
theorem ec_int : EvC K dd kIntOf gIntOf := by
  intro ex m h H xs vs Qd R rs f Q q
  unfold gIntOf at f
  split at f
  · obtain ⟨v, rfl, r⟩ := rvs1 rs; cases r; exact kIntOf_i.mpr (q.now R (.int _) f)
  · obtain ⟨v, rfl, r⟩ := rvs1 rs; cases r; exact kIntOf_b.mpr (q.now R (.int _) f)
  · exact f.elim
def gTupOf : GC := fun xs h Q => match xs with
  | [x] => ∃ l, asS h x = some l ∧ Q (.tup l) h
  | _ => False
theorem ec_tupOf : EvC K dd (kTupOf K) gTupOf := by
  intro ex m h H xs vs Qd R rs f Q q
  unfold gTupOf at f
  split at f
  · rename_i x
    obtain ⟨v, rfl, r⟩ := rvs1 rs
    obtain ⟨l, e, f⟩ := f
    cases x with
    | tup l' =>
      cases e
      obtain ⟨p, vs, rfl, s, rr⟩ := rv_tup r
      exact ⟨p, vs, rfl, .inr ⟨s, q.now R r f⟩⟩
    | _ =>
      obtain ⟨p, vs, rfl, s, rr⟩ := rv_list R r e
      exact ⟨p, vs, rfl, .inl ⟨SqL.of s, fun a ha => q.new R f ha fun a b c g => .tup a b (.inl c) (rr.grow g)⟩⟩
  · exact f.elim
def gListOf : GC := fun xs h Q => match xs with
  | [x] => ∃ l, asS h x = some l ∧ Q (.lst l) h
  | _ => False
theorem ec_listOf : EvC K dd (kListOf K) gListOf := by
  intro ex m h H xs vs Qd R rs f Q q
  unfold gListOf at f
  split at f
  · obtain ⟨v, rfl, r⟩ := rvs1 rs
    obtain ⟨l, e, f⟩ := f
    obtain ⟨p, vs, rfl, s, rr⟩ := rv_seq R r e
    exact ⟨p, vs, rfl, s, fun a ha => q.new R f ha fun a b c g => .lst a b c (rr.grow g)⟩
  · exact f.elim
def blD : D → Option Bool
  | .bl b => some b
  | _ => none
def blsD : List D → Option (List Bool)
  | [] => some []
  | .bl b :: l => (blsD l).map (b :: ·)
  | _ :: _ => none
theorem bls_of : ∀ {l : List D} {vs : List V} {bs : List Bool}, Rvs K dd ex m H l vs → blsD l = some bs → vs = bs.map V.bl
  | [], _, _, .nil, h => by cases h; rfl
  | d :: l, _, _, .cons r rs, h => by
    cases r with
    | bl b =>
      unfold blsD at h
      cases q : blsD l with
      | none => rw [q] at h; cases h
      | some bs => rw [q] at h; cases h; rw [bls_of rs q]; rfl
    | _ => cases h
def gAny : GC := fun xs h Q => match xs with
  | [x] => ∃ l bs, asL h x = some l ∧ blsD l = some bs ∧ Q (.bl (bs.any id)) h
  | _ => False
def gAll : GC := fun xs h Q => match xs with
  | [x] => ∃ l bs, asL h x = some l ∧ blsD l = some bs ∧ Q (.bl (bs.all id)) h
  | _ => False
theorem ec_any : EvC K dd (kAny K) gAny := by
  intro ex m h H xs vs Qd R rs f Q q
  unfold gAny at f
  split at f
  · obtain ⟨v, rfl, r⟩ := rvs1 rs
    obtain ⟨l, bs, e, eb, f⟩ := f
    obtain ⟨p, vs, rfl, s, rr⟩ := rv_list R r e
    exact anyRun (by rw [bls_of rr eb] at s; exact SqL.of s) (q.now R (.bl _) f)
  · exact f.elim
theorem ec_all : EvC K dd (kAll K) gAll := by
  intro ex m h H xs vs Qd R rs f Q q
  unfold gAll at f
  split at f
  · obtain ⟨v, rfl, r⟩ := rvs1 rs
    obtain ⟨l, bs, e, eb, f⟩ := f
    obtain ⟨p, vs, rfl, s, rr⟩ := rv_list R r e
    exact allRun (by rw [bls_of rr eb] at s; exact SqL.of s) (q.now R (.bl _) f)
  · exact f.elim
end
end DL

end

section
set_option maxHeartbeats 1000000
/-! F4: more built-ins; statements over plain data. -/
namespace DL
open PySem PySem.Spec PyProof.Rows L2 KG
section
variable {K : PySem.W.Frag} {dd : Hid} {ex m : List Addr} {H : Hp} {h : List Cell} {X : Cx}
theorem ty_of {d : D} {v : V} {k : String} (R : Rel K dd ex m H h) (r : Rv K dd ex m H d v) (e : kindD h d = some k) : TyX K H v (.type k) := kind_ty (kind_of R r e)
theorem ty_tup {l : List D} {v : V} (r : Rv K dd ex m H (.tup l) v) : TyX K H v (.type "tuple") := by
  cases r with
  | tup a b c r =>
    rcases c with c | ⟨o, c⟩
    · exact .base (.tup c)
    · exact .fTuple c
  | ktup k r =>
    obtain ⟨o, its, n, e, hc, _⟩ := k
    exact .kTuple e hc
theorem kk_isiR {X : Cx} (h : X.K = K) : CallR X (.builtin "isinstance") (rIsi K) := h ▸ call_isi
theorem ec_isi : EvC K dd (rIsi K) gIsi := by
  intro ex m h H xs vs Qd R rs f Q q
  unfold gIsi at f
  split at f
  · obtain ⟨v, w, rfl, r, r2⟩ := rvs2 rs
    obtain ⟨b, hb, f⟩ := f
    cases r2
    exact ⟨v, _, _, _, b, rfl, .ty _, ty_tup r, kit_ty hb, q.now R (.bl _) f⟩
  · obtain ⟨v, w, rfl, r, r2⟩ := rvs2 rs
    obtain ⟨k, b, hk, hb, f⟩ := f
    cases r2
    exact ⟨v, _, _, _, b, rfl, .ty _, ty_of R r hk, kit_ty hb, q.now R (.bl _) f⟩
  · exact f.elim
/-- repr -/
def gRepr : GC := fun xs h Q => match xs with
  | [x] => ∃ d, pyC h x = some d ∧ d.showable = true ∧ d.depth < 64 ∧ d.shown.length ≤ sizeLine ∧ Q (.str d.shown.cps.toList) h
  | _ => False
theorem ec_repr : EvC K dd (rRepr K) gRepr := by
  intro ex m h H xs vs Qd R rs f Q q
  unfold gRepr at f
  split at f
  · obtain ⟨v, rfl, r⟩ := rvs1 rs
    obtain ⟨d, e, h1, h2, h3, f⟩ := f
    refine ⟨v, d, rfl, dpc_of R r e, h1, h2, h3, ?_⟩
    rw [V_str]
    exact q.now R (.str _) f
  · exact f.elim
/-- x op= e at a name: ints, texts -/
def gAug : G2 := fun x y h Q => match x, y with
  | .int i, .int j => Q (.int (i + j)) h
  | .str a, .str b => a.length + b.length ≤ 1000000 ∧ Q (.str (a ++ b)) h
  | _, _ => False
end
/-! ### statements -/
structure DEnds where
  nx : Rho → List Cell → Prop
  rt : D → List Cell → Prop
  bk : Rho → List Cell → Prop := fun _ _ => False
  ct : Rho → List Cell → Prop := fun _ _ => False
abbrev DS := DEnds → Rho → List Cell → DX → Prop
section
variable (K : PySem.W.Frag) (dd : Hid)
/-- the ends of a statement do what is wished of them -/
structure Serves (ex : List Addr) (m : List Addr) (H : Hp) (Dd : DEnds) (Dn : Ends) : Prop where
  nx : ∀ ρ h' m' H' σ, Rel K dd ex m' H' h' → Grow dd m H m' H' → REnv K dd ex m' H' ρ σ → Dd.nx ρ h' → Dn.nx σ H'
  rt : ∀ d h' m' H' v, Rel K dd ex m' H' h' → Grow dd m H m' H' → Rv K dd ex m' H' d v → Dd.rt d h' → Dn.rt v H'
  bk : ∀ ρ h' m' H' σ, Rel K dd ex m' H' h' → Grow dd m H m' H' → REnv K dd ex m' H' ρ σ → Dd.bk ρ h' → Dn.bk σ H'
  ct : ∀ ρ h' m' H' σ, Rel K dd ex m' H' h' → Grow dd m H m' H' → REnv K dd ex m' H' ρ σ → Dd.ct ρ h' → Dn.ct σ H'
def EvSt (E : L2.St → XK) (t : TS) (f : DS) : Prop := ∀ {ex m : List Addr} {h : List Cell} {H : Hp} {ρ : Rho} {σ : L2.St} {Dd : DEnds} {Ed : DX}, Rel K dd ex m H h → REnv K dd ex m H ρ σ → f Dd ρ h Ed →
  (∀ σ' : L2.St, Goes K dd ex E σ' m H Ed) → ∀ Dn : Ends, Serves K dd ex m H Dd Dn → t Dn σ H
def FS (E : L2.St → XK) (X : Cx) (st : Stmt) (f : DS) : Prop := ∃ t, PS X st t ∧ EvSt K dd E t f
def FSs (E : L2.St → XK) (X : Cx) (st : List Stmt) (f : DS) : Prop := ∃ t, PSs X st t ∧ EvSt K dd E t f
abbrev DTG := D → Rho → List Cell → (Rho → List Cell → Prop) → Prop
/-- a target -/
def EvTg (g : TG) (f : DTG) : Prop := ∀ {ex m : List Addr} {h : List Cell} {H : Hp} {ρ : Rho} {σ : L2.St} {d : D} {v : V} {Qd : Rho → List Cell → Prop}, Rel K dd ex m H h → REnv K dd ex m H ρ σ → Rv K dd ex m H d v → f d ρ h Qd →
  ∀ Q : L2.St → Hp → Prop, (∀ ρ' h' m' H' σ', Rel K dd ex m' H' h' → Grow dd m H m' H' → REnv K dd ex m' H' ρ' σ' → Qd ρ' h' → Q σ' H') → g v σ H Q
def FG (X : Cx) (tg : Expr) (g : TG) (f : DTG) : Prop := PG X tg g ∧ EvTg K dd g f
abbrev DTGs := List D → Rho → List Cell → (Rho → List Cell → Prop) → Prop
def EvTgs (g : TGs) (f : DTGs) : Prop := ∀ {ex m : List Addr} {h : List Cell} {H : Hp} {ρ : Rho} {σ : L2.St} {ds : List D} {vs : List V} {Qd : Rho → List Cell → Prop}, Rel K dd ex m H h → REnv K dd ex m H ρ σ → Rvs K dd ex m H ds vs → f ds ρ h Qd →
  ∀ Q : L2.St → Hp → Prop, (∀ ρ' h' m' H' σ', Rel K dd ex m' H' h' → Grow dd m H m' H' → REnv K dd ex m' H' ρ' σ' → Qd ρ' h' → Q σ' H') → g vs σ H Q
def FGs (X : Cx) (tg : List Expr) (g : TGs) (f : DTGs) : Prop := PGs X tg g ∧ EvTgs K dd g f
end
def dPass : DS := fun Dd ρ h _ => Dd.nx ρ h
def dSeq (f g : DS) : DS := fun Dd ρ h E => f { Dd with nx := fun ρ' h' => g Dd ρ' h' E } ρ h E
def dRet (fe : DE) : DS := fun Dd ρ h E => fe ρ h Dd.rt E
def dRetN : DS := fun Dd ρ h _ => Dd.rt .non h
def dBrk : DS := fun Dd ρ h _ => Dd.bk ρ h
def dCont : DS := fun Dd ρ h _ => Dd.ct ρ h
def dDrop (fe : DE) : DS := fun Dd ρ h E => fe ρ h (fun _ h1 => Dd.nx ρ h1) E
def dSet (i : Nat) (fe : DE) : DS := fun Dd ρ h E => fe ρ h (fun d h1 => Dd.nx (ρ.set i (some d)) h1) E
def dAsg (fe : DE) (g : DTG) : DS := fun Dd ρ h E => fe ρ h (fun d h1 => g d ρ h1 Dd.nx) E
def gNm (i : Nat) : DTG := fun d ρ h Q => Q (ρ.set i (some d)) h
def gTp (n : Nat) (g : DTGs) : DTG := fun d ρ h Q => ∃ l, d = .tup l ∧ l.length = n ∧ g l ρ h Q
def gTNil : DTGs := fun ds ρ h Q => ds = [] ∧ Q ρ h
def gTCons (g : DTG) (gs : DTGs) : DTGs := fun ds ρ h Q => ∃ d r, ds = d :: r ∧ g d ρ h fun ρ' h' => gs r ρ' h' Q
/-- a way of an if among statements, folded -/
def DIfS (b : Bool) (f g : DS) : DS := fun Dd ρ h E => if b = true then f Dd ρ h E else g Dd ρ h E
def dIfS (ft : DT) (f g : DS) : DS := fun Dd ρ h E => ft ρ h (fun b h1 => DIfS b f g Dd ρ h1 E) E
def dAug (i : Nat) (g : G2) (fe : DE) : DS := fun Dd ρ h E => ∃ x, ρ[i]? = some (some x) ∧ fe ρ h (fun y h1 => g x y h1 fun z h2 => Dd.nx (ρ.set i (some z)) h2) E
def dPar (i j : Nat) (fs : DA) : DS := fun Dd ρ h E => fs ρ h (fun ds h1 => ∃ x y, ds = [x, y] ∧ Dd.nx ((ρ.set i (some x)).set j (some y)) h1) E
def dPar3 (i j k : Nat) (fs : DA) : DS := fun Dd ρ h E => fs ρ h (fun ds h1 => ∃ x y z, ds = [x, y, z] ∧ Dd.nx (((ρ.set i (some x)).set j (some y)).set k (some z)) h1) E
section
variable {K : PySem.W.Frag} {dd : Hid} {E : L2.St → XK} {X : Cx} {e a b c : Expr} {es : List Expr} {fe fa fb fc : DE} {ft fu : DT} {fs : DA} {pos : Pos} {f g : DS} {st : Stmt} {rest : List Stmt} {ex m m' : List Addr} {H H' : Hp} {h' : List Cell} {Dd : DEnds} {Dn : Ends} {te ta tb tc : TE} {tt : TT} {ts : TA} {tg1 tg2 : TG} {tgs : TGs}
theorem Serves.later (S : Serves K dd ex m H Dd Dn) (R : Rel K dd ex m' H' h') (g : Grow dd m H m' H') : Serves K dd ex m' H' Dd Dn :=
  ⟨fun ρ h2 m2 H2 σ R2 g2 => S.nx ρ h2 m2 H2 σ R2 (g.comp R g2), fun d h2 m2 H2 v R2 g2 => S.rt d h2 m2 H2 v R2 (g.comp R g2), fun ρ h2 m2 H2 σ R2 g2 => S.bk ρ h2 m2 H2 σ R2 (g.comp R g2), fun ρ h2 m2 H2 σ R2 g2 => S.ct ρ h2 m2 H2 σ R2 (g.comp R g2)⟩
theorem fss_nil : FSs K dd E X [] dPass := ⟨_, pss_nil, fun R P hf _ Dn S => S.nx _ _ _ _ _ R Grow.refl P hf⟩
theorem fss_one (h : FS K dd E X st f) : FSs K dd E X [st] f := by obtain ⟨t, p, ev⟩ := h; exact ⟨_, pss_one p, ev⟩
theorem fss_cons (h : FS K dd E X st f) (hs : FSs K dd E X rest g) : FSs K dd E X (st :: rest) (dSeq f g) := by
  obtain ⟨t, p, ev⟩ := h
  obtain ⟨u, q, ew⟩ := hs
  refine ⟨_, pss_cons p q, fun R P hf G Dn S => ev R P hf G _ ⟨fun ρ h1 m1 H1 σ1 R1 g1 P1 q1 => ?_, S.rt, S.bk, S.ct⟩⟩
  exact ew R1 P1 q1 (fun σ' => (G σ').later R1 g1) _ (S.later R1 g1)
theorem fs_set {x : Str} {i : Nat} {p : Pos} (hN : X.N.Nodup) (hi : X.N[i]? = some x) (hx : Loc X.env.scope x) (he : FE K dd E X e te fe) (hs : swapsWith e (some (.Name x p)) pos.line X.env = pure false := by rfl)
    (hf : X.fn x = true ∨ X.env.scope.names.lookup x = some .local := by first | exact .inl rfl | exact .inr rfl | assumption) : FS K dd E X (.Assign [.Name x p] e pos) (dSet i fe) := by
  obtain ⟨p, ev⟩ := he
  refine ⟨_, ps_set hN hi hx p hs hf, fun R P hf G Dn S => ev R P hf (G _) _ fun d h1 m1 H1 v R1 g1 r1 q1 => ?_⟩
  exact S.nx _ _ _ _ _ R1 g1 ((P.grow g1).set r1) q1
theorem fs_ret (he : FE K dd E X e te fe) : FS K dd E X (.Return (some e) pos) (dRet fe) := by
  obtain ⟨p, ev⟩ := he
  exact ⟨_, ps_ret p, fun R P hf G Dn S => ev R P hf (G _) _ fun d h1 m1 H1 v R1 g1 r1 q1 => S.rt _ _ _ _ _ R1 g1 r1 q1⟩
theorem fs_retN : FS K dd E X (.Return none pos) dRetN := ⟨_, ps_retN, fun R P hf G Dn S => S.rt _ _ _ _ _ R Grow.refl .non hf⟩
theorem fs_brk : FS K dd E X (.Break pos) dBrk := ⟨_, ps_break, fun R P hf G Dn S => S.bk _ _ _ _ _ R Grow.refl P hf⟩
theorem fs_cont : FS K dd E X (.Continue pos) dCont := ⟨_, ps_continue, fun R P hf G Dn S => S.ct _ _ _ _ _ R Grow.refl P hf⟩
theorem fs_pass : FS K dd E X (.Pass pos) dPass := ⟨_, ps_pass, fun R P hf G Dn S => S.nx _ _ _ _ _ R Grow.refl P hf⟩
theorem fs_never : FS K dd E X st (fun _ _ _ _ => False) := ⟨_, ps_never, fun R P hf G Dn S => hf.elim⟩
theorem fs_expr (he : FE K dd E X e te fe) (hs : swapsWith e none pos.line X.env = pure false := by rfl) : FS K dd E X (.Expr e pos) (dDrop fe) := by
  obtain ⟨p, ev⟩ := he
  exact ⟨_, ps_expr p hs, fun R P hf G Dn S => ev R P hf (G _) _ fun d h1 m1 H1 v R1 g1 r1 q1 => S.nx _ _ _ _ _ R1 g1 (P.grow g1) q1⟩
theorem fs_if {body orelse : List Stmt} (ht : FT K dd E X c tt ft) (hb : FSs K dd E X body f) (ho : FSs K dd E X orelse g) : FS K dd E X (.If c body orelse pos) (dIfS ft f g) := by
  obtain ⟨p, ev⟩ := ht
  obtain ⟨u, q, ew⟩ := hb
  obtain ⟨w, r, ez⟩ := ho
  refine ⟨_, ps_if p q r, fun R P hf G Dn S => ev R P hf (G _) _ fun b h1 m1 H1 k R1 g1 r1 f1 => ?_⟩
  subst r1
  unfold DIfS at f1
  cases k
  · rw [if_neg Bool.false_ne_true] at f1 ⊢
    exact ez R1 (P.grow g1) f1 (fun σ' => (G σ').later R1 g1) Dn (S.later R1 g1)
  · rw [if_pos rfl] at f1 ⊢
    exact ew R1 (P.grow g1) f1 (fun σ' => (G σ').later R1 g1) Dn (S.later R1 g1)
theorem fg_name {x : Str} {i : Nat} {p : Pos} (hN : X.N.Nodup) (hi : X.N[i]? = some x) (hx : Loc X.env.scope x) (hf : X.fn x = true ∨ X.env.scope.names.lookup x = some .local := by first | exact .inl rfl | exact .inr rfl | assumption) : FG K dd X (.Name x p) (gName i) (gNm i) :=
  ⟨pg_name hN hi hx hf, fun R P r hf Q k => k _ _ _ _ _ R Grow.refl (P.set r) hf⟩
theorem fgs_nil : FGs K dd X [] gNil gTNil := ⟨pgs_nil, fun R P r hf Q k => by
  obtain ⟨e, hf⟩ := hf
  subst e
  cases r
  exact ⟨rfl, k _ _ _ _ _ R Grow.refl P hf⟩⟩
theorem fgs_cons {e : Expr} {es : List Expr} {gd : DTG} {gs : DTGs} (h1 : FG K dd X e tg1 gd) (h2 : FGs K dd X es tgs gs)
    (hs : (assignEach (e :: es) X.env).map (·.2) = assign e X.env :: (assignEach es X.env).map (·.2) := by rfl) : FGs K dd X (e :: es) (gCons tg1 tgs) (gTCons gd gs) := by
  obtain ⟨p, eg⟩ := h1
  obtain ⟨p2, eg2⟩ := h2
  refine ⟨pgs_cons p p2 hs, fun R P r hf Q k => ?_⟩
  obtain ⟨d, l, rfl, hf⟩ := hf
  cases r with
  | cons r rs =>
    refine ⟨_, _, rfl, eg R P r hf _ fun ρ' h' m' H' σ' R' g' P' q' => ?_⟩
    exact eg2 R' P' (rs.grow g') q' _ fun ρ2 h2 m2 H2 σ2 R2 g2 P2 q2 => k _ _ _ _ _ R2 (g'.comp R' g2) P2 q2
theorem fg_tup {es : List Expr} {k n : Nat} {gs : DTGs} (hK : X.K = K) (hc : X.calm = true) (h : FGs K dd X es tgs gs)
    (hn : (assignEach es X.env).length = n := by rfl) (hst : (assignEach es X.env).findIdx? (·.1) = none := by rfl) : FG K dd X (.Tuple es k pos) (gTup K n tgs) (gTp n gs) := by
  obtain ⟨p, eg⟩ := h
  refine ⟨kk_gtup hK (pg_tup hc p hn hst), fun R P r hf Q q => ?_⟩
  obtain ⟨l, rfl, hl, hf⟩ := hf
  obtain ⟨a, vs, rfl, s, rr⟩ := rv_tup r
  exact ⟨a, vs, rfl, s, by rw [← rr.length]; exact hl, eg R P rr hf _ q⟩
theorem fs_asg {e : Expr} {tg : Expr} {gd : DTG} (he : FE K dd E X e te fe) (hg : FG K dd X tg tg1 gd) (hs : swapsWithSole [tg] e pos.line X.env = pure false := by rfl) (hw : swappedStores [tg] e X.env = pure none := by rfl)
    (h1 : (assignEach [tg] X.env).map (·.2) = [assign tg X.env] := by rfl) : FS K dd E X (.Assign [tg] e pos) (dAsg fe gd) := by
  obtain ⟨p, ev⟩ := he
  obtain ⟨pg, eg⟩ := hg
  refine ⟨_, ps_asg p pg hs hw h1, fun R P hf G Dn S => ev R P hf (G _) _ fun d h1 m1 H1 v R1 g1 r1 q1 => ?_⟩
  exact eg R1 (P.grow g1) r1 q1 _ fun ρ' h2 m2 H2 σ2 R2 g2 P2 q2 => S.nx _ _ _ _ _ R2 (g1.comp R1 g2) P2 q2
theorem fs_par {i j : Nat} {x y : Str} {a b : Expr} {px py pt : Pos} {kt k2 pt2} (hc : X.calm = true) (hN : X.N.Nodup) (hi : X.N[i]? = some x) (hj : X.N[j]? = some y) (hij : i ≠ j)
    (hx : X.env.scope.names.lookup x = some .local) (hy : X.env.scope.names.lookup y = some .local) (ha : FA K dd E X [a, b] ts fs)
    (hw : swappedStores [.Tuple [.Name x px, .Name y py] kt pt] (.Tuple [a, b] k2 pt2) X.env = pure (some [x, y]))
    (hs : swapsWithSole [.Tuple [.Name x px, .Name y py] kt pt] (.Tuple [a, b] k2 pt2) pos.line X.env = pure false := by rfl) : FS K dd E X (.Assign [.Tuple [.Name x px, .Name y py] kt pt] (.Tuple [a, b] k2 pt2) pos) (dPar i j fs) := by
  obtain ⟨p, ev⟩ := ha
  refine ⟨_, ps_par hc hN hi hj hij hx hy p hw hs, fun R P hf G Dn S => ev R P hf (G _) _ fun ds h1 m1 H1 vs R1 g1 r1 q1 => ?_⟩
  obtain ⟨d1, d2, rfl, q1⟩ := q1
  obtain ⟨v, w, rfl, r, r2⟩ := rvs2 r1
  exact ⟨v, w, rfl, S.nx _ _ _ _ _ R1 g1 (((P.grow g1).set r).set r2) q1⟩
theorem fs_par3 {i j l : Nat} {x y z : Str} {a b c : Expr} {px py pz pt : Pos} {kt k2 pt2} (hc : X.calm = true) (hN : X.N.Nodup) (hi : X.N[i]? = some x) (hj : X.N[j]? = some y) (hl : X.N[l]? = some z) (hij : i ≠ j) (hil : i ≠ l) (hjl : j ≠ l)
    (hx : X.env.scope.names.lookup x = some .local) (hy : X.env.scope.names.lookup y = some .local) (hz : X.env.scope.names.lookup z = some .local) (ha : FA K dd E X [a, b, c] ts fs)
    (hw : swappedStores [.Tuple [.Name x px, .Name y py, .Name z pz] kt pt] (.Tuple [a, b, c] k2 pt2) X.env = pure (some [x, y, z]))
    (hs : swapsWithSole [.Tuple [.Name x px, .Name y py, .Name z pz] kt pt] (.Tuple [a, b, c] k2 pt2) pos.line X.env = pure false := by rfl) :
    FS K dd E X (.Assign [.Tuple [.Name x px, .Name y py, .Name z pz] kt pt] (.Tuple [a, b, c] k2 pt2) pos) (dPar3 i j l fs) := by
  obtain ⟨p, ev⟩ := ha
  refine ⟨_, ps_par3 hc hN hi hj hl hij hil hjl hx hy hz p hw hs, fun R P hf G Dn S => ev R P hf (G _) _ fun ds h1 m1 H1 vs R1 g1 r1 q1 => ?_⟩
  obtain ⟨d1, d2, d3, rfl, q1⟩ := q1
  cases r1 with
  | cons r t =>
    obtain ⟨v, w, rfl, r2, r3⟩ := rvs2 t
    exact ⟨_, v, w, rfl, S.nx _ _ _ _ _ R1 g1 ((((P.grow g1).set r).set r2).set r3) q1⟩
theorem fs_aug {i : Nat} {x : Str} {p' : Pos} (hN : X.N.Nodup) (hi : X.N[i]? = some x) (hx : Loc X.env.scope x) (he : FE K dd E X e te fe) (hf : X.fn x = true ∨ X.env.scope.names.lookup x = some .local := by first | exact .inl rfl | exact .inr rfl | assumption) :
    FS K dd E X (.AugAssign (.Name x p') .Add e pos) (dAug i gAug fe) := by
  obtain ⟨p, ev⟩ := he
  refine ⟨_, ps_aug hN hi hx p ip_kAug hf, fun R P hf G Dn S => ?_⟩
  obtain ⟨d, hd, hf⟩ := hf
  obtain ⟨v, hv, rv⟩ := P.at_ _ _ hd
  refine ⟨v, hv, ev R P hf (G _) _ fun d2 h1 m1 H1 w R1 g1 r1 q1 => ?_⟩
  change gAug d d2 h1 _ at q1
  unfold gAug at q1
  split at q1
  · cases rv; cases r1
    exact S.nx _ _ _ _ _ R1 g1 ((P.grow g1).set (.int _)) q1
  · cases rv; cases r1
    obtain ⟨hz, q1⟩ := q1
    refine ⟨by rw [str_len, str_len]; exact hz, ?_⟩
    have := S.nx _ _ _ _ _ R1 g1 ((P.grow g1).set (.str _)) q1
    rw [str_cat]
    exact this
  · exact q1.elim
/-! ### while -/
def NXd (W : Nat → Rho → List Cell → Prop) (n : Nat) : Rho → List Cell → Prop := fun ρ h => ∃ k, k < n ∧ W k ρ h
def DWay (b : Bool) (W : Nat → Rho → List Cell → Prop) (n : Nat) (f : DS) : DS := fun Dd ρ h E => if b = true then f { Dd with nx := NXd W n, ct := NXd W n, bk := Dd.nx } ρ h E else Dd.nx ρ h
def dWhile (ft : DT) (f : DS) : DS := fun Dd ρ h E => ∃ W : Nat → Rho → List Cell → Prop, (∃ n, W n ρ h) ∧ ∀ n ρ h, W n ρ h → ft ρ h (fun b h1 => DWay b W n f Dd ρ h1 E) E
theorem fs_while {body : List Stmt} (hp : PassesOwn (model X.prog X.w) X.A X.env X.xe) (ht : FT K dd E X c tt ft) (hb : FSs K dd E X body f) : FS K dd E X (.While c body [] pos) (dWhile ft f) := by
  obtain ⟨p, ev⟩ := ht
  obtain ⟨u, q, ew⟩ := hb
  refine ⟨_, ps_while hp p q, fun {ex m h H ρ σ Dd Ed} R P hf G Dn S => ?_⟩
  obtain ⟨W, ⟨n0, w0⟩, turn⟩ := hf
  refine ⟨fun n σ' H' => ∃ ρ' h' m', Rel K dd ex m' H' h' ∧ Grow dd m H m' H' ∧ REnv K dd ex m' H' ρ' σ' ∧ W n ρ' h', ⟨n0, ρ, h, m, R, Grow.refl, P, w0⟩, ?_⟩
  rintro n σ' H' ⟨ρ', h', m', R', g', P', w'⟩
  refine ev R' P' (turn n ρ' h' w') ((G _).later R' g') _ fun b h1 m1 H1 k R1 g1 r1 f1 => ?_
  subst r1
  have g2 := g'.comp R' g1
  unfold DWay at f1
  cases k
  · rw [if_neg Bool.false_ne_true] at f1 ⊢
    exact S.nx _ _ _ _ _ R1 g2 (P'.grow g1) f1
  · rw [if_pos rfl] at f1 ⊢
    refine ⟨fun σ2 H2 => ∃ m', m' < n ∧ ∃ ρ' h' m2, Rel K dd ex m2 H2 h' ∧ Grow dd m H m2 H2 ∧ REnv K dd ex m2 H2 ρ' σ2 ∧ W m' ρ' h', fun _ _ z => z, ?_⟩
    refine ew R1 (P'.grow g1) f1 (fun σ2 => (G σ2).later R1 g2) _ ⟨fun ρ3 h3 m3 H3 σ3 R3 g3 P3 q3 => ?_, (S.later R1 g2).rt, (S.later R1 g2).nx, fun ρ3 h3 m3 H3 σ3 R3 g3 P3 q3 => ?_⟩
    · obtain ⟨j, hj, wj⟩ := q3
      exact ⟨j, hj, ρ3, h3, m3, R3, g2.comp R1 g3, P3, wj⟩
    · obtain ⟨j, hj, wj⟩ := q3
      exact ⟨j, hj, ρ3, h3, m3, R3, g2.comp R1 g3, P3, wj⟩
end
end DL

end

section
set_option maxHeartbeats 1000000
/-! F5: what is walked; for, comprehensions. -/
namespace DL
open PySem PySem.Spec PyProof.Rows L2 KG
section
variable {K : PySem.W.Frag} {dd : Hid} {ex ex' m m' m0 : List Addr} {H H' H0 : Hp} {h h' : List Cell} {l l2 : List D} {d : D} {v : V} {ds : List D} {vs : List V} {chk : List Cell → Prop} {J : It} {a b : Addr}
/-- places that are hidden now: they were, or nothing stood there -/
def Exq (ex : List Addr) (H : Hp) (ex' : List Addr) : Prop := ∀ p ∈ ex', p ∈ ex ∨ H p = none
theorem Exq.refl : Exq ex H ex := fun p hp => .inl hp
theorem exq_rd {o : HO} {p : Addr} (q : Exq ex H ex') (hp : p ∉ ex) (r : Rd H p o) : p ∉ ex' := fun z => by
  rcases q p z with z | z
  · exact hp z
  · rcases r with r | ⟨_, r⟩ <;> (rw [z] at r; cases r)
mutual
theorem Rv.exq (q : Exq ex H ex') : ∀ {d : D} {v : V}, Rv K dd ex m H d v → Rv K dd ex' m H d v
  | _, _, .non => .non
  | _, _, .bl b => .bl b
  | _, _, .int i => .int i
  | _, _, .str l => .str l
  | _, _, .tup a b c r => .tup a ⟨b.1, exq_rd q b.2 c⟩ c (Rvs.exq q r)
  | _, _, .ktup k r => .ktup k (Rvs.exq q r)
  | _, _, .lst a b c r => .lst a ⟨b.1, exq_rd q b.2 (.inl c)⟩ c (Rvs.exq q r)
  | _, _, .dic a b c e r => .dic a ⟨b.1, exq_rd q b.2 (.inl c)⟩ c e (Rvs.exq q r)
  | _, _, .dit a b c e r => .dit a ⟨b.1, exq_rd q b.2 (.inl c)⟩ c e (Rvs.exq q r)
  | _, _, .obj a b c e r => .obj a ⟨⟨b.1.1, exq_rd q b.1.2 (.inl c.1)⟩, b.2.1, exq_rd q b.2.2 (.inl c.2)⟩ c e (Rvs.exq q r)
  | _, _, .ref e => .ref e
  | _, _, .adr a => .adr a
  | _, _, .ty n => .ty n
  | _, _, .dice e => .dice e
  | _, _, .lam a b c e => .lam a ⟨⟨b.1.1, exq_rd q b.1.2 (.inl c)⟩, b.2.1, exq_rd q b.2.2 (.inl e)⟩ c e
  | _, _, .scr c => .scr (c.imp id fun ⟨a, b, e⟩ => ⟨a, ⟨b.1, exq_rd q b.2 e⟩, e⟩)
theorem Rvs.exq (q : Exq ex H ex') : ∀ {ds : List D} {vs : List V}, Rvs K dd ex m H ds vs → Rvs K dd ex' m H ds vs
  | _, _, .nil => .nil
  | _, _, .cons r t => .cons (Rv.exq q r) (Rvs.exq q t)
end
/-- a list that can be walked: where it stands, as long as chk holds | a tuple -/
def SeatL (K : PySem.W.Frag) (dd : Hid) (ex m0 : List Addr) (H0 : Hp) (a : Addr) (l : List D) (chk : List Cell → Prop) : Prop :=
  ∀ ex' m h H, Exq ex H0 ex' → Rel K dd ex' m H h → Grow dd m0 H0 m H → chk h → ∃ vs, SqL K H a vs ∧ Rvs K dd ex' m H l vs
def SeatT (K : PySem.W.Frag) (dd : Hid) (ex m0 : List Addr) (H0 : Hp) (a : Addr) (l : List D) (chk : List Cell → Prop) : Prop :=
  ∀ ex' m h H, Exq ex H0 ex' → Rel K dd ex' m H h → Grow dd m0 H0 m H → chk h → ∃ vs, SqT K H a vs ∧ Rvs K dd ex' m H l vs
def chkD (d : D) (l : List D) : List Cell → Prop := match d with
  | .ref n => fun h => h[n]? = some (.lst l)
  | _ => fun _ => True
theorem seat_list (R : Rel K dd ex m H h) (r : Rv K dd ex m H d v) (e : asL h d = some l) : ∃ a, v = .ref a ∧ (∃ vs, SqL K H a vs) ∧ SeatL K dd ex m H a l (chkD d l) ∧ chkD d l h := by
  cases r with
  | @lst p ds vs a b c q =>
    cases e
    exact ⟨p, rfl, ⟨vs, SqL.of c⟩, fun ex' m' h' H' hq R' g _ => ⟨vs, SqL.of (g.keep _ _ a b.1 c), (q.exq hq).grow g⟩, trivial⟩
  | @ref n p hn =>
    unfold asL at e
    simp only at e
    split at e
    · rename_i l' hc
      cases e
      obtain ⟨vs, z, q⟩ := R.cs n _ p hc hn
      refine ⟨p, rfl, ⟨vs, SqL.of z⟩, fun ex' m' h' H' hq R' g hk => ?_, hc⟩
      obtain ⟨vs', z', q'⟩ := R'.cs n _ p hk (g.cell hn)
      exact ⟨vs', SqL.of z', q'⟩
    · cases e
  | _ => cases e
theorem seat_tup (r : Rv K dd ex m H (.tup l) v) : ∃ a, v = .ref a ∧ (∃ vs, SqT K H a vs) ∧ SeatT K dd ex m H a l fun _ => True := by
  cases r with
  | @tup p ds vs a b c q => exact ⟨p, rfl, ⟨vs, .inl c⟩, fun ex' m' h' H' hq R' g _ => ⟨vs, .inl (rd_grow g a b.1 c).2, (q.exq hq).grow g⟩⟩
  | @ktup p ds vs k q => exact ⟨p, rfl, ⟨vs, .inr k⟩, fun ex' m' h' H' hq R' g _ => ⟨vs, .inr k, (q.exq hq).grow g⟩⟩
/-- a walk over known items -/
structure Wk (K : PySem.W.Frag) (dd : Hid) (ex : List Addr) (J : It) (l : List D) (chk : List Cell → Prop) (m0 : List Addr) (H0 : Hp) : Prop where
  go : ∀ ex' i m h H, Exq ex H0 ex' → Rel K dd ex' m H h → Grow dd m0 H0 m H → chk h → i < l.length → J.go i H
  stop : ∀ ex' m h H, Exq ex H0 ex' → Rel K dd ex' m H h → Grow dd m0 H0 m H → chk h → J.stop l.length H
  yld : ∀ ex' i m h H x H', Exq ex H0 ex' → Rel K dd ex' m H h → Grow dd m0 H0 m H → chk h → i < l.length → J.yld i H x H' → ∃ d, l[i]? = some d ∧ Rel K dd ex' m H' h ∧ Grow dd m H m H' ∧ Rv K dd ex' m H' d x
theorem wk_list (S : SeatL K dd ex m0 H0 a l chk) : Wk K dd ex (Itl K a) l chk m0 H0 where
  go := fun ex' i m h H q R g c hi => by
    obtain ⟨vs, s, r⟩ := S ex' m h H q R g c
    obtain ⟨v, e, _⟩ := r.get (List.getElem?_eq_getElem hi)
    exact ⟨vs, v, s, e⟩
  stop := fun ex' m h H q R g c => by
    obtain ⟨vs, s, r⟩ := S ex' m h H q R g c
    exact ⟨vs, s, by rw [r.length]; exact Nat.le_refl _⟩
  yld := fun ex' i m h H x H' q R g c hi y => by
    obtain ⟨vs, s, r⟩ := S ex' m h H q R g c
    obtain ⟨rfl, y⟩ := y
    obtain ⟨d, e, rv⟩ := r.getV (y vs s)
    exact ⟨d, e, R, Grow.refl, rv⟩
theorem wk_tup (S : SeatT K dd ex m0 H0 a l chk) : Wk K dd ex (Itt K a) l chk m0 H0 where
  go := fun ex' i m h H q R g c hi => by
    obtain ⟨vs, s, r⟩ := S ex' m h H q R g c
    obtain ⟨v, e, _⟩ := r.get (List.getElem?_eq_getElem hi)
    exact ⟨vs, v, s, e⟩
  stop := fun ex' m h H q R g c => by
    obtain ⟨vs, s, r⟩ := S ex' m h H q R g c
    exact ⟨vs, s, by rw [r.length]; exact Nat.le_refl _⟩
  yld := fun ex' i m h H x H' q R g c hi y => by
    obtain ⟨vs, s, r⟩ := S ex' m h H q R g c
    obtain ⟨rfl, y⟩ := y
    obtain ⟨d, e, rv⟩ := r.getV (y vs s)
    exact ⟨d, e, R, Grow.refl, rv⟩
def signs (l : List Nat) : List D := l.map fun c => .str [c]
theorem wk_str {t : List Nat} : Wk K dd ex (Its ⟨t.toArray⟩) (signs t) (fun _ => True) m0 H0 where
  go := fun ex' i m h H q R g c hi => its_go.mpr (by simpa [signs] using hi)
  stop := fun ex' m h H q R g c => its_stop.mpr (by simp [signs])
  yld := fun ex' i m h H x H' q R g c hi y => by
    obtain ⟨rfl, c, e, rfl⟩ := its_yld.mp y
    exact ⟨.str [c], by simp [signs, e], R, Grow.refl, .str _⟩
def intsD (lo : Int) (n : Nat) : List D := (List.range n).map fun i => .int (lo + (i : Nat))
theorem wk_rng {lo : Int} {n : Nat} : Wk K dd ex (Itr lo n) (intsD lo n) (fun _ => True) m0 H0 where
  go := fun ex' i m h H q R g c hi => by show i < n; simpa [intsD] using hi
  stop := fun ex' m h H q R g c => by show n ≤ _; simp [intsD]
  yld := fun ex' i m h H x H' q R g c hi y => by
    obtain ⟨rfl, rfl⟩ := y
    have hi' : i < n := by simpa [intsD] using hi
    exact ⟨.int (lo + (i : Nat)), by simp [intsD, hi'], R, Grow.refl, .int _⟩
def enumD (l : List D) : List D := l.mapIdx fun i d => .tup [.int (i : Nat), d]
theorem enumD_get {l : List D} {i : Nat} {d : D} (e : l[i]? = some d) : (enumD l)[i]? = some (.tup [.int (i : Nat), d]) := by simp [enumD, e]
theorem new_pair {x y : D} {v w : V} {T : Addr} (R : Rel K dd ex m H h) (hT : H T = none) (r1 : Rv K dd ex m H x v) (r2 : Rv K dd ex m H y w) :
    Rel K dd ex m (upd H T (.tup [v, w])) h ∧ Grow dd m H m (upd H T (.tup [v, w])) ∧ Rv K dd ex m (upd H T (.tup [v, w])) (.tup [x, y]) (.ref T) := by
  obtain ⟨R2, g, a, b⟩ := R.new (o := .tup [v, w]) hT
  exact ⟨R2, g, .tup a b (.inl upd_same) (.cons (r1.grow g) (.cons (r2.grow g) .nil))⟩
theorem wk_enumL (S : SeatL K dd ex m0 H0 a l chk) : Wk K dd ex (Ite K a) (enumD l) chk m0 H0 where
  go := fun ex' i m h H q R g c hi => by
    obtain ⟨vs, s, r⟩ := S ex' m h H q R g c
    have hi' : i < l.length := by simpa [enumD] using hi
    obtain ⟨v, e, _⟩ := r.get (List.getElem?_eq_getElem hi')
    exact ⟨vs, v, s, e⟩
  stop := fun ex' m h H q R g c => by
    obtain ⟨vs, s, r⟩ := S ex' m h H q R g c
    exact ⟨vs, s, by simp [enumD, r.length]⟩
  yld := fun ex' i m h H x H' q R g c hi y => by
    obtain ⟨vs, s, r⟩ := S ex' m h H q R g c
    obtain ⟨T, x, rfl, hT, rfl, y⟩ := y
    obtain ⟨d, e, rv⟩ := r.getV (y vs s)
    obtain ⟨R2, g2, r2⟩ := new_pair R hT (.int ((i : Nat) : Int)) rv
    exact ⟨_, enumD_get e, R2, g2, r2⟩
theorem wk_enumT (S : SeatT K dd ex m0 H0 a l chk) : Wk K dd ex (IteT K a) (enumD l) chk m0 H0 where
  go := fun ex' i m h H q R g c hi => by
    obtain ⟨vs, s, r⟩ := S ex' m h H q R g c
    have hi' : i < l.length := by simpa [enumD] using hi
    obtain ⟨v, e, _⟩ := r.get (List.getElem?_eq_getElem hi')
    exact ⟨vs, v, s, e⟩
  stop := fun ex' m h H q R g c => by
    obtain ⟨vs, s, r⟩ := S ex' m h H q R g c
    exact ⟨vs, s, by simp [enumD, r.length]⟩
  yld := fun ex' i m h H x H' q R g c hi y => by
    obtain ⟨vs, s, r⟩ := S ex' m h H q R g c
    obtain ⟨T, x, rfl, hT, rfl, y⟩ := y
    obtain ⟨d, e, rv⟩ := r.getV (y vs s)
    obtain ⟨R2, g2, r2⟩ := new_pair R hT (.int ((i : Nat) : Int)) rv
    exact ⟨_, enumD_get e, R2, g2, r2⟩
theorem wk_enumS {t : List Nat} : Wk K dd ex (IteS ⟨t.toArray⟩) (enumD (signs t)) (fun _ => True) m0 H0 where
  go := fun ex' i m h H q R g c hi => ites_go.mpr (by simpa [enumD, signs] using hi)
  stop := fun ex' m h H q R g c => ites_stop.mpr (by simp [enumD, signs])
  yld := fun ex' i m h H x H' q R g c hi y => by
    obtain ⟨T, c, rfl, hT, rfl, e⟩ := ites_yld.mp y
    obtain ⟨R2, g2, r2⟩ := new_pair R hT (.int ((i : Nat) : Int)) (.str [c])
    exact ⟨_, enumD_get (by simp [signs, e]), R2, g2, r2⟩
def zipD (l l2 : List D) : List D := List.zipWith (fun x y => .tup [x, y]) l l2
theorem zipD_get {i : Nat} {x y : D} (e : l[i]? = some x) (e2 : l2[i]? = some y) : (zipD l l2)[i]? = some (.tup [x, y]) := by simp [zipD, List.getElem?_zipWith, e, e2]
theorem wk_zipL (S : SeatL K dd ex m0 H0 a l chk) {chk2 : List Cell → Prop} (S2 : SeatL K dd ex m0 H0 b l2 chk2) : Wk K dd ex (Itz K a b) (zipD l l2) (fun h => chk h ∧ chk2 h) m0 H0 where
  go := fun ex' i m h H q R g c hi => by
    obtain ⟨vs, s, r⟩ := S ex' m h H q R g c.1
    obtain ⟨ws, s2, r2⟩ := S2 ex' m h H q R g c.2
    have hi' : i < min l.length l2.length := by simpa [zipD] using hi
    obtain ⟨v, e, _⟩ := r.get (List.getElem?_eq_getElem (show i < l.length by omega))
    obtain ⟨w, e2, _⟩ := r2.get (List.getElem?_eq_getElem (show i < l2.length by omega))
    exact ⟨vs, ws, v, w, s, s2, e, e2⟩
  stop := fun ex' m h H q R g c => by
    obtain ⟨vs, s, r⟩ := S ex' m h H q R g c.1
    obtain ⟨ws, s2, r2⟩ := S2 ex' m h H q R g c.2
    refine ⟨vs, ws, s, s2, ?_⟩
    have := r.length
    have := r2.length
    simp only [zipD, List.length_zipWith]
    omega
  yld := fun ex' i m h H x H' q R g c hi y => by
    obtain ⟨vs, s, r⟩ := S ex' m h H q R g c.1
    obtain ⟨ws, s2, r2⟩ := S2 ex' m h H q R g c.2
    obtain ⟨T, x, y', rfl, hT, rfl, y1, y2⟩ := y
    obtain ⟨d, e, rv⟩ := r.getV (y1 vs s)
    obtain ⟨d2, e2, rv2⟩ := r2.getV (y2 ws s2)
    obtain ⟨R2, g2, r2⟩ := new_pair R hT rv rv2
    exact ⟨_, zipD_get e e2, R2, g2, r2⟩
theorem wk_zipT (S : SeatT K dd ex m0 H0 a l chk) {chk2 : List Cell → Prop} (S2 : SeatT K dd ex m0 H0 b l2 chk2) : Wk K dd ex (RZ.ItzT K a b) (zipD l l2) (fun h => chk h ∧ chk2 h) m0 H0 where
  go := fun ex' i m h H q R g c hi => by
    obtain ⟨vs, s, r⟩ := S ex' m h H q R g c.1
    obtain ⟨ws, s2, r2⟩ := S2 ex' m h H q R g c.2
    have hi' : i < min l.length l2.length := by simpa [zipD] using hi
    obtain ⟨v, e, _⟩ := r.get (List.getElem?_eq_getElem (show i < l.length by omega))
    obtain ⟨w, e2, _⟩ := r2.get (List.getElem?_eq_getElem (show i < l2.length by omega))
    exact ⟨vs, ws, v, w, s, s2, e, e2⟩
  stop := fun ex' m h H q R g c => by
    obtain ⟨vs, s, r⟩ := S ex' m h H q R g c.1
    obtain ⟨ws, s2, r2⟩ := S2 ex' m h H q R g c.2
    refine ⟨vs, ws, s, s2, ?_⟩
    have := r.length
    have := r2.length
    simp only [zipD, List.length_zipWith]
    omega
  yld := fun ex' i m h H x H' q R g c hi y => by
    obtain ⟨vs, s, r⟩ := S ex' m h H q R g c.1
    obtain ⟨ws, s2, r2⟩ := S2 ex' m h H q R g c.2
    obtain ⟨T, x, y', rfl, hT, rfl, y1, y2⟩ := y
    obtain ⟨d, e, rv⟩ := r.getV (y1 vs s)
    obtain ⟨d2, e2, rv2⟩ := r2.getV (y2 ws s2)
    obtain ⟨R2, g2, r2⟩ := new_pair R hT rv rv2
    exact ⟨_, zipD_get e e2, R2, g2, r2⟩
end
/-! ### the walked thing of a for or a comprehension -/
abbrev DI := DG (List D × (List Cell → Prop))
section
variable (K : PySem.W.Frag) (dd : Hid)
def EvI (E : L2.St → XK) (wi : TI) (f : DI) : Prop := ∀ {ex m : List Addr} {h : List Cell} {H : Hp} {ρ : Rho} {σ : L2.St} {Qd : List D × (List Cell → Prop) → List Cell → Prop} {Ed : DX}, Rel K dd ex m H h → REnv K dd ex m H ρ σ → f ρ h Qd Ed → Goes K dd ex E σ m H Ed →
  ∀ Q : It → Hp → Prop, (∀ l chk h1 m1 H1 J, Rel K dd ex m1 H1 h1 → Grow dd m H m1 H1 → Wk K dd ex J l chk m1 H1 → Qd (l, chk) h1 → Q J H1) → wi σ H Q
def FI (E : L2.St → XK) (X : Cx) (tg e : Expr) (wi : TI) (f : DI) : Prop := PI X tg e wi ∧ EvI K dd E wi f
end
def itemsD (h : List Cell) : D → Option (List D)
  | .str t => some (signs t)
  | d => asS h d
def dIt (fe : DE) : DI := fun ρ h Q E => fe ρ h (fun d h1 => ∃ l, itemsD h1 d = some l ∧ Q (l, chkD d l) h1) E
def dRng1 (fs : DA) : DI := fun ρ h Q E => fs ρ h (fun xs h1 => ∃ j : Int, xs = [.int j] ∧ -(2 ^ 62) ≤ j ∧ j < 2 ^ 62 ∧ Q (intsD 0 j.toNat, fun _ => True) h1) E
def dRng2 (fs : DA) : DI := fun ρ h Q E => fs ρ h (fun xs h1 => ∃ i j : Int, xs = [.int i, .int j] ∧ (-(2 ^ 62) ≤ i ∧ i < 2 ^ 62 ∧ -(2 ^ 62) ≤ j ∧ j < 2 ^ 62) ∧ Q (intsD i (j - i).toNat, fun _ => True) h1) E
def dEnumL (fs : DA) : DI := fun ρ h Q E => fs ρ h (fun xs h1 => ∃ d l, xs = [d] ∧ asL h1 d = some l ∧ Q (enumD l, chkD d l) h1) E
def dEnumT (fs : DA) : DI := fun ρ h Q E => fs ρ h (fun xs h1 => ∃ l, xs = [.tup l] ∧ Q (enumD l, fun _ => True) h1) E
def dEnumS (fs : DA) : DI := fun ρ h Q E => fs ρ h (fun xs h1 => ∃ t, xs = [.str t] ∧ Q (enumD (signs t), fun _ => True) h1) E
def dZip (fs : DA) : DI := fun ρ h Q E => fs ρ h (fun xs h1 => ∃ x y, xs = [x, y] ∧ ((∃ l l2, x = .tup l ∧ y = .tup l2 ∧ Q (zipD l l2, fun _ => True) h1) ∨ ∃ l l2, asL h1 x = some l ∧ asL h1 y = some l2 ∧ Q (zipD l l2, fun h => chkD x l h ∧ chkD y l2 h) h1)) E
section
variable {K : PySem.W.Frag} {dd : Hid} {E : L2.St → XK} {X : Cx} {e e2 a tg : Expr} {fe : DE} {fs : DA} {te : TE} {ts : TA} {p pos tpos : Pos}
theorem fi_seq (hK : X.K = K) (he : FE K dd E X e te fe) : FI K dd E X tg e (iK K te) (dIt fe) := by
  obtain ⟨pe, ev⟩ := he
  refine ⟨kk_pi hK pe, fun R P hf G Q q => ev R P hf G _ fun d h1 m1 H1 v R1 g1 r1 f1 => ?_⟩
  obtain ⟨l, el, f1⟩ := f1
  cases d with
  | str t =>
    cases el
    cases r1
    exact q _ _ _ _ _ _ R1 g1 wk_str f1
  | tup l' =>
    cases el
    obtain ⟨a, rfl, s, S⟩ := seat_tup r1
    exact .inr ⟨s, q _ _ _ _ _ _ R1 g1 (wk_tup S) f1⟩
  | _ =>
    obtain ⟨a, rfl, s, S, c⟩ := seat_list R1 r1 el
    exact .inl ⟨s, q _ _ _ _ _ _ R1 g1 (wk_list S) f1⟩
theorem fi_range1 (hg : Gl X "range") (hm : X.mg "range" = none) (ha : FA K dd E X [a] ts fs) (hs : starEach [a] X.env = [(false, eval a X.env)] := by rfl) : FI K dd E X tg (.Call (.Name "range" p) [a] [] pos) (iRng1 ts) (dRng1 fs) := by
  obtain ⟨pa, ev⟩ := ha
  refine ⟨pi_range1 hg hm pa hs, fun R P hf G Q q => ev R P hf G _ fun d h1 m1 H1 v R1 g1 r1 f1 => ?_⟩
  obtain ⟨j, rfl, c1, c2, f1⟩ := f1
  obtain ⟨v, rfl, r⟩ := rvs1 r1
  cases r
  exact ⟨j, rfl, c1, c2, q _ _ _ _ _ _ R1 g1 wk_rng f1⟩
theorem fi_range2 (hg : Gl X "range") (hm : X.mg "range" = none) (ha : FA K dd E X [a, e] ts fs) (h : ∀ t, PA X [a, e] t → PI X tg (.Call (.Name "range" p) [a, e] [] pos) (iRng2 t) := by exact fun _ h => pi_range2 (by rfl) (by assumption) h) : FI K dd E X tg (.Call (.Name "range" p) [a, e] [] pos) (iRng2 ts) (dRng2 fs) := by
  obtain ⟨pa, ev⟩ := ha
  refine ⟨h _ pa, fun R P hf G Q q => ev R P hf G _ fun d h1 m1 H1 v R1 g1 r1 f1 => ?_⟩
  obtain ⟨i, j, rfl, c1, f1⟩ := f1
  obtain ⟨v, w, rfl, r, r2⟩ := rvs2 r1
  cases r; cases r2
  exact ⟨i, j, rfl, c1, q _ _ _ _ _ _ R1 g1 wk_rng f1⟩
variable {elts : List Expr} {kk : Nat}
theorem fi_enumL (hK : X.K = K) (hg : Gl X "enumerate") (hm : X.mg "enumerate" = none) (ha : FA K dd E X [e] ts fs) (hs : starEach [e] X.env = [(false, eval e X.env)] := by rfl) : FI K dd E X (.Tuple elts kk tpos) (.Call (.Name "enumerate" p) [e] [] pos) (iEnum K ts) (dEnumL fs) := by
  obtain ⟨pa, ev⟩ := ha
  refine ⟨hK ▸ pi_enum hg hm pa hs, fun R P hf G Q q => ev R P hf G _ fun d h1 m1 H1 v R1 g1 r1 f1 => ?_⟩
  obtain ⟨d, l, rfl, el, f1⟩ := f1
  obtain ⟨v, rfl, r⟩ := rvs1 r1
  obtain ⟨a, rfl, ⟨vs, s⟩, S, c⟩ := seat_list R1 r el
  exact ⟨a, vs, rfl, s, q _ _ _ _ _ _ R1 g1 (wk_enumL S) f1⟩
theorem fi_enumT (hK : X.K = K) (hg : Gl X "enumerate") (hm : X.mg "enumerate" = none) (ha : FA K dd E X [e] ts fs) (h : ∀ t, PA X [e] t → PI X (.Tuple elts kk tpos) (.Call (.Name "enumerate" p) [e] [] pos) (iEnumT X.K t) := by exact fun _ h => pi_enumT (by rfl) (by assumption) h) : FI K dd E X (.Tuple elts kk tpos) (.Call (.Name "enumerate" p) [e] [] pos) (iEnumT K ts) (dEnumT fs) := by
  obtain ⟨pa, ev⟩ := ha
  refine ⟨kk_piT hK (h _ pa), fun R P hf G Q q => ev R P hf G _ fun d h1 m1 H1 v R1 g1 r1 f1 => ?_⟩
  obtain ⟨l, rfl, f1⟩ := f1
  obtain ⟨v, rfl, r⟩ := rvs1 r1
  obtain ⟨a, rfl, ⟨vs, s⟩, S⟩ := seat_tup r
  exact ⟨a, vs, rfl, s, q _ _ _ _ _ _ R1 g1 (wk_enumT S) f1⟩
theorem fi_enumS (ha : FA K dd E X [e] ts fs) (h : ∀ t, PA X [e] t → PI X (.Tuple elts kk tpos) (.Call (.Name "enumerate" p) [e] [] pos) (iEnumS t)) : FI K dd E X (.Tuple elts kk tpos) (.Call (.Name "enumerate" p) [e] [] pos) (iEnumS ts) (dEnumS fs) := by
  obtain ⟨pa, ev⟩ := ha
  refine ⟨h _ pa, fun R P hf G Q q => ev R P hf G _ fun d h1 m1 H1 v R1 g1 r1 f1 => ?_⟩
  obtain ⟨t, rfl, f1⟩ := f1
  obtain ⟨v, rfl, r⟩ := rvs1 r1
  cases r
  exact ⟨_, rfl, q _ _ _ _ _ _ R1 g1 wk_enumS f1⟩
theorem fi_zip (hK : X.K = K) (ha : FA K dd E X [e, e2] ts fs) (h : ∀ t, PA X [e, e2] t → PI X (.Tuple elts kk tpos) (.Call (.Name "zip" p) [e, e2] [] pos) (RZ.iZipA X.K t)) : FI K dd E X (.Tuple elts kk tpos) (.Call (.Name "zip" p) [e, e2] [] pos) (RZ.iZipA K ts) (dZip fs) := by
  obtain ⟨pa, ev⟩ := ha
  refine ⟨kk_zip hK (h _ pa), fun R P hf G Q q => ev R P hf G _ fun d h1 m1 H1 v R1 g1 r1 f1 => ?_⟩
  obtain ⟨x, y, rfl, f1⟩ := f1
  obtain ⟨v, w, rfl, r, r2⟩ := rvs2 r1
  rcases f1 with ⟨l, l2, rfl, rfl, f1⟩ | ⟨l, l2, el, el2, f1⟩
  · obtain ⟨a, rfl, ⟨vs, s⟩, S⟩ := seat_tup r
    obtain ⟨b, rfl, ⟨ws, s2⟩, S2⟩ := seat_tup r2
    refine ⟨a, b, vs, ws, rfl, .inr ⟨s, s2, q _ _ _ _ _ _ R1 g1 (wk_zipT S S2) ?_⟩⟩
    have : (fun _ : List Cell => True ∧ True) = fun _ => True := by funext; simp
    rw [this]
    exact f1
  · obtain ⟨a, rfl, ⟨vs, s⟩, S, c⟩ := seat_list R1 r el
    obtain ⟨b, rfl, ⟨ws, s2⟩, S2, c2⟩ := seat_list R1 r2 el2
    exact ⟨a, b, vs, ws, rfl, .inl ⟨s, s2, q _ _ _ _ _ _ R1 g1 (wk_zipL S S2) f1⟩⟩
end
end DL

end

section
set_option maxHeartbeats 1000000
/-! F6: for, comprehensions, defs and their calls over plain data. -/
namespace DL
open PySem PySem.Spec PyProof.Rows L2 KG
/-! ### for -/
def dLoop (chk : List Cell → Prop) (g : DTG) (tb : DS) (Dd : DEnds) (E : DX) : List D → Rho → List Cell → Prop
  | [], ρ, h => chk h ∧ Dd.nx ρ h
  | d :: l, ρ, h => chk h ∧ g d ρ h fun ρ1 h1 => tb { Dd with nx := fun ρ2 h2 => dLoop chk g tb Dd E l ρ2 h2, ct := fun ρ2 h2 => dLoop chk g tb Dd E l ρ2 h2, bk := Dd.nx } ρ1 h1 E
def dFor (fi : DI) (g : DTG) (tb : DS) : DS := fun Dd ρ h E => fi ρ h (fun lc h1 => dLoop lc.2 g tb Dd E lc.1 ρ h1) E
section
variable {K : PySem.W.Frag} {dd : Hid} {E : L2.St → XK} {X : Cx} {e tg iter : Expr} {fi : DI} {wi : TI} {gd : DTG} {g : TG} {f : DS} {body : List Stmt} {pos : Pos}
theorem loop_chk {chk : List Cell → Prop} {Dd : DEnds} {Ed : DX} {l : List D} {ρ : Rho} {h : List Cell} (q : dLoop chk gd f Dd Ed l ρ h) : chk h := by
  cases l <;> exact q.1
theorem drop_cons {α : Type} {l : List α} {i : Nat} {x : α} (e : l[i]? = some x) : l.drop i = x :: l.drop (i + 1) := by
  obtain ⟨hi, e⟩ := List.getElem?_eq_some_iff.mp e
  rw [List.drop_eq_getElem_cons hi, e]
theorem fs_for (hp : PassesOwn (model X.prog X.w) X.A X.env X.xe) (hc : X.calm = true) (hi : FI K dd E X tg iter wi fi) (hg : FG K dd X tg g gd) (hb : FSs K dd E X body f)
    (hs : ∀ x, foldedSetIterable iter X.env x = pure x := by intro _; rfl) : FS K dd E X (.For tg iter body [] pos) (dFor fi gd f) := by
  obtain ⟨pi, ei⟩ := hi
  obtain ⟨pg, eg⟩ := hg
  obtain ⟨t, p, ev⟩ := hb
  refine ⟨_, ps_for hp hc pi pg p hs, fun {ex m h H ρ σ Dd Ed} R P hf G Dn S => ei R P hf (G _) _ fun l chk h1 m1 H1 J R1 g1 W1 f1 => ?_⟩
  refine loop_of (n := l.length) (fun i x H H' => J.yld i H x H') (fun i σ' H' => ∃ ρ' h' m', Rel K dd ex m' H' h' ∧ Grow dd m1 H1 m' H' ∧ REnv K dd ex m' H' ρ' σ' ∧ dLoop chk gd f Dd Ed (l.drop i) ρ' h')
    (fun i σ' H' hi ⟨ρ', h', m', R', g', P', q'⟩ => W1.go ex i m' h' H' .refl R' g' (loop_chk q') hi) (fun _ _ _ _ _ y => y) (fun σ' H' ⟨ρ', h', m', R', g', P', q'⟩ => W1.stop ex m' h' H' .refl R' g' (loop_chk q'))
    ⟨ρ, h1, m1, R1, Grow.refl, P.grow g1, f1⟩ ?_ ?_
  · rintro i x σ' H' H2 hi y ⟨ρ', h', m', R', g', P', q'⟩
    obtain ⟨d, ed, R2, g2, r2⟩ := W1.yld ex i m' h' H' x H2 .refl R' g' (loop_chk q') hi y
    rw [drop_cons ed] at q'
    refine eg R2 (P'.grow g2) r2 q'.2 _ fun ρ3 h3 m3 H3 σ3 R3 g3 P3 q3 => ?_
    have g13 := (g'.comp R' g2).comp R2 g3
    have gS := g1.comp R1 g13
    refine ev R3 P3 q3 (fun σ4 => (G σ4).later R3 gS) _ ⟨fun ρ4 h4 m4 H4 σ4 R4 g4 P4 q4 => ?_, (S.later R3 gS).rt, (S.later R3 gS).nx, fun ρ4 h4 m4 H4 σ4 R4 g4 P4 q4 => ?_⟩
    · exact ⟨ρ4, h4, m4, R4, g13.comp R3 g4, P4, q4⟩
    · exact ⟨ρ4, h4, m4, R4, g13.comp R3 g4, P4, q4⟩
  · rintro σ' H' ⟨ρ', h', m', R', g', P', q'⟩
    rw [List.drop_length] at q'
    exact S.nx _ _ _ _ _ R' (g1.comp R1 g') P' q'.2
end
/-! ### comprehensions -/
def wipeD (ρ : Rho) : List Nat → Rho
  | [] => ρ
  | v :: vs => (wipeD ρ vs).set v none
def dLcGo (chk : List Cell → Prop) (g : DTG) (tt : DT) (te : DE) (E : DX) (ρ : Rho) (Q : List D → List Cell → Prop) : List D → List D → List Cell → Prop
  | [], acc, h => chk h ∧ Q acc h
  | d :: l, acc, h => chk h ∧ g d ρ h fun ρ1 h1 => tt ρ1 h1 (fun b h2 => if b = true then te ρ1 h2 (fun x h3 => acc.length < 1000000 ∧ dLcGo chk g tt te E ρ Q l (acc ++ [x]) h3) E else dLcGo chk g tt te E ρ Q l acc h2) E
def dLc (fi : DI) (g : DTG) (tt : DT) (te : DE) (vs : List Nat) : DE := fun ρ h Q E => fi ρ h (fun lc h1 => dLcGo lc.2 g tt te E (wipeD ρ vs) (fun acc h2 => Q (.lst acc) h2) lc.1 [] h1) E
/-- a target that stores in these slots alone -/
def Wn (g : TG) (vs : List Nat) : Prop := ∀ v σ H Q, g v σ H Q → g v σ H fun σ2 H2 => wipe σ2 vs = wipe σ vs ∧ Q σ2 H2
def Wns (g : TGs) (vs : List Nat) : Prop := ∀ us σ H Q, g us σ H Q → g us σ H fun σ2 H2 => wipe σ2 vs = wipe σ vs ∧ Q σ2 H2
theorem wipe_set {σ : L2.St} {i : Nat} {x : Option V} : ∀ {vs : List Nat}, i ∈ vs → wipe (σ.set i x) vs = wipe σ vs
  | [], h => by cases h
  | v :: vs, h => by
    show (wipe (σ.set i x) vs).set v none = (wipe σ vs).set v none
    by_cases e : i ∈ vs
    · rw [wipe_set e]
    · have e2 : i = v := by
        rcases List.mem_cons.mp h with h | h
        · exact h
        · exact absurd h e
      subst e2
      have e3 : ∀ us : List Nat, (wipe (σ.set i x) us).set i none = (wipe σ us).set i none := by
        intro us
        induction us with
        | nil => show (σ.set i x).set i none = σ.set i none; simp
        | cons u us ih =>
          show ((wipe (σ.set i x) us).set u none).set i none = ((wipe σ us).set u none).set i none
          by_cases hu : u = i
          · subst hu; rw [List.set_set, List.set_set]; exact ih
          · rw [List.set_comm _ _ hu, ih, List.set_comm _ _ hu]
      exact e3 vs
theorem wn_name {i : Nat} {vs : List Nat} (h : i ∈ vs) : Wn (gName i) vs := fun v σ H Q q => ⟨wipe_set h, q⟩
theorem wns_nil {vs : List Nat} : Wns gNil vs := fun us σ H Q q => ⟨q.1, rfl, q.2⟩
theorem wns_cons {g : TG} {gs : TGs} {vs : List Nat} (hm : ∀ v σ H (Q Q' : L2.St → Hp → Prop), (∀ σ H, Q σ H → Q' σ H) → g v σ H Q → g v σ H Q') (hms : ∀ v σ H (Q Q' : L2.St → Hp → Prop), (∀ σ H, Q σ H → Q' σ H) → gs v σ H Q → gs v σ H Q') (h1 : Wn g vs) (h2 : Wns gs vs) : Wns (gCons g gs) vs := fun us σ H Q q => by
  obtain ⟨v, r, e, q⟩ := q
  refine ⟨v, r, e, hm _ _ _ _ _ (fun σ2 H2 z => ?_) (h1 v σ H _ q)⟩
  exact hms _ _ _ _ _ (fun σ3 H3 y => ⟨y.1.trans z.1, y.2⟩) (h2 _ _ _ _ z.2)
theorem mn_name {i : Nat} : ∀ v σ H (Q Q' : L2.St → Hp → Prop), (∀ σ H, Q σ H → Q' σ H) → gName i v σ H Q → gName i v σ H Q' := fun _ _ _ _ _ h q => h _ _ q
theorem mns_nil : ∀ v σ H (Q Q' : L2.St → Hp → Prop), (∀ σ H, Q σ H → Q' σ H) → gNil v σ H Q → gNil v σ H Q' := fun _ _ _ _ _ h q => ⟨q.1, h _ _ q.2⟩
theorem mns_cons {g : TG} {gs : TGs} (hm : ∀ v σ H (Q Q' : L2.St → Hp → Prop), (∀ σ H, Q σ H → Q' σ H) → g v σ H Q → g v σ H Q') (hms : ∀ v σ H (Q Q' : L2.St → Hp → Prop), (∀ σ H, Q σ H → Q' σ H) → gs v σ H Q → gs v σ H Q') :
    ∀ v σ H (Q Q' : L2.St → Hp → Prop), (∀ σ H, Q σ H → Q' σ H) → gCons g gs v σ H Q → gCons g gs v σ H Q' := fun v σ H Q Q' h ⟨x, r, e, q⟩ => ⟨x, r, e, hm _ _ _ _ _ (fun σ2 H2 z => hms _ _ _ _ _ h z) q⟩
theorem wn_tup {K : PySem.W.Frag} {n : Nat} {gs : TGs} {vs : List Nat} (h : Wns gs vs) : Wn (gTup K n gs) vs := fun v σ H Q ⟨a, xs, e, s, l, q⟩ => ⟨a, xs, e, s, l, h _ _ _ _ q⟩
theorem mn_tup {K : PySem.W.Frag} {n : Nat} {gs : TGs} (hms : ∀ v σ H (Q Q' : L2.St → Hp → Prop), (∀ σ H, Q σ H → Q' σ H) → gs v σ H Q → gs v σ H Q') :
    ∀ v σ H (Q Q' : L2.St → Hp → Prop), (∀ σ H, Q σ H → Q' σ H) → gTup K n gs v σ H Q → gTup K n gs v σ H Q' := fun v σ H Q Q' h ⟨a, xs, e, s, l, q⟩ => ⟨a, xs, e, s, l, hms _ _ _ _ _ h q⟩
section
variable {K : PySem.W.Frag} {dd : Hid} {ex ex' m m' : List Addr} {H H' : Hp} {h : List Cell} {p : Addr} {o : HO}
mutual
theorem Rv.hid (hp : p ∈ ex) : ∀ {d : D} {v : V}, Rv K dd ex m H d v → Rv K dd ex m (upd H p o) d v
  | _, _, .non => .non
  | _, _, .bl b => .bl b
  | _, _, .int i => .int i
  | _, _, .str l => .str l
  | _, _, .tup (p := q) a b c r => .tup a b (by
      have e : upd H p o q = H q := upd_ne fun z => b.2 (z ▸ hp)
      rcases c with c | ⟨ob, c⟩
      · exact .inl (e.trans c)
      · exact .inr ⟨ob, e.trans c⟩) (Rvs.hid hp r)
  | _, _, .ktup k r => .ktup k (Rvs.hid hp r)
  | _, _, .lst (p := q) a b c r => .lst a b ((upd_ne fun z => b.2 (by rw [z]; exact hp)).trans c) (Rvs.hid hp r)
  | _, _, .dic (p := q) a b c e r => .dic a b ((upd_ne fun z => b.2 (by rw [z]; exact hp)).trans c) e (Rvs.hid hp r)
  | _, _, .dit (p := q) a b c e r => .dit a b ((upd_ne fun z => b.2 (by rw [z]; exact hp)).trans c) e (Rvs.hid hp r)
  | _, _, .obj a b c e r => .obj a b ⟨(upd_ne fun z => b.1.2 (by rw [z]; exact hp)).trans c.1, (upd_ne fun z => b.2.2 (by rw [z]; exact hp)).trans c.2⟩ e (Rvs.hid hp r)
  | _, _, .ref e => .ref e
  | _, _, .adr a => .adr a
  | _, _, .ty n => .ty n
  | _, _, .dice e => .dice e
  | _, _, .lam a b c e => .lam a b ((upd_ne fun z => b.1.2 (by rw [z]; exact hp)).trans c) ((upd_ne fun z => b.2.2 (by rw [z]; exact hp)).trans e)
  | _, _, .scr (p := q) c => .scr (c.imp id fun ⟨a, b, e⟩ => ⟨a, b, by
      have y : upd H p o q = H q := upd_ne fun z => b.2 (z ▸ hp)
      rcases e with e | ⟨ob, e⟩
      · exact .inl (y.trans e)
      · exact .inr ⟨ob, y.trans e⟩⟩)
theorem Rvs.hid (hp : p ∈ ex) : ∀ {ds : List D} {vs : List V}, Rvs K dd ex m H ds vs → Rvs K dd ex m (upd H p o) ds vs
  | _, _, .nil => .nil
  | _, _, .cons r t => .cons (Rv.hid hp r) (Rvs.hid hp t)
end
theorem Rel.hid (R : Rel K dd ex m H h) (hp : p ∈ ex) (hd : ¬ dd.On p) (ho : Lk (some o)) : Rel K dd ex m (upd H p o) h := by
  have hm := (R.xs p hp).1
  refine ⟨R.nd, R.on, R.ok.upd hd (R.xs p hp).2.noext, fun q z => ⟨(R.xs q z).1, ?_⟩, R.len, fun i c q e1 e2 => ?_⟩
  · by_cases e : q = p
    · rw [e, upd_same]; exact ho
    · rw [upd_ne e]; exact (R.xs q z).2
  · have e : upd H p o q = H q := upd_ne fun z => hm (z ▸ List.mem_of_getElem? e2)
    have q0 := R.cs i c q e1 e2
    cases c with
    | lst l => obtain ⟨vs, z, r⟩ := q0; exact ⟨vs, e.trans z, r.hid hp⟩
    | dic l => obtain ⟨vs, z, y, r⟩ := q0; exact ⟨vs, e.trans z, y, r.hid hp⟩
    | dit l => obtain ⟨vs, z, y, r⟩ := q0; exact ⟨vs, e.trans z, y, r.hid hp⟩
    | ins C l => obtain ⟨vs, dx, z, w, y, r⟩ := q0; exact ⟨vs, dx, e.trans z, ⟨(upd_ne fun z => w.2.2.2 (by rw [z]; exact hp)).trans w.1, w.2⟩, y, r.hid hp⟩
/-- fewer hidden places, or more where nothing stood -/
theorem CellOk.exq {c : Cell} (q : Exq ex H ex') (r : CellOk K dd ex m H c p) : CellOk K dd ex' m H c p := by
  cases c with
  | lst l => obtain ⟨vs, z, r⟩ := r; exact ⟨vs, z, r.exq q⟩
  | dic l => obtain ⟨vs, z, y, r⟩ := r; exact ⟨vs, z, y, r.exq q⟩
  | dit l => obtain ⟨vs, z, y, r⟩ := r; exact ⟨vs, z, y, r.exq q⟩
  | ins C l => obtain ⟨vs, dx, z, w, y, r⟩ := r; exact ⟨vs, dx, z, ⟨w.1, w.2.1, w.2.2.1, exq_rd q w.2.2.2 (.inl w.1)⟩, y, r.exq q⟩
theorem Rel.sub (R : Rel K dd ex m H h) (q : ∀ p ∈ ex', p ∈ ex) : Rel K dd ex' m H h :=
  ⟨R.nd, R.on, R.ok, fun p hp => R.xs p (q p hp), R.len, fun i c p e1 e2 => (R.cs i c p e1 e2).exq fun p hp => .inl (q p hp)⟩
/-- a new hidden thing -/
theorem Rel.hide (R : Rel K dd ex m H h) (hp : H p = none) (ho : Lk (some o) := by trivial) : Rel K dd (p :: ex) m (upd H p o) h ∧ Grow dd m H m (upd H p o) ∧ ¬ dd.On p ∧ p ∉ ex := by
  obtain ⟨R2, g, a, b, c⟩ := R.new (o := o) hp
  refine ⟨⟨R2.nd, R2.on, R2.ok, fun q hq => ?_, R2.len, fun i c q e1 e2 => ?_⟩, g, b, c⟩
  · rcases List.mem_cons.mp hq with e | hq
    · rw [e, upd_same]; exact ⟨a, ho⟩
    · exact R2.xs q hq
  · refine CellOk.grow g (upd_ne fun z => a (z ▸ List.mem_of_getElem? e2)) ((R.cs i c q e1 e2).exq fun y hy => ?_)
    rcases List.mem_cons.mp hy with e | hy
    · rw [e]; exact .inr hp
    · exact .inl hy
theorem REnv.exq {ρ : Rho} {σ : L2.St} (q : Exq ex H ex') (P : REnv K dd ex m H ρ σ) : REnv K dd ex' m H ρ σ := ⟨P.len, fun i d e => by
  obtain ⟨v, a, b⟩ := P.at_ i d e
  exact ⟨v, a, b.exq q⟩⟩
theorem REnv.wipes {ρ : Rho} {σ : L2.St} (P : REnv K dd ex m H ρ σ) : ∀ vs : List Nat, REnv K dd ex m H (wipeD ρ vs) (L2.wipe σ vs)
  | [] => P
  | _ :: vs => (P.wipes vs).wipe
theorem XRep.exq {e : Exn} {cls : Value} {d : Option Addr} (q : Exq ex H ex') (r : XRep K dd ex m H e cls d) : XRep K dd ex' m H e cls d := by
  obtain ⟨e1, r⟩ := r
  refine ⟨e1, ?_⟩
  cases hf : e.fs with
  | none => rw [hf] at r; exact r
  | some fx =>
    rw [hf] at r
    obtain ⟨a, v, r1, r2, r3⟩ := r
    exact ⟨a, v, r1, r2, r3.exq q⟩
end
def FTs (K : PySem.W.Frag) (dd : Hid) (E : L2.St → XK) (X : Cx) (es : List Expr) (tt : TT) (ft : DT) : Prop := PTs X es tt ∧ EvT K dd E tt ft
section
variable {K : PySem.W.Frag} {dd : Hid} {E : L2.St → XK} {X : Cx} {c : Expr} {tt : TT} {ft : DT}
theorem fts_nil : FTs K dd E X [] tYes (dNow true) := ⟨pts_nil, ev_nowB⟩
theorem fts_one (h : FT K dd E X c tt ft) : FTs K dd E X [c] tt ft := by obtain ⟨p, e⟩ := h; exact ⟨pts_one p, e⟩
theorem lcgo_chk {chk : List Cell → Prop} {gd : DTG} {fe : DE} {Ed : DX} {ρ : Rho} {Q : List D → List Cell → Prop} {l acc : List D} {h : List Cell} (q : dLcGo chk gd ft fe Ed ρ Q l acc h) : chk h := by
  cases l <;> exact q.1
theorem ev_lc {wi : TI} {fi : DI} {g : TG} {gd : DTG} {te : TE} {fe : DE} {vs : List Nat} (ei : EvI K dd E wi fi) (eg : EvTg K dd g gd) (hw : Wn g vs) (et : EvT K dd E tt ft) (ee : EvE K dd E te fe) (hE : ∀ σ σ', E σ = E σ') :
    EvE K dd E (tLc wi g tt te vs) (dLc fi gd ft fe vs) := fun {ex m h H ρ σ Qd Ed} R P hf G Q q => ei R P hf G _ fun l chk h1 m1 H1 J R1 g1 W1 f1 D hD => by
  obtain ⟨R2, g2, nd, nx⟩ := R1.hide (o := .lst []) hD
  have hq0 : Exq ex H1 (D :: ex) := fun p hp => by
    rcases List.mem_cons.mp hp with e | hp
    · rw [e]; exact .inr hD
    · exact .inl hp
  refine lc_of (n := l.length) (fun i x H H' => J.yld i H x H') (fun i H' => ∃ h' m' acc us, Rel K dd (D :: ex) m' H' h' ∧ Grow dd m1 H1 m' H' ∧ H' D = some (.lst us) ∧ Rvs K dd (D :: ex) m' H' acc us ∧ dLcGo chk gd ft fe Ed (wipeD ρ vs) (fun acc h2 => Qd (.lst acc) h2) (l.drop i) acc h')
    (fun i H' hi ⟨h', m', acc, us, R', g', hd', r', q'⟩ => W1.go _ i m' h' H' hq0 R' g' (lcgo_chk q') hi) (fun _ _ _ _ _ y => y) (fun H' ⟨h', m', acc, us, R', g', hd', r', q'⟩ => W1.stop _ m' h' H' hq0 R' g' (lcgo_chk q'))
    ⟨h1, m1, [], [], R2, g2, upd_same, .nil, f1⟩ ?_ ?_
  · rintro i x H' H2 hi y ⟨h', m', acc, us, R', g', hd', r', q'⟩
    obtain ⟨d, ed, R3, g3, r3⟩ := W1.yld _ i m' h' H' x H2 hq0 R' g' (lcgo_chk q') hi y
    rw [drop_cons ed] at q'
    have g13 := g'.comp R' g3
    have P1 : REnv K dd (D :: ex) m' H2 (wipeD ρ vs) (wipe σ vs) := (((P.grow g1).exq hq0).grow g13).wipes vs
    have Ge : ∀ {m5 H5 h5}, Rel K dd (D :: ex) m5 H5 h5 → Grow dd m1 H1 m5 H5 → ∀ σ', Goes K dd (D :: ex) E σ' m5 H5 Ed := fun {m5 H5 h5} R5 g5 σ' e h6 m6 H6 R6 g6 q6 cls dx rx => by
      rw [hE σ' σ]
      refine G e h6 m6 H6 (R6.sub fun p hp => List.mem_cons_of_mem _ hp) (g1.comp R1 (g5.comp R5 g6)) q6 cls dx (rx.exq fun p hp => .inl (List.mem_cons_of_mem _ hp))
    have ww : wipe (wipe σ vs) vs = wipe σ vs := by
      have : ∀ us : List Nat, (∀ u ∈ us, u ∈ vs) → wipe (wipe σ us) vs = wipe σ vs := by
        intro us
        induction us with
        | nil => intro _; rfl
        | cons u us ih =>
          intro hu
          show wipe ((wipe σ us).set u none) vs = _
          rw [wipe_set (hu u (List.mem_cons_self ..))]
          exact ih fun w hw => hu w (List.mem_cons_of_mem _ hw)
      exact this vs fun _ h => h
    have kD : ∀ {m5 H5 h5}, Rel K dd (D :: ex) m5 H5 h5 → Grow dd m' H2 m5 H5 → H5 D = some (.lst us) := fun {m5 H5 h5} R5 g5 => g5.keep D _ (R'.xs D (List.mem_cons_self ..)).1 nd (g3.keep D _ (R'.xs D (List.mem_cons_self ..)).1 nd hd')
    have z := hw x (wipe σ vs) H2 _ (eg R3 P1 r3 q'.2 (fun σ2 H3 => tt σ2 H3 fun b H4 => BrL b te D (fun H' => ∃ h' m' acc us, Rel K dd (D :: ex) m' H' h' ∧ Grow dd m1 H1 m' H' ∧ H' D = some (.lst us) ∧ Rvs K dd (D :: ex) m' H' acc us ∧ dLcGo chk gd ft fe Ed (wipeD ρ vs) (fun acc h2 => Qd (.lst acc) h2) (l.drop (i + 1)) acc h') σ2 H4)
      fun ρ3 h3 m3 H3 σ3 R4 g4 P3 q3 => et R4 P3 q3 (Ge R4 (g13.comp R3 g4) _) _ fun b h4 m4 H4 c R5 g5 e5 q5 => by
        subst e5
        have g45 := g4.comp R4 g5
        unfold BrL
        cases c
        · rw [if_neg Bool.false_ne_true] at q5 ⊢
          exact ⟨h4, m4, acc, us, R5, g13.comp R3 g45, kD R5 g45, r'.grow (g3.comp R3 g45), q5⟩
        · rw [if_pos rfl] at q5 ⊢
          refine ee R5 (P3.grow g5) q5 (Ge R5 (g13.comp R3 g45) _) _ fun y h6 m6 H6 v R6 g6 r6 q6 => ?_
          have g46 := g45.comp R5 g6
          have r6' := r'.grow (g3.comp R3 g46)
          refine ⟨us, kD R6 g46, Nat.lt_of_lt_of_le (by rw [← r'.length]; exact q6.1) line_ge, h6, m6, acc ++ [y], us ++ [v], R6.hid (List.mem_cons_self ..) nd trivial, ⟨(g13.comp R3 g46).pre, fun p o a b e => ?_⟩, upd_same, (r6'.append (Rvs.one r6)).hid (List.mem_cons_self ..), q6.2⟩
          rw [upd_ne fun z => by rw [z, hD] at e; cases e]
          exact (g13.comp R3 g46).keep p o a b e)
    rw [ww] at z
    exact z
  · rintro H' ⟨h', m', acc, us, R', g', hd', r', q'⟩
    rw [List.drop_length] at q'
    refine q _ h' m' H' _ (R'.sub fun p hp => List.mem_cons_of_mem _ hp) (g1.comp R1 g') ?_ q'.2
    exact .lst (R'.xs D (List.mem_cons_self ..)).1 ⟨nd, nx⟩ hd' (r'.exq fun p hp => .inl (List.mem_cons_of_mem _ hp))

theorem fe_lc {elt tg iter : Expr} {ifs : List Expr} {scope : Scope} {own : List (Str × Nat)} {pos : Pos} {wi : TI} {fi : DI} {g : TG} {gd : DTG} {te : TE} {fe : DE} (hE : ∀ σ σ', E σ = E σ') (hc : X.calm = true) (hN : X.N.Nodup) (hi : FI K dd E X tg iter wi fi) (ok : BlkOk X.N X.env.scope scope own) (hw : Wn g (own.map (·.2)))
    (hg : ∀ (s : Shared) (H : Hp) (C : Addr) (cl : List (Str × Addr)) (fp : List Addr), FG K dd (X.blk s H scope (compEnvC scope cl C X.env) fp) tg g gd) (ht : ∀ (s : Shared) (H : Hp) (C : Addr) (cl : List (Str × Addr)) (fp : List Addr), FTs K dd E (X.blk s H scope (compEnvC scope cl C X.env) fp) ifs tt ft)
    (he : ∀ (s : Shared) (H : Hp) (C : Addr) (cl : List (Str × Addr)) (fp : List Addr), FE K dd E (X.blk s H scope (compEnvC scope cl C X.env) fp) elt te fe) (hs : ∀ x, foldedSetIterable iter X.env x = pure x := by intro _; rfl) (s0 : Shared) :
    FE K dd E X (.ListComp elt [⟨tg, iter, ifs, 0⟩] scope pos) (tLc wi g tt te (own.map (·.2))) (dLc fi gd ft fe (own.map (·.2))) :=
  ⟨pe_lc hc hN hi.1 ok (fun s H C cl fp => (hg s H C cl fp).1) (fun s H C cl fp => (ht s H C cl fp).1) (fun s H C cl fp => (he s H C cl fp).1) hs,
    ev_lc hi.2 (hg s0 (fun _ => none) 0 [] []).2 hw (ht s0 (fun _ => none) 0 [] []).2 (he s0 (fun _ => none) 0 [] []).2 hE⟩
theorem fs_setLc {i : Nat} {y : Str} {py : Pos} {elt tg iter : Expr} {ifs : List Expr} {scope : Scope} {own : List (Str × Nat)} {pos spos : Pos} {wi : TI} {fi : DI} {g : TG} {gd : DTG} {te : TE} {fe : DE} (hE : ∀ σ σ', E σ = E σ') (hc : X.calm = true) (hN : X.N.Nodup) (hy : X.N[i]? = some y) (hyl : X.env.scope.names.lookup y = some .local)
    (hsw : swapsWith (.ListComp elt [⟨tg, iter, ifs, 0⟩] scope pos) (some (.Name y py)) spos.line X.env = pure true) (hi : FI K dd E X tg iter wi fi) (ok : BlkOk X.N X.env.scope scope own) (hw : Wn g (own.map (·.2)))
    (hg : ∀ (s : Shared) (H : Hp) (C : Addr) (cl : List (Str × Addr)) (fp : List Addr), FG K dd (X.blk s H scope (compEnvC scope cl C X.env) fp) tg g gd) (ht : ∀ (s : Shared) (H : Hp) (C : Addr) (cl : List (Str × Addr)) (fp : List Addr), FTs K dd E (X.blk s H scope (compEnvC scope cl C X.env) fp) ifs tt ft)
    (he : ∀ (s : Shared) (H : Hp) (C : Addr) (cl : List (Str × Addr)) (fp : List Addr), FE K dd E (X.blk s H scope (compEnvC scope cl C X.env) fp) elt te fe) (hs : ∀ x, foldedSetIterable iter X.env x = pure x := by intro _; rfl) (s0 : Shared) :
    FS K dd E X (.Assign [.Name y py] (.ListComp elt [⟨tg, iter, ifs, 0⟩] scope pos) spos) (dSet i (dLc fi gd ft fe (own.map (·.2)))) := by
  refine ⟨_, ps_setLc hc hN hy hyl hsw hi.1 ok (fun s H C cl fp => (hg s H C cl fp).1) (fun s H C cl fp => (ht s H C cl fp).1) (fun s H C cl fp => (he s H C cl fp).1) hs, fun R P hf G Dn S => ?_⟩
  refine ev_lc hi.2 (hg s0 (fun _ => none) 0 [] []).2 hw (ht s0 (fun _ => none) 0 [] []).2 (he s0 (fun _ => none) 0 [] []).2 hE R P hf (G _) _ fun d h1 m1 H1 v R1 g1 r1 q1 => ?_
  exact S.nx _ _ _ _ _ R1 g1 ((P.grow g1).set r1) q1
end
/-! ### defs -/
mutual
def noRef : D → Bool
  | .ref _ => false
  | .tup l => noRefs l
  | .lst l => noRefs l
  | .dic l => noRefK l
  | .dit l => noRefT l
  | .obj _ l => noRefO l
  | _ => true
def noRefs : List D → Bool
  | [] => true
  | d :: l => noRef d && noRefs l
def noRefK : List (Key × D) → Bool
  | [] => true
  | d :: l => noRef d.2 && noRefK l
def noRefT : List (List Key × D) → Bool
  | [] => true
  | d :: l => noRef d.2 && noRefT l
def noRefO : List (Str × D) → Bool
  | [] => true
  | d :: l => noRef d.2 && noRefO l
end
/-- what is given out: a cell's list or dict, nobody will change it any more -/
def frz1 (h : List Cell) : D → Option D
  | .ref n => match h[n]? with
    | some (.lst l) => if noRefs l = true then some (.lst l) else none
    | some (.dic l) => if noRefK l = true then some (.dic l) else none
    | some (.dit l) => if noRefT l = true then some (.dit l) else none
    | some (.ins C l) => if noRefO l = true then some (.obj C l) else none
    | _ => none
  | d => if noRef d = true then some d else none
def frzs (h : List Cell) : List D → Option (List D)
  | [] => some []
  | d :: l => match frz1 h d, frzs h l with
    | some x, some xs => some (x :: xs)
    | _, _ => none
def frz (h : List Cell) : D → Option D
  | .tup l => (frzs h l).map .tup
  | d => frz1 h d
theorem noRefK_map : ∀ {l : List (Key × D)}, noRefK l = true → noRefs (l.map (·.2)) = true
  | [], _ => rfl
  | d :: l, h => by
    rw [noRefK] at h
    obtain ⟨h1, h2⟩ := Bool.and_eq_true_iff.mp h
    show noRefs (d.2 :: l.map (·.2)) = true
    rw [noRefs, h1, noRefK_map h2]
    rfl
theorem noRefT_map : ∀ {l : List (List Key × D)}, noRefT l = true → noRefs (l.map (·.2)) = true
  | [], _ => rfl
  | d :: l, h => by
    rw [noRefT] at h
    obtain ⟨h1, h2⟩ := Bool.and_eq_true_iff.mp h
    show noRefs (d.2 :: l.map (·.2)) = true
    rw [noRefs, h1, noRefT_map h2]
    rfl
theorem noRefO_map : ∀ {l : List (Str × D)}, noRefO l = true → noRefs (l.map (·.2)) = true
  | [], _ => rfl
  | d :: l, h => by
    rw [noRefO] at h
    obtain ⟨h1, h2⟩ := Bool.and_eq_true_iff.mp h
    show noRefs (d.2 :: l.map (·.2)) = true
    rw [noRefs, h1, noRefO_map h2]
    rfl
section
variable {K : PySem.W.Frag} {dd : Hid} {ex m m' : List Addr} {H H' : Hp} {h : List Cell}
mutual
theorem rv_nr : ∀ {d : D} {v : V}, noRef d = true → Rv K dd ex m H d v → (∀ p ∈ m', p ∈ m) → (∀ p ∈ m, p ∉ m' → p ∉ ex ∧ ¬ dd.On p) → Rv K dd ex m' H d v
  | _, _, _, .non, _, _ => .non
  | _, _, _, .bl b, _, _ => .bl b
  | _, _, _, .int i, _, _ => .int i
  | _, _, _, .str l, _, _ => .str l
  | _, _, n, .tup a b c r, s, t => .tup (fun z => a (s _ z)) b c (rvs_nr (by rw [noRef] at n; exact n) r s t)
  | _, _, n, .ktup k r, s, t => .ktup k (rvs_nr (by rw [noRef] at n; exact n) r s t)
  | _, _, n, .lst a b c r, s, t => .lst (fun z => a (s _ z)) b c (rvs_nr (by rw [noRef] at n; exact n) r s t)
  | _, _, n, .dic a b c e r, s, t => .dic (fun z => a (s _ z)) b c e (rvs_nr (by rw [noRef] at n; exact noRefK_map n) r s t)
  | _, _, n, .dit a b c e r, s, t => .dit (fun z => a (s _ z)) b c e (rvs_nr (by rw [noRef] at n; exact noRefT_map n) r s t)
  | _, _, n, .obj a b c e r, s, t => .obj ⟨fun z => a.1 (s _ z), fun z => a.2 (s _ z)⟩ b c e (rvs_nr (by rw [noRef] at n; exact noRefO_map n) r s t)
  | _, _, _, .adr a, _, _ => .adr a
  | _, _, _, .ty n, _, _ => .ty n
  | _, _, _, .dice e, _, _ => .dice e
  | _, _, _, .lam a b c e, s, _ => .lam ⟨fun z => a.1 (s _ z), fun z => a.2 (s _ z)⟩ b c e
  | _, _, _, .scr c, s, _ => .scr (c.imp id fun ⟨a, b, e⟩ => ⟨fun z => a (s _ z), b, e⟩)
theorem rvs_nr : ∀ {ds : List D} {vs : List V}, noRefs ds = true → Rvs K dd ex m H ds vs → (∀ p ∈ m', p ∈ m) → (∀ p ∈ m, p ∉ m' → p ∉ ex ∧ ¬ dd.On p) → Rvs K dd ex m' H ds vs
  | _, _, _, .nil, _, _ => .nil
  | _, _, n, .cons r t, s, u => .cons (rv_nr (by rw [noRefs] at n; exact (Bool.and_eq_true_iff.mp n).1) r s u) (rvs_nr (by rw [noRefs] at n; exact (Bool.and_eq_true_iff.mp n).2) t s u)
end
end
end DL

end

section
set_option maxHeartbeats 1000000
/-! F7: defs over plain data, their calls; cells. -/
namespace DL
open PySem PySem.Spec PyProof.Rows L2 KG
section
variable {K : PySem.W.Frag} {dd : Hid} {ex m m' : List Addr} {H H' : Hp} {h : List Cell}
mutual
theorem rv_in : ∀ {d : D} {v : V}, noRef d = true → Rv K dd ex m H d v → Rv K dd (m ++ ex) [] H d v
  | _, _, _, .non => .non
  | _, _, _, .bl b => .bl b
  | _, _, _, .int i => .int i
  | _, _, _, .str l => .str l
  | _, _, n, .tup a b c r => .tup (by simp) ⟨b.1, fun z => (List.mem_append.mp z).elim a b.2⟩ c (rvs_in (by rw [noRef] at n; exact n) r)
  | _, _, n, .ktup k r => .ktup k (rvs_in (by rw [noRef] at n; exact n) r)
  | _, _, n, .lst a b c r => .lst (by simp) ⟨b.1, fun z => (List.mem_append.mp z).elim a b.2⟩ c (rvs_in (by rw [noRef] at n; exact n) r)
  | _, _, n, .dic a b c e r => .dic (by simp) ⟨b.1, fun z => (List.mem_append.mp z).elim a b.2⟩ c e (rvs_in (by rw [noRef] at n; exact noRefK_map n) r)
  | _, _, n, .dit a b c e r => .dit (by simp) ⟨b.1, fun z => (List.mem_append.mp z).elim a b.2⟩ c e (rvs_in (by rw [noRef] at n; exact noRefT_map n) r)
  | _, _, n, .obj a b c e r => .obj (by simp) ⟨⟨b.1.1, fun z => (List.mem_append.mp z).elim a.1 b.1.2⟩, b.2.1, fun z => (List.mem_append.mp z).elim a.2 b.2.2⟩ c e (rvs_in (by rw [noRef] at n; exact noRefO_map n) r)
  | _, _, _, .adr a => .adr a
  | _, _, _, .ty n => .ty n
  | _, _, _, .dice e => .dice e
  | _, _, _, .lam a b c e => .lam (by simp) ⟨⟨b.1.1, fun z => (List.mem_append.mp z).elim a.1 b.1.2⟩, b.2.1, fun z => (List.mem_append.mp z).elim a.2 b.2.2⟩ c e
  | _, _, _, .scr c => .scr (c.imp id fun ⟨a, b, e⟩ => ⟨by simp, ⟨b.1, fun z => (List.mem_append.mp z).elim a b.2⟩, e⟩)
theorem rvs_in : ∀ {ds : List D} {vs : List V}, noRefs ds = true → Rvs K dd ex m H ds vs → Rvs K dd (m ++ ex) [] H ds vs
  | _, _, _, .nil => .nil
  | _, _, n, .cons r t => .cons (rv_in (by rw [noRefs] at n; exact (Bool.and_eq_true_iff.mp n).1) r) (rvs_in (by rw [noRefs] at n; exact (Bool.and_eq_true_iff.mp n).2) t)
end
mutual
theorem rv_out : ∀ {d : D} {v : V}, Rv K dd (m ++ ex) [] H d v → Rv K dd ex m H d v
  | _, _, .non => .non
  | _, _, .bl b => .bl b
  | _, _, .int i => .int i
  | _, _, .str l => .str l
  | _, _, .tup a b c r => .tup (fun z => b.2 (List.mem_append_left _ z)) ⟨b.1, fun z => b.2 (List.mem_append_right _ z)⟩ c (rvs_out r)
  | _, _, .ktup k r => .ktup k (rvs_out r)
  | _, _, .lst a b c r => .lst (fun z => b.2 (List.mem_append_left _ z)) ⟨b.1, fun z => b.2 (List.mem_append_right _ z)⟩ c (rvs_out r)
  | _, _, .dic a b c e r => .dic (fun z => b.2 (List.mem_append_left _ z)) ⟨b.1, fun z => b.2 (List.mem_append_right _ z)⟩ c e (rvs_out r)
  | _, _, .dit a b c e r => .dit (fun z => b.2 (List.mem_append_left _ z)) ⟨b.1, fun z => b.2 (List.mem_append_right _ z)⟩ c e (rvs_out r)
  | _, _, .obj a b c e r => .obj ⟨fun z => b.1.2 (List.mem_append_left _ z), fun z => b.2.2 (List.mem_append_left _ z)⟩ ⟨⟨b.1.1, fun z => b.1.2 (List.mem_append_right _ z)⟩, b.2.1, fun z => b.2.2 (List.mem_append_right _ z)⟩ c e (rvs_out r)
  | _, _, .ref e => by simp at e
  | _, _, .adr a => .adr a
  | _, _, .ty n => .ty n
  | _, _, .dice e => .dice e
  | _, _, .lam a b c e => .lam ⟨fun z => b.1.2 (List.mem_append_left _ z), fun z => b.2.2 (List.mem_append_left _ z)⟩ ⟨⟨b.1.1, fun z => b.1.2 (List.mem_append_right _ z)⟩, b.2.1, fun z => b.2.2 (List.mem_append_right _ z)⟩ c e
  | _, _, .scr c => .scr (c.imp id fun ⟨a, b, e⟩ => ⟨fun z => b.2 (List.mem_append_left _ z), ⟨b.1, fun z => b.2 (List.mem_append_right _ z)⟩, e⟩)
theorem rvs_out : ∀ {ds : List D} {vs : List V}, Rvs K dd (m ++ ex) [] H ds vs → Rvs K dd ex m H ds vs
  | _, _, .nil => .nil
  | _, _, .cons r t => .cons (rv_out r) (rvs_out t)
end
/-- a def is entered: its caller's cells are hidden | it is left -/
theorem Rel.enter (R : Rel K dd ex m H h) : Rel K dd (m ++ ex) [] H [] :=
  ⟨List.nodup_nil, fun p e => by simp, R.ok, fun p hp => ⟨by simp, (List.mem_append.mp hp).elim R.lk fun z => (R.xs p z).2⟩, rfl, fun i c p e => by simp at e⟩
theorem Rel.leave (R : Rel K dd ex m H h) (R' : Rel K dd (m ++ ex) [] H' []) (g : Grow dd [] H [] H') : Rel K dd ex m H' h ∧ Grow dd m H m H' := by
  have g' : Grow dd m H m H' := ⟨⟨[], by simp, by simp⟩, fun p o a b e => g.keep p o (by simp) b e⟩
  have same : ∀ p ∈ m, H' p = H p := fun p hp => by
    cases e : H p with
    | none => exact absurd e (R.there hp)
    | some o => exact g.keep p o (by simp) (fun z => R.on p z hp) e
  refine ⟨⟨R.nd, R.on, R'.ok, fun p hp => ⟨(R.xs p hp).1, (R'.xs p (List.mem_append_right _ hp)).2⟩, R.len, fun i c p e1 e2 => ?_⟩, g'⟩
  exact (R.cs i c p e1 e2).grow g' (same p (List.mem_of_getElem? e2))
theorem frz1_ok {d d' : D} {v : V} (R : Rel K dd ex m H h) (r : Rv K dd ex m H d v) (e : frz1 h d = some d') : Rv K dd ex [] H d' v := by
  have ou : ∀ p ∈ m, p ∉ ([] : List Addr) → p ∉ ex ∧ ¬ dd.On p := fun p hp _ => ⟨fun z => (R.xs p z).1 hp, fun z => R.on p z hp⟩
  have flat : ∀ {d : D}, noRef d = true → Rv K dd ex m H d v → Rv K dd ex [] H d v := fun n r => rv_nr n r (by simp) ou
  cases d with
  | ref n =>
    cases r with
    | ref hn =>
      unfold frz1 at e
      simp only at e
      have hm := List.mem_of_getElem? hn
      split at e
      · rename_i l hc
        split at e
        · rename_i nr
          cases e
          obtain ⟨vs, z, q⟩ := R.cs n _ _ hc hn
          exact .lst (by simp) ⟨fun z => R.on _ z hm, fun z => (R.xs _ z).1 hm⟩ z (rvs_nr nr q (by simp) ou)
        · cases e
      · rename_i l hc
        split at e
        · rename_i nr
          cases e
          obtain ⟨vs, z, y, q⟩ := R.cs n _ _ hc hn
          exact .dic (by simp) ⟨fun z => R.on _ z hm, fun z => (R.xs _ z).1 hm⟩ z y (rvs_nr (noRefK_map nr) q (by simp) ou)
        · cases e
      · rename_i l hc
        split at e
        · rename_i nr
          cases e
          obtain ⟨vs, z, y, q⟩ := R.cs n _ _ hc hn
          exact .dit (by simp) ⟨fun z => R.on _ z hm, fun z => (R.xs _ z).1 hm⟩ z y (rvs_nr (noRefT_map nr) q (by simp) ou)
        · cases e
      · rename_i C l hc
        split at e
        · rename_i nr
          cases e
          obtain ⟨vs, dx, z, w, y, q⟩ := R.cs n _ _ hc hn
          exact .obj (by simp) ⟨⟨fun z => R.on _ z hm, fun z => (R.xs _ z).1 hm⟩, w.2.2⟩ ⟨z, w.1⟩ y (rvs_nr (noRefO_map nr) q (by simp) ou)
        · cases e
      · cases e
  | _ =>
    unfold frz1 at e
    simp only at e
    split at e
    · rename_i nr
      cases e
      exact flat nr r
    · cases e
theorem frzs_ok : ∀ {ds es : List D} {vs : List V}, Rel K dd ex m H h → Rvs K dd ex m H ds vs → frzs h ds = some es → Rvs K dd ex [] H es vs
  | [], _, _, _, .nil, e => by cases e; exact .nil
  | d :: l, _, _, R, .cons r t, e => by
    rw [frzs] at e
    cases q1 : frz1 h d with
    | none => rw [q1] at e; cases e
    | some x =>
      cases q2 : frzs h l with
      | none => rw [q1, q2] at e; cases e
      | some xs =>
        rw [q1, q2] at e
        cases e
        exact .cons (frz1_ok R r q1) (frzs_ok R t q2)
theorem frz_ok {d d' : D} {v : V} (R : Rel K dd ex m H h) (r : Rv K dd ex m H d v) (e : frz h d = some d') : Rv K dd ex [] H d' v := by
  cases d with
  | tup l =>
    unfold frz at e
    simp only at e
    cases q : frzs h l with
    | none => rw [q] at e; cases e
    | some es =>
      rw [q] at e
      cases e
      have ou : ∀ p ∈ m, p ∉ ([] : List Addr) → p ∉ ex ∧ ¬ dd.On p := fun p hp _ => ⟨fun z => (R.xs p z).1 hp, fun z => R.on p z hp⟩
      cases r with
      | tup a b c r => exact .tup (by simp) b c (frzs_ok R r q)
      | ktup k r => exact .ktup k (frzs_ok R r q)
  | _ => exact frz1_ok R r e
end
/-! ### a def's promise over plain data -/
abbrev DSp := List D → (D → Prop) → (Exn → Prop) → Prop
def spD (K : PySem.W.Frag) (tb : List (Addr × Str)) (sp : DSp) : Sp := fun vs H Q E => ∃ (dd : Hid) (ex : List Addr) (ds : List D) (Qd : D → Prop) (Ed : Exn → Prop), dd.tabs = tb ∧ Rel K dd ex [] H [] ∧ Rvs K dd ex [] H ds vs ∧ noRefs ds = true ∧ sp ds Qd Ed ∧
  (∀ d H' v, Rel K dd ex [] H' [] → Grow dd [] H [] H' → Rv K dd ex [] H' d v → Qd d → Q v H') ∧ ∀ e H' cls dx, Rel K dd ex [] H' [] → Grow dd [] H [] H' → XRep K dd ex [] H' e cls dx → Ed e → E cls dx H'
def startD (N : List Str) (ds : List D) : Rho := ds.map some ++ List.replicate (N.length - ds.length) none
/-- the ends of a def -/
def fnEnds (Q : D → Prop) : DEnds := { nx := fun _ _ => Q .non, rt := fun d h => ∃ d', frz h d = some d' ∧ Q d' }
section
variable {P : Program} {w : World} {K : PySem.W.Frag} {mg : Str → Option Value} {base : Heap} {ps : List Str} {k : Nat} {f : Addr} {fd : FuncData} {sp : DSp} {tb : List (Addr × Str)}
theorem renv_start {dd : Hid} {ex : List Addr} {H : Hp} {N : List Str} : ∀ {ds : List D} {vs : List V}, Rvs K dd ex [] H ds vs → REnv K dd ex [] H (startD N ds) (L2.start N vs) := fun {ds vs} r => by
  refine ⟨by simp [startD, L2.start, r.length], fun i d e => ?_⟩
  unfold startD at e
  unfold L2.start
  by_cases hi : i < ds.length
  · rw [List.getElem?_append_left (by simpa using hi), List.getElem?_map] at e
    rw [List.getElem?_append_left (by rw [List.length_map, ← r.length]; exact hi), List.getElem?_map]
    cases q : ds[i]? with
    | none => rw [q] at e; cases e
    | some x =>
      rw [q] at e
      cases e
      obtain ⟨v, hv, rv⟩ := r.get q
      exact ⟨v, by rw [hv]; rfl, rv⟩
  · rw [List.getElem?_append_right (by simpa using hi), List.getElem?_replicate] at e
    split at e
    · cases e
    · cases e
theorem body_run {N : List Str} {fb : DS} {t : TS} {vs : List V} {H : Hp} {Q : VK} {dd : Hid} {ex : List Addr} {ds : List D} {Qd : D → Prop} {Ed : Exn → Prop} {E : XK} (ev : EvSt K dd (fun _ => E) t fb) (R : Rel K dd ex [] H []) (r : Rvs K dd ex [] H ds vs)
    (hf : fb (fnEnds Qd) (startD N ds) [] fun e _ => Ed e) (hq : ∀ d H' v, Rel K dd ex [] H' [] → Grow dd [] H [] H' → Rv K dd ex [] H' d v → Qd d → Q v H')
    (hx : ∀ e H' m' h' cls dx, Rel K dd ex m' H' h' → Grow dd [] H m' H' → XRep K dd ex m' H' e cls dx → Ed e → E cls dx H') : t { nx := fun _ H' => Q .non H', rt := Q } (L2.start N vs) H := by
  have back : ∀ {m' H' h'}, Rel K dd ex m' H' h' → Grow dd [] H m' H' → Rel K dd ex [] H' [] ∧ Grow dd [] H [] H' := fun {m' H' h'} R' g =>
    ⟨⟨List.nodup_nil, fun p e => by simp, R'.ok, fun p hp => ⟨by simp, (R'.xs p hp).2⟩, rfl, fun i c p e => by simp at e⟩, ⟨⟨[], by simp, by simp⟩, fun p o _ b e => g.keep p o (by simp) b e⟩⟩
  refine ev R (renv_start r) hf (fun σ' e h' m' H' R' g' q' cls dx rx => hx e H' m' h' cls dx R' g' rx q') _ ⟨fun ρ h' m' H' σ R' g' P' q' => ?_, fun d h' m' H' v R' g' r' q' => ?_, fun _ _ _ _ _ _ _ _ q => q.elim, fun _ _ _ _ _ _ _ _ q => q.elim⟩
  · obtain ⟨R2, g2⟩ := back R' g'
    exact hq .non H' .non R2 g2 .non q'
  · obtain ⟨d', e, q'⟩ := q'
    obtain ⟨R2, g2⟩ := back R' g'
    exact hq d' H' v R2 g2 (frz_ok R' r' e) q'
/-- a def that lets nothing out -/
theorem okD {x qual : Str} {st : Stmt} {N : List Str} (F : Fun K x qual st f fd) (S : FnScope N ps (defScope st)) (hlen : ∀ ds Qd Ed, sp ds Qd Ed → ds.length = ps.length)
    (hbody : ∀ (dd : Hid), dd.tabs = tb → ∀ (cdv : Value) (A : Around) (outer : List Env) (s : Shared) (H : Hp) (E : XK), Room k (A.deeper (envOfC qual (defScope st) s.heap.objs.size f cdv)) →
      ∃ fb, FSs K dd (fun _ => E0) (cxOf CX0 P w K mg base N qual (defScope st) f cdv A outer s H E).nox (defBody st) fb ∧ ∀ ds Qd Ed, noRefs ds = true → sp ds Qd Ed → fb (fnEnds Qd) (startD N ds) [] noX) : FnOk P w K mg base CX0 (k + 1) f fd ps (spD K tb sp) := by
  refine F.ok S (fun vs H Q E h => ?_) (fun cdv A outer s H vs Q E hr h => ?_)
  · obtain ⟨dd, ex, ds, Qd, Ed, et, R, r, n, h, _⟩ := h
    rw [← r.length]
    exact hlen ds Qd Ed h
  · obtain ⟨dd, ex, ds, Qd, Ed, et, R, r, n, h, hq, hx⟩ := h
    obtain ⟨fb, ⟨t, p, ev⟩, hb⟩ := hbody dd et cdv A outer s H E hr
    exact ⟨t, p, body_run (Ed := fun _ => False) ev R r (hb ds Qd Ed n h) hq fun e H' m' h' cls dx R' g' rx q => q.elim⟩
theorem okG {x qual : Str} {st : Stmt} {N : List Str} (F : Fun K x qual st f fd) (S : FnScope N ps (defScope st)) (hlen : ∀ ds Qd Ed, sp ds Qd Ed → ds.length = ps.length)
    (hbody : ∀ (dd : Hid), dd.tabs = tb → ∀ (cdv : Value) (A : Around) (outer : List Env) (s : Shared) (H : Hp) (E : XK), Room k (A.deeper (envOfC qual (defScope st) s.heap.objs.size f cdv)) → NoShow A →
      ∃ fb, FSs K dd (fun _ => E0) (cxOf CX0 P w K mg base N qual (defScope st) f cdv A outer s H E).nox (defBody st) fb ∧ ∀ ds Qd Ed, noRefs ds = true → sp ds Qd Ed → fb (fnEnds Qd) (startD N ds) [] noX) : FnG P w K mg base CX0 (k + 1) f fd ps (spD K tb sp) := by
  refine fun_okG F S (fun vs H Q E h => ?_) (fun cdv A outer s H vs Q E hr ns hok h => ?_)
  · obtain ⟨dd, ex, ds, Qd, Ed, et, R, r, n, h, _⟩ := h
    rw [← r.length]
    exact hlen ds Qd Ed h
  · obtain ⟨dd, ex, ds, Qd, Ed, et, R, r, n, h, hq, hx⟩ := h
    obtain ⟨fb, ⟨t, p, ev⟩, hb⟩ := hbody dd et cdv A outer s H E hr ns
    exact ⟨t, p, body_run (Ed := fun _ => False) ev R r (hb ds Qd Ed n h) hq fun e H' m' h' cls dx R' g' rx q => q.elim⟩
end
/-- a call: its arguments hold no cells -/
def dFn (sp : DSp) (fs : DA) : DE := fun ρ h Q E => fs ρ h (fun xs h1 => noRefs xs = true ∧ sp xs (fun d => Q d h1) fun _ => False) E
/-! a call where cells of ours are looked at: what comes holds no list -/
mutual
def noLst : D → Bool
  | .lst _ => false
  | .dic _ => false
  | .dit _ => false
  | .obj _ _ => false
  | .ref _ => false
  | .lam _ => false
  | .scr _ => false
  | .tup l => noLsts l
  | _ => true
def noLsts : List D → Bool
  | [] => true
  | d :: l => noLst d && noLsts l
end
def dFnR (sp : DSp) (fs : DA) : DE := fun ρ h Q E => fs ρ h (fun xs h1 => ∃ ys, frzs h1 xs = some ys ∧ sp ys (fun d => noLst d = true ∧ Q d h1) fun _ => False) E
section
variable {X : Cx} {K : PySem.W.Frag} {dd : Hid} {E : L2.St → XK} {st : Stmt} {x : Str} {ps : List Str} {k : Nat} {sp : DSp} {p pos : Pos} {e : Expr} {es : List Expr} {ts : TA} {fs : DA}
theorem frzs_nr {h : List Cell} : ∀ {ds es : List D}, frzs h ds = some es → noRefs es = true
  | [], _, e => by cases e; rfl
  | d :: l, _, e => by
    rw [frzs] at e
    cases q1 : frz1 h d with
    | none => rw [q1] at e; cases e
    | some x =>
      cases q2 : frzs h l with
      | none => rw [q1, q2] at e; cases e
      | some xs =>
        rw [q1, q2] at e
        cases e
        rw [noRefs, frzs_nr q2, Bool.and_true]
        unfold frz1 at q1
        split at q1
        · split at q1
          · split at q1
            · rename_i nr; cases q1; rw [noRef]; exact nr
            · cases q1
          · split at q1
            · rename_i nr; cases q1; rw [noRef]; exact nr
            · cases q1
          · split at q1
            · rename_i nr; cases q1; rw [noRef]; exact nr
            · cases q1
          · split at q1
            · rename_i nr; cases q1; rw [noRef]; exact nr
            · cases q1
          · cases q1
        · split at q1
          · rename_i nr; cases q1; exact nr
          · cases q1
theorem ev_fn {tb : List (Addr × Str)} (ht : dd.tabs = tb) (es : EvA K dd E ts fs) : EvE K dd E (tCall (spD K tb sp) [] E0 ts) (dFn sp fs) := fun {ex m h H ρ σ Qd Ed} R P hf G Q q => es R P hf G _ fun xs h1 m1 H1 vs R1 g1 r1 f1 => by
  refine ⟨dd, m1 ++ ex, xs, fun d => Qd d h1, fun _ => False, ht, R1.enter, ?_, f1.1, f1.2, fun d H' v R' g' r' q' => ?_, fun _ _ _ _ _ _ _ z => z.elim⟩
  · rw [List.append_nil]
    exact rvs_in f1.1 r1
  · obtain ⟨R2, g2⟩ := R1.leave R' g'
    exact q d h1 m1 H' v R2 (g1.comp R1 g2) (rv_out r') q'
theorem fe_callO {tb : List (Addr × Str)} {D : Df X.K X.mg x st ps} (hK : X.K = K) (ht : dd.tabs = tb) (F : FnOk X.prog X.w X.K X.mg X.base CX0 k D.f D.fd ps (spD K tb sp)) (hr : Room k X.A) (hg : Gl X x)
    (ha : FA K dd E X (e :: es) ts fs) (hdb : (x == ("__debug__" : Str)) = false := by decide) (he : starEach (e :: es) X.env = (false, eval e X.env) :: starEach es X.env := by rfl) (hpl : (backTo pos (starEach es X.env)).any (·.1) = false := by rfl) :
    FE K dd E X (.Call (.Name x p) (e :: es) [] pos) (tCall (spD K tb sp) [] E0 ts) (dFn sp fs) := ⟨callO F hr hg ha.1 hdb he hpl, ev_fn ht ha.2⟩
theorem fe_callG {tb : List (Addr × Str)} {D : Df X.K X.mg x st ps} (hK : X.K = K) (ht : dd.tabs = tb) (F : FnG X.prog X.w X.K X.mg X.base CX0 k D.f D.fd ps (spD K tb sp)) (hr : Room k X.A) (ns : NoShow X.A) (hg : Gl X x)
    (ha : FA K dd E X (e :: es) ts fs) (hdb : (x == ("__debug__" : Str)) = false := by decide) (he : starEach (e :: es) X.env = (false, eval e X.env) :: starEach es X.env := by rfl) (hpl : (backTo pos (starEach es X.env)).any (·.1) = false := by rfl) :
    FE K dd E X (.Call (.Name x p) (e :: es) [] pos) (tCall (spD K tb sp) [] E0 ts) (dFn sp fs) := ⟨callD F hr ns hg ha.1 hdb he hpl, ev_fn ht ha.2⟩
end
end DL

end

section
set_option maxHeartbeats 1000000
/-! F8: cells, methods, stars. -/
namespace DL
open PySem PySem.Spec PyProof.Rows L2 KG
section
variable (K : PySem.W.Frag) (dd : Hid)
/-- a list that is made anew, standing hidden -/
def EvN (E : L2.St → XK) (te : TE) (f : DA) : Prop := ∀ {ex m : List Addr} {h : List Cell} {H : Hp} {ρ : Rho} {σ : L2.St} {Qd : List D → List Cell → Prop} {Ed : DX}, Rel K dd ex m H h → REnv K dd ex m H ρ σ → f ρ h Qd Ed → Goes K dd ex E σ m H Ed →
  ∀ Q : VK, (∀ l h1 m1 H1 p vs, Rel K dd (p :: ex) m1 H1 h1 → Grow dd m H m1 H1 → H p = none → ¬ dd.On p → p ∉ ex → H1 p = some (.lst vs) → Rvs K dd (p :: ex) m1 H1 l vs → Qd l h1 → Q (.ref p) H1) → te σ H Q
def FN (E : L2.St → XK) (X : Cx) (e : Expr) (te : TE) (f : DA) : Prop := PE X e te ∧ EvN K dd E te f
end
def dNew (fl : DA) : DE := fun ρ h Q E => fl ρ h (fun l h1 => Q (.ref h1.length) (h1 ++ [.lst l])) E
section
variable {K : PySem.W.Frag} {dd : Hid} {E : L2.St → XK} {X : Cx} {e e2 a : Expr} {es : List Expr} {fe fa : DE} {fs fl : DA} {te ta : TE} {ts : TA} {pos : Pos} {ex m : List Addr} {H : Hp} {h : List Cell} {p : Addr}
mutual
theorem rv_mo : ∀ {d : D} {v : V}, Rv K dd (p :: ex) m H d v → Rv K dd ex (m ++ [p]) H d v
  | _, _, .non => .non
  | _, _, .bl b => .bl b
  | _, _, .int i => .int i
  | _, _, .str l => .str l
  | _, _, .tup a b c r => .tup (fun z => (List.mem_append.mp z).elim a fun y => b.2 (by rw [List.mem_singleton.mp y]; exact List.mem_cons_self ..)) ⟨b.1, fun z => b.2 (List.mem_cons_of_mem _ z)⟩ c (rvs_mo r)
  | _, _, .ktup k r => .ktup k (rvs_mo r)
  | _, _, .lst a b c r => .lst (fun z => (List.mem_append.mp z).elim a fun y => b.2 (by rw [List.mem_singleton.mp y]; exact List.mem_cons_self ..)) ⟨b.1, fun z => b.2 (List.mem_cons_of_mem _ z)⟩ c (rvs_mo r)
  | _, _, .dic a b c e r => .dic (fun z => (List.mem_append.mp z).elim a fun y => b.2 (by rw [List.mem_singleton.mp y]; exact List.mem_cons_self ..)) ⟨b.1, fun z => b.2 (List.mem_cons_of_mem _ z)⟩ c e (rvs_mo r)
  | _, _, .dit a b c e r => .dit (fun z => (List.mem_append.mp z).elim a fun y => b.2 (by rw [List.mem_singleton.mp y]; exact List.mem_cons_self ..)) ⟨b.1, fun z => b.2 (List.mem_cons_of_mem _ z)⟩ c e (rvs_mo r)
  | _, _, .obj a b c e r => .obj ⟨fun z => (List.mem_append.mp z).elim a.1 fun y => b.1.2 (by rw [List.mem_singleton.mp y]; exact List.mem_cons_self ..), fun z => (List.mem_append.mp z).elim a.2 fun y => b.2.2 (by rw [List.mem_singleton.mp y]; exact List.mem_cons_self ..)⟩ ⟨⟨b.1.1, fun z => b.1.2 (List.mem_cons_of_mem _ z)⟩, b.2.1, fun z => b.2.2 (List.mem_cons_of_mem _ z)⟩ c e (rvs_mo r)
  | _, _, .ref e => .ref (by rw [List.getElem?_append_left (List.getElem?_eq_some_iff.mp e).1]; exact e)
  | _, _, .adr a => .adr a
  | _, _, .ty n => .ty n
  | _, _, .dice e => .dice e
  | _, _, .lam a b c e => .lam ⟨fun z => (List.mem_append.mp z).elim a.1 fun y => b.1.2 (by rw [List.mem_singleton.mp y]; exact List.mem_cons_self ..), fun z => (List.mem_append.mp z).elim a.2 fun y => b.2.2 (by rw [List.mem_singleton.mp y]; exact List.mem_cons_self ..)⟩ ⟨⟨b.1.1, fun z => b.1.2 (List.mem_cons_of_mem _ z)⟩, b.2.1, fun z => b.2.2 (List.mem_cons_of_mem _ z)⟩ c e
  | _, _, .scr c => .scr (c.imp id fun ⟨a, b, e⟩ => ⟨fun z => (List.mem_append.mp z).elim a fun y => b.2 (by rw [List.mem_singleton.mp y]; exact List.mem_cons_self ..), ⟨b.1, fun z => b.2 (List.mem_cons_of_mem _ z)⟩, e⟩)
theorem rvs_mo : ∀ {ds : List D} {vs : List V}, Rvs K dd (p :: ex) m H ds vs → Rvs K dd ex (m ++ [p]) H ds vs
  | _, _, .nil => .nil
  | _, _, .cons r t => .cons (rv_mo r) (rvs_mo t)
end
theorem Rel.unhide {c : Cell} (R : Rel K dd (p :: ex) m H h) (hd : ¬ dd.On p) (nx : p ∉ ex) (r : CellOk K dd ex (m ++ [p]) H c p) : Rel K dd ex (m ++ [p]) H (h ++ [c]) := by
  have hpm := (R.xs p (List.mem_cons_self ..)).1
  refine ⟨List.nodup_append.mpr ⟨R.nd, by simp, fun a ha b hb => by rw [List.mem_singleton.mp hb]; exact fun z => hpm (z ▸ ha)⟩, fun q e z => ?_, R.ok, fun q hq => ⟨fun z => ?_, (R.xs q (List.mem_cons_of_mem _ hq)).2⟩, by simp [R.len], fun i c' q e1 e2 => ?_⟩
  · rcases List.mem_append.mp z with z | z
    · exact R.on q e z
    · rw [List.mem_singleton.mp z] at e; exact hd e
  · rcases List.mem_append.mp z with z | z
    · exact (R.xs q (List.mem_cons_of_mem _ hq)).1 z
    · rw [List.mem_singleton.mp z] at hq; exact nx hq
  · by_cases hi : i < h.length
    · rw [List.getElem?_append_left hi] at e1
      rw [List.getElem?_append_left (by rw [← R.len]; exact hi)] at e2
      have q0 := R.cs i c' q e1 e2
      cases c' with
      | lst l => obtain ⟨vs, z, r⟩ := q0; exact ⟨vs, z, rvs_mo r⟩
      | dic l => obtain ⟨vs, z, y, r⟩ := q0; exact ⟨vs, z, y, rvs_mo r⟩
      | dit l => obtain ⟨vs, z, y, r⟩ := q0; exact ⟨vs, z, y, rvs_mo r⟩
      | ins C l => obtain ⟨vs, dx, z, w, y, r⟩ := q0; exact ⟨vs, dx, z, ⟨w.1, fun z => (List.mem_append.mp z).elim w.2.1 fun y => w.2.2.2 (by rw [List.mem_singleton.mp y]; exact List.mem_cons_self ..), w.2.2.1, fun z => w.2.2.2 (List.mem_cons_of_mem _ z)⟩, y, rvs_mo r⟩
    · have hi2 : i = h.length := by
        have := (List.getElem?_eq_some_iff.mp e1).1
        simp at this; omega
      subst hi2
      rw [List.getElem?_append_right (by omega)] at e1
      rw [List.getElem?_append_right (by rw [R.len]; exact Nat.le_refl _)] at e2
      simp at e1
      simp [R.len] at e2
      subst e1; subst e2
      exact r
theorem fe_cell (h : FN K dd E X e te fl) : FE K dd E X e te (dNew fl) := ⟨h.1, fun R P hf G Q q => h.2 R P hf G Q fun l h1 m1 H1 p vs R1 g1 n nd nx hp r f1 => by
  have R2 := R1.unhide (c := .lst l) nd nx ⟨vs, hp, rvs_mo r⟩
  refine q _ _ (m1 ++ [p]) H1 _ R2 ⟨?_, fun y o a b e => g1.keep y o a b e⟩ (.ref ?_) f1
  · obtain ⟨t, e, ht⟩ := g1.pre
    exact ⟨t ++ [p], by rw [e, List.append_assoc], fun y hy => by
      rcases List.mem_append.mp hy with hy | hy
      · exact ht y hy
      · rw [List.mem_singleton.mp hy]; exact n⟩
  · rw [R1.len, List.getElem?_append_right (Nat.le_refl _)]; simp⟩
def dLen (fs : DA) : DA := fun ρ h Q E => fs ρ h (fun xs h1 => xs.length ≤ 1000000 ∧ Q xs h1) E
theorem Rvs.hide {ds : List D} {vs : List V} {o : HO} (R : Rel K dd ex m H h) (hp : H p = none) (r : Rvs K dd ex m H ds vs) : Rvs K dd (p :: ex) m (upd H p o) ds vs := by
  have q : Exq ex H (p :: ex) := fun y hy => by
    rcases List.mem_cons.mp hy with e | hy
    · rw [e]; exact .inr hp
    · exact .inl hy
  exact (r.exq q).grow (R.new (o := o) hp).2.1
theorem fn_lst (hs : FA K dd E X es ts fs) : FN K dd E X (.List es pos) (tLst ts) (dLen fs) := by
  obtain ⟨ps, ev⟩ := hs
  refine ⟨pe_lst ps, fun R P hf G Q q => ev R P hf G _ fun xs h1 m1 H1 vs R1 g1 r1 f1 => ⟨line_of (by rw [← r1.length]; exact f1.1), fun p hp => ?_⟩⟩
  obtain ⟨R2, g2, nd, nx⟩ := R1.hide (o := .lst vs) hp
  refine q xs h1 m1 _ p vs R2 (g1.comp R1 g2) ?_ nd nx upd_same (r1.hide R1 hp) f1.2
  cases e : (_ : Hp) p with
  | none => exact e
  | some o => exact absurd (g1.keep p o (fun z => (R2.xs p (List.mem_cons_self ..)).1 (by obtain ⟨⟨t, e, _⟩, _⟩ := g1; rw [e]; exact List.mem_append_left _ z)) nd e) (by rw [hp]; exact fun z => nomatch z)
def gListN : List D → List Cell → (List D → List Cell → Prop) → Prop := fun xs h Q => match xs with
  | [x] => ∃ l, asS h x = some l ∧ Q l h
  | _ => False
def dListN (fs : DA) : DA := fun ρ h Q E => fs ρ h (fun xs h1 => gListN xs h1 Q) E
theorem fresh_back {ex1 m1 : List Addr} {H1 : Hp} {h1 : List Cell} (R1 : Rel K dd ex1 m1 H1 h1) (g1 : Grow dd m H m1 H1) (hp : H1 p = none) : H p = none := by
  cases e : H p with
  | none => rfl
  | some o =>
    have a : p ∉ m := fun z => by
      obtain ⟨⟨t, e, _⟩, _⟩ := g1
      exact R1.there (by rw [e]; exact List.mem_append_left _ z) hp
    have b : ¬ dd.On p := fun z => R1.dth z hp
    rw [g1.keep p o a b e] at hp
    cases hp
theorem fn_listOf {x : Str} {pp : Pos} (hK : X.K = K) (hg : Gl X x) (hm : X.mg x = none) (hv : bootBuiltins x = some (.type "list")) (ha : FA K dd E X [a] ts fs)
    (hn : x ≠ "__name__" := by decide) (hdb : (x == ("__debug__" : Str)) = false := by decide) (he : starEach [a] X.env = (false, eval a X.env) :: starEach [] X.env := by rfl) (hpl : (backTo pos (starEach [] X.env)).any (·.1) = false := by rfl) :
    FN K dd E X (.Call (.Name x pp) [a] [] pos) (tCB (kListOf K) ts) (dListN fs) := by
  obtain ⟨pa, ev⟩ := ha
  refine ⟨pe_callTy (kk_listOf hK) hg hm hv pa hn hdb he hpl, fun R P hf G Q q => ev R P hf G _ fun xs h1 m1 H1 vs R1 g1 r1 f1 => ?_⟩
  change gListN xs h1 _ at f1
  unfold gListN at f1
  split at f1
  · obtain ⟨v, rfl, r⟩ := rvs1 r1
    obtain ⟨l, el, f1⟩ := f1
    obtain ⟨p, vs, rfl, s, rr⟩ := rv_seq R1 r el
    refine ⟨p, vs, rfl, s, fun y hy => ?_⟩
    obtain ⟨R2, g2, nd, nx⟩ := R1.hide (o := .lst vs) hy
    exact q l h1 m1 _ y vs R2 (g1.comp R1 g2) (fresh_back R1 g1 hy) nd nx upd_same (rr.hide R1 hy) f1
  · exact f1.elim
/-- a cell's list grows -/
def dApp (fo fx : DE) : DE := fun ρ h Q E => fo ρ h (fun o h1 => ∃ n, o = .ref n ∧ (∃ l0, h1[n]? = some (.lst l0)) ∧ fx ρ h1 (fun x h2 => ∃ l, h2[n]? = some (.lst l) ∧ l.length < 1000000 ∧ Q .non (h2.set n (.lst (l ++ [x])))) E) E
theorem fe_append {o : Expr} {to : TE} {fo fx : DE} {tx : TE} {apos cpos : Pos} (hK : X.K = K) (ho : FE K dd E X o to fo) (hx : FE K dd E X e tx fx)
    (hb : ∀ t u, PE X o t → PA X [e] u → PE X (.Call (.Attribute o "append" apos) [e] [] cpos) (tBM X.K "list" rAppend t u)) (he : starEach [e] X.env = (false, eval e X.env) :: starEach [] X.env := by rfl) :
    FE K dd E X (.Call (.Attribute o "append" apos) [e] [] cpos) (tBM K "list" rAppend to (tCons tx tNil)) (dApp fo fx) := by
  obtain ⟨po, eo⟩ := ho
  obtain ⟨px, evx⟩ := hx
  refine ⟨kk_bm hK (hb _ _ po (pa_cons px pa_nil he)), fun R P hf G Q q => eo R P hf G _ fun d h1 m1 H1 v R1 g1 r1 f1 => ?_⟩
  obtain ⟨n, rfl, ⟨l0, hn⟩, f1⟩ := f1
  cases r1 with
  | @ref _ p hp =>
    obtain ⟨vs, z, r⟩ := R1.cs n _ _ hn hp
    refine ⟨.inl ⟨rfl, vs, SqL.of z⟩, evx R1 (P.grow g1) f1 (G.later R1 g1) _ fun x h2 m2 H2 w R2 g2 r2 f2 => ?_⟩
    obtain ⟨l, hl, hz, f2⟩ := f2
    have hp2 := g2.cell hp
    obtain ⟨us, z2, r3⟩ := R2.cs n _ _ hl hp2
    refine rApp z2 (by rw [← r3.length]; exact hz) ?_
    obtain ⟨R3, g3⟩ := R2.setCell (o := .lst (us ++ [w])) (c := .lst (l ++ [x])) hp2 fun H' g e => ⟨us ++ [w], e, (r3.grow g).append (Rvs.one (r2.grow g))⟩
    exact q _ _ m2 _ _ R3 ((g1.comp R1 g2).comp R2 g3) .non f2
/-- the last item is taken off -/
def dPop (fo : DE) : DE := fun ρ h Q E => fo ρ h (fun o h1 => ∃ n l x, o = .ref n ∧ h1[n]? = some (.lst l) ∧ l[l.length - 1]? = some x ∧ Q x (h1.set n (.lst l.dropLast))) E
theorem Rvs.dropLast : ∀ {ds : List D} {vs : List V}, Rvs K dd ex m H ds vs → Rvs K dd ex m H ds.dropLast vs.dropLast := fun {ds vs} r => by
  rw [List.dropLast_eq_take, List.dropLast_eq_take, ← r.length]
  exact r.take _
theorem fe_pop {o : Expr} {to : TE} {fo : DE} {apos cpos : Pos} (ho : FE K dd E X o to fo) (hb : ∀ t, PE X o t → PE X (.Call (.Attribute o "pop" apos) [] [] cpos) (tBM0 X.K "list" rPop t)) (hK : X.K = K) :
    FE K dd E X (.Call (.Attribute o "pop" apos) [] [] cpos) (tBM0 K "list" rPop to) (dPop fo) := by
  obtain ⟨po, eo⟩ := ho
  subst hK
  refine ⟨hb _ po, fun R P hf G Q q => eo R P hf G _ fun d h1 m1 H1 v R1 g1 r1 f1 => ?_⟩
  obtain ⟨n, l, x, rfl, hn, hx, f1⟩ := f1
  cases r1 with
  | @ref _ p hp =>
    obtain ⟨vs, z, r⟩ := R1.cs n _ _ hn hp
    obtain ⟨w, hw, rw⟩ := r.get hx
    refine ⟨.inl ⟨rfl, vs, SqL.of z⟩, p, vs, w, rfl, rfl, z, by rw [← r.length]; exact hw, ?_⟩
    obtain ⟨R3, g3⟩ := R1.setCell (o := .lst vs.dropLast) (c := .lst l.dropLast) hp fun H' g e => ⟨_, e, (r.grow g).dropLast⟩
    exact q _ _ m1 _ _ R3 (g1.comp R1 g3) (rw.grow g3) f1
/-- *e in a display -/
def dStar (fa : DE) (fs : DA) : DA := fun ρ h Q E => fa ρ h (fun x h1 => ∃ l, asS h1 x = some l ∧ fs ρ h1 (fun xs h2 => Q (l ++ xs) h2) E) E
theorem fa_star {pp : Pos} (hK : X.K = K) (ha : FE K dd E X a ta fa) (hs : FA K dd E X es ts fs) (he : starEach (.Starred a pp :: es) X.env = (true, eval a X.env) :: starEach es X.env := by rfl) : FA K dd E X (.Starred a pp :: es) (StX.tStar K ta ts) (dStar fa fs) := by
  obtain ⟨pa, ea⟩ := ha
  obtain ⟨ps, ev⟩ := hs
  subst hK
  refine ⟨StX.pa_star pa ps he, fun R P hf G Q q => ea R P hf G _ fun x h1 m1 H1 v R1 g1 r1 f1 => ?_⟩
  obtain ⟨l, el, f1⟩ := f1
  obtain ⟨p, vs, rfl, s, r⟩ := rv_seq R1 r1 el
  refine ⟨p, vs, rfl, s.symm, ev R1 (P.grow g1) f1 (G.later R1 g1) _ fun xs h2 m2 H2 ws R2 g2 r2 f2 => ?_⟩
  exact q _ _ _ _ _ R2 (g1.comp R1 g2) ((r.grow g2).append r2) f2
/-- xs[::-1] -/
def dRev (fa : DE) : DE := fun ρ h Q E => fa ρ h (fun x h1 => ∃ l, asL h1 x = some l ∧ Q (.lst l.reverse) h1) E
theorem fe_rev {k : Nat} {p1 p2 p3 : Pos} (hK : X.K = K) (ha : FE K dd E X a ta fa) : FE K dd E X (.Subscript a (.Slice none none (some (.UnaryOp .USub (.Constant (.int 1) k p1) p2)) p3) pos) (tRevL K ta) (dRev fa) := by
  obtain ⟨pa, ea⟩ := ha
  subst hK
  refine ⟨pe_revL pa, fun R P hf G Q q => ea R P hf G _ fun x h1 m1 H1 v R1 g1 r1 f1 => ?_⟩
  obtain ⟨l, el, f1⟩ := f1
  obtain ⟨p, vs, rfl, s, r⟩ := rv_list R1 r1 el
  exact ⟨p, vs, rfl, SqL.of s, fun y hy => (q.later R1 g1).new R1 f1 hy fun a b c g => .lst a b c (r.grow g).rev⟩
/-- a unary minus -/
def dNeg (fa : DE) : DE := fun ρ h Q E => fa ρ h (fun x h1 => ∃ i, x = .int i ∧ Q (.int (-i)) h1) E
theorem fe_neg (ha : FE K dd E X a ta fa) : FE K dd E X (.UnaryOp .USub a pos) (tUn (rU fun i => .int (-i)) ta) (dNeg fa) := by
  obtain ⟨pa, ea⟩ := ha
  refine ⟨pe_un un_neg pa, fun R P hf G Q q => ea R P hf G _ fun x h1 m1 H1 v R1 g1 r1 f1 => ?_⟩
  obtain ⟨i, rfl, f1⟩ := f1
  cases r1
  exact ⟨i, rfl, (q.later R1 g1).now R1 (.int _) f1⟩
mutual
theorem rv_tl (hm : ∀ p ∈ m, ∀ vs, ¬ Rd H p (.tup vs)) : ∀ {d : D} {v : V}, noLst d = true → Rv K dd ex [] H d v → Rv K dd ex m H d v
  | _, _, _, .non => .non
  | _, _, _, .bl b => .bl b
  | _, _, _, .int i => .int i
  | _, _, _, .str l => .str l
  | _, _, n, .tup a b c r => .tup (fun z => hm _ z _ c) b c (rvs_tl hm (by rw [noLst] at n; exact n) r)
  | _, _, n, .ktup k r => .ktup k (rvs_tl hm (by rw [noLst] at n; exact n) r)
  | _, _, _, .adr a => .adr a
  | _, _, _, .ty n => .ty n
  | _, _, _, .dice e => .dice e
  | _, _, n, .lst .. => by rw [noLst] at n; cases n
  | _, _, n, .dic .. => by rw [noLst] at n; cases n
  | _, _, n, .dit .. => by rw [noLst] at n; cases n
  | _, _, n, .obj .. => by rw [noLst] at n; cases n
  | _, _, n, .ref .. => by rw [noLst] at n; cases n
  | _, _, n, .lam .. => by rw [noLst] at n; cases n
  | _, _, n, .scr .. => by rw [noLst] at n; cases n
theorem rvs_tl (hm : ∀ p ∈ m, ∀ vs, ¬ Rd H p (.tup vs)) : ∀ {ds : List D} {vs : List V}, noLsts ds = true → Rvs K dd ex [] H ds vs → Rvs K dd ex m H ds vs
  | _, _, _, .nil => .nil
  | _, _, n, .cons r t => .cons (rv_tl hm (by rw [noLsts] at n; exact (Bool.and_eq_true_iff.mp n).1) r) (rvs_tl hm (by rw [noLsts] at n; exact (Bool.and_eq_true_iff.mp n).2) t)
end
theorem cell_notup (R : Rel K dd ex m H h) (hp : p ∈ m) {vs : List V} : ¬ Rd H p (.tup vs) := by
  obtain ⟨i, hi, e⟩ := List.mem_iff_getElem.mp hp
  have hi2 : i < h.length := by rw [R.len]; exact hi
  have q := R.cs i h[i] p (List.getElem?_eq_getElem hi2) (by rw [List.getElem?_eq_getElem hi, e])
  cases hc : h[i] with
  | lst l => rw [hc] at q; obtain ⟨us, z, _⟩ := q; rintro (y | ⟨o, y⟩) <;> (rw [z] at y; cases y)
  | dic l => rw [hc] at q; obtain ⟨us, z, _⟩ := q; rintro (y | ⟨o, y⟩) <;> (rw [z] at y; cases y)
  | dit l => rw [hc] at q; obtain ⟨us, z, _⟩ := q; rintro (y | ⟨o, y⟩) <;> (rw [z] at y; cases y)
  | ins C l => rw [hc] at q; obtain ⟨us, dx, z, _⟩ := q; rintro (y | ⟨o, y⟩) <;> (rw [z] at y; cases y)
theorem fe_callR {tb : List (Addr × Str)} {st : Stmt} {x : Str} {ps : List Str} {k : Nat} {sp : DSp} {pp : Pos} {D' : Df X.K X.mg x st ps} (hK : X.K = K) (ht : dd.tabs = tb) (F : FnOk X.prog X.w X.K X.mg X.base CX0 k D'.f D'.fd ps (spD K tb sp)) (hr : Room k X.A) (hg : Gl X x)
    (ha : FA K dd E X (e :: es) ts fs) (hdb : (x == ("__debug__" : Str)) = false := by decide) (he : starEach (e :: es) X.env = (false, eval e X.env) :: starEach es X.env := by rfl) (hpl : (backTo pos (starEach es X.env)).any (·.1) = false := by rfl) :
    FE K dd E X (.Call (.Name x pp) (e :: es) [] pos) (tCall (spD K tb sp) [] E0 ts) (dFnR sp fs) := by
  refine ⟨callO F hr hg ha.1 hdb he hpl, fun {ex m h H ρ σ Qd Ed} R P hf G Q q => ha.2 R P hf G _ fun xs h1 m1 H1 vs R1 g1 r1 f1 => ?_⟩
  obtain ⟨ys, ey, f1⟩ := f1
  have Rn : Rel K dd ex [] H1 [] := ⟨List.nodup_nil, fun p e => by simp, R1.ok, fun p hp => ⟨by simp, (R1.xs p hp).2⟩, rfl, fun i c p e => by simp at e⟩
  refine ⟨dd, ex, ys, fun d => noLst d = true ∧ Qd d h1, fun _ => False, ht, Rn, ?_, frzs_nr ey, f1, fun d H' v R' g' r' q' => ?_, fun _ _ _ _ _ _ _ z => z.elim⟩
  · rw [List.append_nil]
    exact frzs_ok R1 r1 ey
  · have g2 : Grow dd m1 H1 m1 H' := ⟨⟨[], by simp, by simp⟩, fun p o a b e => g'.keep p o (by simp) b e⟩
    have same : ∀ p ∈ m1, H' p = H1 p := fun p hp => by
      cases e : H1 p with
      | none => exact absurd e (R1.there hp)
      | some o => exact g'.keep p o (by simp) (fun z => R1.on p z hp) e
    have R2 : Rel K dd ex m1 H' h1 := ⟨R1.nd, R1.on, R'.ok, fun p hp => ⟨(R1.xs p hp).1, (R'.xs p hp).2⟩, R1.len, fun i c p e1 e2 => (R1.cs i c p e1 e2).grow g2 (same p (List.mem_of_getElem? e2))⟩
    exact q d h1 m1 H' v R2 (g1.comp R1 g2) (rv_tl (fun p hp vs => cell_notup R2 hp) q'.1 r') q'.2
end
end DL

end

section
set_option maxHeartbeats 1000000
/-! F9: words that bring a reading over plain data to what it asks. -/
namespace DL
open PySem PySem.Spec PyProof.Rows L2 KG
section
variable {δ : Type} {i j k n : Nat} {d x y : D} {g g' : G2} {fa fb fc fe : DE} {ft fu : DT} {fs : DA} {fl fh : DG (Option Int)} {gc : GC} {ρ : Rho} {h : List Cell} {Q : D → List Cell → Prop} {Qb : Bool → List Cell → Prop} {Qs : List D → List Cell → Prop} {Qo : Option Int → List Cell → Prop} {E : DX} {Dd : DEnds} {f f' : DS} {gt : DTG} {gs : DTGs} {Qg : Rho → List Cell → Prop} {f1 f2 : DG δ} {Qd : δ → List Cell → Prop} {z : δ} {fi : DI} {sp : DSp} {vs : List Nat}
theorem d_var : dVar i ρ h Q E = ∃ d, ρ[i]? = some (some d) ∧ Q d h := rfl
theorem d_c : dC d ρ h Q E = Q d h := rfl
theorem d_op : dOp g fa fb ρ h Q E = fa ρ h (fun x h1 => fb ρ h1 (fun y h2 => g x y h2 Q) E) E := rfl
theorem d_nil : dNil ρ h Qs E = Qs [] h := rfl
theorem d_cons : dCons fa fs ρ h Qs E = fa ρ h (fun x h1 => fs ρ h1 (fun xs h2 => Qs (x :: xs) h2) E) E := rfl
theorem d_star : dStar fa fs ρ h Qs E = fa ρ h (fun x h1 => ∃ l, asS h1 x = some l ∧ fs ρ h1 (fun xs h2 => Qs (l ++ xs) h2) E) E := rfl
theorem d_call : dCall gc fs ρ h Q E = fs ρ h (fun xs h1 => gc xs h1 Q) E := rfl
theorem d_tup : dTup fs ρ h Q E = fs ρ h (fun xs h1 => xs.length ≤ 1000000 ∧ Q (.tup xs) h1) E := rfl
theorem d_lst : dLst fs ρ h Q E = fs ρ h (fun xs h1 => xs.length ≤ 1000000 ∧ Q (.lst xs) h1) E := rfl
theorem d_new : dNew fs ρ h Q E = fs ρ h (fun l h1 => Q (.ref h1.length) (h1 ++ [.lst l])) E := rfl
theorem d_len : dLen fs ρ h Qs E = fs ρ h (fun xs h1 => xs.length ≤ 1000000 ∧ Qs xs h1) E := rfl
theorem d_listN : dListN fs ρ h Qs E = fs ρ h (fun xs h1 => gListN xs h1 Qs) E := rfl
theorem d_test : dTest fe ρ h Qb E = fe ρ h (fun d h1 => ∃ b, d = .bl b ∧ Qb b h1) E := rfl
theorem d_tru : dTru fe ρ h Qb E = fe ρ h (fun d h1 => ∃ b, dtru h1 d = some b ∧ Qb b h1) E := rfl
theorem d_if : dIf ft fa fb ρ h Q E = ft ρ h (fun b h1 => DIf b fa fb ρ h1 Q E) E := rfl
theorem d_now : dNow z ρ h Qd E = Qd z h := rfl
theorem d_and : dAnd ft fu ρ h Qb E = ft ρ h (fun b h1 => DIf b fu (dNow false) ρ h1 Qb E) E := rfl
theorem d_or : dOr ft fu ρ h Qb E = ft ρ h (fun b h1 => DIf b (dNow true) fu ρ h1 Qb E) E := rfl
theorem d_not : dNot ft ρ h Qb E = ft ρ h (fun b h1 => Qb (!b) h1) E := rfl
theorem d_andV : dAndV fa fb ρ h Q E = fa ρ h (fun d h1 => ∃ b, d = .bl b ∧ DIf b fb (dNow (.bl false)) ρ h1 Q E) E := rfl
theorem d_orV : dOrV fa fb ρ h Q E = fa ρ h (fun d h1 => ∃ b, d = .bl b ∧ DIf b (dNow (.bl true)) fb ρ h1 Q E) E := rfl
theorem d_notV : dNotV fa ρ h Q E = fa ρ h (fun d h1 => ∃ b, d = .bl b ∧ Q (.bl (!b)) h1) E := rfl
theorem d_part : dPart fe ρ h Qo E = fe ρ h (fun d h1 => ∃ i, d = .int i ∧ Qo (some i) h1) E := rfl
theorem d_nopart : dNoPart ρ h Qo E = Qo none h := rfl
theorem d_sl {gl : D → Option Int → Option Int → List Cell → (D → List Cell → Prop) → Prop} : dSl gl fa fl fh ρ h Q E = fa ρ h (fun x h1 => fl ρ h1 (fun l h2 => fh ρ h2 (fun u h3 => gl x l u h3 Q) E) E) E := rfl
theorem d_rev : dRev fa ρ h Q E = fa ρ h (fun x h1 => ∃ l, asL h1 x = some l ∧ Q (.lst l.reverse) h1) E := rfl
theorem d_neg : dNeg fa ρ h Q E = fa ρ h (fun x h1 => ∃ i, x = .int i ∧ Q (.int (-i)) h1) E := rfl
theorem d_fn : dFn sp fs ρ h Q E = fs ρ h (fun xs h1 => noRefs xs = true ∧ sp xs (fun d => Q d h1) fun _ => False) E := rfl
theorem d_fnR : dFnR sp fs ρ h Q E = fs ρ h (fun xs h1 => ∃ ys, frzs h1 xs = some ys ∧ sp ys (fun d => noLst d = true ∧ Q d h1) fun _ => False) E := rfl
theorem d_app {fo fx : DE} : dApp fo fx ρ h Q E = fo ρ h (fun o h1 => ∃ n, o = .ref n ∧ (∃ l0, h1[n]? = some (.lst l0)) ∧ fx ρ h1 (fun x h2 => ∃ l, h2[n]? = some (.lst l) ∧ l.length < 1000000 ∧ Q .non (h2.set n (.lst (l ++ [x])))) E) E := rfl
theorem d_pass : dPass Dd ρ h E = Dd.nx ρ h := rfl
theorem d_seq : dSeq f f' Dd ρ h E = f { Dd with nx := fun ρ' h' => f' Dd ρ' h' E } ρ h E := rfl
theorem d_ret : dRet fe Dd ρ h E = fe ρ h Dd.rt E := rfl
theorem d_retN : dRetN Dd ρ h E = Dd.rt .non h := rfl
theorem d_brk : dBrk Dd ρ h E = Dd.bk ρ h := rfl
theorem d_cont : dCont Dd ρ h E = Dd.ct ρ h := rfl
theorem d_drop : dDrop fe Dd ρ h E = fe ρ h (fun _ h1 => Dd.nx ρ h1) E := rfl
theorem d_set : dSet i fe Dd ρ h E = fe ρ h (fun d h1 => Dd.nx (ρ.set i (some d)) h1) E := rfl
theorem d_asg : dAsg fe gt Dd ρ h E = fe ρ h (fun d h1 => gt d ρ h1 Dd.nx) E := rfl
theorem d_nm : gNm i d ρ h Qg = Qg (ρ.set i (some d)) h := rfl
theorem d_ifS : dIfS ft f f' Dd ρ h E = ft ρ h (fun b h1 => DIfS b f f' Dd ρ h1 E) E := rfl
theorem d_aug : dAug i g fe Dd ρ h E = ∃ x, ρ[i]? = some (some x) ∧ fe ρ h (fun y h1 => g x y h1 fun z h2 => Dd.nx (ρ.set i (some z)) h2) E := rfl
theorem d_par : dPar i j fs Dd ρ h E = fs ρ h (fun ds h1 => ∃ x y, ds = [x, y] ∧ Dd.nx ((ρ.set i (some x)).set j (some y)) h1) E := rfl
theorem d_par3 : dPar3 i j k fs Dd ρ h E = fs ρ h (fun ds h1 => ∃ x y z, ds = [x, y, z] ∧ Dd.nx (((ρ.set i (some x)).set j (some y)).set k (some z)) h1) E := rfl
theorem d_for : dFor fi gt f Dd ρ h E = fi ρ h (fun lc h1 => dLoop lc.2 gt f Dd E lc.1 ρ h1) E := rfl
theorem d_it {Qi : List D × (List Cell → Prop) → List Cell → Prop} : dIt fe ρ h Qi E = fe ρ h (fun d h1 => ∃ l, itemsD h1 d = some l ∧ Qi (l, chkD d l) h1) E := rfl
theorem d_rng1 {Qi : List D × (List Cell → Prop) → List Cell → Prop} : dRng1 fs ρ h Qi E = fs ρ h (fun xs h1 => ∃ j : Int, xs = [.int j] ∧ -(2 ^ 62) ≤ j ∧ j < 2 ^ 62 ∧ Qi (intsD 0 j.toNat, fun _ => True) h1) E := rfl
theorem d_lc : dLc fi gt ft fe vs ρ h Q E = fi ρ h (fun lc h1 => dLcGo lc.2 gt ft fe E (wipeD ρ vs) (fun acc h2 => Q (.lst acc) h2) lc.1 [] h1) E := rfl
theorem d_chain : dChain g g' fa fb fc ρ h Q E = fa ρ h (fun x h1 => fb ρ h1 (fun y h2 => g x y h2 fun z h3 => ∃ b, z = .bl b ∧ DIf b (fun ρ h Q E => fc ρ h (fun w h4 => g' y w h4 Q) E) (dNow (.bl false)) ρ h3 Q E) E) E := rfl
/-! ways -/
theorem dif_t : DIf true f1 f2 ρ h Qd E = f1 ρ h Qd E := if_pos rfl
theorem dif_f : DIf false f1 f2 ρ h Qd E = f2 ρ h Qd E := if_neg Bool.false_ne_true
theorem difs_t : DIfS true f f' Dd ρ h E = f Dd ρ h E := if_pos rfl
theorem difs_f : DIfS false f f' Dd ρ h E = f' Dd ρ h E := if_neg Bool.false_ne_true
variable {p : Prop} [Decidable p] {b : Bool} {W : Nat → Rho → List Cell → Prop}
theorem dif_p (a : p → f1 ρ h Qd E) (c : ¬ p → f2 ρ h Qd E) : DIf (decide p) f1 f2 ρ h Qd E := by
  by_cases q : p
  · rw [decide_eq_true q, dif_t]; exact a q
  · rw [decide_eq_false q, dif_f]; exact c q
theorem dif_n (a : p → f2 ρ h Qd E) (c : ¬ p → f1 ρ h Qd E) : DIf (!decide p) f1 f2 ρ h Qd E := by
  by_cases q : p
  · rw [decide_eq_true q, Bool.not_true, dif_f]; exact a q
  · rw [decide_eq_false q, Bool.not_false, dif_t]; exact c q
theorem dif_b (a : b = true → f1 ρ h Qd E) (c : b = false → f2 ρ h Qd E) : DIf b f1 f2 ρ h Qd E := by
  cases b
  · rw [dif_f]; exact c rfl
  · rw [dif_t]; exact a rfl
theorem difs_p (a : p → f Dd ρ h E) (c : ¬ p → f' Dd ρ h E) : DIfS (decide p) f f' Dd ρ h E := by
  by_cases q : p
  · rw [decide_eq_true q, difs_t]; exact a q
  · rw [decide_eq_false q, difs_f]; exact c q
theorem difs_n (a : p → f' Dd ρ h E) (c : ¬ p → f Dd ρ h E) : DIfS (!decide p) f f' Dd ρ h E := by
  by_cases q : p
  · rw [decide_eq_true q, Bool.not_true, difs_f]; exact a q
  · rw [decide_eq_false q, Bool.not_false, difs_t]; exact c q
theorem difs_b (a : b = true → f Dd ρ h E) (c : b = false → f' Dd ρ h E) : DIfS b f f' Dd ρ h E := by
  cases b
  · rw [difs_f]; exact c rfl
  · rw [difs_t]; exact a rfl
theorem way_t : DWay true W n f Dd ρ h E = f { Dd with nx := NXd W n, ct := NXd W n, bk := Dd.nx } ρ h E := if_pos rfl
theorem way_f : DWay false W n f Dd ρ h E = Dd.nx ρ h := if_neg Bool.false_ne_true
theorem way_p (a : p → f { Dd with nx := NXd W n, ct := NXd W n, bk := Dd.nx } ρ h E) (c : ¬ p → Dd.nx ρ h) : DWay (decide p) W n f Dd ρ h E := by
  by_cases q : p
  · rw [decide_eq_true q, way_t]; exact a q
  · rw [decide_eq_false q, way_f]; exact c q
end
/-! ### operations by their values -/
section
variable {h : List Cell} {Q : D → List Cell → Prop} {i j : Int} {s t : List Nat} {l r : List D} {b c : Bool} {x y d : D} {n : Nat} {P : D → Prop} {Pb : Bool → Prop} {Pi : Int → Prop}
theorem gAdd_i : gAdd (.int i) (.int j) h Q ↔ Q (.int (i + j)) h := Iff.rfl
theorem gAdd_s : gAdd (.str s) (.str t) h Q ↔ s.length + t.length ≤ 1000000 ∧ Q (.str (s ++ t)) h := Iff.rfl
theorem gAdd_t : gAdd (.tup l) (.tup r) h Q ↔ l.length + r.length ≤ 1000000 ∧ Q (.tup (l ++ r)) h := Iff.rfl
theorem gAdd_l : gAdd (.lst l) (.lst r) h Q ↔ l.length + r.length ≤ 1000000 ∧ Q (.lst (l ++ r)) h := by
  show (∃ a b, some l = some a ∧ some r = some b ∧ _) ↔ _
  constructor
  · rintro ⟨a, b, e, e2, q⟩; cases e; cases e2; exact q
  · exact fun q => ⟨_, _, rfl, rfl, q⟩
theorem gSub_i : gSub (.int i) (.int j) h Q ↔ Q (.int (i - j)) h := Iff.rfl
theorem gMod_i : gMod (.int i) (.int j) h Q ↔ 0 < j ∧ Q (.int (i % j)) h := Iff.rfl
theorem gMul_i : gMul (.int i) (.int j) h Q ↔ (CMulW i j ∨ CMul i j) ∧ Q (.int (i * j)) h := Iff.rfl
theorem gEq_i : gEq (.int i) (.int j) h Q ↔ Q (.bl (decide (i = j))) h := Iff.rfl
theorem gEq_s : gEq (.str s) (.str t) h Q ↔ Q (.bl (decide (s = t))) h := Iff.rfl
theorem gEq_b : gEq (.bl b) (.bl c) h Q ↔ Q (.bl (decide (b = c))) h := Iff.rfl
theorem gNe_i : gNe (.int i) (.int j) h Q ↔ Q (.bl (!decide (i = j))) h := Iff.rfl
theorem gNe_s : gNe (.str s) (.str t) h Q ↔ Q (.bl (!decide (s = t))) h := Iff.rfl
theorem gNe_b : gNe (.bl b) (.bl c) h Q ↔ Q (.bl (!decide (b = c))) h := Iff.rfl
theorem gLt_i {k : Int → Int → D} : gInt0 k (.int i) (.int j) h Q ↔ Q (k i j) h := Iff.rfl
theorem gIs_n : gIs x .non h Q ↔ Q (.bl (isNon x)) h := by cases x <;> exact Iff.rfl
theorem gIs_b : gIs (.bl b) (.bl c) h Q ↔ Q (.bl (decide (b = c))) h := Iff.rfl
theorem gIsNot_n : gIsNot x .non h Q ↔ Q (.bl (!isNon x)) h := by cases x <;> exact Iff.rfl
theorem gIsNot_b : gIsNot (.bl b) (.bl c) h Q ↔ Q (.bl (!decide (b = c))) h := Iff.rfl
theorem gIx_s : gIx (.str s) (.int i) h Q ↔ s.length ≤ 1000000 ∧ ∃ c, atD s i = some c ∧ Q (.str [c]) h := Iff.rfl
theorem gIx_t : gIx (.tup l) (.int i) h Q ↔ ∃ d, atD l i = some d ∧ Q d h := by
  constructor
  · rintro ⟨a, d, e, q⟩; cases e; exact ⟨d, q⟩
  · rintro ⟨d, q⟩; exact ⟨l, d, rfl, q⟩
theorem gIx_l : gIx (.lst l) (.int i) h Q ↔ ∃ d, atD l i = some d ∧ Q d h := by
  constructor
  · rintro ⟨a, d, e, q⟩; cases e; exact ⟨d, q⟩
  · rintro ⟨d, q⟩; exact ⟨l, d, rfl, q⟩
theorem gSl_s {lo hi : Option Int} : gSl (.str s) lo hi h Q ↔ s.length ≤ 1000000 ∧ Q (.str (cutD s lo hi)) h := Iff.rfl
theorem gSl_t {lo hi : Option Int} : gSl (.tup l) lo hi h Q ↔ Q (.tup (cutD l lo hi)) h := Iff.rfl
theorem gSl_l {lo hi : Option Int} : gSl (.lst l) lo hi h Q ↔ Q (.lst (cutD l lo hi)) h := by
  show (∃ a, some l = some a ∧ _) ↔ _
  constructor
  · rintro ⟨a, e, q⟩; cases e; exact q
  · exact fun q => ⟨_, rfl, q⟩
theorem gLen_s : gLen [.str s] h Q ↔ s.length ≤ 1000000 ∧ Q (.int s.length) h := Iff.rfl
theorem gLen_t : gLen [.tup l] h Q ↔ Q (.int l.length) h := by
  show (∃ a, some l = some a ∧ _) ↔ _
  constructor
  · rintro ⟨a, e, q⟩; cases e; exact q
  · exact fun q => ⟨_, rfl, q⟩
theorem gLen_l : gLen [.lst l] h Q ↔ Q (.int l.length) h := by
  show (∃ a, some l = some a ∧ _) ↔ _
  constructor
  · rintro ⟨a, e, q⟩; cases e; exact q
  · exact fun q => ⟨_, rfl, q⟩
theorem gTupOf_l : gTupOf [.lst l] h Q ↔ Q (.tup l) h := by
  show (∃ a, some l = some a ∧ _) ↔ _
  constructor
  · rintro ⟨a, e, q⟩; cases e; exact q
  · exact fun q => ⟨_, rfl, q⟩
theorem gTupOf_t : gTupOf [.tup l] h Q ↔ Q (.tup l) h := by
  show (∃ a, some l = some a ∧ _) ↔ _
  constructor
  · rintro ⟨a, e, q⟩; cases e; exact q
  · exact fun q => ⟨_, rfl, q⟩
theorem gListOf_l : gListOf [.lst l] h Q ↔ Q (.lst l) h := by
  show (∃ a, some l = some a ∧ _) ↔ _
  constructor
  · rintro ⟨a, e, q⟩; cases e; exact q
  · exact fun q => ⟨_, rfl, q⟩
theorem gListOf_t : gListOf [.tup l] h Q ↔ Q (.lst l) h := by
  show (∃ a, some l = some a ∧ _) ↔ _
  constructor
  · rintro ⟨a, e, q⟩; cases e; exact q
  · exact fun q => ⟨_, rfl, q⟩
theorem gIsi_tt : gIsi [.tup l, .ty "tuple"] h Q ↔ Q (.bl true) h := by
  show (∃ b, kitB "tuple" "tuple" = some b ∧ _) ↔ _
  have e : kitB "tuple" "tuple" = some true := by decide +kernel
  rw [e]
  constructor
  · rintro ⟨b, e, q⟩; cases e; exact q
  · exact fun q => ⟨_, rfl, q⟩
theorem gRepr_b : gRepr [.bl b] h Q ↔ Q (.str (PyData.shown (.bool b)).cps.toList) h := by
  show (∃ d, some (PyData.bool b) = some d ∧ _) ↔ _
  constructor
  · rintro ⟨d, e, _, _, _, q⟩; cases e; exact q
  · exact fun q => ⟨_, rfl, rfl, by show 0 < 64; decide, by cases b <;> decide +kernel, q⟩
theorem shown_b : (PyData.shown (.bool b)).cps.toList = (PyData.shown (.bool c)).cps.toList ↔ b = c := by
  cases b <;> cases c <;> decide +kernel
theorem xb : (∃ k, D.bl b = .bl k ∧ Pb k) ↔ Pb b := by
  constructor
  · rintro ⟨k, e, q⟩; cases e; exact q
  · exact fun q => ⟨_, rfl, q⟩
theorem xi : (∃ k, D.int i = .int k ∧ Pi k) ↔ Pi i := by
  constructor
  · rintro ⟨k, e, q⟩; cases e; exact q
  · exact fun q => ⟨_, rfl, q⟩
theorem xs2 {p : D → Prop} : (∃ w, some (some x) = some (some w) ∧ p w) ↔ p x := by
  constructor
  · rintro ⟨k, e, q⟩; cases e; exact q
  · exact fun q => ⟨_, rfl, q⟩
theorem xp2 {p : D → D → Prop} : (∃ a b, [x, y] = [a, b] ∧ p a b) ↔ p x y := by
  constructor
  · rintro ⟨a, b, e, q⟩; cases e; exact q
  · exact fun q => ⟨_, _, rfl, q⟩
theorem xp3 {p : D → D → D → Prop} : (∃ a b c, [x, y, d] = [a, b, c] ∧ p a b c) ↔ p x y d := by
  constructor
  · rintro ⟨a, b, c, e, q⟩; cases e; exact q
  · exact fun q => ⟨_, _, _, rfl, q⟩
theorem xref {p : Nat → Prop} : (∃ k, D.ref n = .ref k ∧ p k) ↔ p n := by
  constructor
  · rintro ⟨k, e, q⟩; cases e; exact q
  · exact fun q => ⟨_, rfl, q⟩
theorem tru_b' {p : Bool → Prop} : (∃ k, dtru h (.bl b) = some k ∧ p k) ↔ p b := by
  constructor
  · rintro ⟨k, e, q⟩; cases e; exact q
  · exact fun q => ⟨_, rfl, q⟩
/-! what is given out -/
theorem fz_s : (∃ d', frz h (.str s) = some d' ∧ P d') ↔ P (.str s) := by
  constructor
  · rintro ⟨k, e, q⟩; cases e; exact q
  · exact fun q => ⟨_, rfl, q⟩
theorem fz_i : (∃ d', frz h (.int i) = some d' ∧ P d') ↔ P (.int i) := by
  constructor
  · rintro ⟨k, e, q⟩; cases e; exact q
  · exact fun q => ⟨_, rfl, q⟩
theorem fz_b : (∃ d', frz h (.bl b) = some d' ∧ P d') ↔ P (.bl b) := by
  constructor
  · rintro ⟨k, e, q⟩; cases e; exact q
  · exact fun q => ⟨_, rfl, q⟩
theorem fz_n : (∃ d', frz h .non = some d' ∧ P d') ↔ P .non := by
  constructor
  · rintro ⟨k, e, q⟩; cases e; exact q
  · exact fun q => ⟨_, rfl, q⟩
theorem frzs_id : ∀ {l : List D}, noRefs l = true → frzs h l = some l
  | [], _ => rfl
  | d :: l, e => by
    rw [noRefs] at e
    obtain ⟨e1, e2⟩ := Bool.and_eq_true_iff.mp e
    have q : frz1 h d = some d := by
      cases d with
      | ref n => cases e1
      | _ => unfold frz1; simp only; rw [if_pos e1]
    rw [frzs, q, frzs_id e2]
theorem fz_t (nr : noRefs l = true) (q : P (.tup l)) : ∃ d', frz h (.tup l) = some d' ∧ P d' := ⟨_, by unfold frz; simp only; rw [frzs_id nr]; rfl, q⟩
theorem fz_l (nr : noRefs l = true) (q : P (.lst l)) : ∃ d', frz h (.lst l) = some d' ∧ P d' := ⟨_, by show (if noRef (.lst l) = true then _ else _) = _; rw [noRef, if_pos nr], q⟩
theorem fz_r (hn : h[n]? = some (.lst l)) (nr : noRefs l = true) (q : P (.lst l)) : ∃ d', frz h (.ref n) = some d' ∧ P d' := ⟨_, by unfold frz frz1; simp only [hn]; rw [if_pos nr], q⟩
end
/-! ### loops by what holds between turns -/
theorem loop_inv {chk : List Cell → Prop} {g : DTG} {tb : DS} {Dd : DEnds} {E : DX} {l : List D} {ρ0 : Rho} {h0 : List Cell} (Iv : Nat → Rho → List Cell → Prop) (hc : ∀ i ρ h, i ≤ l.length → Iv i ρ h → chk h) (h0' : Iv 0 ρ0 h0)
    (hs : ∀ i d ρ h (N : Rho → List Cell → Prop), l[i]? = some d → Iv i ρ h → (∀ ρ2 h2, Iv (i + 1) ρ2 h2 → N ρ2 h2) → g d ρ h fun ρ1 h1 => tb { Dd with nx := N, ct := N, bk := Dd.nx } ρ1 h1 E) (hd : ∀ ρ h, Iv l.length ρ h → Dd.nx ρ h) :
    dLoop chk g tb Dd E l ρ0 h0 := by
  have go : ∀ (n i : Nat) (ρ : Rho) (h : List Cell), n + i = l.length → Iv i ρ h → dLoop chk g tb Dd E (l.drop i) ρ h := by
    intro n
    induction n with
    | zero =>
      intro i ρ h hi iv
      have e : i = l.length := by omega
      rw [e, List.drop_length]
      subst e
      exact ⟨hc _ ρ h (Nat.le_refl _) iv, hd ρ h iv⟩
    | succ n ih =>
      intro i ρ h hi iv
      have hlt : i < l.length := by omega
      rw [drop_cons (List.getElem?_eq_getElem hlt)]
      exact ⟨hc _ ρ h (by omega) iv, hs i _ ρ h _ (List.getElem?_eq_getElem hlt) iv fun ρ2 h2 q2 => ih (i + 1) ρ2 h2 (by omega) q2⟩
  have := go l.length 0 ρ0 h0 (by omega) h0'
  rwa [List.drop_zero] at this
theorem loop_nil {g : DTG} {tb : DS} {Dd : DEnds} {E : DX} {chk : List Cell → Prop} {ρ : Rho} {h : List Cell} : dLoop chk g tb Dd E [] ρ h = (chk h ∧ Dd.nx ρ h) := rfl
theorem loop_cons {g : DTG} {tb : DS} {Dd : DEnds} {E : DX} {chk : List Cell → Prop} {ρ : Rho} {h : List Cell} {d : D} {l : List D} : dLoop chk g tb Dd E (d :: l) ρ h = (chk h ∧ g d ρ h fun ρ1 h1 => tb { Dd with nx := fun ρ2 h2 => dLoop chk g tb Dd E l ρ2 h2, ct := fun ρ2 h2 => dLoop chk g tb Dd E l ρ2 h2, bk := Dd.nx } ρ1 h1 E) := rfl
/-- a comprehension, item by item: val tells what comes of an item, if it passes -/
theorem lc_fm {chk : List Cell → Prop} {g : DTG} {ft : DT} {fe : DE} {E : DX} {ρ : Rho} {Q : List D → List Cell → Prop} {h : List Cell} (val : D → Option D) : ∀ (l acc : List D), chk h → l.length + acc.length ≤ 1000000 →
    (∀ d ∈ l, ∀ (K : D → List Cell → Prop) (K0 : List Cell → Prop), (match val d with | some x => K x h | none => K0 h) → g d ρ h fun ρ1 h1 => ft ρ1 h1 (fun b h2 => if b = true then fe ρ1 h2 K E else K0 h2) E) →
    Q (acc ++ l.filterMap val) h → dLcGo chk g ft fe E ρ Q l acc h
  | [], acc, hc, _, _, q => ⟨hc, by simpa using q⟩
  | d :: l, acc, hc, hl, hs, q => by
    simp only [List.length_cons] at hl
    refine ⟨hc, hs d (List.mem_cons_self ..) _ _ ?_⟩
    cases e : val d with
    | none => exact lc_fm val l acc hc (by omega) (fun x hx => hs x (List.mem_cons_of_mem _ hx)) (by simpa [List.filterMap_cons, e] using q)
    | some x => exact ⟨by omega, lc_fm val l (acc ++ [x]) hc (by simp; omega) (fun y hy => hs y (List.mem_cons_of_mem _ hy)) (by simpa [List.filterMap_cons, e] using q)⟩
/-- one that takes all items -/
theorem lc_map {chk : List Cell → Prop} {g : DTG} {fe : DE} {E : DX} {ρ : Rho} {Q : List D → List Cell → Prop} {h : List Cell} (val : D → D) {l : List D} (hc : chk h) (hl : l.length ≤ 1000000)
    (hs : ∀ d ∈ l, ∀ (K : D → List Cell → Prop), K (val d) h → g d ρ h fun ρ1 h1 => fe ρ1 h1 K E) (q : Q (l.map val) h) : dLcGo chk g (dNow true) fe E ρ Q l [] h :=
  lc_fm (fun d => some (val d)) l [] hc (by simpa using hl) (fun d hd K K0 k => by
    have := hs d hd K k
    simpa only [dNow, if_true] using this) (by simpa using q)
end DL

end

section
set_option maxHeartbeats 1000000
/-! F10: a name stored in a test; promises of the older kind over plain data. -/
namespace DL
open PySem PySem.Spec PyProof.Rows L2 KG
def dWhileN (i : Nat) (g : G2) (fe fb : DE) (f : DS) : DS := fun Dd ρ h E => ∃ W : Nat → Rho → List Cell → Prop, (∃ n, W n ρ h) ∧ ∀ n ρ h, W n ρ h →
  fe ρ h (fun x h1 => fb (ρ.set i (some x)) h1 (fun y h2 => g x y h2 fun z h3 => ∃ b, z = .bl b ∧ DWay b W n f Dd (ρ.set i (some x)) h3 E) E) E
section
variable {K : PySem.W.Frag} {dd : Hid} {E : L2.St → XK} {X : Cx} {e b : Expr} {fe fb : DE} {te tb : TE} {f : DS} {pos : Pos} {g : G2} {r : R2}
theorem fs_whileN {body : List Stmt} {i : Nat} {x : Str} {p p2 p3 : Pos} {op : CmpOp} (hp : PassesOwn (model X.prog X.w) X.A X.env X.xe) (hN : X.N.Nodup) (hi : X.N[i]? = some x) (hx : Loc X.env.scope x) (ho : OpR X (compareOp op) r) (hg : EvR K dd r g) (he : FE K dd E X e te fe) (hb : FE K dd E X b tb fb) (hm : behindInMarks op b = false)
    (hbody : FSs K dd E X body f) (hE : ∀ σ σ', E σ = E σ') (hf : X.fn x = true ∨ X.env.scope.names.lookup x = some .local := by first | exact .inl rfl | exact .inr rfl | assumption) :
    FS K dd E X (.While (.Compare (.NamedExpr (.Name x p) e p2) [op] [b] p3) body [] pos) (dWhileN i g fe fb f) := by
  obtain ⟨pe, ev⟩ := he
  obtain ⟨pb, eb⟩ := hb
  obtain ⟨u, q, ew⟩ := hbody
  refine ⟨_, ps_whileW hp (ptw_cmp ho (pew_named hN hi hx (pew_of pe) hf) pb hm) q pss_nil, fun {ex m h H ρ σ Dd Ed} R P hf G Dn S => ?_⟩
  obtain ⟨W, ⟨n0, w0⟩, turn⟩ := hf
  refine ⟨fun n σ' H' => ∃ ρ' h' m', Rel K dd ex m' H' h' ∧ Grow dd m H m' H' ∧ REnv K dd ex m' H' ρ' σ' ∧ W n ρ' h', ⟨n0, ρ, h, m, R, Grow.refl, P, w0⟩, ?_⟩
  rintro n σ' H' ⟨ρ', h', m', R', g', P', w'⟩
  refine ev R' P' (turn n ρ' h' w') ((G _).later R' g') _ fun x1 h1 m1 H1 v R1 g1 r1 f1 => ?_
  have P1 := (P'.grow g1).set (i := i) r1
  have ga := g'.comp R' g1
  refine eb R1 P1 f1 ((G _).later R1 ga) _ fun y h2 m2 H2 w R2 g2 r2 f2 => ?_
  have gb := ga.comp R1 g2
  refine hg R2 (r1.grow g2) r2 f2 _ fun z h3 m3 H3 z' R3 g3 r3 f3 => ?_
  have gc := gb.comp R2 g3
  obtain ⟨k, rfl, f3⟩ := f3
  refine ⟨k, rv_of_bl r3, ?_⟩
  have P3 := (P1.grow g2).grow g3
  unfold DWay at f3
  cases k
  · rw [if_neg Bool.false_ne_true] at f3
    show if false = true then _ else _
    rw [if_neg Bool.false_ne_true]
    exact S.nx _ _ _ _ _ R3 gc P3 f3
  · rw [if_pos rfl] at f3
    show if true = true then _ else _
    rw [if_pos rfl]
    refine ⟨fun σ2 H2 => ∃ m', m' < n ∧ ∃ ρ' h' m2, Rel K dd ex m2 H2 h' ∧ Grow dd m H m2 H2 ∧ REnv K dd ex m2 H2 ρ' σ2 ∧ W m' ρ' h', fun _ _ z => z, ?_⟩
    refine ew R3 P3 f3 (fun σ2 => (G σ2).later R3 gc) _ ⟨fun ρ4 h4 m4 H4 σ4 R4 g4 P4 q4 => ?_, (S.later R3 gc).rt, (S.later R3 gc).nx, fun ρ4 h4 m4 H4 σ4 R4 g4 P4 q4 => ?_⟩
    · obtain ⟨j, hj, wj⟩ := q4
      exact ⟨j, hj, ρ4, h4, m4, R4, gc.comp R3 g4, P4, wj⟩
    · obtain ⟨j, hj, wj⟩ := q4
      exact ⟨j, hj, ρ4, h4, m4, R4, gc.comp R3 g4, P4, wj⟩
theorem d_whileN {i : Nat} {Dd : DEnds} {ρ : Rho} {h : List Cell} {Ed : DX} : dWhileN i g fe fb f Dd ρ h Ed = ∃ W : Nat → Rho → List Cell → Prop, (∃ n, W n ρ h) ∧ ∀ n ρ h, W n ρ h →
  fe ρ h (fun x h1 => fb (ρ.set i (some x)) h1 (fun y h2 => g x y h2 fun z h3 => ∃ b, z = .bl b ∧ DWay b W n f Dd (ρ.set i (some x)) h3 Ed) Ed) Ed := rfl
end
/-! ### promises of the older kind -/
section
variable {K : PySem.W.Frag} {dd : Hid} {ex m : List Addr} {H H' : Hp} {h : List Cell} {d : Addr}
/-- all stays: a def that makes new things alone -/
theorem Rel.ofEx (R : Rel K dd ex [] H []) (e : Evl.Ex H H') : Rel K dd ex [] H' [] ∧ Grow dd [] H [] H' := by
  refine ⟨⟨List.nodup_nil, fun p q => by simp, R.ok.keep fun b o q _ => e b o q, fun p hp => ⟨by simp, ?_⟩, rfl, fun i c p z => by simp at z⟩, ⟨⟨[], by simp, by simp⟩, fun p o _ _ z => e p o z⟩⟩
  have z := (R.xs p hp).2
  cases q : H p with
  | none => rw [q] at z; exact z.elim
  | some o => rw [e p o q]; rw [q] at z; exact z
/-- the dice alone have turned -/
theorem Rel.ofFx (R : Rel K dd ex [] H []) (hd : dd.dice = some d) (f : Fx d H H') : Rel K dd ex [] H' [] ∧ Grow dd [] H [] H' := by
  have tb : LamX.Tabs dd.tabs H' := fun q hq => by
    obtain ⟨ps, z, t, k⟩ := R.ok.tb q hq
    have nd : ∀ b o, H b = some o → (∀ xs, o ≠ .lst xs) → H' b = some o := fun b o e n => f.keep b o (fun y => by
      obtain ⟨x, y', w, u⟩ := R.ok.dc d hd
      rw [y, u] at e
      cases e
      exact n _ rfl) e
    refine ⟨ps, nd _ _ z (fun _ y => nomatch y), t, fun pos cv hc => ?_⟩
    obtain ⟨c, e1, e2⟩ := k pos cv hc
    exact ⟨c, e1, nd _ _ e2 (fun _ y => by unfold LamX.CodeO at y; cases y)⟩
  refine ⟨⟨List.nodup_nil, fun p q => by simp, ⟨fun p q => by rw [hd] at q; cases q; exact f.dc, tb⟩, fun p hp => ⟨by simp, ?_⟩, rfl, fun i c p z => by simp at z⟩, ⟨⟨[], by simp, by simp⟩, fun p o _ nd z => f.keep p o (fun e => nd (.inl (by rw [e]; exact hd))) z⟩⟩
  have z := (R.xs p hp).2
  by_cases hd : p = d
  · obtain ⟨a, b, c, q⟩ := f.dc
    rw [hd, q]; trivial
  · cases q : H p with
    | none => rw [q] at z; exact z.elim
    | some o => rw [f.keep p o hd q]; rw [q] at z; exact z
theorem rv_dice {v : V} (r : Rv K dd ex m H .dice v) : ∃ d, dd.dice = some d ∧ v = .ref d := by
  cases r with
  | dice e => exact ⟨_, e, rfl⟩
/-- a tuple that stands is not hidden -/
theorem Rel.tupOut {p : Addr} {xs : List V} (R : Rel K dd ex [] H []) (hp : H p = some (.tup xs)) : ¬ dd.On p ∧ p ∉ ex := by
  refine ⟨fun z => ?_, fun z => (R.xs p z).2.notup hp⟩
  rcases z with z | ⟨q, z⟩
  · obtain ⟨a, b, c, q⟩ := R.ok.dc p z
    rw [hp] at q; cases q
  · obtain ⟨ps, y, _⟩ := R.ok.tb _ z
    rw [hp] at y; cases y
theorem rv_tupAt {p : Addr} {ds : List D} {vs : List V} (R : Rel K dd ex [] H []) (hp : H p = some (.tup vs)) (r : Rvs K dd ex [] H ds vs) : Rv K dd ex [] H (.tup ds) (.ref p) := .tup (by simp) (R.tupOut hp) (.inl hp) r
/-- a list made anew is not hidden -/
theorem rv_lstAt {p : Addr} {H0 : Hp} {ds : List D} {vs : List V} (R0 : Rel K dd ex [] H0 []) (h0 : H0 p = none) (hp : H p = some (.lst vs)) (r : Rvs K dd ex [] H ds vs) : Rv K dd ex [] H (.lst ds) (.ref p) :=
  .lst (by simp) ⟨fun z => R0.dth z h0, fun z => (R0.xs p z).2.ne h0⟩ hp r
theorem rvs_strs : ∀ {l : List (List Nat)}, Rvs K dd ex m H (l.map D.str) (l.map S)
  | [] => .nil
  | _ :: l => .cons (.str _) rvs_strs
theorem rvs1' {d : D} {vs : List V} (r : Rvs K dd ex m H [d] vs) : ∃ v, vs = [v] ∧ Rv K dd ex m H d v := rvs1 r
theorem rvs3 {x y z : D} {vs : List V} (r : Rvs K dd ex m H [x, y, z] vs) : ∃ u v w, vs = [u, v, w] ∧ Rv K dd ex m H x u ∧ Rv K dd ex m H y v ∧ Rv K dd ex m H z w := by
  cases r with
  | cons r t =>
    obtain ⟨v, w, rfl, r2, r3⟩ := rvs2 t
    exact ⟨_, v, w, rfl, r, r2, r3⟩
end
end DL

end

section
set_option maxHeartbeats 1000000
/-! F11: lambdas that capture nothing, with parameters: made, handed on, called. -/
namespace DL
open PySem PySem.Spec PyProof.Rows L2 KG

/-! ### made -/
section
variable {X : Cx} {pins : List (Addr × Obj)} {σ : L2.St} {H : Hp} {s : Shared}
theorem inv_lam {F : LF} {o : Obj} {t' : Nat} {pm ctv : Value} (I : Inv X pins σ H s) (ho : o = { cls := .type "function", data := .func (F.fd pm ctv) }) :
    Inv X pins σ (upd H s.heap.objs.size (LamO s.heap.objs.size F)) { s with heap := s.heap.push o, toks := t' } := by
  subst ho
  have e : (s.heap.push ({ cls := .type "function", data := .func (F.fd pm ctv) } : Obj)).get? s.heap.objs.size = some ({ cls := .type "function", data := .func (F.fd pm ctv) } : Obj) := Heap.get?_push_size _ rfl
  exact I.laid (a := s.heap.objs.size) (fun b u e => Heap.get?_push_of_some _ e) (Nat.le_refl _) ⟨⟨_, _, pm, ctv, e⟩, ⟨_, e⟩, fun h1 h2 ⟨od, sl, p, t, z⟩ st => ⟨od, sl, p, t, st _ z⟩⟩
/-- the lambda's object is made: all but the table stays -/
theorem lam_make {T : List (Addr × Str)} {c P : Addr} {params : Arguments} {body : Expr} {scope : Scope} {pos : Pos} {E : Value → Shared → Prop} {Q : Value → Shared → Prop} (I : Inv X pins σ H s) (TB : LamX.TabB X.base X.mg c P) (hcode : X.env.code = .ref c)
    (hm : (P, X.env.qual ++ "<lambda>") ∈ T) (hu : ∀ p ∈ T, p.1 = P → p.2 = X.env.qual ++ "<lambda>") (hT : LamX.Tabs T H) (hdef : defaultsOf params X.env = ([], [])) (hfr : ∀ y ∈ scope.names, y.2 ≠ .free)
    (h : ∀ (f c' : Addr) (H1 : Hp) (s' : Shared), Inv X pins σ H1 s' → (∀ b o, b ≠ P → H b = some o → H1 b = some o) → LamX.Tabs T H1 → H f = none → H1 f = some (LamO f ⟨X.env.qual ++ "<lambda>", params, body, scope, c'⟩) → H1 c' = some (LamX.CodeO c' (X.env.qual ++ "<lambda>")) → Q (.ref f) s') :
    wpAny (model X.prog X.w) X.A (eval (.Lambda params body scope pos) X.env) Q E s := by
  have hcl : closureFor scope X.env = pure [] := by
    have e := closure_ok (env := X.env) (scope := scope) (fun y hy e => absurd e (hfr y hy))
    rw [e]
    refine congrArg pure ?_
    have : ∀ (l : List (Str × NameKind)), (∀ y ∈ l, y.2 ≠ .free) → cloFrom X.env.cells l [] = [] := fun l => by
      induction l with
      | nil => intro _; rfl
      | cons a l ih =>
        intro hl
        obtain ⟨n, k⟩ := a
        have hk := hl (n, k) (List.mem_cons_self ..)
        have := ih fun y hy => hl y (List.mem_cons_of_mem _ hy)
        cases k <;> first | exact absurd rfl hk | exact this
    exact this _ hfr
  obtain ⟨ps, hP, ht, ha⟩ := hT _ hm
  refine PySem.W.kla_eval hdef ?_
  have bP : s.heap.BuiltinsAt X.mg P := TB.bm.keeps I.bk
  have hP' : s.heap.get? P = some { cls := .none, data := .fields ps } := I.hok P _ hP
  cases hc : codeAmong pos ps.toList with
  | none =>
    refine PySem.W.kla_makeFunction (mg := X.mg) (c := c) (P := P) (ps := ps) hcl I.ok.glob (I.mod.glob.keeps I.bk) hcode (TB.code.keeps I.bk) hP' ht hc TB.gP bP fun c' ctv h' tk hx hge hlt hrec htb => ?_
    obtain ⟨c2, oc, vs, t, e2, hoc, hd, hv⟩ := hrec
    cases e2
    have nC : H c' = none := I.hok.fresh hge
    have nPc : P ≠ c' := ne_of_none hP nC
    have I1 := LamX.inv_table (t' := tk) (more := #[rawInt pos.line, rawInt pos.col, .ref c']) (h' := h') I hP (fun b o hb e => hx b o hb e) htb hge ⟨oc, vs, t, hoc, hd, hv⟩
    have nF := I1.hok.fresh (Nat.le_refl _)
    have k1 : ∀ b o, b ≠ P → H b = some o → upd (upd H P (.tbl (ps ++ #[rawInt pos.line, rawInt pos.col, .ref c']))) c' (LamX.CodeO c' (X.env.qual ++ "<lambda>")) b = some o := fun b o n e => by
      rw [upd_ne (ne_of_none e nC), upd_ne n]
      exact e
    have eL : (ps ++ #[rawInt pos.line, rawInt pos.col, .ref c']).toList = ps.toList ++ [rawInt pos.line, rawInt pos.col, .ref c'] := by simp
    have atP : upd (upd H P (.tbl (ps ++ #[rawInt pos.line, rawInt pos.col, .ref c']))) c' (LamX.CodeO c' (X.env.qual ++ "<lambda>")) P = some (.tbl (ps ++ #[rawInt pos.line, rawInt pos.col, .ref c'])) := by
      rw [upd_ne nPc, upd_same]
    have T1 : LamX.Tabs T (upd (upd H P (.tbl (ps ++ #[rawInt pos.line, rawInt pos.col, .ref c']))) c' (LamX.CodeO c' (X.env.qual ++ "<lambda>"))) := fun p hp => by
      have co : ∀ c0 q, H c0 = some (LamX.CodeO c0 q) → upd (upd H P (.tbl (ps ++ #[rawInt pos.line, rawInt pos.col, .ref c']))) c' (LamX.CodeO c' (X.env.qual ++ "<lambda>")) c0 = some (LamX.CodeO c0 q) := fun c0 q e => k1 c0 _ (fun z => by
        rw [z, hP] at e
        exact LamX.codeO_ne _ (Option.some.inj e).symm) e
      by_cases hb : p.1 = P
      · rw [hu p hp hb, hb]
        refine ⟨_, atP, by rw [eL]; exact PySem.TriplesOk_snoc _ _ _ _ ht, fun p' cv hcv => ?_⟩
        rw [eL] at hcv
        rcases LamX.among_app _ ht hcv with z | z
        · obtain ⟨c0, e1, e2⟩ := ha p' cv z
          exact ⟨c0, e1, co _ _ e2⟩
        · exact ⟨c', z, upd_same⟩
      · obtain ⟨ps', a1, a2, a3⟩ := hT p hp
        refine ⟨ps', k1 _ _ hb a1, a2, fun p' cv hcv => ?_⟩
        obtain ⟨c0, e1, e2⟩ := a3 p' cv hcv
        exact ⟨c0, e1, co _ _ e2⟩
    have I2 := inv_lam (F := ⟨X.env.qual ++ "<lambda>", params, body, scope, c'⟩) (t' := tk) (pm := (X.mg "__name__").getD .none) (ctv := ctv) I1 rfl
    refine h h'.objs.size c' _ _ I2 (fun b o n e => ?_) (T1.ext fun b o e => ?_) (I.hok.fresh (Nat.le_trans hge (Nat.le_of_lt hlt))) upd_same ?_
    · have e1 := k1 b o n e
      exact (upd_ne (ne_of_none e1 nF)).trans e1
    · exact (upd_ne (ne_of_none e nF)).trans e
    · exact (upd_ne (Nat.ne_of_lt hlt)).trans upd_same
  | some cv =>
    obtain ⟨c', e, hco⟩ := ha pos cv hc
    subst e
    refine PySem.W.kla_makeFunctionHit (mg := X.mg) (c := c) (P := P) (ps := ps) hcl I.ok.glob (I.mod.glob.keeps I.bk) hcode (TB.code.keeps I.bk) hP' ht hc bP fun ctv h' tk hx hsz => ?_
    have I1 : Inv X pins σ H { s with heap := h', toks := tk } := I.kept hx
    have nF : H h'.objs.size = none := I1.hok.fresh (Nat.le_refl _)
    have I2 := inv_lam (F := ⟨X.env.qual ++ "<lambda>", params, body, scope, c'⟩) (t' := tk) (pm := (X.mg "__name__").getD .none) (ctv := ctv) I1 rfl
    refine h h'.objs.size c' _ _ I2 (fun b o n e => ?_) (hT.ext fun b o e => ?_) nF upd_same ?_
    · exact (upd_ne (ne_of_none e nF)).trans e
    · exact (upd_ne (ne_of_none e nF)).trans e
    · exact (upd_ne (ne_of_none hco nF)).trans hco
end
def tMkL (T : List (Addr × Str)) (P : Addr) (mk : Addr → LF) : TE := fun σ H Q => LamX.Tabs T H ∧ ∀ (f c' : Addr) (H1 : Hp), (∀ b o, b ≠ P → H b = some o → H1 b = some o) → LamX.Tabs T H1 → H f = none → H1 f = some (LamO f (mk c')) → H1 c' = some (LamX.CodeO c' (mk c').qual) → Q (.ref f) H1
def dLam (mk : Addr → LF) : DE := fun ρ h Q E => ∀ c, Q (.lam (mk c)) h
section
variable {X : Cx} {K : PySem.W.Frag} {dd : Hid} {E : L2.St → XK} {ex m : List Addr} {H H1 : Hp} {h : List Cell}
theorem Rel.extOut {p : Addr} {φ : Heap → Prop} (R : Rel K dd ex m H h) (e : H p = some (.ext φ)) : p ∉ m ∧ ¬ dd.On p ∧ p ∉ ex := by
  refine ⟨fun z => (R.lk z).noext _ e, fun z => ?_, fun z => (R.xs p z).2.noext _ e⟩
  rcases z with z | ⟨q, z⟩
  · obtain ⟨a, b, c, y⟩ := R.ok.dc p z
    rw [e] at y; cases y
  · obtain ⟨ps, y, _⟩ := R.ok.tb _ z
    rw [e] at y; cases y
/-- one table grew -/
theorem Rel.tabbed {P : Addr} {q : Str} (R : Rel K dd ex m H h) (hP : (P, q) ∈ dd.tabs) (k : ∀ b o, b ≠ P → H b = some o → H1 b = some o) (T1 : LamX.Tabs dd.tabs H1) : Rel K dd ex m H1 h ∧ Grow dd m H m H1 := by
  obtain ⟨ps, eP, _⟩ := R.ok.tb _ hP
  have nk : ∀ p, Lk (H p) → p ≠ P := fun p l z => by rw [z, eP] at l; exact l
  have kk : ∀ p, Lk (H p) → H1 p = H p := fun p l => by
    cases e : H p with
    | none => rw [e] at l; exact l.elim
    | some o => exact k p o (nk p l) e
  have g : Grow dd m H m H1 := ⟨⟨[], by simp, by simp⟩, fun p o _ b e => k p o (fun z => b (.inr ⟨q, z ▸ hP⟩)) e⟩
  refine ⟨⟨R.nd, R.on, ⟨fun p e => ?_, T1⟩, fun p hp => ⟨(R.xs p hp).1, ?_⟩, R.len, fun i c p e1 e2 => (R.cs i c p e1 e2).grow g (kk p (R.lk (List.mem_of_getElem? e2)))⟩, g⟩
  · obtain ⟨a, b, c, y⟩ := R.ok.dc p e
    exact ⟨a, b, c, k p _ (fun z => by rw [z, eP] at y; cases y) y⟩
  · rw [kk p (R.xs p hp).2]; exact (R.xs p hp).2
theorem fe_lam {c P : Addr} {params : Arguments} {body : Expr} {scope : Scope} {pos : Pos} (TB : LamX.TabB X.base X.mg c P) (hcode : X.env.code = .ref c) (hm : (P, X.env.qual ++ "<lambda>") ∈ dd.tabs) (hu : ∀ p ∈ dd.tabs, p.1 = P → p.2 = X.env.qual ++ "<lambda>")
    (hdef : defaultsOf params X.env = ([], [])) (hfr : ∀ y ∈ scope.names, y.2 ≠ .free) :
    FE K dd E X (.Lambda params body scope pos) (tMkL dd.tabs P fun c' => ⟨X.env.qual ++ "<lambda>", params, body, scope, c'⟩) (dLam fun c' => ⟨X.env.qual ++ "<lambda>", params, body, scope, c'⟩) := by
  refine ⟨⟨fun pins s σ H Q I h => ?_⟩, fun {ex m h H ρ σ Qd Ed} R P hf G Q q => ⟨R.ok.tb, fun f c' H1 k T1 hn hf1 hc1 => ?_⟩⟩
  · obtain ⟨hT, h⟩ := h
    exact lam_make I TB hcode hm hu hT hdef hfr fun f c' H1 s' I1 k T1 hn hf1 hc1 => ⟨.ref f, H1, I1, rfl, h f c' H1 k T1 hn hf1 hc1⟩
  · obtain ⟨R1, g1⟩ := R.tabbed hm k T1
    have o1 := R1.extOut (by unfold LamO at hf1; exact hf1)
    have o2 := R1.extOut (by unfold LamX.CodeO at hc1; exact hc1)
    exact q _ h m H1 _ R1 g1 (.lam ⟨o1.1, o2.1⟩ ⟨o1.2, o2.2⟩ hf1 hc1) (hf c')
end
/-! ### called -/
structure LmOk (P : Program) (w : World) (K : PySem.W.Frag) (mg : Str → Option Value) (base : Heap) (CX : CXT) (k : Nat) (F : LF) (sp : Sp) : Prop where
  run : ∀ (A : Around) (outer : List Env) (s : Shared) (H : Hp) (f : Addr) (us : List Value) (vs : List V) (Q : VK) (E : XK), Room k A → Env0 P w K mg base A outer s H → H f = some (LamO f F) → H F.c = some (LamX.CodeO F.c F.qual) → Vals vs us → sp vs H Q E →
    codeAny (model P w) A (.call (.ref f) ⟨us, []⟩) (CR CX outer P w H s Q E) s
section
variable {P : Program} {w : World} {K : PySem.W.Frag} {mg : Str → Option Value} {base : Heap} {CX : CXT} {j k : Nat}
theorem LmOk.mono {F : LF} {sp : Sp} (L : LmOk P w K mg base CX j F sp) (h : j ≤ k) : LmOk P w K mg base CX k F sp := ⟨fun A outer s H f us vs Q E hr => L.run A outer s H f us vs Q E (hr.mono h)⟩
theorem lamO_at {H : Hp} {h : Heap} {f : Addr} {F : LF} (hok : HOk P w H h) (e : H f = some (LamO f F)) : ∃ (od : Option Addr) (sl : Array (Option Value)) (pm ctv : Value), h.get? f = some (⟨.type "function", od, .func (F.fd pm ctv), sl⟩ : Obj) := by
  obtain ⟨z, _, _⟩ := hok f _ e
  exact z
theorem codeO_at {H : Hp} {h : Heap} {c : Addr} {q : Str} (hok : HOk P w H h) (e : H c = some (LamX.CodeO c q)) : h.CodeRec (.ref c) q := by
  obtain ⟨⟨oc, vs, t, h1, h2, h3⟩, _, _⟩ := hok c _ e
  exact ⟨c, oc, vs, t, rfl, h1, h2, h3⟩
/-- THE RULE of a lambda -/
theorem lm_of {F : LF} {sp : Sp} {ps N : List Str} (S : FnScope N ps F.scope) (len : ∀ vs H Q E, sp vs H Q E → vs.length = ps.length)
    (hbind : ∀ (pm ctv : Value) (us : List Value), us.length = ps.length → bindArgs (F.fd pm ctv) ⟨us, []⟩ = pure (ps.zip us))
    (hbody : ∀ (A : Around) (outer : List Env) (s : Shared) (H : Hp) (f : Addr) (vs : List V) (Q : VK) (E : XK), Room k (A.deeper (envOfC F.qual F.scope s.heap.objs.size f (.ref F.c))) → sp vs H Q E →
      ∃ te, PE (cxOf CX P w K mg base N F.qual F.scope f (.ref F.c) A outer s H E) F.body te ∧ te (start N vs) H Q) : LmOk P w K mg base CX (k + 1) F sp := by
  refine ⟨fun A outer s H f us vs Q E hr e0 hf hc rv hsp => ?_⟩
  have hvl := len _ _ _ _ hsp
  have hul : us.length = ps.length := by rw [← rv.length]; exact hvl
  obtain ⟨od, sl, pm, ctv, ho⟩ := lamO_at e0.hok hf
  have free : s.heap.NoLimit := e0.mod.nolimit.keeps fun b o e => (e0.bs b o e).1
  have hkind : ∀ y ∈ ps.zip us, F.scope.names.lookup y.1 = some .local ∨ (F.scope.names.lookup y.1 = some .cell ∧ ((cellsFrom (s.heap.objs.size + 1) F.scope.names []).lookup y.1).isSome = true) := fun ⟨n, v⟩ hy =>
    (S.par n (List.of_mem_zip hy).1).elim .inl fun q => .inr ⟨q, PySem.W.cellsFrom_some _ _ _ (.inl q)⟩
  refine PySem.W.kla_callFunE hr.depth ho rfl S.co S.gen rfl (codeO_at e0.hok hc) ?_
  rw [hbind pm ctv us hul]
  refine wpAny_pure ?_
  refine wpAny_newFunctionEnv_cells S.kind hkind fun env he s1 x => ?_
  subst he
  refine ⟨free.keeps x.toInCall.keep, ?_⟩
  obtain ⟨te, h, q⟩ := hbody A outer s H f vs Q E (hr.deeper _) hsp
  have I : Inv (cxOf CX P w K mg base N F.qual F.scope f (.ref F.c) A outer s H E) [] (start N vs) H s1 := inv_start S hr.hd e0 hvl rv x
  refine PySem.W.kla_codeExpr (wpAny_mono (h.run [] s1 (start N vs) H Q I q) (fun u s' hs => ?_) fun e s' hs => hs)
  obtain ⟨v, H', J, r', q'⟩ := hs
  exact ⟨v, H', J.os, J.bare, J.base, J.hok, r', q'⟩
/-- .. over plain data -/
theorem lmD {F : LF} {sp : DSp} {ps N : List Str} {tb : List (Addr × Str)} (S : FnScope N ps F.scope) (hlen : ∀ ds Qd Ed, sp ds Qd Ed → ds.length = ps.length)
    (hbind : ∀ (pm ctv : Value) (us : List Value), us.length = ps.length → bindArgs (F.fd pm ctv) ⟨us, []⟩ = pure (ps.zip us))
    (hbody : ∀ (dd : Hid), dd.tabs = tb → ∀ (A : Around) (outer : List Env) (s : Shared) (H : Hp) (f : Addr) (E : XK), Room k (A.deeper (envOfC F.qual F.scope s.heap.objs.size f (.ref F.c))) →
      ∃ te fe, FE K dd (fun _ => E0) (cxOf CX0 P w K mg base N F.qual F.scope f (.ref F.c) A outer s H E).nox F.body te fe ∧ ∀ ds Qd Ed, noRefs ds = true → sp ds Qd Ed → fe (startD N ds) [] (fun d h => ∃ d', frz h d = some d' ∧ Qd d') noX) : LmOk P w K mg base CX0 (k + 1) F (spD K tb sp) := by
  refine lm_of S (fun vs H Q E h => ?_) hbind (fun A outer s H f vs Q E hr h => ?_)
  · obtain ⟨dd, ex, ds, Qd, Ed, et, R, r, n, h, _⟩ := h
    rw [← r.length]
    exact hlen ds Qd Ed h
  · obtain ⟨dd, ex, ds, Qd, Ed, et, R, r, n, h, hq, hx⟩ := h
    obtain ⟨te, fe, ⟨p, ev⟩, hb⟩ := hbody dd et A outer s H f E hr
    refine ⟨te, p.nox, ev R (renv_start r) (hb ds Qd Ed n h) (fun e h' m' H' R' g' z => z.elim) Q fun d h' m' H' v R' g' r' q' => ?_⟩
    obtain ⟨d', e, q'⟩ := q'
    have R2 : Rel K dd ex [] H' [] := ⟨List.nodup_nil, fun p e => by simp, R'.ok, fun p hp => ⟨by simp, (R'.xs p hp).2⟩, rfl, fun i c p e => by simp at e⟩
    have g2 : Grow dd [] H [] H' := ⟨⟨[], by simp, by simp⟩, fun p o _ b e => g'.keep p o (by simp) b e⟩
    exact hq d' H' v R2 g2 (frz_ok R' r' e) q'
end
def tCallV (P : Program) (w : World) (K : PySem.W.Frag) (mg : Str → Option Value) (base : Heap) (k : Nat) (i : Nat) (t : TA) : TE := fun σ H Q => ∃ (f : Addr) (F : LF) (sp : Sp), σ[i]? = some (some (.ref f)) ∧ H f = some (LamO f F) ∧ LmOk P w K mg base CX0 k F sp ∧
  t σ H (fun vs H1 => H1 f = some (LamO f F) ∧ H1 F.c = some (LamX.CodeO F.c F.qual) ∧ sp vs H1 Q E0)
def dCallV (P : Program) (w : World) (K : PySem.W.Frag) (mg : Str → Option Value) (base : Heap) (k : Nat) (tb : List (Addr × Str)) (i : Nat) (fs : DA) : DE := fun ρ h Q E => ∃ (F : LF) (sp : DSp), ρ[i]? = some (some (.lam F)) ∧ LmOk P w K mg base CX0 k F (spD K tb sp) ∧
  fs ρ h (fun xs h1 => noRefs xs = true ∧ sp xs (fun d => Q d h1) fun _ => False) E
section
variable {X : Cx} {K : PySem.W.Frag} {dd : Hid} {E : L2.St → XK} {p pos : Pos} {e : Expr} {es : List Expr} {ts : TA} {fs : DA} {k : Nat} {i : Nat} {x : Str}
theorem pe_callV (hr : Room k X.A) (hN : X.N[i]? = some x) (hv : Vis X.env.scope x) (ha : PA X (e :: es) ts)
    (hd : (x == ("__debug__" : Str)) = false := by decide) (hcd : (x == ("__classdict__" : Str)) = false := by decide)
    (he : starEach (e :: es) X.env = (false, eval e X.env) :: starEach es X.env := by rfl) (hpl : (backTo pos (starEach es X.env)).any (·.1) = false := by rfl) :
    PE X (.Call (.Name x p) (e :: es) [] pos) (tCallV X.prog X.w X.K X.mg X.base k i ts) := by
  refine ⟨fun pins s σ H Q I h => ?_⟩
  obtain ⟨f, F, sp, hs, hf, L, ht⟩ := h
  refine wpAny_Call_Name_kw (thn ((pe_var (pos := p) hN hv hd hcd).run pins s σ H (fun v H1 => v = .ref f ∧ H1 = H) I ⟨.ref f, hs, rfl, rfl⟩) fun u s1 ⟨v, H1, I1, r1, q1⟩ => ?_)
  obtain ⟨ev, eH⟩ := q1
  subst ev
  rw [eH] at I1
  obtain rfl : u = Value.ref f := r1
  have fat : ∀ {σ : L2.St} {H : Hp} {s : Shared}, Inv X pins σ H s → H f = some (LamO f F) → PySem.W.FnAt f s.heap := fun I e => by
    obtain ⟨od, sl, pm, ctv, z⟩ := lamO_at I.hok e
    exact ⟨_, _, _, _, z⟩
  refine PySem.W.callWith_F (first := []) (fat I1 hf) (thn (ha.run pos pins s1 σ H _ I1 ht) fun us s2 ⟨vs, H2, I2, r, h1, h2, q⟩ => ⟨fat I2 h1, ?_⟩) he hpl
  show wpAny _ _ (call (.ref f) us) _ _ _
  refine wpAny_call (codeAny_mono (L.run X.A X.stack s2 H2 f us vs Q E0 hr I2.env0 h1 h2 r q) fun q s' hq => ?_)
  cases q with
  | error e => exact (show False from hq).elim
  | ok fl =>
    cases fl with
    | ret u => exact I2.after hq
    | next => exact False.elim hq
    | brk => exact False.elim hq
    | cont => exact False.elim hq
theorem fe_callV {tb : List (Addr × Str)} (hK : X.K = K) (ht : dd.tabs = tb) (hr : Room k X.A) (hN : X.N[i]? = some x) (hv : Vis X.env.scope x) (ha : FA K dd E X (e :: es) ts fs)
    (hd : (x == ("__debug__" : Str)) = false := by decide) (hcd : (x == ("__classdict__" : Str)) = false := by decide)
    (he : starEach (e :: es) X.env = (false, eval e X.env) :: starEach es X.env := by rfl) (hpl : (backTo pos (starEach es X.env)).any (·.1) = false := by rfl) :
    FE K dd E X (.Call (.Name x p) (e :: es) [] pos) (tCallV X.prog X.w K X.mg X.base k i ts) (dCallV X.prog X.w K X.mg X.base k tb i fs) := by
  subst hK
  refine ⟨pe_callV hr hN hv ha.1 hd hcd he hpl, fun {ex m h H ρ σ Qd Ed} R P hf G Q q => ?_⟩
  obtain ⟨F, sp, hi, L, hf⟩ := hf
  obtain ⟨v, hv, rv⟩ := P.at_ _ _ hi
  cases rv with
  | @lam f _ a b c e =>
    refine ⟨f, F, _, hv, c, L, ha.2 R P hf G _ fun xs h1 m1 H1 vs R1 g1 r1 f1 => ?_⟩
    refine ⟨g1.keep _ _ a.1 b.1.1 c, g1.keep _ _ a.2 b.2.1 e, dd, m1 ++ ex, xs, fun d => Qd d h1, fun _ => False, ht, R1.enter, rvs_in f1.1 r1, f1.1, f1.2, fun d H' v R' g' r' q' => ?_, fun _ _ _ _ _ _ _ z => z.elim⟩
    obtain ⟨R2, g2⟩ := R1.leave R' g'
    exact q d h1 m1 H' v R2 (g1.comp R1 g2) (rv_out r') q'
end
end DL

end

section
set_option maxHeartbeats 1000000
/-! F12: where the dice are a cell of ours; a list that a call makes anew; repr of a truth value. -/
namespace DL
open PySem PySem.Spec PyProof.Rows L2 KG

mutual
def noDi : D → Bool
  | .dice => false
  | .tup l => noDis l
  | .lst l => noDis l
  | .dic l => noDiK l
  | .dit l => noDiT l
  | .obj _ l => noDiO l
  | _ => true
def noDis : List D → Bool
  | [] => true
  | d :: l => noDi d && noDis l
def noDiK : List (Key × D) → Bool
  | [] => true
  | d :: l => noDi d.2 && noDiK l
def noDiT : List (List Key × D) → Bool
  | [] => true
  | d :: l => noDi d.2 && noDiT l
def noDiO : List (Str × D) → Bool
  | [] => true
  | d :: l => noDi d.2 && noDiO l
end
theorem noDiK_map : ∀ {l : List (Key × D)}, noDiK l = true → noDis (l.map (·.2)) = true
  | [], _ => rfl
  | d :: l, h => by
    rw [noDiK] at h
    obtain ⟨h1, h2⟩ := Bool.and_eq_true_iff.mp h
    show noDis (d.2 :: l.map (·.2)) = true
    rw [noDis, h1, noDiK_map h2]
    rfl
theorem noDiT_map : ∀ {l : List (List Key × D)}, noDiT l = true → noDis (l.map (·.2)) = true
  | [], _ => rfl
  | d :: l, h => by
    rw [noDiT] at h
    obtain ⟨h1, h2⟩ := Bool.and_eq_true_iff.mp h
    show noDis (d.2 :: l.map (·.2)) = true
    rw [noDis, h1, noDiT_map h2]
    rfl
theorem noDiO_map : ∀ {l : List (Str × D)}, noDiO l = true → noDis (l.map (·.2)) = true
  | [], _ => rfl
  | d :: l, h => by
    rw [noDiO] at h
    obtain ⟨h1, h2⟩ := Bool.and_eq_true_iff.mp h
    show noDis (d.2 :: l.map (·.2)) = true
    rw [noDis, h1, noDiO_map h2]
    rfl
section
variable {K : PySem.W.Frag} {dd dd' : Hid} {ex ex' m m' : List Addr} {H H' : Hp} {h : List Cell}
mutual
theorem rv_di (hm : ∀ p, p ∉ m → (¬ dd.On p ∧ p ∉ ex) → p ∉ m' ∧ ¬ dd'.On p ∧ p ∉ ex') : ∀ {d : D} {v : V}, noRef d = true → noDi d = true → Rv K dd ex m H d v → Rv K dd' ex' m' H d v
  | _, _, _, _, .non => .non
  | _, _, _, _, .bl b => .bl b
  | _, _, _, _, .int i => .int i
  | _, _, _, _, .str l => .str l
  | _, _, n, k, .tup a b c r => .tup (hm _ a b).1 (hm _ a b).2 c (rvs_di hm (by rw [noRef] at n; exact n) (by rw [noDi] at k; exact k) r)
  | _, _, n, k, .ktup e r => .ktup e (rvs_di hm (by rw [noRef] at n; exact n) (by rw [noDi] at k; exact k) r)
  | _, _, n, k, .lst a b c r => .lst (hm _ a b).1 (hm _ a b).2 c (rvs_di hm (by rw [noRef] at n; exact n) (by rw [noDi] at k; exact k) r)
  | _, _, n, k, .dic a b c e r => .dic (hm _ a b).1 (hm _ a b).2 c e (rvs_di hm (by rw [noRef] at n; exact noRefK_map n) (by rw [noDi] at k; exact noDiK_map k) r)
  | _, _, n, k, .dit a b c e r => .dit (hm _ a b).1 (hm _ a b).2 c e (rvs_di hm (by rw [noRef] at n; exact noRefT_map n) (by rw [noDi] at k; exact noDiT_map k) r)
  | _, _, n, k, .obj a b c e r => .obj ⟨(hm _ a.1 b.1).1, (hm _ a.2 b.2).1⟩ ⟨(hm _ a.1 b.1).2, (hm _ a.2 b.2).2⟩ c e (rvs_di hm (by rw [noRef] at n; exact noRefO_map n) (by rw [noDi] at k; exact noDiO_map k) r)
  | _, _, n, _, .ref e => by rw [noRef] at n; cases n
  | _, _, _, _, .adr a => .adr a
  | _, _, _, _, .ty n => .ty n
  | _, _, _, k, .dice e => by rw [noDi] at k; cases k
  | _, _, _, _, .lam a b c e => .lam ⟨(hm _ a.1 b.1).1, (hm _ a.2 b.2).1⟩ ⟨(hm _ a.1 b.1).2, (hm _ a.2 b.2).2⟩ c e
  | _, _, _, _, .scr c => .scr (c.imp id fun ⟨a, b, e⟩ => ⟨(hm _ a b).1, (hm _ a b).2, e⟩)
theorem rvs_di (hm : ∀ p, p ∉ m → (¬ dd.On p ∧ p ∉ ex) → p ∉ m' ∧ ¬ dd'.On p ∧ p ∉ ex') : ∀ {ds : List D} {vs : List V}, noRefs ds = true → noDis ds = true → Rvs K dd ex m H ds vs → Rvs K dd' ex' m' H ds vs
  | _, _, _, _, .nil => .nil
  | _, _, n, k, .cons r t => .cons (rv_di hm (by rw [noRefs] at n; exact (Bool.and_eq_true_iff.mp n).1) (by rw [noDis] at k; exact (Bool.and_eq_true_iff.mp k).1) r) (rvs_di hm (by rw [noRefs] at n; exact (Bool.and_eq_true_iff.mp n).2) (by rw [noDis] at k; exact (Bool.and_eq_true_iff.mp k).2) t)
end
mutual
theorem nr_of : ∀ {d : D} {v : V}, Rv K dd ex [] H d v → noRef d = true
  | _, _, .non => by simp [noRef]
  | _, _, .bl b => by simp [noRef]
  | _, _, .int i => by simp [noRef]
  | _, _, .str l => by simp [noRef]
  | _, _, .tup a b c r => by rw [noRef]; exact nrs_of r
  | _, _, .ktup e r => by rw [noRef]; exact nrs_of r
  | _, _, .lst a b c r => by rw [noRef]; exact nrs_of r
  | _, _, .dic (ds := ds) a b c e r => by
    rw [noRef]
    have : ∀ l : List (Key × D), noRefs (l.map (·.2)) = true → noRefK l = true := fun l => by
      induction l with
      | nil => intro _; rfl
      | cons x l ih =>
        intro z
        rw [List.map_cons, noRefs] at z
        obtain ⟨z1, z2⟩ := Bool.and_eq_true_iff.mp z
        rw [noRefK, z1, ih z2]
        rfl
    exact this ds (nrs_of r)
  | _, _, .dit (ds := ds) a b c e r => by
    rw [noRef]
    have : ∀ l : List (List Key × D), noRefs (l.map (·.2)) = true → noRefT l = true := fun l => by
      induction l with
      | nil => intro _; rfl
      | cons x l ih =>
        intro z
        rw [List.map_cons, noRefs] at z
        obtain ⟨z1, z2⟩ := Bool.and_eq_true_iff.mp z
        rw [noRefT, z1, ih z2]
        rfl
    exact this ds (nrs_of r)
  | _, _, .obj (ds := ds) a b c e r => by
    rw [noRef]
    have : ∀ l : List (Str × D), noRefs (l.map (·.2)) = true → noRefO l = true := fun l => by
      induction l with
      | nil => intro _; rfl
      | cons x l ih =>
        intro z
        rw [List.map_cons, noRefs] at z
        obtain ⟨z1, z2⟩ := Bool.and_eq_true_iff.mp z
        rw [noRefO, z1, ih z2]
        rfl
    exact this ds (nrs_of r)
  | _, _, .ref e => by simp at e
  | _, _, .adr a => by simp [noRef]
  | _, _, .ty n => by simp [noRef]
  | _, _, .dice e => by simp [noRef]
  | _, _, .lam a b c e => by simp [noRef]
  | _, _, .scr c => by simp [noRef]
theorem nrs_of : ∀ {ds : List D} {vs : List V}, Rvs K dd ex [] H ds vs → noRefs ds = true
  | _, _, .nil => by rw [noRefs]
  | _, _, .cons r t => by rw [noRefs, nr_of r, nrs_of t]; rfl
end
end
/-- a call by the dice that stand in a cell of ours -/
def dFnC (sp : DSp) (fs : DA) : DE := fun ρ h Q E => fs ρ h (fun xs h1 => ∃ (n : Nat) (a b c : Int) (ys : List D), xs = .ref n :: ys ∧ h1[n]? = some (.lst [.int a, .int b, .int c]) ∧ noRefs ys = true ∧ noDis ys = true ∧
  sp (.dice :: ys) (fun d => noDi d = true ∧ ∀ a b c : Int, Q d (h1.set n (.lst [.int a, .int b, .int c]))) fun _ => False) E
section
variable {X : Cx} {K : PySem.W.Frag} {dd : Hid} {E : L2.St → XK} {p pos : Pos} {e : Expr} {es : List Expr} {ts : TA} {fs : DA} {k : Nat} {st : Stmt} {x : Str} {ps : List Str} {sp : DSp} {ex m : List Addr} {H H' : Hp} {h : List Cell} {tb : List (Addr × Str)}
theorem three {a b c : D} {i j k : Int} {vs : List V} (r : Rvs K dd ex m H [.int i, .int j, .int k] vs) : vs = [.int i, .int j, .int k] := by
  obtain ⟨u, v, w, rfl, r1, r2, r3⟩ := rvs3 r
  cases r1; cases r2; cases r3
  rfl
theorem ev_fnC (hd : dd.dice = none) (ht : dd.tabs = tb) (es : EvA K dd E ts fs) : EvE K dd E (tCall (spD K tb sp) [] E0 ts) (dFnC sp fs) := fun {ex m h H ρ σ Qd Ed} R P hf G Q q => es R P hf G _ fun xs h1 m1 H1 vs R1 g1 r1 f1 => by
  obtain ⟨n, a, b, c, ys, rfl, hn, nr, nd, f1⟩ := f1
  cases r1 with
  | @cons _ _ v ws r0 rs =>
  cases r0 with
  | @ref _ p hp =>
    obtain ⟨us, z, ru⟩ := R1.cs n _ p hn hp
    obtain rfl := three (a := .non) (b := .non) (c := .non) ru
    have hpm := List.mem_of_getElem? hp
    have on1 : ∀ q, dd.On q → (⟨some p, dd.tabs⟩ : Hid).On q := fun q z => z.elim (fun y => by rw [hd] at y; cases y) .inr
    have on2 : ∀ q, q ∉ m1 → ¬ dd.On q → ¬ (⟨some p, dd.tabs⟩ : Hid).On q := fun q a b z => by
      rcases z with z | z
      · cases (show some p = some q from z); exact a hpm
      · exact b (.inr z)
    have Re : Rel K ⟨some p, dd.tabs⟩ (m1 ++ ex) [] H1 [] := ⟨List.nodup_nil, fun p e => by simp, ⟨fun q e => by cases (show some p = some q from e); exact ⟨a, b, c, z⟩, R1.ok.tb⟩, fun q hq => ⟨by simp, (List.mem_append.mp hq).elim R1.lk fun z => (R1.xs q z).2⟩, rfl, fun i c p e => by simp at e⟩
    refine ⟨⟨some p, dd.tabs⟩, m1 ++ ex, .dice :: ys, fun d => noDi d = true ∧ ∀ a b c : Int, Qd d (h1.set n (.lst [.int a, .int b, .int c])), fun _ => False, ht, Re, ?_, ?_, f1, fun d H' v R' g' r' q' => ?_, fun _ _ _ _ _ _ _ z => z.elim⟩
    · rw [List.append_nil]
      exact .cons (.dice rfl) (rvs_di (fun q a b => ⟨by simp, on2 q a b.1, fun z => (List.mem_append.mp z).elim a b.2⟩) nr nd rs)
    · simp [noRefs, noRef, nr]
    · obtain ⟨nd', q'⟩ := q'
      obtain ⟨a', b', c', z'⟩ := R'.ok.dc p rfl
      have g2 : Grow dd m1 H1 m1 H' := ⟨⟨[], by simp, by simp⟩, fun q o s t e => g'.keep q o (by simp) (on2 q s t) e⟩
      have same : ∀ q ∈ m1, q ≠ p → H' q = H1 q := fun q hq ne => by
        cases e : H1 q with
        | none => exact absurd e (R1.there hq)
        | some o => exact g'.keep q o (by simp) (fun z => by
            rcases z with z | z
            · cases (show some p = some q from z); exact ne rfl
            · exact R1.on q (.inr z) hq) e
      have R2 : Rel K dd ex m1 H' (h1.set n (.lst [.int a', .int b', .int c'])) := by
        refine ⟨R1.nd, R1.on, ⟨fun q e => (by rw [hd] at e; cases e), R'.ok.tb⟩, fun q hq => ⟨(R1.xs q hq).1, (R'.xs q (List.mem_append_right _ hq)).2⟩, by simp [R1.len], fun i cc q e1 e2 => ?_⟩
        by_cases hi : i = n
        · subst hi
          rw [hp] at e2
          cases e2
          have hlt := (List.getElem?_eq_some_iff.mp hn).1
          rw [List.getElem?_set_self hlt] at e1
          cases e1
          exact ⟨_, z', .cons (.int _) (.cons (.int _) (.cons (.int _) .nil))⟩
        · rw [List.getElem?_set_ne (Ne.symm hi)] at e1
          refine (R1.cs i cc q e1 e2).grow g2 (same q (List.mem_of_getElem? e2) fun y => hi ?_)
          have l1 := List.getElem?_eq_some_iff.mp hp
          have l2 := List.getElem?_eq_some_iff.mp e2
          exact (List.getElem_inj R1.nd).mp (l2.2.trans (y.trans l1.2.symm))
      refine q d _ m1 H' v R2 (g1.comp R1 g2) (rv_di (fun q a b => ⟨fun z => b.2 (List.mem_append_left _ z), fun z => b.1 (on1 q z), fun z => b.2 (List.mem_append_right _ z)⟩) (nr_of r') nd' r') (q' a' b' c')
theorem fe_callC {D : Df X.K X.mg x st ps} (hd : dd.dice = none) (ht : dd.tabs = tb) (F : FnOk X.prog X.w X.K X.mg X.base CX0 k D.f D.fd ps (spD K tb sp)) (hr : Room k X.A) (hg : Gl X x)
    (ha : FA K dd E X (e :: es) ts fs) (hdb : (x == ("__debug__" : Str)) = false := by decide) (he : starEach (e :: es) X.env = (false, eval e X.env) :: starEach es X.env := by rfl) (hpl : (backTo pos (starEach es X.env)).any (·.1) = false := by rfl) :
    FE K dd E X (.Call (.Name x p) (e :: es) [] pos) (tCall (spD K tb sp) [] E0 ts) (dFnC sp fs) := ⟨callO F hr hg ha.1 hdb he hpl, ev_fnC hd ht ha.2⟩
end
/-! ### a list that a call makes anew -/
abbrev DSpN := List D → (List D → Prop) → Prop
def spN (K : PySem.W.Frag) (tb : List (Addr × Str)) (sp : DSpN) : Sp := fun vs H Q E => ∃ (dd : Hid) (ex : List Addr) (ds : List D) (Qd : List D → Prop), dd.tabs = tb ∧ Rel K dd ex [] H [] ∧ Rvs K dd ex [] H ds vs ∧ noRefs ds = true ∧ sp ds Qd ∧
  ∀ l H' p vs, Rel K dd ex [] H' [] → Grow dd [] H [] H' → H p = none → H' p = some (.lst vs) → Rvs K dd (p :: ex) [] H' l vs → noDis l = true → Qd l → Q (.ref p) H'
def dFnN (sp : DSpN) (fs : DA) : DA := fun ρ h Q E => fs ρ h (fun xs h1 => noRefs xs = true ∧ sp xs (fun l => Q l h1)) E
section
variable {X : Cx} {K : PySem.W.Frag} {dd : Hid} {E : L2.St → XK} {p pos : Pos} {e : Expr} {es : List Expr} {ts : TA} {fs : DA} {k : Nat} {st : Stmt} {x : Str} {ps : List Str} {sp : DSpN} {tb : List (Addr × Str)}
theorem fn_call {D : Df X.K X.mg x st ps} (ht : dd.tabs = tb) (F : FnOk X.prog X.w X.K X.mg X.base CX0 k D.f D.fd ps (spN K tb sp)) (hr : Room k X.A) (hg : Gl X x)
    (ha : FA K dd E X (e :: es) ts fs) (hdb : (x == ("__debug__" : Str)) = false := by decide) (he : starEach (e :: es) X.env = (false, eval e X.env) :: starEach es X.env := by rfl) (hpl : (backTo pos (starEach es X.env)).any (·.1) = false := by rfl) :
    FN K dd E X (.Call (.Name x p) (e :: es) [] pos) (tCall (spN K tb sp) [] E0 ts) (dFnN sp fs) := by
  refine ⟨callO F hr hg ha.1 hdb he hpl, fun {ex m h H ρ σ Qd Ed} R P hf G Q q => ha.2 R P hf G _ fun xs h1 m1 H1 vs R1 g1 r1 f1 => ?_⟩
  refine ⟨dd, m1 ++ ex, xs, fun l => Qd l h1, ht, R1.enter, by rw [List.append_nil]; exact rvs_in f1.1 r1, f1.1, f1.2, fun l H' p vs R' g' hn hp rl nl q' => ?_⟩
  obtain ⟨R2, g2⟩ := R1.leave R' g'
  have h0 : p ∉ m1 := fun z => R1.there z hn
  have h1' : ¬ dd.On p := fun z => R1.dth z hn
  have h2 : p ∉ ex := fun z => (R1.xs p z).2.ne hn
  have R3 : Rel K dd (p :: ex) m1 H' h1 := ⟨R2.nd, R2.on, R2.ok, fun q hq => by
    rcases List.mem_cons.mp hq with z | z
    · rw [z]; exact ⟨h0, by rw [hp]; trivial⟩
    · exact R2.xs q z, R2.len, fun i c q e1 e2 => ((R1.cs i c q e1 e2).exq (fun y hy => ?_)).grow g2 ?_⟩
  · exact q l h1 m1 H' p vs R3 (g1.comp R1 g2) (fresh_back R1 g1 hn) h1' h2 hp (rvs_di (fun y a b => ⟨fun z => b.2 (List.mem_cons_of_mem _ (List.mem_append_left _ z)), b.1, fun z => b.2 (by
      rcases List.mem_cons.mp z with z | z
      · rw [z]; exact List.mem_cons_self ..
      · exact List.mem_cons_of_mem _ (List.mem_append_right _ z))⟩) (nrs_of rl) nl rl) q'
  · rcases List.mem_cons.mp hy with z | z
    · rw [z]; exact .inr hn
    · exact .inl z
  · have hq := List.mem_of_getElem? e2
    cases e : H1 q with
    | none => exact absurd e (R1.there hq)
    | some o => exact g'.keep q o (by simp) (fun z => R1.on q z hq) e
end
/-! ### repr of a truth value -/
def rReprB : List V → Hp → VK → Prop := fun xs H Q => ∃ b : Bool, xs = [.bl b] ∧ Q (.str (if b then "True" else "False")) H
def bCodes (b : Bool) : List Nat := if b then [84, 114, 117, 101] else [70, 97, 108, 115, 101]
def gReprB : GC := fun xs h Q => match xs with
  | [.bl b] => Q (.str (bCodes b)) h
  | _ => False
theorem call_reprB {X : Cx} : CallR X (.builtin "repr") rReprB := by
  intro pins s σ H xs us Q I r h
  obtain ⟨b, rfl, q⟩ := h
  obtain ⟨u, rfl, ru⟩ := vals1 r
  obtain rfl : u = Value.bool b := ru
  exact PySem.P.repr_of_bool ⟨.str (if b then "True" else "False"), H, I.tok _, ⟨_, rfl⟩, q⟩
theorem ec_reprB {K : PySem.W.Frag} {dd : Hid} : EvC K dd rReprB gReprB := by
  intro ex m h H xs vs Qd R rs f Q q
  unfold gReprB at f
  split at f
  · obtain ⟨v, rfl, r⟩ := rvs1 rs
    cases r
    rename_i b
    refine ⟨b, rfl, ?_⟩
    have e : (V.str (if b then "True" else "False")) = S (bCodes b) := by cases b <;> rfl
    rw [e]
    exact q.now R (.str _) f
  · exact f.elim
theorem gReprB_b {b : Bool} {h : List Cell} {Q : D → List Cell → Prop} : gReprB [.bl b] h Q ↔ Q (.str (bCodes b)) h := Iff.rfl
theorem gLen_scr {l : List Int} {h : List Cell} {Q : D → List Cell → Prop} : gLen [.scr l] h Q ↔ Q (.int l.length) h := Iff.rfl
/-! ### the end: the law's promise by the script -/
/-- the script stands; nothing is a cell, no dice yet -/
theorem rel_start {K : PySem.W.Frag} {H : Hp} {tb : List (Addr × Str)} (h : ∀ p ∈ tb, H p.1 = some (.tbl #[])) : Rel K ⟨none, tb⟩ [] [] H [] :=
  ⟨List.nodup_nil, fun p e => by simp, ⟨fun p e => (nomatch e), fun p hp => LamX.TabS.nil (h p hp)⟩, fun p hp => by simp at hp, rfl, fun i c p e => by simp at e⟩
theorem rv_scr {K : PySem.W.Frag} {H : Hp} {tb : List (Addr × Str)} {a : Addr} {ns : List Int} (h : ∀ p ∈ tb, H p.1 = some (.tbl #[])) (s : SqL K H a (ns.map V.int)) : Rv K ⟨none, tb⟩ [] [] H (.scr ns) (.ref a) := by
  rcases s with s | s
  · refine .scr (.inr ⟨by simp, ⟨fun z => ?_, by simp⟩, s⟩)
    rcases z with z | ⟨q, z⟩
    · cases z
    · have e := h _ z
      rcases s with s | ⟨_, s⟩ <;> (rw [show H a = _ from e] at s; cases s)
  · exact .scr (.inl s)
/-- the law's promise -/
def spLawD (K : PySem.W.Frag) (tb : List (Addr × Str)) : Sp := fun vs H Q E => ∃ (ns : List Int) (v : V), vs = [v] ∧ Rel K ⟨none, tb⟩ [] [] H [] ∧ Rv K ⟨none, tb⟩ [] [] H (.scr ns) v ∧ ∀ H', Q (.bl true) H'
section
variable {P : Program} {w : World} {K : PySem.W.Frag} {mg : Str → Option Value} {base : Heap} {k : Nat} {f : Addr} {fd : FuncData} {tb : List (Addr × Str)}
theorem okLaw {x qual y : Str} {st : Stmt} {N : List Str} (F : Fun K x qual st f fd) (S : FnScope N [y] (defScope st))
    (hbody : ∀ (dd : Hid), dd.dice = none → dd.tabs = tb → ∀ (cdv : Value) (A : Around) (outer : List Env) (s : Shared) (H : Hp) (E : XK), Room k (A.deeper (envOfC qual (defScope st) s.heap.objs.size f cdv)) →
      ∃ fb, FSs K dd (fun _ => E0) (cxOf CX0 P w K mg base N qual (defScope st) f cdv A outer s H E).nox (defBody st) fb ∧ ∀ ns : List Int, fb (fnEnds fun d => d = .bl true) (startD N [.scr ns]) [] noX) : FnOk P w K mg base CX0 (k + 1) f fd [y] (spLawD K tb) := by
  refine F.ok S (fun vs H Q E h => ?_) (fun cdv A outer s H vs Q E hr h => ?_)
  · obtain ⟨ns, v, rfl, _⟩ := h
    rfl
  · obtain ⟨ns, v, rfl, R, r, hq⟩ := h
    obtain ⟨fb, ⟨t, p, ev⟩, hb⟩ := hbody ⟨none, tb⟩ rfl rfl cdv A outer s H E hr
    refine ⟨t, p, body_run (Ed := fun _ => False) ev R (.cons r .nil) (hb ns) (fun d H' v _ _ r' e => ?_) fun e H' m' h' cls dx R' g' rx q => q.elim⟩
    subst e
    cases r'
    exact hq H'
end
/-- the law's promise, told at the head's heap -/
theorem lawAt {l : PySem.W.OpenLaw} {w : World} {K : PySem.W.Frag} {k n : Nat} {x : Str} {mg : Str → Option Value} {fa : Addr} {h : Heap} {fd : FuncData} {cs : List (Addr × Addr)} {qn : Addr × Addr → Str} (hT : ∀ p ∈ cs, h.get? p.2 = some { cls := .none, data := .fields #[] }) (nT : ∀ p ∈ cs, K.lookup p.2 = none) (C : ∀ p ∈ cs, PySem.W.CodeHd h p.1 p.2)
    (hb : ∀ (s : Shared) (u : Value), BindsTo s fd ⟨[u], []⟩ [(x, u)]) (F : ∀ base : Heap, K.In base → base.Ns mainGlobals mg → (∀ p ∈ cs, LamX.TabB base mg p.1 p.2) → FnOk l.prog w K mg base CX0 k fa fd [x] (spLawD K (cs.map fun p => (p.2, qn p)))) : LamX.LawAtS l w K CX0 k n x mg fa h := by
  refine ⟨fd, cs, _, hT, nT, C, hb, fun H a ns _ _ hH hS => ?_, F⟩
  have hH' : ∀ p ∈ cs.map (fun p => (p.2, qn p)), H p.1 = some (.tbl #[]) := fun p hp => by
    obtain ⟨q, hq, e⟩ := List.mem_map.mp hp
    rw [← e]
    exact hH q hq
  exact ⟨ns, .ref a, rfl, rel_start hH', rv_scr hH' hS, fun _ => rfl⟩
end DL

end

section
set_option maxHeartbeats 1000000
/-! F13: a target with a star. -/
namespace DL
open PySem PySem.Spec PyProof.Rows L2 KG
def gHd (gs : DTGs) : DTG := fun d ρ h Q => ∃ x l, d = .tup (x :: l) ∧ gs [x, .lst l] ρ h Q
section
variable {X : Cx} {K : PySem.W.Frag} {dd : Hid} {tgs : TGs} {pos : Pos}
theorem fgs_starred {e : Expr} {p : Pos} {es : List Expr} {t : TG} {u : TGs} {gd : DTG} {gs : DTGs} (h1 : FG K dd X e t gd) (h2 : FGs K dd X es u gs) : FGs K dd X (.Starred e p :: es) (gCons t u) (gTCons gd gs) := by
  obtain ⟨p1, eg⟩ := h1
  obtain ⟨p2, eg2⟩ := h2
  refine ⟨pgs_starred p1 p2, fun R P r hf Q k => ?_⟩
  obtain ⟨d, l, rfl, hf⟩ := hf
  cases r with
  | cons r rs =>
    refine ⟨_, _, rfl, eg R P r hf _ fun ρ' h' m' H' σ' R' g' P' q' => ?_⟩
    exact eg2 R' P' (rs.grow g') q' _ fun ρ2 h2 m2 H2 σ2 R2 g2 P2 q2 => k _ _ _ _ _ R2 (g'.comp R' g2) P2 q2
theorem fg_head {es : List Expr} {k : Nat} {gs : DTGs} (hK : X.K = K) (hc : X.calm = true) (h : FGs K dd X es tgs gs)
    (hn : (assignEach es X.env).length = 2 := by rfl) (hst : (assignEach es X.env).findIdx? (·.1) = some 1 := by rfl) : FG K dd X (.Tuple es k pos) (gHead K tgs) (gHd gs) := by
  obtain ⟨p, eg⟩ := h
  refine ⟨pg_head hK hc p hn hst, fun {ex m h H ρ σ d v Qd} R P r hf Q q => ?_⟩
  obtain ⟨x, l, rfl, hf⟩ := hf
  obtain ⟨a, vs, rfl, s, rr⟩ := rv_tup r
  cases rr with
  | cons r0 rs =>
    refine ⟨a, _, _, rfl, s, fun p hp => ?_⟩
    obtain ⟨R2, g2, h1, h2⟩ := R.new (o := .lst _) hp
    exact eg R2 (P.grow g2) (.cons (r0.grow g2) (.cons (.lst h1 h2 upd_same (rs.grow g2)) .nil)) hf _ fun ρ' h' m' H' σ' R' g' P' q' => q _ _ _ _ _ R' (g2.comp R2 g') P' q'
theorem d_lam {mk : Addr → LF} {ρ : Rho} {h : List Cell} {Q : D → List Cell → Prop} {E : DX} : dLam mk ρ h Q E = ∀ c, Q (.lam (mk c)) h := rfl
theorem d_callV {P : Program} {w : World} {mg : Str → Option Value} {base : Heap} {k : Nat} {tb : List (Addr × Str)} {i : Nat} {fs : DA} {ρ : Rho} {h : List Cell} {Q : D → List Cell → Prop} {E : DX} : dCallV P w K mg base k tb i fs ρ h Q E = ∃ (F : LF) (sp : DSp), ρ[i]? = some (some (.lam F)) ∧ LmOk P w K mg base CX0 k F (spD K tb sp) ∧
  fs ρ h (fun xs h1 => noRefs xs = true ∧ sp xs (fun d => Q d h1) fun _ => False) E := rfl
theorem d_fnC {sp : DSp} {fs : DA} {ρ : Rho} {h : List Cell} {Q : D → List Cell → Prop} {E : DX} : dFnC sp fs ρ h Q E = fs ρ h (fun xs h1 => ∃ (n : Nat) (a b c : Int) (ys : List D), xs = .ref n :: ys ∧ h1[n]? = some (.lst [.int a, .int b, .int c]) ∧ noRefs ys = true ∧ noDis ys = true ∧
  sp (.dice :: ys) (fun d => noDi d = true ∧ ∀ a b c : Int, Q d (h1.set n (.lst [.int a, .int b, .int c]))) fun _ => False) E := rfl
theorem d_fnN {sp : DSpN} {fs : DA} {ρ : Rho} {h : List Cell} {Q : List D → List Cell → Prop} {E : DX} : dFnN sp fs ρ h Q E = fs ρ h (fun xs h1 => noRefs xs = true ∧ sp xs (fun l => Q l h1)) E := rfl
theorem d_gcons {gd : DTG} {gs : DTGs} {ds : List D} {ρ : Rho} {h : List Cell} {Q : Rho → List Cell → Prop} : gTCons gd gs ds ρ h Q = ∃ d l, ds = d :: l ∧ gd d ρ h (fun ρ' h' => gs l ρ' h' Q) := rfl
theorem d_gnil {ds : List D} {ρ : Rho} {h : List Cell} {Q : Rho → List Cell → Prop} : gTNil ds ρ h Q = (ds = [] ∧ Q ρ h) := rfl
theorem d_gtp {n : Nat} {gs : DTGs} {d : D} {ρ : Rho} {h : List Cell} {Q : Rho → List Cell → Prop} : gTp n gs d ρ h Q = ∃ l, d = .tup l ∧ l.length = n ∧ gs l ρ h Q := rfl
theorem d_head {gs : DTGs} {d : D} {ρ : Rho} {h : List Cell} {Q : Rho → List Cell → Prop} : gHd gs d ρ h Q = ∃ x l, d = .tup (x :: l) ∧ gs [x, .lst l] ρ h Q := rfl
end
end DL

end

section
set_option maxHeartbeats 1000000
/-! F14: text[::-1]. -/
namespace DL
open PySem PySem.Spec PyProof.Rows L2 KG
def tRevS (te : TE) : TE := fun σ H Q => te σ H fun x H1 => ∃ l : List Nat, x = S l ∧ l.length ≤ 1000000 ∧ Q (S l.reverse) H1
section
variable {X : Cx}
theorem rev_pick (z : Str) : ((Builtin.Str.strSliceIndices none none (-1) z.length).filterMap (z.cps[·]?)).toArray = z.cps.toList.reverse.toArray := by
  have e : Builtin.Str.strSliceIndices none none (-1) z.length = sliceRange ((z.length : Int) - 1) (-1) (-1) := by
    unfold Builtin.Str.strSliceIndices
    simp
  rw [e, PySem.W.krv_sliceRange, PySem.W.krv_range, List.filterMap_reverse]
  show ((List.range z.cps.size).filterMap (z.cps[·]?)).reverse.toArray = _
  rw [PySem.W.krv_all]
theorem pe_revS {e : Expr} {te : TE} {k : Nat} {p1 p2 p3 pos : Pos} (he : PE X e te) : PE X (.Subscript e (.Slice none none (some (.UnaryOp .USub (.Constant (.int 1) k p1) p2)) p3) pos) (tRevS te) := by
  refine ⟨fun pins s σ H Q I h => ?_⟩
  refine Subscript_ (thn (he.run pins s σ H _ I h) fun v s1 ⟨x, H1, I1, r1, q1⟩ => ?_)
  obtain ⟨cs, ex, hz, q⟩ := q1
  subst ex
  obtain ⟨t, rfl⟩ := r1
  have hst : PO X (some (.UnaryOp .USub (.Constant (.int 1) k p1) p2)) (tPart (tUn (rU fun i => .int (-i)) (tC (.int 1)))) := po_some (pe_un un_neg pe_int)
  refine wpAny_Slice (thn (po_none.run pins s1 σ H1 (fun o H2 => o = none ∧ H2 = H1) I1 ⟨rfl, rfl⟩) fun vl s2 ⟨l, H2, I2, pl, el, e2⟩ => ?_)
  subst el e2
  refine thn (po_none.run pins s2 σ H2 (fun o H3 => o = none ∧ H3 = H2) I2 ⟨rfl, rfl⟩) fun vu s3 ⟨u, H3, I3, pu, eu, e3⟩ => ?_
  subst eu e3
  refine thn (hst.run pins s3 σ H3 (fun o H4 => o = some (-1) ∧ H4 = H3) I3 ⟨1, rfl, -1, rfl, rfl, rfl⟩) fun vs s4 ⟨o, H4, I4, ps, eo, e4⟩ => ?_
  subst eo e4
  have I5 : Inv X pins σ H4 { s4 with heap := s4.heap.push { cls := .type "slice", data := .fields #[vl, vu, vs] } } := I4.kept (t' := s4.toks) fun b ob q => Heap.get?_push_of_some _ q
  show wpAny (model X.prog X.w) X.A (subscriptTail e (.Slice none none (some (.UnaryOp .USub (.Constant (.int 1) k p1) p2)) p3) (.str ⟨cs.toArray⟩ t) (.ref s4.heap.objs.size)) (EP X pins σ Q) X.xe { s4 with heap := s4.heap.push { cls := .type "slice", data := .fields #[vl, vu, vs] } }
  refine tail_any (ops := [.ref s4.heap.objs.size, .str ⟨cs.toArray⟩ t]) (T := "str") (typeIs_str _ _ _) (F.slot_str_getitem.lookup) ?_ (by with_unfolding_all rfl)
  obtain ⟨os, hos, hcs, hds⟩ := Heap.IsSliceOf.new s4.heap vl vu vs
  obtain ⟨l', rfl, el⟩ := IsPart.raw pl
  obtain ⟨u', rfl, eu⟩ := IsPart.raw pu
  obtain ⟨k', rfl, ek⟩ := IsPart.raw ps
  cases l' with
  | some z => cases el
  | none =>
  cases u' with
  | some z => cases eu
  | none =>
  cases k' with
  | none => cases ek
  | some z =>
  obtain ⟨i, ti⟩ := z
  cases ek
  refine wpAny_getItem_str_slice (l := none) (u := none) (st := some (-1, ti)) ⟨os, hos, hcs, by first | exact hds | (rw [hds]; rfl)⟩ rfl ?_
  show Made.post (Made.str ⟨((Builtin.Str.strSliceIndices none none (-1) (⟨cs.toArray⟩ : Str).length).filterMap ((⟨cs.toArray⟩ : Str).cps[·]?)).toArray⟩) (EP X pins σ Q) _
  rw [rev_pick]
  have e2 : (⟨(⟨cs.toArray⟩ : Str).cps.toList.reverse.toArray⟩ : Str) = ⟨cs.reverse.toArray⟩ := by simp
  rw [e2]
  refine ⟨?_, .str _, H4, I5.tok _, ⟨_, rfl⟩, q⟩
  show (cs.reverse.toArray).size ≤ sizeLine
  have := line_ge
  simp
  omega
end
def dRevS (fa : DE) : DE := fun ρ h Q E => fa ρ h (fun x h1 => ∃ l, x = .str l ∧ l.length ≤ 1000000 ∧ Q (.str l.reverse) h1) E
section
variable {K : PySem.W.Frag} {dd : Hid} {E : L2.St → XK} {X : Cx} {a : Expr} {fa : DE} {ta : TE} {pos : Pos}
theorem fe_revS {k : Nat} {p1 p2 p3 : Pos} (hK : X.K = K) (ha : FE K dd E X a ta fa) : FE K dd E X (.Subscript a (.Slice none none (some (.UnaryOp .USub (.Constant (.int 1) k p1) p2)) p3) pos) (tRevS ta) (dRevS fa) := by
  obtain ⟨pa, ea⟩ := ha
  refine ⟨pe_revS pa, fun R P hf G Q q => ea R P hf G _ fun x h1 m1 H1 v R1 g1 r1 f1 => ?_⟩
  obtain ⟨l, rfl, hz, f1⟩ := f1
  cases r1
  exact ⟨l, rfl, hz, (q.later R1 g1).now R1 (.str _) f1⟩
theorem d_revS {ρ : Rho} {h : List Cell} {Q : D → List Cell → Prop} {Ed : DX} : dRevS fa ρ h Q Ed = fa ρ h (fun x h1 => ∃ l, x = .str l ∧ l.length ≤ 1000000 ∧ Q (.str l.reverse) h1) Ed := rfl
end
/-! items by number -/
theorem at0 {x : D} {l : List D} {P : D → Prop} : (∃ d, atD (x :: l) 0 = some d ∧ P d) ↔ P x := by
  have : atD (x :: l) 0 = some x := by unfold DL.atD atI; rw [show ixN (x :: l).length 0 = some 0 by unfold ixN; simp]; rfl
  rw [this]
  exact ⟨fun ⟨d, e, h⟩ => by cases e; exact h, fun h => ⟨x, rfl, h⟩⟩
theorem at1 {x y : D} {l : List D} {P : D → Prop} : (∃ d, atD (x :: y :: l) 1 = some d ∧ P d) ↔ P y := by
  have : atD (x :: y :: l) 1 = some y := by unfold DL.atD atI; rw [show ixN (x :: y :: l).length 1 = some 1 by unfold ixN; simp; omega]; rfl
  rw [this]
  exact ⟨fun ⟨d, e, h⟩ => by cases e; exact h, fun h => ⟨y, rfl, h⟩⟩
theorem at2 {x y z : D} {l : List D} {P : D → Prop} : (∃ d, atD (x :: y :: z :: l) 2 = some d ∧ P d) ↔ P z := by
  have : atD (x :: y :: z :: l) 2 = some z := by unfold DL.atD atI; rw [show ixN (x :: y :: z :: l).length 2 = some 2 by unfold ixN; simp; omega]; rfl
  rw [this]
  exact ⟨fun ⟨d, e, h⟩ => by cases e; exact h, fun h => ⟨z, rfl, h⟩⟩
theorem at_nat {α : Type} {l : List α} {i : Nat} {x : α} (h : l[i]? = some x) : atD l (i : Int) = some x := atI_nat h
/-! the way is known -/
section
variable {δ : Type} {b : Bool} {f1 f2 : DG δ} {f f' : DS} {ρ : Rho} {h : List Cell} {Qd : δ → List Cell → Prop} {Dd : DEnds} {E : DX}
theorem dif_ff (hb : b = false) (q : f2 ρ h Qd E) : DIf b f1 f2 ρ h Qd E := by rw [hb, dif_f]; exact q
theorem dif_tt (hb : b = true) (q : f1 ρ h Qd E) : DIf b f1 f2 ρ h Qd E := by rw [hb, dif_t]; exact q
theorem difs_ff (hb : b = false) (q : f' Dd ρ h E) : DIfS b f f' Dd ρ h E := by rw [hb, difs_f]; exact q
theorem difs_tt (hb : b = true) (q : f Dd ρ h E) : DIfS b f f' Dd ρ h E := by rw [hb, difs_t]; exact q
end
theorem gIx_tup {l : List D} {i : Int} {d : D} {h : List Cell} {Q : D → List Cell → Prop} (e : atD l i = some d) (q : Q d h) : gIx (.tup l) (.int i) h Q := gIx_t.mpr ⟨d, e, q⟩
theorem gIx_lst {l : List D} {i : Int} {d : D} {h : List Cell} {Q : D → List Cell → Prop} (e : atD l i = some d) (q : Q d h) : gIx (.lst l) (.int i) h Q := gIx_l.mpr ⟨d, e, q⟩
theorem d_zip {fs : DA} {ρ : Rho} {h : List Cell} {Q : List D × (List Cell → Prop) → List Cell → Prop} {E : DX} : dZip fs ρ h Q E = fs ρ h (fun xs h1 => ∃ x y, xs = [x, y] ∧ ((∃ l l2, x = .tup l ∧ y = .tup l2 ∧ Q (zipD l l2, fun _ => True) h1) ∨ ∃ l l2, asL h1 x = some l ∧ asL h1 y = some l2 ∧ Q (zipD l l2, fun h => chkD x l h ∧ chkD y l2 h) h1)) E := rfl
end DL

end

section
set_option maxHeartbeats 1000000
/-! KWeb: webs as lists of rows; lone webs of depth 2; other names; switches. Plain Lean. -/
namespace KW

abbrev Rows := List (List Nat)
def row (R : Rows) (a : Nat) : List Nat := R.getD a []
/-- between any two places there is just one place -/
structure Lone1 (n : Nat) (E : Nat → Nat → Prop) : Prop where
  lt : ∀ a b, E a b → a < n ∧ b < n
  ex : ∀ a c, a < n → c < n → ∃ b, E a b ∧ E b c
  un : ∀ a b b' c, E a b → E b c → E a b' → E b' c → b = b'
def edge (R : Rows) (a b : Nat) : Prop := b ∈ row R a
structure Lone (R : Rows) : Prop where
  one : Lone1 R.length (edge R)
  asc : ∀ r ∈ R, r.Pairwise (· < ·)

/-! ### switches -/
structure Sw (E : Nat → Nat → Prop) (o t : Nat) (M T : Nat → Prop) : Prop where
  ne : o ≠ t
  col : ∀ p, E p o ↔ E p t
  mo : ∀ b, M b → E o b
  to : ∀ b, T b → E t b
  nm : ¬ M o ∧ ¬ M t ∧ ¬ T o ∧ ¬ T t
  cl : ∀ b m c, E o b → E t m → E b c → E m c → (M b ↔ T m)
def sw (E : Nat → Nat → Prop) (o t : Nat) (M T : Nat → Prop) (a b : Nat) : Prop :=
  (a = o ∧ ((E o b ∧ ¬ M b) ∨ T b)) ∨ (a = t ∧ ((E t b ∧ ¬ T b) ∨ M b)) ∨ (a ≠ o ∧ a ≠ t ∧ E a b)
theorem Sw.symm {E : Nat → Nat → Prop} {o t : Nat} {M T : Nat → Prop} (h : Sw E o t M T) : Sw E t o T M :=
  ⟨Ne.symm h.ne, fun p => (h.col p).symm, h.to, h.mo, ⟨h.nm.2.2.2, h.nm.2.2.1, h.nm.2.1, h.nm.1⟩, fun b m c h1 h2 h3 h4 => (h.cl m b c h2 h1 h4 h3).symm⟩
section
variable {n : Nat} {E : Nat → Nat → Prop} {o t : Nat} {M T : Nat → Prop} {a b c : Nat}
theorem sw_symm : sw E o t M T a b ↔ sw E t o T M a b := by
  unfold sw
  constructor
  · rintro (⟨h, k⟩ | ⟨h, k⟩ | ⟨h, h', k⟩)
    · exact .inr (.inl ⟨h, k⟩)
    · exact .inl ⟨h, k⟩
    · exact .inr (.inr ⟨h', h, k⟩)
  · rintro (⟨h, k⟩ | ⟨h, k⟩ | ⟨h, h', k⟩)
    · exact .inr (.inl ⟨h, k⟩)
    · exact .inl ⟨h, k⟩
    · exact .inr (.inr ⟨h', h, k⟩)
theorem sw_o (h : Sw E o t M T) : sw E o t M T o b ↔ (E o b ∧ ¬ M b) ∨ T b := by
  unfold sw
  constructor
  · rintro (⟨_, k⟩ | ⟨e, k⟩ | ⟨h', _, k⟩)
    · exact k
    · exact absurd e h.ne
    · exact absurd rfl h'
  · exact fun k => .inl ⟨rfl, k⟩
theorem sw_t (h : Sw E o t M T) : sw E o t M T t b ↔ (E t b ∧ ¬ T b) ∨ M b := by
  rw [sw_symm]; exact sw_o h.symm
theorem sw_n (h1 : a ≠ o) (h2 : a ≠ t) : sw E o t M T a b ↔ E a b := by
  unfold sw
  constructor
  · rintro (⟨e, _⟩ | ⟨e, _⟩ | ⟨_, _, k⟩)
    · exact absurd e h1
    · exact absurd e h2
    · exact k
  · exact fun k => .inr (.inr ⟨h1, h2, k⟩)
/-- where a way over b to c went before: over b, or over the other of the two -/
theorem was (h : Sw E o t M T) (k : sw E o t M T b c) : ∃ b', E b' c ∧ (b' = b ∨ (b = o ∧ b' = t ∧ T c) ∨ (b = t ∧ b' = o ∧ M c)) := by
  by_cases e1 : b = o
  · subst e1
    rcases (sw_o h).mp k with ⟨k, _⟩ | k
    · exact ⟨b, k, .inl rfl⟩
    · exact ⟨t, h.to _ k, .inr (.inl ⟨rfl, rfl, k⟩)⟩
  · by_cases e2 : b = t
    · subst e2
      rcases (sw_t h).mp k with ⟨k, _⟩ | k
      · exact ⟨b, k, .inl rfl⟩
      · exact ⟨o, h.mo _ k, .inr (.inr ⟨rfl, rfl, k⟩)⟩
    · exact ⟨b, (sw_n e1 e2).mp k, .inl rfl⟩
/-- .. canonical: b stays unless c was given over -/
theorem was' (h : Sw E o t M T) (k : sw E o t M T b c) : ∃ b', E b' c ∧ ((b' = b ∧ (b = o → ¬ T c) ∧ (b = t → ¬ M c)) ∨ (b = o ∧ b' = t ∧ T c) ∨ (b = t ∧ b' = o ∧ M c)) := by
  by_cases e1 : b = o
  · subst e1
    by_cases q : T c
    · exact ⟨t, h.to _ q, .inr (.inl ⟨rfl, rfl, q⟩)⟩
    · rcases (sw_o h).mp k with ⟨k, _⟩ | k
      · exact ⟨b, k, .inl ⟨rfl, fun _ => q, fun e => absurd e h.ne⟩⟩
      · exact absurd k q
  · by_cases e2 : b = t
    · subst e2
      by_cases q : M c
      · exact ⟨o, h.mo _ q, .inr (.inr ⟨rfl, rfl, q⟩)⟩
      · rcases (sw_t h).mp k with ⟨k, _⟩ | k
        · exact ⟨b, k, .inl ⟨rfl, fun e => absurd e e1, fun _ => q⟩⟩
        · exact absurd k q
    · exact ⟨b, (sw_n e1 e2).mp k, .inl ⟨rfl, fun e => absurd e e1, fun e => absurd e e2⟩⟩
/-- where a way over b to c goes now -/
theorem now (h : Sw E o t M T) (k : E b c) : ∃ b', sw E o t M T b' c ∧ (b' = b ∨ (b = o ∧ b' = t) ∨ (b = t ∧ b' = o)) := by
  by_cases e1 : b = o
  · subst e1
    by_cases q : M c
    · exact ⟨t, (sw_t h).mpr (.inr q), .inr (.inl ⟨rfl, rfl⟩)⟩
    · exact ⟨b, (sw_o h).mpr (.inl ⟨k, q⟩), .inl rfl⟩
  · by_cases e2 : b = t
    · subst e2
      by_cases q : T c
      · exact ⟨o, (sw_o h).mpr (.inr q), .inr (.inr ⟨rfl, rfl⟩)⟩
      · exact ⟨b, (sw_t h).mpr (.inl ⟨k, q⟩), .inl rfl⟩
    · exact ⟨b, (sw_n e1 e2).mpr k, .inl rfl⟩
/-- the way is told by where it went -/
theorem was_inj (L : Lone1 n E) (h : Sw E o t M T) {b1 b2 : Nat} (k1 : sw E o t M T b1 c) (k2 : sw E o t M T b2 c) {x : Nat}
    (q1 : (x = b1 ∧ (b1 = o → ¬ T c) ∧ (b1 = t → ¬ M c)) ∨ (b1 = o ∧ x = t ∧ T c) ∨ (b1 = t ∧ x = o ∧ M c))
    (q2 : (x = b2 ∧ (b2 = o → ¬ T c) ∧ (b2 = t → ¬ M c)) ∨ (b2 = o ∧ x = t ∧ T c) ∨ (b2 = t ∧ x = o ∧ M c)) : b1 = b2 := by
  rcases q1 with ⟨e1, r1, s1⟩ | ⟨e1, f1, r1⟩ | ⟨e1, f1, r1⟩ <;> rcases q2 with ⟨e2, r2, s2⟩ | ⟨e2, f2, r2⟩ | ⟨e2, f2, r2⟩
  · rw [← e1, ← e2]
  · exfalso
    have : b1 = t := e1.symm.trans f2
    subst this
    rcases (sw_t h).mp k1 with ⟨_, w⟩ | w
    · exact w r2
    · exact s1 rfl w
  · exfalso
    have : b1 = o := e1.symm.trans f2
    subst this
    rcases (sw_o h).mp k1 with ⟨_, w⟩ | w
    · exact w r2
    · exact r1 rfl w
  · exfalso
    have : b2 = t := e2.symm.trans f1
    subst this
    rcases (sw_t h).mp k2 with ⟨_, w⟩ | w
    · exact w r1
    · exact s2 rfl w
  · rw [e1, e2]
  · exact absurd (f2.symm.trans f1) h.ne
  · exfalso
    have : b2 = o := e2.symm.trans f1
    subst this
    rcases (sw_o h).mp k2 with ⟨_, w⟩ | w
    · exact w r1
    · exact r2 rfl w
  · exact absurd (f1.symm.trans f2) h.ne
  · rw [e1, e2]
theorem sw_ex_o (L : Lone1 n E) (h : Sw E o t M T) (ho : o < n) (ht : t < n) (hc : c < n) : ∃ b, sw E o t M T o b ∧ sw E o t M T b c := by
  obtain ⟨b, k1, k2⟩ := L.ex o c ho hc
  by_cases q : M b
  · obtain ⟨m, k3, k4⟩ := L.ex t c ht hc
    have tm := (h.cl b m c k1 k3 k2 k4).mp q
    have n1 : m ≠ o := fun e => h.nm.2.2.1 (e ▸ tm)
    have n2 : m ≠ t := fun e => h.nm.2.2.2 (e ▸ tm)
    exact ⟨m, (sw_o h).mpr (.inr tm), (sw_n n1 n2).mpr k4⟩
  · obtain ⟨b', w, e⟩ := now h k2
    refine ⟨b', (sw_o h).mpr (.inl ?_), w⟩
    rcases e with rfl | ⟨rfl, rfl⟩ | ⟨rfl, rfl⟩
    · exact ⟨k1, q⟩
    · exact ⟨(h.col _).mp k1, h.nm.2.1⟩
    · exact ⟨(h.col _).mpr k1, h.nm.1⟩
theorem sw_un_o (L : Lone1 n E) (h : Sw E o t M T) {b1 b2 : Nat} (ho : o < n) (ht : t < n) (k1 : sw E o t M T o b1) (w1 : sw E o t M T b1 c) (k2 : sw E o t M T o b2) (w2 : sw E o t M T b2 c) : b1 = b2 := by
  -- a way over theirs is one over mine
  have mine : ∀ {b}, sw E o t M T b c → T b → E b c ∧ ∃ m, E o m ∧ E m c ∧ M m := fun {b} w tb => by
    have n1 : b ≠ o := fun e => h.nm.2.2.1 (e ▸ tb)
    have n2 : b ≠ t := fun e => h.nm.2.2.2 (e ▸ tb)
    have ebc := (sw_n n1 n2).mp w
    obtain ⟨m, k3, k4⟩ := L.ex o c ho (L.lt _ _ ebc).2
    exact ⟨ebc, m, k3, k4, (h.cl m b c k3 (h.to _ tb) k4 ebc).mpr tb⟩
  have other : ∀ {b}, E o b → ¬ M b → sw E o t M T b c → ∃ x, E o x ∧ E x c ∧ ¬ M x ∧ ((x = b ∧ (b = o → ¬ T c) ∧ (b = t → ¬ M c)) ∨ (b = o ∧ x = t ∧ T c) ∨ (b = t ∧ x = o ∧ M c)) := fun {b} k q w => by
    obtain ⟨x, ex, e⟩ := was' h w
    refine ⟨x, ?_, ex, ?_, e⟩
    · rcases e with ⟨rfl, _⟩ | ⟨rfl, rfl, _⟩ | ⟨rfl, rfl, _⟩
      · exact k
      · exact (h.col _).mp k
      · exact (h.col _).mpr k
    · rcases e with ⟨rfl, _⟩ | ⟨rfl, rfl, _⟩ | ⟨rfl, rfl, _⟩
      · exact q
      · exact h.nm.2.1
      · exact h.nm.1
  rcases (sw_o h).mp k1 with ⟨a1, a2⟩ | a1 <;> rcases (sw_o h).mp k2 with ⟨c1, c2⟩ | c1
  · obtain ⟨x, x1, x2, x3, x4⟩ := other a1 a2 w1
    obtain ⟨y, y1, y2, y3, y4⟩ := other c1 c2 w2
    have := L.un o x y c x1 x2 y1 y2
    subst this
    exact was_inj L h w1 w2 x4 y4
  · exfalso
    obtain ⟨x, x1, x2, x3, x4⟩ := other a1 a2 w1
    obtain ⟨_, m, m1, m2, m3⟩ := mine w2 c1
    have := L.un o x m c x1 x2 m1 m2
    subst this
    exact x3 m3
  · exfalso
    obtain ⟨x, x1, x2, x3, x4⟩ := other c1 c2 w2
    obtain ⟨_, m, m1, m2, m3⟩ := mine w1 a1
    have := L.un o x m c x1 x2 m1 m2
    subst this
    exact x3 m3
  · exact L.un t b1 b2 c (h.to _ a1) (mine w1 a1).1 (h.to _ c1) (mine w2 c1).1
theorem Lone1.sw (L : Lone1 n E) (h : Sw E o t M T) (ho : o < n) (ht : t < n) : Lone1 n (sw E o t M T) := by
  refine ⟨fun a b k => ?_, fun a c ha hc => ?_, fun a b b' c k1 w1 k2 w2 => ?_⟩
  · by_cases e1 : a = o
    · subst e1
      rcases (sw_o h).mp k with ⟨k, _⟩ | k
      · exact L.lt _ _ k
      · exact ⟨ho, (L.lt _ _ (h.to _ k)).2⟩
    · by_cases e2 : a = t
      · subst e2
        rcases (sw_t h).mp k with ⟨k, _⟩ | k
        · exact L.lt _ _ k
        · exact ⟨ht, (L.lt _ _ (h.mo _ k)).2⟩
      · exact L.lt _ _ ((sw_n e1 e2).mp k)
  · by_cases e1 : a = o
    · subst e1; exact sw_ex_o L h ho ht hc
    · by_cases e2 : a = t
      · subst e2
        obtain ⟨b, k1, k2⟩ := sw_ex_o L h.symm ht ho hc
        exact ⟨b, sw_symm.mpr k1, sw_symm.mpr k2⟩
      · obtain ⟨b, k1, k2⟩ := L.ex a c ha hc
        obtain ⟨b', w, e⟩ := now h k2
        refine ⟨b', (sw_n e1 e2).mpr ?_, w⟩
        rcases e with rfl | ⟨rfl, rfl⟩ | ⟨rfl, rfl⟩
        · exact k1
        · exact (h.col _).mp k1
        · exact (h.col _).mpr k1
  · by_cases e1 : a = o
    · subst e1; exact sw_un_o L h ho ht k1 w1 k2 w2
    · by_cases e2 : a = t
      · subst e2
        exact sw_un_o L h.symm ht ho (sw_symm.mp k1) (sw_symm.mp w1) (sw_symm.mp k2) (sw_symm.mp w2)
      · have k1' := (sw_n e1 e2).mp k1
        have k2' := (sw_n e1 e2).mp k2
        obtain ⟨x, x1, x2⟩ := was' h w1
        obtain ⟨y, y1, y2⟩ := was' h w2
        have mv : ∀ {b x}, E a b → ((x = b ∧ (b = o → ¬ T c) ∧ (b = t → ¬ M c)) ∨ (b = o ∧ x = t ∧ T c) ∨ (b = t ∧ x = o ∧ M c)) → E a x := fun {b x} k e => by
          rcases e with ⟨rfl, _⟩ | ⟨rfl, rfl, _⟩ | ⟨rfl, rfl, _⟩
          · exact k
          · exact (h.col _).mp k
          · exact (h.col _).mpr k
        have := L.un a x y c (mv k1' x2) x1 (mv k2' y2) y1
        subst this
        exact was_inj L h w1 w2 x2 y2
end
end KW

end

section
set_option maxHeartbeats 1000000
/-! KWeb2: lists of rows: mates, classes, switched rows, other names; a term's value in a lone web. Plain Lean. -/
namespace KW
open List

/-! ### lists -/
theorem len_le : ∀ {l1 l2 : List Nat}, l1.Nodup → (∀ x ∈ l1, x ∈ l2) → l1.length ≤ l2.length
  | [], _, _, _ => Nat.zero_le _
  | x :: l1, l2, h, s => by
    have hx := s x (mem_cons_self ..)
    obtain ⟨n1, n2⟩ := nodup_cons.mp h
    have := len_le (l2 := l2.erase x) n2 fun y hy => (mem_erase_of_ne fun e => n1 (by rw [← e]; exact hy)).mpr (s y (mem_cons_of_mem _ hy))
    rw [length_erase_of_mem hx] at this
    have := length_pos_of_mem hx
    simp only [length_cons]
    omega
theorem len_lt {l1 l2 : List Nat} {x : Nat} (h : l1.Nodup) (s : ∀ x ∈ l1, x ∈ l2) (hx : x ∈ l2) (n : x ∉ l1) : l1.length < l2.length := by
  have := len_le (l1 := x :: l1) (l2 := l2) (nodup_cons.mpr ⟨n, h⟩) fun y hy => by
    rcases mem_cons.mp hy with e | hy
    · rw [e]; exact hx
    · exact s y hy
  simp only [length_cons] at this
  omega
theorem asc_nd {l : List Nat} (h : l.Pairwise (· < ·)) : l.Nodup := h.imp Nat.ne_of_lt
theorem strict {l l' : List Nat} (p : l'.Perm l) (n : l.Nodup) (s : l'.Pairwise (· ≤ ·)) : l'.Pairwise (· < ·) := by
  have n' : l'.Nodup := p.nodup_iff.mpr n
  exact (s.and n').imp fun ⟨a, b⟩ => Nat.lt_of_le_of_ne a b
theorem row_mem {R : Rows} {a b : Nat} (h : b ∈ row R a) : a < R.length ∧ row R a ∈ R := by
  unfold row at h ⊢
  rw [List.getD_eq_getElem?_getD] at h ⊢
  cases e : R[a]? with
  | none => rw [e] at h; simp at h
  | some r => exact ⟨(List.getElem?_eq_some_iff.mp e).1, by simpa [e] using List.mem_of_getElem? e⟩
theorem row_at {R : Rows} {a : Nat} (h : a < R.length) : R[a]? = some (row R a) := by
  unfold row
  rw [List.getD_eq_getElem?_getD, List.getElem?_eq_getElem h]
  rfl
theorem row_of {R : Rows} {a : Nat} {r : List Nat} (h : R[a]? = some r) : row R a = r := by
  unfold row
  rw [List.getD_eq_getElem?_getD, h]
  rfl
theorem Lone.row_asc {R : Rows} (L : Lone R) (a : Nat) : (row R a).Pairwise (· < ·) := by
  cases e : row R a with
  | nil => exact .nil
  | cons x l =>
    rw [← e]
    exact L.asc _ (row_mem (b := x) (by rw [e]; exact mem_cons_self ..)).2

/-! ### mates and their classes -/
def common (R : Rows) (p m : Nat) : List Nat := (row R p).filter fun c => decide (c ∈ row R m)
def mates (R : Rows) (o t : Nat) : List (Nat × Nat) := (row R o).flatMap fun p => ((row R t).filter fun m => !(common R p m).isEmpty).map fun m => (p, m)
theorem mates_mem {R : Rows} {o t p m : Nat} : (p, m) ∈ mates R o t ↔ p ∈ row R o ∧ m ∈ row R t ∧ ∃ c, c ∈ row R p ∧ c ∈ row R m := by
  unfold mates common
  simp only [mem_flatMap, mem_map, mem_filter, Prod.mk.injEq]
  constructor
  · rintro ⟨p', h1, m', ⟨h2, h3⟩, rfl, rfl⟩
    refine ⟨h1, h2, ?_⟩
    cases e : (row R p').filter fun c => decide (c ∈ row R m') with
    | nil => rw [e] at h3; simp at h3
    | cons c l =>
      have : c ∈ (row R p').filter fun c => decide (c ∈ row R m') := by rw [e]; exact mem_cons_self ..
      obtain ⟨q1, q2⟩ := mem_filter.mp this
      exact ⟨c, q1, of_decide_eq_true q2⟩
  · rintro ⟨h1, h2, c, q1, q2⟩
    refine ⟨p, h1, m, ⟨h2, ?_⟩, rfl, rfl⟩
    cases e : (row R p).filter fun c => decide (c ∈ row R m) with
    | nil =>
      have : c ∈ (row R p).filter fun c => decide (c ∈ row R m) := mem_filter.mpr ⟨q1, decide_eq_true q2⟩
      rw [e] at this; cases this
    | cons _ _ => rfl
def Closed (P : List (Nat × Nat)) (S : List Nat) : Prop := ∀ p m p', p ∈ S → (p, m) ∈ P → (p', m) ∈ P → p' ∈ S
def theirsOf (P : List (Nat × Nat)) (S : List Nat) : List Nat := (P.filter fun x => decide (x.1 ∈ S)).map (·.2)
def mineOf (P : List (Nat × Nat)) (S T : List Nat) : List Nat := ((P.filter fun x => decide (x.2 ∈ T)).map (·.1)) ++ S
theorem theirs_mem {P : List (Nat × Nat)} {S : List Nat} {m : Nat} : m ∈ theirsOf P S ↔ ∃ p ∈ S, (p, m) ∈ P := by
  unfold theirsOf
  simp only [mem_map, mem_filter, decide_eq_true_eq]
  constructor
  · rintro ⟨⟨p, m'⟩, ⟨h1, h2⟩, rfl⟩; exact ⟨p, h2, h1⟩
  · rintro ⟨p, h1, h2⟩; exact ⟨(p, m), ⟨h2, h1⟩, rfl⟩
theorem mine_mem {P : List (Nat × Nat)} {S T : List Nat} {p : Nat} : p ∈ mineOf P S T ↔ p ∈ S ∨ ∃ m ∈ T, (p, m) ∈ P := by
  unfold mineOf
  simp only [mem_append, mem_map, mem_filter, decide_eq_true_eq]
  constructor
  · rintro (⟨⟨p', m⟩, ⟨h1, h2⟩, rfl⟩ | h)
    · exact .inr ⟨m, h2, h1⟩
    · exact .inl h
  · rintro (h | ⟨m, h1, h2⟩)
    · exact .inr h
    · exact .inl ⟨(p, m), ⟨h2, h1⟩, rfl⟩
/-- the state of the inner loop after k turns -/
structure Cls (P : List (Nat × Nat)) (ro rt : List Nat) (k : Nat) (mine theirs : List Nat) : Prop where
  asc : mine.Pairwise (· < ·)
  ascT : theirs.Pairwise (· < ·)
  sub : ∀ p ∈ mine, p ∈ ro
  subT : ∀ m ∈ theirs, m ∈ rt
  pv : (k = 0 ∧ mine.length = 1) ∨ ∃ prev : List Nat, prev.Nodup ∧ (∀ p ∈ prev, p ∈ ro) ∧ (∀ m, m ∈ theirs ↔ ∃ p ∈ prev, (p, m) ∈ P) ∧ (∀ p, p ∈ mine ↔ p ∈ prev ∨ ∃ m ∈ theirs, (p, m) ∈ P) ∧ (Closed P prev ∨ k ≤ prev.length)
section
variable {P : List (Nat × Nat)} {ro rt : List Nat} {k : Nat} {mine theirs mine' theirs' : List Nat}
theorem Cls.start {x : Nat} (h : x ∈ ro) : Cls P ro rt 0 [x] [] := ⟨by simp, by simp, fun p hp => by rw [List.mem_singleton.mp hp]; exact h, fun m hm => (nomatch hm), .inl ⟨rfl, rfl⟩⟩
theorem Cls.next (hP : ∀ p m, (p, m) ∈ P → p ∈ ro ∧ m ∈ rt) (c : Cls P ro rt k mine theirs) (a2 : theirs'.Pairwise (· < ·)) (e2 : ∀ m, m ∈ theirs' ↔ m ∈ theirsOf P mine) (a1 : mine'.Pairwise (· < ·)) (e1 : ∀ p, p ∈ mine' ↔ p ∈ mineOf P mine theirs') :
    Cls P ro rt (k + 1) mine' theirs' := by
  have e2' : ∀ m, m ∈ theirs' ↔ ∃ p ∈ mine, (p, m) ∈ P := fun m => (e2 m).trans theirs_mem
  have e1' : ∀ p, p ∈ mine' ↔ p ∈ mine ∨ ∃ m ∈ theirs', (p, m) ∈ P := fun p => (e1 p).trans mine_mem
  refine ⟨a1, a2, fun p hp => ?_, fun m hm => ?_, .inr ⟨mine, asc_nd c.asc, c.sub, e2', e1', ?_⟩⟩
  · rcases (e1' p).mp hp with h | ⟨m, _, h⟩
    · exact c.sub p h
    · exact (hP p m h).1
  · obtain ⟨p, _, h⟩ := (e2' m).mp hm
    exact (hP p m h).2
  · by_cases cl : Closed P mine
    · exact .inl cl
    right
    rcases c.pv with ⟨rfl, h⟩ | ⟨prev, pn, ps, pt, pm, h⟩
    · omega
    have sub : ∀ p ∈ prev, p ∈ mine := fun p hp => (pm p).mpr (.inl hp)
    have notall : ¬ ∀ p ∈ mine, p ∈ prev := fun all => cl fun p m p' h1 h2 h3 => by
      have : m ∈ theirs := (pt m).mpr ⟨p, all p h1, h2⟩
      exact (pm p').mpr (.inr ⟨m, this, h3⟩)
    have hex : ∃ x, x ∈ mine ∧ x ∉ prev := Classical.byContradiction fun n => notall fun p hp => Classical.byContradiction fun q => n ⟨p, hp, q⟩
    obtain ⟨x, x1, x2⟩ := hex
    have lt := len_lt pn sub x1 x2
    rcases h with h | h
    · exfalso
      apply notall
      intro p hp
      rcases (pm p).mp hp with h' | ⟨m, h1, h2⟩
      · exact h'
      · obtain ⟨p', h3, h4⟩ := (pt m).mp h1
        exact h p' m p h3 h4 h2
    · omega
theorem Cls.done (c : Cls P ro rt (2 * ro.length) mine theirs) (hr : ro ≠ []) : ∀ p m, (p, m) ∈ P → (p ∈ mine ↔ m ∈ theirs) := by
  have hl : 0 < ro.length := List.length_pos_iff.mpr hr
  rcases c.pv with ⟨h, _⟩ | ⟨prev, pn, ps, pt, pm, h⟩
  · omega
  have := len_le pn ps
  have cl : Closed P prev := by
    rcases h with h | h
    · exact h
    · omega
  intro p m hpm
  constructor
  · intro hp
    refine (pt m).mpr ⟨p, ?_, hpm⟩
    rcases (pm p).mp hp with h | ⟨m', h1, h2⟩
    · exact h
    · obtain ⟨p', h3, h4⟩ := (pt m').mp h1
      exact cl p' m' p h3 h4 h2
  · exact fun hm => (pm p).mpr (.inr ⟨m, hm, hpm⟩)
end
/-- a class of mates that has neither of the two -/
structure GoodC (R : Rows) (o t : Nat) (M T : List Nat) : Prop where
  asc : M.Pairwise (· < ·)
  ascT : T.Pairwise (· < ·)
  mo : ∀ b ∈ M, b ∈ row R o
  to : ∀ b ∈ T, b ∈ row R t
  nm : o ∉ M ∧ t ∉ M ∧ o ∉ T ∧ t ∉ T
  cl : ∀ p m, (p, m) ∈ mates R o t → (p ∈ M ↔ m ∈ T)
theorem GoodC.sw {R : Rows} {o t : Nat} {M T : List Nat} (g : GoodC R o t M T) (ne : o ≠ t) (col : ∀ p, o ∈ row R p ↔ t ∈ row R p) : Sw (edge R) o t (· ∈ M) (· ∈ T) :=
  ⟨ne, col, g.mo, g.to, g.nm, fun b m c h1 h2 h3 h4 => g.cl b m (mates_mem.mpr ⟨h1, h2, c, h3, h4⟩)⟩
theorem edge_set {R : Rows} {o t a b : Nat} {r1 r2 : List Nat} (ne : o ≠ t) (ho : o < R.length) (ht : t < R.length) : edge ((R.set o r1).set t r2) a b ↔ (a = o ∧ b ∈ r1) ∨ (a = t ∧ b ∈ r2) ∨ (a ≠ o ∧ a ≠ t ∧ edge R a b) := by
  unfold edge row
  rw [List.getD_eq_getElem?_getD, List.getD_eq_getElem?_getD]
  by_cases e2 : a = t
  · subst e2
    rw [List.getElem?_set_self (by simpa using ht)]
    simp [Ne.symm ne]
  · rw [List.getElem?_set_ne (Ne.symm e2)]
    by_cases e1 : a = o
    · subst e1
      rw [List.getElem?_set_self ho]
      simp [ne]
    · rw [List.getElem?_set_ne (Ne.symm e1)]
      simp [e1, e2]
theorem mem_set_of {α : Type} {l : List α} {i : Nat} {x y : α} (h : y ∈ l.set i x) : y = x ∨ y ∈ l := (List.mem_or_eq_of_mem_set h).symm
theorem Lone.switched {R : Rows} {o t : Nat} {M T r1 r2 : List Nat} (L : Lone R) (g : GoodC R o t M T) (ne : o ≠ t) (ho : o < R.length) (ht : t < R.length) (col : ∀ p, o ∈ row R p ↔ t ∈ row R p)
    (p1 : r1.Perm (((row R o).filter fun p => decide (p ∉ M)) ++ T)) (s1 : r1.Pairwise (· ≤ ·)) (p2 : r2.Perm (((row R t).filter fun p => decide (p ∉ T)) ++ M)) (s2 : r2.Pairwise (· ≤ ·)) : Lone ((R.set o r1).set t r2) := by
  have S := g.sw ne col
  have m1 : ∀ b, b ∈ r1 ↔ (b ∈ row R o ∧ b ∉ M) ∨ b ∈ T := fun b => by rw [p1.mem_iff]; simp
  have m2 : ∀ b, b ∈ r2 ↔ (b ∈ row R t ∧ b ∉ T) ∨ b ∈ M := fun b => by rw [p2.mem_iff]; simp
  have out : ∀ a b, edge R a b → ∃ c, edge R b c := fun a b h => by
    have hb := (L.one.lt _ _ h).2
    obtain ⟨c, h1, _⟩ := L.one.ex b b hb hb
    exact ⟨c, h1⟩
  have both : ∀ b, b ∈ row R o → b ∈ row R t → (b ∈ M ↔ b ∈ T) := fun b h1 h2 => by
    obtain ⟨c, hc⟩ := out o b h1
    exact g.cl b b (mates_mem.mpr ⟨h1, h2, c, hc, hc⟩)
  have n1 : (((row R o).filter fun p => decide (p ∉ M)) ++ T).Nodup := by
    refine nodup_append.mpr ⟨(asc_nd (L.row_asc o)).filter _, asc_nd g.ascT, fun a ha b hb e => ?_⟩
    subst e
    obtain ⟨h1, h2⟩ := mem_filter.mp ha
    exact of_decide_eq_true h2 ((both a h1 (g.to a hb)).mpr hb)
  have n2 : (((row R t).filter fun p => decide (p ∉ T)) ++ M).Nodup := by
    refine nodup_append.mpr ⟨(asc_nd (L.row_asc t)).filter _, asc_nd g.asc, fun a ha b hb e => ?_⟩
    subst e
    obtain ⟨h1, h2⟩ := mem_filter.mp ha
    exact of_decide_eq_true h2 ((both a (g.mo a hb) h1).mp hb)
  have K := L.one.sw S ho ht
  have eq : ∀ a b, edge ((R.set o r1).set t r2) a b ↔ KW.sw (edge R) o t (· ∈ M) (· ∈ T) a b := fun a b => by
    rw [edge_set ne ho ht, m1, m2]
    rfl
  have el : ((R.set o r1).set t r2).length = R.length := by simp
  refine ⟨?_, fun r hr => ?_⟩
  · rw [el]
    have : edge ((R.set o r1).set t r2) = KW.sw (edge R) o t (· ∈ M) (· ∈ T) := funext fun a => funext fun b => propext (eq a b)
    rw [this]
    exact K
  · rcases mem_set_of hr with e | hr
    · rw [e]; exact strict p2 n2 s2
    · rcases mem_set_of hr with e | hr
      · rw [e]; exact strict p1 n1 s1
      · exact L.asc r hr

/-! ### other names -/
theorem Lone.renamed {R R' : Rows} {nm : List Nat} (L : Lone R) (hp : nm.Perm (List.range R.length)) (hl : R'.length = R.length) (hr : ∀ p, p < R.length → ∃ r, R'[nm.getD p 0]? = some r ∧ r.Pairwise (· ≤ ·) ∧ r.Perm ((row R p).map fun q => nm.getD q 0)) : Lone R' := by
  have nl : nm.length = R.length := by rw [hp.length_eq, List.length_range]
  have nn : nm.Nodup := hp.nodup_iff.mpr List.nodup_range
  have lt : ∀ p, p < R.length → nm.getD p 0 < R.length := fun p h => by
    have : nm.getD p 0 ∈ nm := by rw [List.getD_eq_getElem?_getD, List.getElem?_eq_getElem (by omega)]; exact List.getElem_mem _
    exact List.mem_range.mp (hp.mem_iff.mp this)
  have inj : ∀ p q, p < R.length → q < R.length → nm.getD p 0 = nm.getD q 0 → p = q := fun p q h1 h2 e => by
    rw [List.getD_eq_getElem?_getD, List.getD_eq_getElem?_getD, List.getElem?_eq_getElem (by omega), List.getElem?_eq_getElem (by omega)] at e
    exact (List.getElem_inj nn).mp e
  have sur : ∀ x, x < R.length → ∃ p, p < R.length ∧ nm.getD p 0 = x := fun x h => by
    have : x ∈ nm := hp.mem_iff.mpr (List.mem_range.mpr h)
    obtain ⟨i, hi, e⟩ := List.mem_iff_getElem.mp this
    exact ⟨i, by omega, by rw [List.getD_eq_getElem?_getD, List.getElem?_eq_getElem hi]; exact e⟩
  have ed : ∀ p x, p < R.length → (edge R' (nm.getD p 0) x ↔ ∃ q, edge R p q ∧ nm.getD q 0 = x) := fun p x h => by
    obtain ⟨r, h1, h2, h3⟩ := hr p h
    unfold edge
    rw [row_of h1, h3.mem_iff, List.mem_map]
  have elt : ∀ a b, edge R' a b → a < R.length := fun a b h => by rw [← hl]; exact (row_mem h).1
  refine ⟨⟨fun a b h => ?_, fun a c ha hc => ?_, fun a b b' c h1 h2 h3 h4 => ?_⟩, fun r h => ?_⟩
  · have ha := elt a b h
    refine ⟨by rw [hl]; exact ha, ?_⟩
    obtain ⟨p, hp, rfl⟩ := sur a ha
    obtain ⟨q, hq, rfl⟩ := (ed p b hp).mp h
    rw [hl]
    exact lt q (L.one.lt _ _ hq).2
  · rw [hl] at ha hc
    obtain ⟨p, hp, rfl⟩ := sur a ha
    obtain ⟨q, hq, rfl⟩ := sur c hc
    obtain ⟨b, h1, h2⟩ := L.one.ex p q hp hq
    exact ⟨nm.getD b 0, (ed p _ hp).mpr ⟨b, h1, rfl⟩, (ed b _ (L.one.lt _ _ h1).2).mpr ⟨q, h2, rfl⟩⟩
  · obtain ⟨p, hp, rfl⟩ := sur a (elt _ _ h1)
    obtain ⟨q, k1, rfl⟩ := (ed p b hp).mp h1
    obtain ⟨q', k2, rfl⟩ := (ed p b' hp).mp h3
    obtain ⟨s, k3, rfl⟩ := (ed q c (L.one.lt _ _ k1).2).mp h2
    obtain ⟨s', k4, e⟩ := (ed q' _ (L.one.lt _ _ k2).2).mp h4
    have := inj s' s (L.one.lt _ _ k4).2 (L.one.lt _ _ k3).2 e
    subst this
    rw [L.one.un p q q' s' k1 k3 k2 k4]
  · obtain ⟨i, hi, e⟩ := List.mem_iff_getElem.mp h
    obtain ⟨p, hp, rfl⟩ := sur i (by omega)
    obtain ⟨r', h1, h2, h3⟩ := hr p hp
    have : r' = r := by rw [List.getElem?_eq_getElem hi, e] at h1; exact (Option.some.inj h1).symm
    subst this
    refine strict h3 ?_ h2
    refine List.nodup_iff_pairwise_ne.mpr ?_
    rw [List.pairwise_map]
    refine (L.row_asc p).imp_of_mem ?_
    intro a b ha hb hab e
    exact absurd (inj a b (L.one.lt p a ha).2 (L.one.lt p b hb).2 e) (Nat.ne_of_lt hab)
/-! ### told webs -/
def loneB (R : Rows) : Bool := R.all (fun r => r.all (fun p => decide (p < R.length)) && decide (r.Pairwise (· < ·))) && (List.range R.length).all fun a => (List.range R.length).all fun c => decide (((row R a).filter fun b => decide (c ∈ row R b)).length = 1)
theorem lone_of {R : Rows} (h : loneB R = true) : Lone R := by
  unfold loneB at h
  simp only [Bool.and_eq_true, List.all_eq_true, decide_eq_true_eq, List.mem_range] at h
  obtain ⟨h1, h2⟩ := h
  refine ⟨⟨fun a b e => ?_, fun a c ha hc => ?_, fun a b b' c k1 k2 k3 k4 => ?_⟩, fun r hr => (h1 r hr).2⟩
  · obtain ⟨q1, q2⟩ := row_mem e
    exact ⟨q1, (h1 _ q2).1 b e⟩
  · have := h2 a ha c hc
    cases e : (row R a).filter fun b => decide (c ∈ row R b) with
    | nil => rw [e] at this; cases this
    | cons b l =>
      have : b ∈ (row R a).filter fun b => decide (c ∈ row R b) := by rw [e]; exact mem_cons_self ..
      obtain ⟨q1, q2⟩ := mem_filter.mp this
      exact ⟨b, q1, of_decide_eq_true (p := c ∈ row R b) q2⟩
  · have ha := (row_mem k1).1
    have hc : c < R.length := (h1 _ (row_mem k2).2).1 c k2
    have := h2 a ha c hc
    have q1 : b ∈ (row R a).filter fun b => decide (c ∈ row R b) := mem_filter.mpr ⟨k1, decide_eq_true (show c ∈ row R b from k2)⟩
    have q2 : b' ∈ (row R a).filter fun b => decide (c ∈ row R b) := mem_filter.mpr ⟨k3, decide_eq_true (show c ∈ row R b' from k4)⟩
    obtain ⟨x, e⟩ := List.length_eq_one_iff.mp this
    rw [e] at q1 q2
    rw [List.mem_singleton.mp q1, List.mem_singleton.mp q2]
/-! ### the place between, and terms' values -/
/-- the place between -/
def mid (R : Rows) (a c : Nat) : Nat := ((row R a).find? fun b => decide (c ∈ row R b)).getD 0
theorem Lone.mid {R : Rows} (L : Lone R) {a c : Nat} (ha : a < R.length) (hc : c < R.length) : edge R a (mid R a c) ∧ edge R (KW.mid R a c) c := by
  obtain ⟨b, h1, h2⟩ := L.one.ex a c ha hc
  unfold KW.mid
  cases e : (row R a).find? fun b => decide (c ∈ row R b) with
  | none => exact absurd (decide_eq_true (show c ∈ row R b from h2)) (List.find?_eq_none.mp e b h1)
  | some x =>
    have q1 := List.mem_of_find?_eq_some e
    have q2 := List.find?_some e
    exact ⟨q1, of_decide_eq_true (p := c ∈ row R x) q2⟩
theorem Lone.mid_eq {R : Rows} (L : Lone R) {a b c : Nat} (h1 : edge R a b) (h2 : edge R b c) : KW.mid R a c = b := by
  have := L.mid (L.one.lt _ _ h1).1 (L.one.lt _ _ h2).2
  exact L.one.un a _ b c this.1 this.2 h1 h2
theorem Lone.mid_lt {R : Rows} (L : Lone R) {a c : Nat} (ha : a < R.length) (hc : c < R.length) : KW.mid R a c < R.length := (L.one.lt _ _ (L.mid ha hc).1).2
theorem Lone.mid1 {R : Rows} (L : Lone R) {x y z : Nat} (hx : x < R.length) (hy : y < R.length) (hz : z < R.length) : KW.mid R (KW.mid R x y) (KW.mid R y z) = y :=
  L.mid_eq (L.mid hx hy).2 (L.mid hy hz).1
theorem Lone.mid2 {R : Rows} (L : Lone R) {x y z : Nat} (hx : x < R.length) (hy : y < R.length) (hz : z < R.length) : KW.mid R x (KW.mid R (KW.mid R x y) z) = KW.mid R x y :=
  L.mid_eq (L.mid hx hy).1 (L.mid (L.mid_lt hx hy) hz).1
theorem Lone.mid3 {R : Rows} (L : Lone R) {x y z : Nat} (hx : x < R.length) (hy : y < R.length) (hz : z < R.length) : KW.mid R (KW.mid R x (KW.mid R y z)) z = KW.mid R y z :=
  L.mid_eq (L.mid hx (L.mid_lt hy hz)).2 (L.mid hy hz).2
/-- a term's value -/
def val (R : Rows) (v : Nat → Nat) : KT.T → Nat
  | .lf c => v c
  | .nd a b => KW.mid R (val R v a) (val R v b)
section
variable {R : Rows} {v : Nat → Nat}
theorem val_lt (L : Lone R) (hv : ∀ c, v c < R.length) : ∀ t, val R v t < R.length
  | .lf c => hv c
  | .nd a b => L.mid_lt (val_lt L hv a) (val_lt L hv b)
theorem val_red (L : Lone R) (hv : ∀ c, v c < R.length) {t u : KT.T} {r : Nat} (h : (r, u) ∈ KT.red t) : val R v t = val R v u := by
  have lt := val_lt L hv
  unfold KT.red at h
  rcases List.mem_append.mp h with h | h
  · obtain ⟨x, y, z, rfl, _, rfl⟩ := KT.red1_mem.mp h
    exact L.mid1 (lt x) (lt _) (lt z)
  · rcases List.mem_append.mp h with h | h
    · obtain ⟨x, y, z, rfl, _, rfl⟩ := KT.red2_mem.mp h
      exact L.mid2 (lt x) (lt y) (lt z)
    · obtain ⟨x, y, z, rfl, _, rfl⟩ := KT.red3_mem.mp h
      exact L.mid3 (lt x) (lt y) (lt z)
theorem val_mul (L : Lone R) (hv : ∀ c, v c < R.length) (x y : KT.T) : val R v (KT.mul x y) = val R v (.nd x y) := by
  unfold KT.mul
  split
  · rfl
  · rename_i r u l e
    exact (val_red L hv (r := r) (by rw [e]; exact mem_cons_self ..)).symm
theorem val_nf (L : Lone R) (hv : ∀ c, v c < R.length) : ∀ t, val R v (KT.nf t) = val R v t
  | .lf _ => rfl
  | .nd a b => by
    show val R v (KT.mul (KT.nf a) (KT.nf b)) = _
    rw [val_mul L hv]
    show KW.mid R (val R v (KT.nf a)) (val R v (KT.nf b)) = KW.mid R (val R v a) (val R v b)
    rw [val_nf L hv a, val_nf L hv b]
end
end KW

end

section
set_option maxHeartbeats 4000000
/-! KSetI: sorted(set(xs)) of ints. -/
namespace KG
open PySem PySem.Spec PyProof.Rows L2
/-- the members met so far -/
def metB (ns : List Int) (i : Nat) : Int → Bool := fun k => decide (k ∈ ns.take i)
def SomeR (w : World) (h : Heap) (a : Addr) (ns : List Int) (i : Nat) : Prop := ∃ n, n ≤ i ∧ SetR w h a (metB ns i) n
theorem metB_succ {ns : List Int} {i : Nat} {x : Int} (e : ns[i]? = some x) (k : Int) : metB ns (i + 1) k = (metB ns i k || decide (k = x)) := by
  unfold metB
  rw [List.take_add_one, e]
  by_cases h1 : k ∈ ns.take i <;> by_cases h2 : k = x <;> simp [h1, h2]
section
variable {prog : Program} {w : World} {A : Around} {R : Result → Shared → Prop} {I : Addr} {fp wr : List Addr} {G : Array GenState → Array GenState → Prop} {St : Nat → Shared → Prop} {E : Value → Shared → Prop} {s : Shared}
theorem loopR {ns : List Int} {Pv : Nat → Value → Prop} (W : WalksS prog w A.in1 I fp wr G ns.length Pv St) (a : Addr) (ha : a ∉ fp) (hv : ∀ i v, Pv i v → ∃ t x, ns[i]? = some x ∧ v = .int x t) (hb : ns.length + 1 < scanBound) :
    ∀ (k i : Nat) (s : Shared), ns.length - i = k → i ≤ ns.length → St i s → SomeR w s.heap a ns i → (∀ s', Moved (a :: wr) G s s' → SomeR w s'.heap a ns ns.length → R (.ok (.ret .none)) s') → codeAny (model prog w) A (.builtin "set.update.loop" ⟨[.ref a, .ref I], []⟩) R s := by
  have nw : a ∉ wr := fun z => ha (W.sub _ z)
  have mw : ∀ b ∈ wr, b ∈ a :: wr := fun _ => List.mem_cons_of_mem _
  intro k
  induction k with
  | zero =>
    intro i s hk hi st hs done
    obtain rfl : i = ns.length := by omega
    apply codeAny_builtin F.entry_set_update_loop; rw [Around.under_plainId F.plain_set_update_loop _]
    refine (show wpAny _ A.in1 (pyNext (.ref I) >>= _) _ _ s from wpAny_bind (W.done s _ _ st fun s' hm => ?_))
    obtain ⟨n, hn, r⟩ := hs
    exact (show wpAny _ A.in1 (ret Value.none) _ _ s' from wpAny_pure (done s' (hm.mono mw) ⟨n, hn, r.at fun o e => hm.heap a o nw e⟩))
  | succ k ih =>
    intro i s hk hi st hs done
    have lt : i < ns.length := by omega
    apply codeAny_builtin F.entry_set_update_loop; rw [Around.under_plainId F.plain_set_update_loop _]
    refine (show wpAny _ A.in1 (pyNext (.ref I) >>= _) _ _ s from wpAny_bind (W.item i s _ _ lt st fun v s' pv st' hm => ?_))
    obtain ⟨t, x, ex, rfl⟩ := hv i v pv
    obtain ⟨n, hn, r⟩ := hs
    have r' : SetR w s'.heap a (metB ns i) n := r.at fun o e => hm.heap a o nw e
    refine (show wpAny _ A.in1 (holding [Value.int x t] (setAdd a (.int x t)) >>= _) _ _ s' from wpAny_bind (wpAny_holding ?_)); unfold setAdd; refine wpAny_holding (wpAny_bind ((intKind prog w).pyHash (k := x) (intKind_is _ _ _ _) ?_))
    refine setR_add_hashed (s := { s' with toks := s'.toks + 1 }) r' (by omega) fun h' sb r2 => ?_
    have r3 : SomeR w h' a ns (i + 1) := ⟨_, by split <;> omega, r2.congr fun k => metB_succ ex k⟩
    refine wpAny_pure ⟨plainId_quiet F.plain_set_update_loop _, ih (i + 1) _ (by omega) lt (W.frame _ s' _ _ st' (Nat.le_succ _) fun b hb o e => (sb.2 b fun z => ha (z ▸ hb)).trans e) r3 fun s2 m2 q2 => done s2 ?_ q2⟩
    exact Moved.trans W.gtrans ((hm.mono mw).then_heap (Nat.le_succ _) fun b o nb e => (sb.2 b fun z => nb (z ▸ List.mem_cons_self)).trans e) m2
theorem set_new1 (v : Value) {Q : Value → Shared → Prop} (h : Q (.ref s.heap.objs.size) { s with heap := s.heap.push { cls := .type "set", dict := none, data := .set #[] 0 (.fresh 0 0 (!w.params.followText "set-order")) } }) :
    codeAny (model prog w) A (.call (.builtin "set.__new__") ⟨[.type "set", v], []⟩) (wants Q E) s := by
  refine codeAny_of_tree (show wpAny _ A.in1 (do checkBuiltinCall "set.__new__" ⟨[.type "set", v], []⟩; again (.builtin "set.__new__" ⟨[.type "set", v], []⟩)) _ _ s from ?_)
  refine wpAny_bind (wpAny_of_eq (F.newCall_set_1 v) (wpAny_pure ⟨plainId_quiet F.plain_set_new _, codeAny_builtin F.entry_set_new ?_⟩)); rw [Around.under_plainId F.plain_set_new _]
  have own := sub_set_self
  obtain ⟨hp, g, d, tk, os⟩ := s
  unfold Builtin.«set.__new__» Builtin.Frozenset.newClass; dsimp only; wp_walk; refine wpAny_askSetting (wpAny_pure ?_); dsimp only; simp only [newObj]
  exact wpAny_bind (wpAny_alloc (wpAny_pure (wpAny_pure h)))
theorem call_set_ints {l : Addr} {items : Array Value} {ns : List Int} {Q : Value → Shared → Prop} (hh : A.handled = none) (hl : s.heap.IsList l items) (hi : IntsAre items.toList ns) (hb : ns.length + 1 < scanBound)
    (q : ∀ (h' : Heap) (tk n : Nat), n ≤ ns.length → SetR w h' s.heap.objs.size (fun k => decide (k ∈ ns)) n → (∀ b o, b < s.heap.objs.size → s.heap.get? b = some o → h'.get? b = some o) → Q (.ref s.heap.objs.size) { s with heap := h', toks := tk }) :
    wpAny (model prog w) A (call (.type "set") [.ref l]) Q E s := by
  obtain ⟨c, tl, f1⟩ := F.called_set.mro
  have f2 := F.called_set.made; have f3 := F.called_set.sub; have f4 := F.called_set.notType; have f5 := F.called_set.canCreate; have f6 := F.typeCall_set_1 (.ref l)
  refine wpAny_call (codeAny_of_tree (show wpAny _ _ (callAny (.type "set") _) _ _ _ from wpAny_pure ⟨Code.quiet_builtin _ (by decide +kernel), codeAny_builtin F.entry_type_call ?_⟩))
  rw [Around.under_plain (weight_type_call_type "set" [.ref l] []) rfl]
  repeat (any_goals (first | assumption | wp_step))
  refine codeAny_mono (set_new1 (.ref l) (E := E) (Q := fun o s₁ => o = .ref s.heap.objs.size ∧ s₁ = { s with heap := s.heap.push { cls := .type "set", dict := none, data := .set #[] 0 (.fresh 0 0 (!w.params.followText "set-order")) } }) ⟨rfl, rfl⟩) fun r s₁ hr => ?_
  cases r with
  | error e => exact hr
  | ok fl =>
    cases fl with
    | ret obj =>
      obtain ⟨rfl, rfl⟩ := hr
      obtain ⟨ob, hob⟩ : ∃ ob, ({ cls := .type "set", dict := none, data := .set #[] 0 (.fresh 0 0 (!w.params.followText "set-order")) } : Obj) = ob := ⟨_, rfl⟩
      rw [hob]
      have at0 : (s.heap.push ob).get? s.heap.objs.size = some ob := Heap.get?_push_size _ (by rw [← hob]; rfl)
      have ty0 : Shared.TypeIs { s with heap := s.heap.push ob } (.ref s.heap.objs.size) "set" := ⟨_, at0, by rw [← hob]⟩
      have r0 : SetR w (s.heap.push ob) s.heap.objs.size (fun _ => false) 0 := by rw [← hob]; exact setR_fresh w
      have f7 := F.called_set.init.lookup; have f8 := F.called_set.init.bind (.ref s.heap.objs.size)
      repeat (any_goals (first | assumption | wp_step))
      refine codeAny_mono (codeAny_call_builtin (R := wants (fun r s₂ => r = .none ∧ ∃ h' tk n, s₂ = { s with heap := h', toks := tk } ∧ n ≤ ns.length ∧ SetR w h' s.heap.objs.size (fun k => decide (k ∈ ns)) n ∧ ∀ b o, b < s.heap.objs.size → s.heap.get? b = some o → h'.get? b = some o) E) F.called_set.init.plain F.entry_set_init (check_set_init_1 ty0 ?_)) fun r₂ s₂ hr₂ => ?_
      · have l1 : (s.heap.push ob).IsList l items := hl.push _
        obtain ⟨⟨ocls, odict, odata, osl⟩, o1, o2, nl, o3⟩ := l1
        simp only at o2 o3
        subst o2; subst o3
        have g1 := F.sub_list_set; have g2 := F.sub_list_frozenset
        have g3 : (Value.type "list" == Value.type "dict") = false := by decide
        have l2 : (s.heap.push ob).IsList l items := hl.push _
        have llt : l < s.heap.objs.size := by obtain ⟨_, z, _⟩ := hl; exact Heap.lt_size z
        have nI : l ≠ (s.heap.push ob).objs.size := by rw [Heap.size_push]; exact Nat.ne_of_lt (Nat.lt_succ_of_lt llt)
        have nS : s.heap.objs.size ∉ [(s.heap.push ob).objs.size, l] := by rw [Heap.size_push]; simp only [List.mem_cons, List.not_mem_nil, or_false, not_or]; exact ⟨Nat.ne_of_lt (Nat.lt_succ_self _), Nat.ne_of_gt llt⟩
        have len : items.size = ns.length := by rw [← hi.length, Array.length_toList]
        have W := (Walks.list (prog := prog) (w := w) (A := A.in1.in1.in1) (by simp [hh]) (s.heap.push ob).objs.size l nI items).toS
        rw [len] at W
        subst hob
        unfold Builtin.«set.__init__» noKeywords Builtin.Frozenset.updateFrom
        generalize hPI : pyIter = PI
        wp_walk
        subst hPI
        apply wpAny_pyIter_list l2; apply wpAny_bind; apply wpAny_runValue
        refine loopR W s.heap.objs.size nS (fun i v hv => ?_) hb (ns.length - 0) 0 _ rfl (Nat.zero_le _) ⟨⟨_, Heap.get?_push_size _ rfl, rfl, rfl⟩, l2.push _⟩ ⟨0, Nat.le_refl _, ?_⟩ ?_
        · obtain ⟨t, e⟩ := hi.int_at i v (by rw [Array.getElem?_toList]; exact hv)
          have hlt : i < ns.length := by rw [← len]; exact (Array.getElem?_eq_some_iff.mp hv).1
          exact ⟨t, ns[i], List.getElem?_eq_getElem hlt, by rw [e, List.getD_eq_getElem?_getD, List.getElem?_eq_getElem hlt]; rfl⟩
        · exact (r0.congr fun k => by simp [metB]).at fun o e => Heap.get?_push_of_some _ e
        · rintro ⟨h', g', d', tk', os'⟩ hm ⟨n, hn, r⟩
          obtain rfl : g' = s.gens := hm.gens
          obtain rfl : d' = s.drawn := hm.drawn
          obtain rfl : os' = s.os := hm.os
          refine (show wpAny _ _ _ _ _ _ from wpAny_pure (show wpAny _ _ (ret Value.none) _ _ _ from wpAny_pure ⟨rfl, h', tk', n, rfl, hn, r.congr fun k => by simp [metB], fun b o hb e => ?_⟩))
          exact hm.heap b o (by rw [Heap.size_push]; simp only [List.mem_cons, List.not_mem_nil, or_false, not_or]; exact ⟨Nat.ne_of_lt hb, Nat.ne_of_lt (Nat.lt_succ_of_lt hb)⟩) (Heap.get?_push_of_some _ (Heap.get?_push_of_some _ e))
      · cases r₂ with
        | error e => exact hr₂
        | ok fl₂ =>
          cases fl₂ with
          | ret r =>
            obtain ⟨rfl, h', tk, n, rfl, hn, hr3, hk⟩ := hr₂
            repeat (any_goals (first | assumption | wp_step))
            exact q _ _ n hn hr3 hk
          | _ => exact hr₂.elim
    | _ => exact hr.elim
end
theorem setR_few {w : World} {h : Heap} {a : Addr} {ns : List Int} {n : Nat} (r : SetR w h a (fun k => decide (k ∈ ns)) n) (B : Nat) (hb : ∀ k ∈ ns, 0 ≤ k ∧ k < (B : Int)) : n ≤ B := by
  obtain ⟨o, es, ep, t, _, _, _, _, nd, hm, _, _, hn, _⟩ := r
  have nat : ∀ x ∈ es.toList.map keyOf, 0 ≤ x ∧ x < (B : Int) := fun x hx => hb x (of_decide_eq_true ((hm x).mpr hx))
  have e : (es.toList.map keyOf).length = n := by rw [List.length_map, Array.length_toList]; exact hn
  rw [← e]
  have : ((es.toList.map keyOf).map Int.toNat).Nodup := by
    rw [List.nodup_iff_pairwise_ne, List.pairwise_map]
    refine (List.nodup_iff_pairwise_ne.mp nd).imp_of_mem ?_
    intro x y hx hy ne q
    have h1 := nat x hx
    have h2 := nat y hy
    omega
  have z := KW.len_le (l2 := List.range B) this fun x hx => by
    obtain ⟨y, hy, rfl⟩ := List.mem_map.mp hx
    have := nat y hy
    exact List.mem_range.mpr (by omega)
  rwa [List.length_map, List.length_range] at z
/-- set(xs), a list of ints -/
def rSetI (K : PySem.W.Frag) (w : World) : List V → Hp → VK → Prop := fun vs H Q => ∃ (a : Addr) (ns : List Int), vs = [V.ref a] ∧ SqL K H a (ns.map V.int) ∧ ns.length < 1000 ∧ ∀ p n, n ≤ ns.length → (∀ B : Nat, (∀ k ∈ ns, 0 ≤ k ∧ k < (B : Int)) → n ≤ B) → H p = none → Q (.ref p) (upd H p (SetO w p (fun k => decide (k ∈ ns)) n))
theorem cr_setI {X : Cx} (hc : X.calm = true) : CallR X (.type "set") (rSetI X.K X.w) := by
  intro pins s σ H vs us Q I r h
  obtain ⟨a, ns, rfl, hs, hl, q⟩ := h
  obtain ⟨its, rv, pl, _⟩ := I.list hs
  rw [Vals.ref1 r]
  refine call_set_ints (I.ok.hd hc) pl.isList (by simpa using rv.ints) (by unfold scanBound; omega) fun h' tk n hn rr hk => ?_
  exact ⟨.ref _, _, I.laid (t' := tk) (fun b u e => hk b u (Heap.lt_size e) e) (Nat.le_refl _) (setO_new rr), rfl, q _ n hn (setR_few rr) (I.hok.fresh (Nat.le_refl _))⟩
end KG

end

section
set_option maxHeartbeats 4000000
/-! KDictT: dict(pairs) and d.update(d2), keys that are tuples of ints and texts. -/
namespace KG
open PySem PySem.Spec PyProof.Rows L2
def mergeT (kvs more : List (List L2.Key × V)) : List (List L2.Key × V) := more.foldl (fun acc kv => putK acc kv.1 kv.2) kvs
theorem mergeT_len : ∀ (more kvs : List (List L2.Key × V)), (mergeT kvs more).length ≤ kvs.length + more.length
  | [], kvs => Nat.le_refl _
  | p :: more, kvs => by
    have h1 := mergeT_len more (putK kvs p.1 p.2)
    have h2 := length_putK kvs p.1 p.2
    show (mergeT (putK kvs p.1 p.2) more).length ≤ _
    simp only [List.length_cons]
    omega
theorem mergeT_val (k : List L2.Key) : ∀ (more kvs : List (List L2.Key × V)), (∀ v, (k, v) ∉ more) → valV (mergeT kvs more) k = valV kvs k
  | [], kvs, _ => rfl
  | p :: more, kvs, h => by
    show valV (mergeT (putK kvs p.1 p.2) more) k = _
    rw [mergeT_val k more _ fun v z => h v (List.mem_cons_of_mem _ z), valV_put, if_neg fun e => h p.2 (by rw [e]; exact List.mem_cons_self ..)]
theorem KT.merge {H : Hp} : ∀ {more : List (List L2.Key × V)} {rs : List (List L2.Key × Addr × Value)} {kvs : List (List L2.Key × V)} {xs : List (List L2.Key × Addr × Value)}, KT H more rs → KT H kvs xs → KT H (mergeT kvs more) (storedAllH xs rs) := by
  intro more rs kvs xs r
  induction r generalizing kvs xs with
  | nil => intro q; exact q
  | @cons p q ps qs h t ih =>
    intro z
    obtain ⟨h1, h2, h3⟩ := h
    have := z.put (k := p.1) h2 h3
    rw [h1] at this
    have e : mergeT kvs (p :: ps) = mergeT (putK kvs q.1 p.2) ps := by show mergeT (putK kvs p.1 p.2) ps = _; rw [h1]
    rw [e]
    exact ih this
/-- the hash of a key -/
def hashT (P : Program) (w : World) (ks : List L2.Key) : Int := (tupleKind (mixKind P w)).hash ks
/-- a list of pairs (tuple, value) -/
def PrsT (H : Hp) : List Addr → List (List L2.Key × V) → Prop := Paired fun p kv => ∃ b, H p = some (.tup [.ref b, kv.2]) ∧ H b = some (.tup (kv.1.map kV))
section
variable {P : Program} {w : World} {H : Hp} {h : Heap}
theorem prsT_raw (ok : HOk P w H h) : ∀ {ps : List Addr} {kvs : List (List L2.Key × V)}, PrsT H ps kvs → ∃ rs : List (List L2.Key × Addr × Value), KT H kvs rs ∧ rs.length = ps.length ∧ ∀ (j : Nat) (p : Addr) (q : List L2.Key × Addr × Value), ps[j]? = some p → rs[j]? = some q → IsTup h p #[.ref q.2.1, q.2.2]
  | _, _, .nil => ⟨[], .nil, rfl, fun j p q e => by simp at e⟩
  | _, _, .cons (a := p) (b := kv) e t => by
    obtain ⟨rs, r, hl, f⟩ := prsT_raw ok t
    obtain ⟨b, h1, h2⟩ := e
    obtain ⟨_, its, rv, ht⟩ := (show ObjOk P w H h p (.tup [.ref b, kv.2]) from ok p _ h1)
    obtain ⟨u, y, ei, ru, ry⟩ := vals2 rv
    subst ei
    cases ru
    refine ⟨(kv.1, b, y) :: rs, .cons ⟨rfl, h2, ry⟩ r, by rw [List.length_cons, List.length_cons, hl], fun j p' q e1 e2 => ?_⟩
    cases j with
    | zero =>
      cases (Option.some.inj e1)
      cases (Option.some.inj e2)
      exact ht
    | succ j => exact f j p' q (by simpa using e1) (by simpa using e2)
theorem kt_is (ok : HOk P w H h) : ∀ {kvs : List (List L2.Key × V)} {rs : List (List L2.Key × Addr × Value)}, KT H kvs rs → ∀ x ∈ rs, (tupleKind (mixKind P w)).is h x.1 x.2.1 := fun r => by
  induction r with
  | nil => intro x hx; cases hx
  | @cons p q ps qs e t ih =>
    intro x hx
    rcases List.mem_cons.mp hx with z | hx
    · subst z
      exact key_of ok (by rw [← e.1]; exact e.2.1)
    · exact ih x hx
end
/-- dict(pairs) -/
def rDictT (K : PySem.W.Frag) : List V → Hp → VK → Prop := fun vs H Q => ∃ (a : Addr) (ps : List Addr) (kvs : List (List L2.Key × V)), vs = [.ref a] ∧ SqL K H a (ps.map V.ref) ∧ PrsT H ps kvs ∧ ∀ p, H p = none → Q (.ref p) (upd H p (.dT (mergeT [] kvs)))
theorem cr_dictT {X : Cx} (hc : X.calm = true) (hu : X.A.units + 2 < cLine) : CallR X (.type "dict") (rDictT X.K) := by
  intro pins s σ H xs us Q I r h
  obtain ⟨a, ps, kvs, rfl, hq, hp, q⟩ := h
  obtain ⟨u, eu, rx⟩ := vals1 r
  subst eu
  cases rx
  obtain ⟨its, rv, pl, hz⟩ := I.list hq
  have ei := refs_at rv
  subst ei
  rw [List.length_map] at hz
  obtain ⟨rs, rel, hl, hpr⟩ := prsT_raw I.hok hp
  obtain ⟨o, n, ho, hcl, hd, hdat⟩ := pl
  have isk := kt_is I.hok rel
  have PA := PairArg.list (prog := X.prog) (w := X.w) a (ps.map Value.ref).toArray (fun j => ps.getD j 0) (rs.map fun x => (Value.ref x.2.1, x.2.2))
  have room : (tupleKind (mixKind X.prog X.w)).room X.A.in1.in1 := by
    show X.A.in1.in1.units < cLine
    have : X.A.in1.in1.units ≤ X.A.units + 2 := by simp only [Around.in1]; omega
    omega
  refine call_dict_pairsH (knd := tupleKind (mixKind X.prog X.w)) (ps := rs) PA (I.ok.hd hc) room ⟨⟨o, n, ho, hcl, hd, hdat⟩, by simp [hl], fun j k v e => ?_⟩ ⟨by simp, fun i key v e => ?_⟩ (fun h' hk x hx => ?_) (by rw [List.length_map, hl]; exact hz) fun h' tk hd' k => ?_
  · rw [List.getElem?_map] at e
    obtain ⟨q', e1, e2⟩ := Option.map_eq_some_iff.mp e
    cases e2
    have hj : j < ps.length := by have := (List.getElem?_eq_some_iff.mp e1).1; omega
    have e3 : ps[j]? = some (ps.getD j 0) := by rw [List.getD_eq_getElem?_getD, List.getElem?_eq_getElem hj]; rfl
    refine ⟨by rw [List.getElem?_toArray, List.getElem?_map, e3]; rfl, .inl ?_⟩
    exact hpr j _ q' e3 e1
  · rw [show PairRel (rs.map fun x => (Value.ref x.2.1, x.2.2)) i key v = ((rs.map fun x => (Value.ref x.2.1, x.2.2))[i]? = some (key, v)) from rfl, List.getElem?_map] at e
    obtain ⟨q', e1, e2⟩ := Option.map_eq_some_iff.mp e
    cases e2
    exact ⟨q'.1, q'.2.1, e1, rfl⟩
  · obtain ⟨o', it', n', z1, z2, z3, z4⟩ := isk x hx
    exact ⟨o', it', n', hk _ _ (Nat.ne_of_lt (Heap.lt_size z1)) (by simp) z1, z2, z3, z4⟩
  · have hm : (s.heap.objs.size == sysModules) = false := beq_eq_false_iff_ne.mpr (Nat.ne_of_gt I.big)
    have nF : H s.heap.objs.size = none := I.hok.fresh (Nat.le_refl _)
    have hlen : (mergeT [] kvs).length ≤ sizeLine := by
      have := mergeT_len kvs []
      have z : kvs.length = rs.length := Paired.length rel
      simp only [List.length_nil, Nat.zero_add] at this
      omega
    obtain ⟨q', es, ep, hq', h2, h3, h4, _, h5⟩ := hd'
    refine ⟨.ref s.heap.objs.size, upd H s.heap.objs.size (.dT (mergeT [] kvs)), I.laid (t' := tk) (fun b o e => k b o (by simp) e) (Nat.le_refl _) (show ObjOk X.prog X.w _ _ _ (.dT (mergeT [] kvs)) from ⟨hlen, hm, _, (KT.merge rel .nil).keeps fun c ys ec => ?_, q', es, ep, hq', h2, h3, h4, h5⟩), rfl, q _ nF⟩
    rw [upd_ne (ne_of_none ec nF)]
    exact ec
/-- d.update(d2) -/
def rUpdT (P : Program) (w : World) : V → List V → Hp → VK → Prop := fun x xs H Q => ∃ (d o : Addr) (kvs more : List (List L2.Key × V)), x = .ref d ∧ xs = [.ref o] ∧ H d = some (.dT kvs) ∧ H o = some (.dT more) ∧ d ≠ o ∧ (kvs ≠ [] ∨ (more.map fun kv => hashT P w kv.1).Nodup) ∧ kvs.length + more.length ≤ 1000000 ∧
  Q .non (upd H d (.dT (mergeT kvs more)))
theorem kt_map {H : Hp} {f : List L2.Key → Int} : ∀ {kvs : List (List L2.Key × V)} {rs : List (List L2.Key × Addr × Value)}, KT H kvs rs → kvs.map (fun kv => f kv.1) = rs.map (fun x => f x.1) := fun r => by
  induction r with
  | nil => rfl
  | @cons p q ps qs e t ih => rw [List.map_cons, List.map_cons, ih, e.1]
theorem mt_updT {X : Cx} (hu : X.A.units + 1 < cLine) : MtR X "dict.update" (rUpdT X.prog X.w) := by
  intro pins s σ H x xs v us Q I rx rv h
  obtain ⟨d, o, kvs, more, rfl, rfl, ed, eo, ne, hap, hz, q⟩ := h
  cases rx
  obtain ⟨u, eu, ru⟩ := vals1 rv
  subst eu
  cases ru
  obtain ⟨z1, hd1, xs1, rel1, dd1⟩ := dt_of I.hok ed
  obtain ⟨z2, hd2, xs2, rel2, dd2⟩ := dt_of I.hok eo
  have l1 : kvs.length = xs1.length := Paired.length rel1
  have l2 : more.length = xs2.length := Paired.length rel2
  have hz' : kvs.length + more.length ≤ sizeLine := by rw [sizeLine_eq]; omega
  refine call_update_dictH (knd := tupleKind (mixKind X.prog X.w)) (tupleKind_room_in1 hu) ne hd2 dd1 dd2 ?_ (by rw [← l1, ← l2]; exact hz') fun h' dd' _ hs => ?_
  · rcases hap with hap | hap
    · left
      intro e
      rw [e] at l1
      exact hap (List.length_eq_zero_iff.mp l1)
    · right
      refine ⟨fun y hy => (kt_is I.hok rel2 y hy).typeIs, ?_⟩
      show (xs2.map fun x => hashT X.prog X.w x.1).Nodup
      rw [← kt_map (f := hashT X.prog X.w) rel2]
      exact hap
  · obtain ⟨q', es, ep, hq', h2, h3, h4, _, h5⟩ := dd'
    refine ⟨.non, upd H d (.dT (mergeT kvs more)), d_write (t' := s.toks) I (by rw [ed]; exact True.intro) hs ⟨q', hq'⟩ ⟨?_, hd1, _, (KT.merge rel2 rel1).keeps fun c ys ec => ?_, q', es, ep, hq', h2, h3, h4, h5⟩, rfl, q⟩
    · have := mergeT_len more kvs; omega
    · rw [upd_ne (ne_of ec ed (fun z => nomatch z))]
      exact ec
end KG

end

section
set_option maxHeartbeats 1000000
/-! F15: sorted, sets of ints, list(range), list(text), items stored, extend, pop(i), x in ints. -/
namespace DL
open PySem PySem.Spec PyProof.Rows L2 KG
/-! ### small words -/
theorem at_last {α : Type} {xs : List α} {v : α} (h : xs[xs.length - 1]? = some v) : atI xs (-1) = some v := by
  have hp : 0 < xs.length := by
    have := (List.getElem?_eq_some_iff.mp h).1
    omega
  unfold atI
  rw [show ixN xs.length (-1) = some (xs.length - 1) by unfold ixN; simp; omega]
  exact h
theorem fz_nr {d : D} {h : List Cell} {Pd : D → Prop} (n : noRef d = true) (q : Pd d) : ∃ d', frz h d = some d' ∧ Pd d' := by
  cases d with
  | tup l =>
    rw [noRef] at n
    exact fz_t n q
  | ref k => rw [noRef] at n; cases n
  | _ => exact ⟨_, by unfold frz frz1; simp only [n, if_true], q⟩
theorem intsD_mem {lo : Int} {n : Nat} {d : D} (h : d ∈ intsD lo n) : ∃ i : Nat, i < n ∧ d = .int (lo + (i : Nat)) := by
  unfold intsD at h
  obtain ⟨i, hi, rfl⟩ := List.mem_map.mp h
  exact ⟨i, List.mem_range.mp hi, rfl⟩
theorem intsD_len {lo : Int} {n : Nat} : (intsD lo n).length = n := by simp [intsD]
theorem intsD_at {lo : Int} {n i : Nat} {d : D} (h : (intsD lo n)[i]? = some d) : i < n ∧ d = .int (lo + (i : Nat)) := by
  have hi : i < n := by have := (List.getElem?_eq_some_iff.mp h).1; rwa [intsD_len] at this
  refine ⟨hi, ?_⟩
  simp [intsD, hi] at h
  exact h.symm
theorem gIx_r {n : Nat} {l : List D} {i : Int} {h : List Cell} {Q : D → List Cell → Prop} (e : h[n]? = some (.lst l)) : gIx (.ref n) (.int i) h Q ↔ ∃ d, atD l i = some d ∧ Q d h := by
  show (∃ l d, asS h (.ref n) = some l ∧ _) ↔ _
  have : asS h (.ref n) = some l := by show asL h (.ref n) = _; unfold asL; simp only [e]
  rw [this]
  exact ⟨fun ⟨l', d, e, r⟩ => by cases e; exact ⟨d, r⟩, fun ⟨d, r⟩ => ⟨l, d, rfl, r⟩⟩
theorem asL_r {n : Nat} {l : List D} {h : List Cell} (e : h[n]? = some (.lst l)) : asL h (.ref n) = some l := by unfold asL; simp only [e]
/-- ints, as values -/
def zD (ns : List Int) : List D := ns.map D.int
def nD (ns : List Nat) : List D := ns.map fun n => D.int (n : Nat)
theorem nD_z (ns : List Nat) : nD ns = zD (ns.map fun n : Nat => (n : Int)) := by unfold nD zD; rw [List.map_map]; rfl
theorem nrs_zD : ∀ ns : List Int, noRefs (zD ns) = true
  | [] => by simp [zD, noRefs]
  | n :: ns => by
    show noRefs (.int n :: zD ns) = true
    rw [noRefs, nrs_zD ns]
    simp [noRef]
theorem nrs_nD (ns : List Nat) : noRefs (nD ns) = true := by rw [nD_z]; exact nrs_zD _
theorem nds_zD : ∀ ns : List Int, noDis (zD ns) = true
  | [] => by simp [zD, noDis]
  | n :: ns => by
    show noDis (.int n :: zD ns) = true
    rw [noDis, nds_zD ns]
    simp [noDi]
theorem nds_nD (ns : List Nat) : noDis (nD ns) = true := by rw [nD_z]; exact nds_zD _
theorem nD_len (ns : List Nat) : (nD ns).length = ns.length := by unfold nD; rw [List.length_map]
theorem nD_app (a b : List Nat) : nD a ++ nD b = nD (a ++ b) := by unfold nD; rw [List.map_append]
theorem nD_at {ns : List Nat} {i n : Nat} (h : ns[i]? = some n) : (nD ns)[i]? = some (.int (n : Nat)) := by unfold nD; rw [List.getElem?_map, h]; rfl
theorem intsD_n (n : Nat) : intsD 0 n = nD (List.range n) := by
  unfold intsD nD
  refine List.map_congr_left fun i _ => ?_
  rw [Int.zero_add]
/-- what == is among ints -/
theorem gInt_lt {i j : Int} {h : List Cell} {Q : D → List Cell → Prop} {k : Int → Int → D} : gInt0 k (.int i) (.int j) h Q ↔ Q (k i j) h := Iff.rfl
section
variable {K : PySem.W.Frag} {dd : Hid} {ex m : List Addr} {H : Hp} {h : List Cell}
theorem zD_vals : ∀ {ns : List Int} {vs : List V}, Rvs K dd ex m H (zD ns) vs → vs = ns.map V.int
  | [], _, .nil => rfl
  | n :: ns, _, .cons r t => by
    cases r
    rw [List.map_cons, ← zD_vals t]
theorem zD_rvs : ∀ {ns : List Int}, Rvs K dd ex m H (zD ns) (ns.map V.int)
  | [] => .nil
  | n :: ns => .cons (.int n) zD_rvs
/-! ### sorted -/
def gSorted : GC := fun xs h Q => match xs with
  | [x] => ∃ l ns, asL h x = some l ∧ l = zD ns ∧ ∀ ns' : List Int, ns'.Perm ns → ns'.Pairwise (· ≤ ·) → Q (.lst (zD ns')) h
  | _ => False
theorem kk_sortedI {X : Cx} (hK : X.K = K) : CallR X (.builtin "sorted") (rSortedI K) := hK ▸ cr_sortedI
theorem ec_sorted : EvC K dd (rSortedI K) gSorted := by
  intro ex m h H xs vs Qd R rs f Q q
  unfold gSorted at f
  split at f
  · obtain ⟨v, rfl, r⟩ := rvs1 rs
    obtain ⟨l, ns, el, rfl, f⟩ := f
    obtain ⟨p, vs, rfl, s, rr⟩ := rv_list R r el
    obtain rfl := zD_vals rr
    exact ⟨p, ns, rfl, SqL.of s, fun ns' a h1 h2 h3 => q.new R (f ns' h1 h2) h3 fun b c e g => .lst b c e zD_rvs⟩
  · exact f.elim
theorem perm_nat {ns' : List Int} {ks : List Nat} (h : ns'.Perm (ks.map fun n : Nat => (n : Int))) : ns' = (ns'.map Int.toNat).map (fun n : Nat => (n : Int)) ∧ (ns'.map Int.toNat).Perm ks := by
  have pos : ∀ x ∈ ns', 0 ≤ x := fun x hx => by
    obtain ⟨n, _, rfl⟩ := List.mem_map.mp (h.mem_iff.mp hx)
    omega
  have e : (ns'.map Int.toNat).map (fun n : Nat => (n : Int)) = ns' := by
    rw [List.map_map]
    refine (List.map_congr_left fun x hx => ?_).trans (List.map_id _)
    show ((x.toNat : Nat) : Int) = x
    have := pos x hx
    omega
  refine ⟨e.symm, ?_⟩
  have := h.map Int.toNat
  rw [List.map_map] at this
  have e2 : List.map (Int.toNat ∘ fun n : Nat => (n : Int)) ks = ks := (List.map_congr_left fun x _ => Int.toNat_natCast x).trans (List.map_id _)
  rwa [e2] at this
theorem gSorted_n {ks : List Nat} {Q : D → List Cell → Prop} (q : ∀ ks' : List Nat, ks'.Perm ks → ks'.Pairwise (· ≤ ·) → Q (.lst (nD ks')) h) : gSorted [.lst (nD ks)] h Q := by
  refine ⟨nD ks, ks.map fun n : Nat => (n : Int), rfl, nD_z ks, fun ns' hp hs => ?_⟩
  obtain ⟨e, p⟩ := perm_nat hp
  have := q (ns'.map Int.toNat) p (by
    rw [e, List.pairwise_map] at hs
    refine hs.imp ?_
    intro a b hab
    exact Int.ofNat_le.mp hab)
  rw [nD_z, ← e] at this
  exact this
/-! ### sorted(set(..)) -/
def gSortSet : GC := fun xs h Q => match xs with
  | [x] => ∃ l ns, asL h x = some l ∧ l = zD ns ∧ ns.length < 1000 ∧ (ns.length < 64 ∨ ∀ k ∈ ns, 0 ≤ k ∧ k < 63) ∧ ∀ ns' : List Int, ns'.Pairwise (· < ·) → (∀ k, k ∈ ns' ↔ k ∈ ns) → Q (.lst (zD ns')) h
  | _ => False
def dSortSet (fs : DA) : DE := dCall gSortSet fs
variable {E : L2.St → XK} {X : Cx} {a : Expr} {ts : TA} {fs : DA} {pos : Pos}
theorem fe_sortSet {p p2 q : Pos} (hK : X.K = K) (hc : X.calm = true) (hg : Gl X "sorted") (hm : X.mg "sorted" = none) (hg2 : Gl X "set") (hm2 : X.mg "set" = none) (ha : FA K dd E X [a] ts fs)
    (he : starEach [a] X.env = (false, eval a X.env) :: starEach [] X.env := by rfl) (he2 : starEach [.Call (.Name "set" p2) [a] [] q] X.env = (false, eval (.Call (.Name "set" p2) [a] [] q) X.env) :: starEach [] X.env := by rfl) :
    FE K dd E X (.Call (.Name "sorted" p) [.Call (.Name "set" p2) [a] [] q] [] pos) (tCB (rSortedSet X.w) (tCons (tCB (rSetI K X.w) ts) tNil)) (dSortSet fs) := by
  obtain ⟨pa, ea⟩ := ha
  subst hK
  refine ⟨pe_callB (cr_sortedSet hc) hg hm PyProof.Rows.boot_sorted (he := he2) (pa_cons (pe_callTy (cr_setI hc) hg2 hm2 PyProof.Rows.boot_set pa (he := he)) pa_nil he2), fun R P hf G Q k => ea R P hf G _ fun xs h1 m1 H1 vs R1 g1 r1 f1 => ?_⟩
  change gSortSet xs h1 _ at f1
  unfold gSortSet at f1
  split at f1
  · obtain ⟨v, rfl, r⟩ := rvs1 r1
    obtain ⟨l, ns, el, rfl, hz, hz2, f1⟩ := f1
    obtain ⟨p, vs, rfl, s, rr⟩ := rv_list R1 r el
    obtain rfl := zD_vals rr
    refine ⟨p, ns, rfl, SqL.of s, by omega, fun y n hn hB hy => ?_⟩
    have hn64 : n < 64 := by
      rcases hz2 with z | z
      · omega
      · have := hB 63 z; omega
    obtain ⟨R2, g2, _⟩ := R1.new (o := SetO X.w y (fun k => decide (k ∈ ns)) n) hy
    refine ⟨y, _, n, rfl, upd_same, hn64, fun ns' b h2 h3 h4 h5 => ?_⟩
    refine Comes.new (k.later R2 (g1.comp R1 g2)) R2 (f1 ns' h2 fun j => ?_) h5 fun b c e g => .lst b c e zD_rvs
    rw [h3]
    simp
  · exact f1.elim
theorem gSortSet_n {ks : List Nat} {Q : D → List Cell → Prop} (hz : ks.length < 1000) (hb : ∀ k ∈ ks, k < 63) (q : ∀ ks' : List Nat, ks'.Pairwise (· < ·) → (∀ k, k ∈ ks' ↔ k ∈ ks) → Q (.lst (nD ks')) h) : gSortSet [.lst (nD ks)] h Q := by
  refine ⟨nD ks, ks.map fun n : Nat => (n : Int), rfl, nD_z ks, by simpa using hz, .inr fun k hk => ?_, fun ns' hs hm => ?_⟩
  · obtain ⟨n, hn, rfl⟩ := List.mem_map.mp hk
    have := hb n hn
    omega
  have pos : ∀ x ∈ ns', 0 ≤ x := fun x hx => by
    obtain ⟨n, _, rfl⟩ := List.mem_map.mp ((hm x).mp hx)
    omega
  have e : (ns'.map Int.toNat).map (fun n : Nat => (n : Int)) = ns' := by
    rw [List.map_map]
    refine (List.map_congr_left fun x hx => ?_).trans (List.map_id _)
    show ((x.toNat : Nat) : Int) = x
    have := pos x hx
    omega
  have := q (ns'.map Int.toNat) (by
    rw [← e, List.pairwise_map] at hs
    refine hs.imp ?_
    intro a b hab
    exact Int.ofNat_lt.mp hab) fun k => by
      constructor
      · intro hk
        obtain ⟨x, hx, rfl⟩ := List.mem_map.mp hk
        obtain ⟨n, hn, rfl⟩ := List.mem_map.mp ((hm x).mp hx)
        simpa using hn
      · intro hk
        have : (k : Int) ∈ ns' := (hm k).mpr (List.mem_map.mpr ⟨k, hk, rfl⟩)
        exact List.mem_map.mpr ⟨k, this, by simp⟩
  rw [nD_z, e] at this
  exact this
/-! ### list(range(n)) -/
def dListRng (fa : DE) : DE := fun ρ h Q E => fa ρ h (fun x h1 => ∃ n : Nat, x = .int (n : Nat) ∧ n ≤ 1000000 ∧ Q (.lst (intsD 0 n)) h1) E
theorem rgV_rvs {n : Nat} : Rvs K dd ex m H (intsD 0 n) (rgV 0 (n : Nat)) := by
  unfold intsD rgV
  rw [Int.sub_zero, Int.toNat_natCast]
  have : ∀ l : List Nat, Rvs K dd ex m H (l.map fun i => D.int (0 + (i : Nat))) (l.map fun i => V.int (0 + (i : Nat))) := fun l => by
    induction l with
    | nil => exact .nil
    | cons x l ih => exact .cons (.int _) ih
  exact this _
theorem fe_listRng {ta : TE} {fa : DE} {p p2 q : Pos} (hc : X.calm = true) (hg : Gl X "list") (hm : X.mg "list" = none) (hg2 : Gl X "range") (hm2 : X.mg "range" = none) (ha : FE K dd E X a ta fa)
    (na : starEach [a] X.env = (false, eval a X.env) :: starEach [] X.env := by rfl) (na2 : starEach [.Call (.Name "range" p2) [a] [] q] X.env = (false, eval (.Call (.Name "range" p2) [a] [] q) X.env) :: starEach [] X.env := by rfl) :
    FE K dd E X (.Call (.Name "list" p) [.Call (.Name "range" p2) [a] [] q] [] pos) (tLstRg (tRg1 ta)) (dListRng fa) := by
  obtain ⟨pa, ea⟩ := ha
  refine ⟨pe_listRg hc hg hm (prg_1 hg2 hm2 pa na) na2, fun R P hf G Q k => ea R P hf G _ fun x h1 m1 H1 v R1 g1 r1 f1 => ?_⟩
  obtain ⟨n, rfl, hz, f1⟩ := f1
  obtain rfl := rv_of_int r1
  refine ⟨_, rfl, .of_le (by omega) (by omega) (by omega) (by omega), fun y hy => ?_⟩
  exact (k.later R1 g1).new R1 f1 hy fun b c e g => .lst b c e rgV_rvs
/-! ### list(text) -/
def rListS : List V → Hp → VK → Prop := fun vs H Q => ∃ l : List Nat, vs = [S l] ∧ l.length ≤ 1000000 ∧ ∀ p, H p = none → Q (.ref p) (upd H p (.lst (l.map fun c => S [c])))
theorem signs_raw {l : List Nat} {acc : Array Value} (h : ItemsOf (SignAt ⟨l.toArray⟩) acc l.length) : Vals (l.map fun c => S [c]) acc.toList := by
  obtain ⟨hl, hi⟩ := h
  have : (l.map fun c => S [c]) = (List.range acc.toList.length).map fun i => S [l.getD i 0] := by
    rw [Array.length_toList, hl]
    refine List.ext_getElem (by simp) fun i h1 h2 => ?_
    simp only [List.getElem_map, List.getElem_range]
    rw [List.getD_eq_getElem?_getD, List.getElem?_eq_getElem (by simpa using h1)]
    rfl
  rw [this]
  refine vals_of_get acc.toList _ fun j u hj => ?_
  have hu := hi j u (by rw [← hj, Array.getElem?_toList])
  have hj' : j < l.length := by rw [← hl]; have := (List.getElem?_eq_some_iff.mp hj).1; simpa using this
  obtain ⟨c, t, e1, rfl⟩ := hu
  refine ⟨t, ?_⟩
  have e2 : l[j]? = some c := by simpa using e1
  rw [List.getD_eq_getElem?_getD, e2]
  rfl
end
end DL

end

section
set_option maxHeartbeats 1000000
/-! F16: list(text), x in ints, items stored, extend, pop(i), dicts read and made. -/
namespace DL
open PySem PySem.Spec PyProof.Rows L2 KG
section
variable {K : PySem.W.Frag} {dd : Hid} {ex m : List Addr} {H : Hp} {h : List Cell} {E : L2.St → XK} {X : Cx} {a b e o : Expr} {ts : TA} {fs : DA} {pos apos cpos : Pos} {ta tb to : TE} {fa fb fo fx : DE}
theorem cr_listS (hc : X.calm = true) : CallR X (.type "list") rListS := by
  intro pins s σ H vs us Q I r h
  obtain ⟨l, rfl, hz, q⟩ := h
  obtain ⟨u, rfl, ru⟩ := vals1 r
  obtain ⟨t, rfl⟩ := ru
  have hsz : ((⟨l.toArray⟩ : Str)).cps.size = l.length := by simp
  refine PySem.call_list_str (hn := by rw [hsz, sizeLine_eq]; omega) (I.ok.hd hc) ⟨l.toArray⟩ t fun h' tk acc c hk hS hacc => ?_
  rw [hsz] at hacc
  refine ⟨.ref _, upd H s.heap.objs.size (.lst (l.map fun c => S [c])), I.laid (t' := tk) hk (Nat.le_refl _) (show ObjOk X.prog X.w _ _ _ (.lst (l.map fun c => S [c])) from ⟨?_, acc.toList, c, signs_raw hacc, ?_⟩), rfl, q _ (I.hok.fresh (Nat.le_refl _))⟩
  · rw [List.length_map, sizeLine_eq]; omega
  · rw [Array.toArray_toList]; exact hS
def gListS : GC := fun xs h Q => match xs with
  | [.str l] => l.length ≤ 1000000 ∧ Q (.lst (signs l)) h
  | _ => False
theorem signs_rvs : ∀ {l : List Nat}, Rvs K dd ex m H (signs l) (l.map fun c => S [c])
  | [] => .nil
  | c :: l => .cons (.str [c]) signs_rvs
theorem ec_listS : EvC K dd rListS gListS := by
  intro ex m h H xs vs Qd R rs f Q q
  unfold gListS at f
  split at f
  · obtain ⟨v, rfl, r⟩ := rvs1 rs
    cases r
    exact ⟨_, rfl, f.1, fun p hp => q.new R f.2 hp fun a b c g => .lst a b c signs_rvs⟩
  · exact f.elim
theorem gListS_s {l : List Nat} {Q : D → List Cell → Prop} : gListS [.str l] h Q ↔ l.length ≤ 1000000 ∧ Q (.lst (signs l)) h := Iff.rfl
/-! ### x in ints -/
def gInI (k : Bool → Bool) : G2 := fun x y h Q => match x with
  | .int i => ∃ l ns, asS h y = some l ∧ l = zD ns ∧ Q (.bl (k (decide (i ∈ ns)))) h
  | x => gInv k x y h Q
def gIn2 : G2 := gInI id
def gNotIn2 : G2 := gInI not
theorem inV_ints {i : Int} : ∀ {ns : List Int}, inV (.int i) (ns.map V.int) = decide (i ∈ ns)
  | [] => rfl
  | n :: ns => by
    show (eqV (.int n) (.int i) || inV (.int i) (ns.map V.int)) = _
    rw [inV_ints]
    show ((n == i) || decide (i ∈ ns)) = decide (i ∈ n :: ns)
    by_cases e : n = i
    · subst e; simp
    · have e' : ¬ i = n := fun z => e z.symm
      simp [e, e']
theorem flat_ints : ∀ ns : List Int, (ns.map V.int).all flatV = true
  | [] => rfl
  | n :: ns => flat_ints ns
theorem er_in2 : EvR K dd (kIn K) gIn2 := by
  intro ex m h H x y v w Qd R rx ry f Q q
  unfold gIn2 gInI at f
  split at f
  · obtain ⟨l, ns, el, rfl, f⟩ := f
    cases rx
    obtain ⟨p, vs, rfl, s, rr⟩ := rv_seq R ry el
    obtain rfl := zD_vals rr
    refine .inl ⟨p, _, rfl, s, rfl, flat_ints ns, ?_⟩
    rw [inV_ints]
    exact q.now R (.bl _) f
  · exact er_in R rx ry f Q q
theorem er_notin2 : EvR K dd (kNotIn K) gNotIn2 := by
  intro ex m h H x y v w Qd R rx ry f Q q
  unfold gNotIn2 gInI at f
  split at f
  · obtain ⟨l, ns, el, rfl, f⟩ := f
    cases rx
    obtain ⟨p, vs, rfl, s, rr⟩ := rv_seq R ry el
    obtain rfl := zD_vals rr
    refine .inl ⟨p, _, rfl, s, rfl, flat_ints ns, ?_⟩
    rw [inV_ints]
    exact q.now R (.bl _) f
  · exact er_notin R rx ry f Q q
theorem mem_z {i : Nat} {ns : List Nat} : ((i : Nat) : Int) ∈ ns.map (fun n : Nat => (n : Int)) ↔ i ∈ ns := ⟨fun h => by
  obtain ⟨a, ha, e⟩ := List.mem_map.mp h
  have : a = i := by omega
  exact this ▸ ha, fun h => List.mem_map.mpr ⟨i, h, rfl⟩⟩
theorem gIn2_l {i : Nat} {ns : List Nat} {Q : D → List Cell → Prop} : (Q (.bl (decide (i ∈ ns))) h) → gIn2 (.int i) (.lst (nD ns)) h Q := fun q => ⟨_, ns.map fun n : Nat => (n : Int), rfl, nD_z ns, by rw [show decide (((i : Nat) : Int) ∈ ns.map fun n : Nat => (n : Int)) = decide (i ∈ ns) from decide_eq_decide.mpr mem_z]; exact q⟩
theorem gIn2_t {i : Nat} {ns : List Nat} {Q : D → List Cell → Prop} : (Q (.bl (decide (i ∈ ns))) h) → gIn2 (.int i) (.tup (nD ns)) h Q := fun q => ⟨_, ns.map fun n : Nat => (n : Int), rfl, nD_z ns, by rw [show decide (((i : Nat) : Int) ∈ ns.map fun n : Nat => (n : Int)) = decide (i ∈ ns) from decide_eq_decide.mpr mem_z]; exact q⟩
theorem gNotIn2_l {i : Nat} {ns : List Nat} {Q : D → List Cell → Prop} : (Q (.bl (!decide (i ∈ ns))) h) → gNotIn2 (.int i) (.lst (nD ns)) h Q := fun q => ⟨_, ns.map fun n : Nat => (n : Int), rfl, nD_z ns, by rw [show decide (((i : Nat) : Int) ∈ ns.map fun n : Nat => (n : Int)) = decide (i ∈ ns) from decide_eq_decide.mpr mem_z]; exact q⟩
theorem gNotIn2_t {i : Nat} {ns : List Nat} {Q : D → List Cell → Prop} : (Q (.bl (!decide (i ∈ ns))) h) → gNotIn2 (.int i) (.tup (nD ns)) h Q := fun q => ⟨_, ns.map fun n : Nat => (n : Int), rfl, nD_z ns, by rw [show decide (((i : Nat) : Int) ∈ ns.map fun n : Nat => (n : Int)) = decide (i ∈ ns) from decide_eq_decide.mpr mem_z]; exact q⟩
/-! ### found[i] = d -/
def gSubD (fo fi : DE) : DTG := fun d ρ h Q => fo ρ h (fun o h1 => fi ρ h1 (fun i h2 => ∃ n k l j, o = .ref n ∧ i = .int k ∧ h2[n]? = some (.lst l) ∧ ixN l.length k = some j ∧ Q ρ (h2.set n (.lst (l.set j d)))) noX) noX
theorem goesNo {Ed : DX} {σ : L2.St} : Goes K dd ex E σ m H noX := fun e h' m' H' R g f => f.elim
theorem fg_sub {i : Expr} {ti : TE} {fi : DE} (ho : FE K dd E X o to fo) (hi : FE K dd E X i ti fi) (ha : ∀ v, assign (.Subscript o i pos) X.env v = (do
      let ov ← holding [v] (eval o X.env)
      let iv ← holding [v, ov] (eval i X.env)
      standAt pos
      holding [v, ov, iv] (setItem ov iv v)
      release [v, ov, iv] []) := by intro _; rfl) : FG K dd X (.Subscript o i pos) (L2.gSub to ti rSetL) (gSubD fo fi) := by
  obtain ⟨po, eo⟩ := ho
  obtain ⟨pi, ei⟩ := hi
  refine ⟨pg_sub po pi set_list ha, fun {ex m h H ρ σ d v Qd} R P r hf Q q => ?_⟩
  refine eo R P hf (goesNo (Ed := noX)) _ fun x h1 m1 H1 xv R1 g1 r1 f1 => ei R1 (P.grow g1) f1 (goesNo (Ed := noX)) _ fun y h2 m2 H2 yv R2 g2 r2 f2 => ?_
  obtain ⟨n, k, l, j, rfl, rfl, hn, hj, f2⟩ := f2
  cases r2
  have g12 := g1.comp R1 g2
  cases r1 with
  | @ref _ p hp =>
    have hp2 := g2.cell hp
    obtain ⟨vs, z, rr⟩ := R2.cs n _ p hn hp2
    refine ⟨p, vs, k, j, rfl, rfl, z, by rw [← rr.length]; exact hj, ?_⟩
    obtain ⟨R3, g3⟩ := R2.setCell (o := .lst (vs.set j v)) (c := .lst (l.set j d)) hp2 fun H' g e => ⟨vs.set j v, e, Rvs.set ((r.grow g12).grow g) j (rr.grow g)⟩
    exact q _ _ m2 _ _ R3 (g12.comp R2 g3) ((P.grow g12).grow g3) f2
/-! ### found.extend(xs) -/
def dExt (fo fx : DE) : DE := fun ρ h Q E => fo ρ h (fun o h1 => ∃ n, o = .ref n ∧ (∃ l0, h1[n]? = some (.lst l0)) ∧ fx ρ h1 (fun x h2 => ∃ l ys, h2[n]? = some (.lst l) ∧ x = .lst ys ∧ l.length + ys.length ≤ 1000000 ∧ Q .non (h2.set n (.lst (l ++ ys)))) E) E
theorem fe_extend {tx : TE} (hK : X.K = K) (ho : FE K dd E X o to fo) (hx : FE K dd E X e tx fx)
    (hb : ∀ t u, PE X o t → PA X [e] u → PE X (.Call (.Attribute o "extend" apos) [e] [] cpos) (tBM X.K "list" rExtend t u)) (he : starEach [e] X.env = (false, eval e X.env) :: starEach [] X.env := by rfl) :
    FE K dd E X (.Call (.Attribute o "extend" apos) [e] [] cpos) (tBM K "list" rExtend to (tCons tx tNil)) (dExt fo fx) := by
  obtain ⟨po, eo⟩ := ho
  obtain ⟨px, evx⟩ := hx
  refine ⟨kk_bm hK (hb _ _ po (pa_cons px pa_nil he)), fun R P hf G Q q => eo R P hf G _ fun d h1 m1 H1 v R1 g1 r1 f1 => ?_⟩
  obtain ⟨n, rfl, ⟨l0, hn⟩, f1⟩ := f1
  cases r1 with
  | @ref _ p hp =>
    obtain ⟨vs, z, r⟩ := R1.cs n _ _ hn hp
    refine ⟨.inl ⟨rfl, vs, SqL.of z⟩, evx R1 (P.grow g1) f1 (G.later R1 g1) _ fun x h2 m2 H2 w R2 g2 r2 f2 => ?_⟩
    obtain ⟨l, ys, hl, rfl, hz, f2⟩ := f2
    have hp2 := g2.cell hp
    obtain ⟨us, z2, r3⟩ := R2.cs n _ _ hl hp2
    cases r2 with
    | @lst y _ ws a b c rr =>
      refine ⟨p, y, us, ws, rfl, rfl, z2, c, by rw [← r3.length, ← rr.length, sizeLine_eq]; omega, ?_⟩
      obtain ⟨R3, g3⟩ := R2.setCell (o := .lst (us ++ ws)) (c := .lst (l ++ ys)) hp2 fun H' g e => ⟨us ++ ws, e, (r3.grow g).append (rr.grow g)⟩
      exact q _ _ m2 _ _ R3 ((g1.comp R1 g2).comp R2 g3) .non f2
/-! ### left.pop(i) -/
def dPopAt (fo fi : DE) : DE := fun ρ h Q E => fo ρ h (fun o h1 => ∃ n, o = .ref n ∧ (∃ l0, h1[n]? = some (.lst l0)) ∧ fi ρ h1 (fun i h2 => ∃ (k : Nat) (l : List D) (x : D), i = .int (k : Nat) ∧ k < 1000000 ∧ h2[n]? = some (.lst l) ∧ l[k]? = some x ∧ Q x (h2.set n (.lst (l.eraseIdx k)))) E) E
theorem Rvs.erase : ∀ {ds : List D} {vs : List V} (k : Nat), Rvs K dd ex m H ds vs → Rvs K dd ex m H (ds.eraseIdx k) (vs.eraseIdx k)
  | _, _, _, .nil => .nil
  | _, _, 0, .cons _ t => t
  | _, _, k + 1, .cons r t => .cons r (Rvs.erase k t)
theorem fe_popAt {ti : TE} {fi : DE} (hK : X.K = K) (ho : FE K dd E X o to fo) (hi : FE K dd E X e ti fi)
    (hb : ∀ t u, PE X o t → PA X [e] u → PE X (.Call (.Attribute o "pop" apos) [e] [] cpos) (tBM X.K "list" rPopAt t u)) (he : starEach [e] X.env = (false, eval e X.env) :: starEach [] X.env := by rfl) :
    FE K dd E X (.Call (.Attribute o "pop" apos) [e] [] cpos) (tBM K "list" rPopAt to (tCons ti tNil)) (dPopAt fo fi) := by
  obtain ⟨po, eo⟩ := ho
  obtain ⟨pi, evi⟩ := hi
  refine ⟨kk_bm hK (hb _ _ po (pa_cons pi pa_nil he)), fun R P hf G Q q => eo R P hf G _ fun d h1 m1 H1 v R1 g1 r1 f1 => ?_⟩
  obtain ⟨n, rfl, ⟨l0, hn⟩, f1⟩ := f1
  cases r1 with
  | @ref _ p hp =>
    obtain ⟨vs, z, r⟩ := R1.cs n _ _ hn hp
    refine ⟨.inl ⟨rfl, vs, SqL.of z⟩, evi R1 (P.grow g1) f1 (G.later R1 g1) _ fun x h2 m2 H2 w R2 g2 r2 f2 => ?_⟩
    obtain ⟨k, l, x, rfl, hk, hl, hx, f2⟩ := f2
    cases r2
    have hp2 := g2.cell hp
    obtain ⟨us, z2, r3⟩ := R2.cs n _ _ hl hp2
    obtain ⟨w, hw, rw'⟩ := r3.get hx
    have hlt : k < us.length := (List.getElem?_eq_some_iff.mp hw).1
    refine ⟨p, us, (k : Nat), k, w, rfl, rfl, z2, by omega, by omega, ?_, hw, ?_⟩
    · unfold seqIndex?
      have h1 : ¬ ((k : Nat) : Int) < 0 := by omega
      have h2 : ((k : Nat) : Int) < (us.length : Nat) := by omega
      simp [h1, h2]
    · obtain ⟨R3, g3⟩ := R2.setCell (o := .lst (us.eraseIdx k)) (c := .lst (l.eraseIdx k)) hp2 fun H' g e => ⟨_, e, (r3.grow g).erase k⟩
      exact q _ _ m2 _ _ R3 ((g1.comp R1 g2).comp R2 g3) (rw'.grow g3) f2
end
end DL

end

section
set_option maxHeartbeats 1000000
/-! F17: dicts: made, read, updated. -/
namespace DL
open PySem PySem.Spec PyProof.Rows L2 KG
section
variable {κ : Type} [DecidableEq κ]
def valD (l : List (κ × D)) (k : κ) : Option D := (l.find? fun kv => decide (kv.1 = k)).map (·.2)
def putD (l : List (κ × D)) (k : κ) (d : D) : List (κ × D) :=
  if (l.any fun kv => decide (kv.1 = k)) = true then l.map (fun kv => if kv.1 = k then (kv.1, d) else kv) else l ++ [(k, d)]
def mergeD (l more : List (κ × D)) : List (κ × D) := more.foldl (fun acc kv => putD acc kv.1 kv.2) l
theorem valD_nil {k : κ} : valD ([] : List (κ × D)) k = none := rfl
theorem valD_pos {p : κ × D} {r : List (κ × D)} {k : κ} (e : p.1 = k) : valD (p :: r) k = some p.2 := by simp [valD, List.find?_cons, e]
theorem valD_neg {p : κ × D} {r : List (κ × D)} {k : κ} (e : ¬ p.1 = k) : valD (p :: r) k = valD r k := by simp [valD, List.find?_cons, e]
theorem valD_any (k : κ) : ∀ l : List (κ × D), (l.any fun kv => decide (kv.1 = k)) = (valD l k).isSome
  | [] => rfl
  | p :: r => by
    rw [List.any_cons, valD_any k r]
    by_cases e : p.1 = k
    · rw [valD_pos e]; simp [e]
    · rw [valD_neg e]; simp [e]
theorem valD_app {l : List (κ × D)} {k j : κ} {d : D} (h : valD l k = none) : valD (l ++ [(k, d)]) j = if j = k then some d else valD l j := by
  induction l with
  | nil =>
    by_cases e : j = k
    · rw [if_pos e]; exact valD_pos e.symm
    · rw [if_neg e]; exact valD_neg fun z => e z.symm
  | cons p r ih =>
    by_cases e : p.1 = k
    · rw [valD_pos e] at h; cases h
    · rw [valD_neg e] at h
      rw [List.cons_append]
      by_cases ej : p.1 = j
      · rw [valD_pos ej, valD_pos ej, if_neg fun z => e (ej.trans z)]
      · rw [valD_neg ej, valD_neg ej]; exact ih h
theorem valD_put (l : List (κ × D)) (k j : κ) (d : D) : valD (putD l k d) j = if j = k then some d else valD l j := by
  unfold putD
  rw [valD_any]
  cases h : valD l k with
  | none => simp only [Option.isSome_none, Bool.false_eq_true, if_false]; exact valD_app h
  | some x =>
    simp only [Option.isSome_some, if_true]
    induction l generalizing x with
    | nil => cases h
    | cons p r ih =>
      rw [List.map_cons]
      by_cases e : p.1 = k
      · rw [if_pos e]
        by_cases ej : j = k
        · rw [if_pos ej]; exact valD_pos (e.trans ej.symm)
        · have ep : ¬ p.1 = j := fun z => ej (z.symm.trans e)
          rw [if_neg ej]
          rw [valD_neg (show ¬ (p.1, d).1 = j from ep), valD_neg ep]
          by_cases hr : valD r k = none
          · have : r.map (fun kv => if kv.1 = k then (kv.1, d) else kv) = r := by
              refine (List.map_congr_left fun y hy => ?_).trans (List.map_id _)
              have : ¬ y.1 = k := fun z => by
                unfold valD at hr
                cases q : r.find? fun kv => decide (kv.1 = k) with
                | some w => rw [q] at hr; cases hr
                | none => exact absurd (decide_eq_true z) (List.find?_eq_none.mp q y hy)
              show (if y.1 = k then _ else y) = y
              rw [if_neg this]
            rw [this]
          · obtain ⟨w, hw⟩ := Option.ne_none_iff_exists'.mp hr
            have := ih w hw
            rw [if_neg ej] at this
            exact this
      · rw [if_neg e]
        rw [valD_neg e] at h
        by_cases ej : p.1 = j
        · rw [valD_pos ej, valD_pos ej, if_neg fun z => e (ej.trans z)]
        · rw [valD_neg ej, valD_neg ej]; exact ih x h
theorem valD_merge {k : κ} {d : D} : ∀ {more l : List (κ × D)}, (∀ d', (k, d') ∈ more → d' = d) → (valD l k = some d ∨ ∃ d', (k, d') ∈ more) → valD (mergeD l more) k = some d
  | [], l, _, h => by
    rcases h with h | ⟨d', h⟩
    · exact h
    · cases h
  | p :: more, l, u, h => by
    refine valD_merge (l := putD l p.1 p.2) (fun d' hd => u d' (List.mem_cons_of_mem _ hd)) ?_
    rw [valD_put]
    by_cases e : k = p.1
    · left
      rw [if_pos e, u p.2 (by rw [e]; exact List.mem_cons_self ..)]
    · rw [if_neg e]
      rcases h with h | ⟨d', h⟩
      · exact .inl h
      · rcases List.mem_cons.mp h with z | z
        · exact absurd (congrArg (·.1) z) e
        · exact .inr ⟨d', z⟩
theorem valD_merge' {k : κ} : ∀ {more l : List (κ × D)} {d : D}, (∀ d', (k, d') ∉ more) → valD (mergeD l more) k = valD l k
  | [], l, _, _ => rfl
  | p :: more, l, d, u => by
    show valD (mergeD (putD l p.1 p.2) more) k = _
    rw [valD_merge' (d := d) fun d' hd => u d' (List.mem_cons_of_mem _ hd), valD_put, if_neg fun e => u p.2 (by rw [e]; exact List.mem_cons_self ..)]
theorem putD_ne (l : List (κ × D)) (k : κ) (d : D) : putD l k d ≠ [] := by
  unfold putD
  split
  · intro e
    have : l = [] := List.map_eq_nil_iff.mp e
    subst this
    simp_all
  · simp
theorem length_putD (l : List (κ × D)) (k : κ) (d : D) : (putD l k d).length ≤ l.length + 1 := by
  unfold putD
  split <;> simp
theorem length_mergeD : ∀ (more l : List (κ × D)), (mergeD l more).length ≤ l.length + more.length
  | [], l => Nat.le_refl _
  | p :: more, l => by
    have h1 := length_mergeD more (putD l p.1 p.2)
    have h2 := length_putD l p.1 p.2
    show (mergeD (putD l p.1 p.2) more).length ≤ _
    simp only [List.length_cons]
    omega
end
section
variable {K : PySem.W.Frag} {dd : Hid} {ex m m' : List Addr} {H H' : Hp} {h : List Cell} {κ : Type} [DecidableEq κ]
def RvsK (K : PySem.W.Frag) (dd : Hid) (ex m : List Addr) (H : Hp) (l : List (κ × D)) (vs : List (κ × V)) : Prop := l.map (·.1) = vs.map (·.1) ∧ Rvs K dd ex m H (l.map (·.2)) (vs.map (·.2))
theorem RvsK.nil : RvsK K dd ex m H ([] : List (κ × D)) [] := ⟨rfl, .nil⟩
theorem RvsK.cons {k : κ} {d : D} {v : V} {l : List (κ × D)} {vs : List (κ × V)} (r : Rv K dd ex m H d v) (t : RvsK K dd ex m H l vs) : RvsK K dd ex m H ((k, d) :: l) ((k, v) :: vs) := ⟨by rw [List.map_cons, List.map_cons, t.1], .cons r t.2⟩
theorem RvsK.un {p : κ × D} {l : List (κ × D)} {vs : List (κ × V)} (r : RvsK K dd ex m H (p :: l) vs) : ∃ v vs', vs = (p.1, v) :: vs' ∧ Rv K dd ex m H p.2 v ∧ RvsK K dd ex m H l vs' := by
  obtain ⟨e, r⟩ := r
  cases vs with
  | nil => simp at e
  | cons q vs =>
    obtain ⟨k, v⟩ := q
    rw [List.map_cons, List.map_cons] at e
    injection e with e1 e2
    rw [List.map_cons, List.map_cons] at r
    cases r with
    | cons r t => exact ⟨v, vs, by rw [e1], r, e2, t⟩
theorem RvsK.nil' {vs : List (κ × V)} (r : RvsK K dd ex m H ([] : List (κ × D)) vs) : vs = [] := by
  obtain ⟨e, _⟩ := r
  cases vs with
  | nil => rfl
  | cons => simp at e
theorem RvsK.length {l : List (κ × D)} {vs : List (κ × V)} (r : RvsK K dd ex m H l vs) : l.length = vs.length := by
  have := congrArg List.length r.1
  simpa using this
theorem RvsK.grow {l : List (κ × D)} {vs : List (κ × V)} (g : Grow dd m H m' H') (r : RvsK K dd ex m H l vs) : RvsK K dd ex m' H' l vs := ⟨r.1, r.2.grow g⟩
theorem RvsK.val {k : κ} : ∀ {l : List (κ × D)} {vs : List (κ × V)} {d : D}, RvsK K dd ex m H l vs → valD l k = some d → ∃ v, valV vs k = some v ∧ Rv K dd ex m H d v
  | [], _, d, r, e => by cases e
  | p :: l, _, d, r, e => by
    obtain ⟨v, vs', rfl, r1, t⟩ := r.un
    by_cases q : p.1 = k
    · rw [valD_pos q] at e
      cases e
      exact ⟨v, valV_pos q, r1⟩
    · rw [valD_neg q] at e
      obtain ⟨w, e1, e2⟩ := RvsK.val t e
      exact ⟨w, by rw [valV_neg q]; exact e1, e2⟩
theorem RvsK.put {k : κ} {d : D} {v : V} (r0 : Rv K dd ex m H d v) {l : List (κ × D)} {vs : List (κ × V)} (r : RvsK K dd ex m H l vs) : RvsK K dd ex m H (putD l k d) (putK vs k v) := by
  have ea : (l.any fun kv => decide (kv.1 = k)) = (vs.any fun kv => decide (kv.1 = k)) := by
    have : ∀ {l : List (κ × D)} {vs : List (κ × V)}, RvsK K dd ex m H l vs → (l.any fun kv => decide (kv.1 = k)) = (vs.any fun kv => decide (kv.1 = k)) := fun {l} => by
      induction l with
      | nil => intro vs r; rw [r.nil']; rfl
      | cons p l ih =>
        intro vs r
        obtain ⟨w, vs', rfl, _, t⟩ := r.un
        rw [List.any_cons, List.any_cons, ih t]
    exact this r
  unfold putD putK
  rw [ea]
  split
  · have : ∀ {l : List (κ × D)} {vs : List (κ × V)}, RvsK K dd ex m H l vs → RvsK K dd ex m H (l.map fun kv => if kv.1 = k then (kv.1, d) else kv) (vs.map fun kv => if kv.1 = k then (kv.1, v) else kv) := fun {l} => by
      induction l with
      | nil => intro vs r; rw [r.nil']; exact .nil
      | cons p l ih =>
        intro vs r
        obtain ⟨w, vs', rfl, r1, t⟩ := r.un
        rw [List.map_cons, List.map_cons]
        by_cases q : p.1 = k
        · rw [if_pos q, if_pos q]; exact RvsK.cons r0 (ih t)
        · rw [if_neg q, if_neg q]; exact RvsK.cons r1 (ih t)
    exact this r
  · refine ⟨by rw [List.map_append, List.map_append, r.1]; rfl, ?_⟩
    rw [List.map_append, List.map_append]
    exact r.2.append (.cons r0 .nil)
theorem RvsK.mergeT {more : List (List L2.Key × D)} : ∀ {ws vs : List (List L2.Key × V)} {l : List (List L2.Key × D)}, RvsK K dd ex m H more ws → RvsK K dd ex m H l vs → RvsK K dd ex m H (mergeD l more) (KG.mergeT vs ws) := by
  induction more with
  | nil => intro ws vs l r1 r2; rw [r1.nil']; exact r2
  | cons p more ih =>
    intro ws vs l r1 r2
    obtain ⟨w, ws', rfl, r, t⟩ := r1.un
    show RvsK K dd ex m H (mergeD (putD l p.1 p.2) more) (KG.mergeT (putK vs p.1 w) ws')
    exact ih t (r2.put r)
theorem RvsK.mergeK {more : List (L2.Key × D)} : ∀ {ws vs : List (L2.Key × V)} {l : List (L2.Key × D)}, RvsK K dd ex m H more ws → RvsK K dd ex m H l vs → RvsK K dd ex m H (mergeD l more) (L2.mergeK vs ws) := by
  induction more with
  | nil => intro ws vs l r1 r2; rw [r1.nil']; exact r2
  | cons p more ih =>
    intro ws vs l r1 r2
    obtain ⟨w, ws', rfl, r, t⟩ := r1.un
    show RvsK K dd ex m H (mergeD (putD l p.1 p.2) more) (L2.mergeK (putK vs p.1 w) ws')
    exact ih t (r2.put r)
/-! ### keys -/
def kD : L2.Key → D
  | .inl i => .int i
  | .inr s => .str s.cps.toList
theorem kD_rv {k : L2.Key} {v : V} (r : Rv K dd ex m H (kD k) v) : v = kV k := by
  cases k with
  | inl i => cases r; rfl
  | inr s => cases r; rfl
def asK (h : List Cell) : D → Option (List (L2.Key × D))
  | .dic l => some l
  | .ref n => match h[n]? with
    | some (.dic l) => some l
    | _ => none
  | _ => none
def asT (h : List Cell) : D → Option (List (List L2.Key × D))
  | .dit l => some l
  | .ref n => match h[n]? with
    | some (.dit l) => some l
    | _ => none
  | _ => none
theorem rv_dK {d : D} {v : V} {l : List (L2.Key × D)} (R : Rel K dd ex m H h) (r : Rv K dd ex m H d v) (e : asK h d = some l) : ∃ p vs, v = .ref p ∧ H p = some (.dK vs) ∧ RvsK K dd ex m H l vs := by
  cases r with
  | @dic p ds vs a b c e2 q => cases e; exact ⟨_, _, rfl, c, e2, q⟩
  | @ref n p hn =>
    unfold asK at e
    simp only at e
    split at e
    · rename_i l' hc
      cases e
      obtain ⟨vs, z, y, q⟩ := R.cs n _ p hc hn
      exact ⟨_, _, rfl, z, y, q⟩
    · cases e
  | _ => cases e
theorem rv_dT {d : D} {v : V} {l : List (List L2.Key × D)} (R : Rel K dd ex m H h) (r : Rv K dd ex m H d v) (e : asT h d = some l) : ∃ p vs, v = .ref p ∧ H p = some (.dT vs) ∧ RvsK K dd ex m H l vs := by
  cases r with
  | @dit p ds vs a b c e2 q => cases e; exact ⟨_, _, rfl, c, e2, q⟩
  | @ref n p hn =>
    unfold asT at e
    simp only at e
    split at e
    · rename_i l' hc
      cases e
      obtain ⟨vs, z, y, q⟩ := R.cs n _ p hc hn
      exact ⟨_, _, rfl, z, y, q⟩
    · cases e
  | _ => cases e
end
/-! ### d[k] -/
def dGetK (fo fi : DE) : DE := fun ρ h Q E => fo ρ h (fun o h1 => fi ρ h1 (fun i h2 => ∃ l k d, asK h2 o = some l ∧ i = kD k ∧ valD l k = some d ∧ Q d h2) E) E
/-- d[(i, j)] -/
def dGetT (fo : DE) (fs : DA) : DE := fun ρ h Q E => fo ρ h (fun o h1 => fs ρ h1 (fun xs h2 => ∃ l i j d, asT h2 o = some l ∧ xs = [.int i, .int j] ∧ valD l [.inl i, .inl j] = some d ∧ Q d h2) E) E
section
variable {K : PySem.W.Frag} {dd : Hid} {E : L2.St → XK} {X : Cx} {o i e : Expr} {es : List Expr} {fo fi fx : DE} {fs : DA} {to ti : TE} {ts : TA} {pos apos cpos : Pos} {k : Nat}
theorem fe_dgetK (hr : Room k X.A) (ho : FE K dd E X o to fo) (hi : FE K dd E X i ti fi) (hs : NoSl i := by exact fun _ _ => rfl) : FE K dd E X (.Subscript o i pos) (tDGet to ti) (dGetK fo fi) := by
  obtain ⟨po, eo⟩ := ho
  obtain ⟨pi, ei⟩ := hi
  refine ⟨pe_dget (by have := hr.un; omega) po pi hs, fun R P hf G Q q => eo R P hf G _ fun x h1 m1 H1 v R1 g1 r1 f1 => ei R1 (P.grow g1) f1 (G.later R1 g1) _ fun y h2 m2 H2 w R2 g2 r2 f2 => ?_⟩
  obtain ⟨l, k, d, el, rfl, ed, f2⟩ := f2
  obtain ⟨p, vs, rfl, hp, rr⟩ := rv_dK R2 (r1.grow g2) el
  obtain ⟨u, hu, ru⟩ := rr.val ed
  obtain rfl := kD_rv r2
  refine ⟨p, u, rfl, ?_, q _ _ _ _ _ R2 (g1.comp R1 g2) ru f2⟩
  rw [← hu]
  exact DGet.k hp
theorem fe_dgetT {kk : Nat} {p2 : Pos} (hr : Room k X.A) (ho : FE K dd E X o to fo) (hs : FA K dd E X es ts fs) (hn : NoSl (.Tuple es kk p2) := by exact fun _ _ => rfl) : FE K dd E X (.Subscript o (.Tuple es kk p2) pos) (tDGet to (tTup ts)) (dGetT fo fs) := by
  obtain ⟨po, eo⟩ := ho
  obtain ⟨ps, ev⟩ := hs
  refine ⟨pe_dget (by have := hr.un; omega) po (pe_tup ps) hn, fun R P hf G Q q => eo R P hf G _ fun x h1 m1 H1 v R1 g1 r1 f1 => ev R1 (P.grow g1) f1 (G.later R1 g1) _ fun xs h2 m2 H2 ws R2 g2 r2 f2 => ?_⟩
  obtain ⟨l, i, j, d, el, rfl, ed, f2⟩ := f2
  obtain ⟨v1, v2, rfl, ra, rb⟩ := rvs2 r2
  cases ra; cases rb
  refine ⟨by show 2 ≤ sizeLine; decide, fun y hy => ?_⟩
  obtain ⟨R3, g3, _⟩ := R2.new (o := .tup [.int i, .int j]) hy
  have g123 := (g1.comp R1 g2).comp R2 g3
  obtain ⟨p, vs, rfl, hp, rr⟩ := rv_dT R3 ((r1.grow g2).grow g3) el
  obtain ⟨u, hu, ru⟩ := rr.val ed
  refine ⟨p, u, rfl, ?_, q _ _ _ _ _ R3 g123 ru f2⟩
  rw [← hu]
  exact DGet.t hp (show upd H2 y (.tup [.int i, .int j]) y = some (.tup ([Sum.inl i, Sum.inl j].map kV)) from upd_same)
/-! ### {} -/
def dNewT : DE := fun _ h Q _ => Q (.ref h.length) (h ++ [.dit []])
def dNewK : DE := fun _ h Q _ => Q (.ref h.length) (h ++ [.dic []])
theorem fe_newT : FE K dd E X (.Dict [] [] pos) tDNewT dNewT := ⟨pe_dnewT, fun R P hf G Q q p hp => by
  obtain ⟨R2, g2⟩ := R.newCell (o := .dT []) (c := .dit []) hp fun m' H' g e => ⟨[], e, rfl, .nil⟩
  refine q _ _ _ _ _ R2 g2 (.ref ?_) hf
  rw [R.len, List.getElem?_append_right (Nat.le_refl _)]; simp⟩
theorem fe_newK : FE K dd E X (.Dict [] [] pos) tDNewK dNewK := ⟨pe_dnewK, fun R P hf G Q q p hp => by
  obtain ⟨R2, g2⟩ := R.newCell (o := .dK []) (c := .dic []) hp fun m' H' g e => ⟨[], e, rfl, .nil⟩
  refine q _ _ _ _ _ R2 g2 (.ref ?_) hf
  rw [R.len, List.getElem?_append_right (Nat.le_refl _)]; simp⟩
/-! ### dict(pairs) -/
def rDictK (K : PySem.W.Frag) : List V → Hp → VK → Prop := fun xs H Q => ∃ (a : Addr) (ps : List Addr) (kvs : List (L2.Key × V)), xs = [.ref a] ∧ SqL K H a (ps.map V.ref) ∧ Paired (fun p kv => SqT K H p [kV kv.1, kv.2]) ps kvs ∧ ∀ p, H p = none → Q (.ref p) (upd H p (.dK (mergeK [] kvs)))
theorem kk_dictK (hK : X.K = K) (hc : X.calm = true) : CallR X (.type "dict") (rDictK K) := hK ▸ call_dictP hc
def gDictK : GC := fun xs h Q => match xs with
  | [x] => ∃ l kvs, asL h x = some l ∧ l = kvs.map (fun kv : L2.Key × D => D.tup [kD kv.1, kv.2]) ∧ Q (.dic (mergeD [] kvs)) h
  | _ => False
theorem ec_dictK : EvC K dd (rDictK K) gDictK := by
  intro ex m h H xs vs Qd R rs f Q q
  unfold gDictK at f
  split at f
  · obtain ⟨v, rfl, r⟩ := rvs1 rs
    obtain ⟨l, kvs, el, rfl, f⟩ := f
    obtain ⟨p, vs, rfl, s, rr⟩ := rv_list R r el
    have key : ∀ {kvs : List (L2.Key × D)} {vs : List V}, Rvs K dd ex m H (kvs.map fun kv => D.tup [kD kv.1, kv.2]) vs → ∃ (ps : List Addr) (ws : List (L2.Key × V)), vs = ps.map V.ref ∧ Paired (fun p kv => SqT K H p [kV kv.1, kv.2]) ps ws ∧ RvsK K dd ex m H kvs ws := fun {kvs} => by
      induction kvs with
      | nil => intro vs r; cases r; exact ⟨[], [], rfl, .nil, .nil⟩
      | cons kv kvs ih =>
        intro vs r
        rw [List.map_cons] at r
        cases r with
        | cons r t =>
          obtain ⟨ps, ws, rfl, pr, rk⟩ := ih t
          obtain ⟨p, us, rfl, st, rs⟩ := rv_tup r
          obtain ⟨u, w, rfl, ra, rb⟩ := rvs2 rs
          obtain rfl := kD_rv ra
          exact ⟨p :: ps, (kv.1, w) :: ws, rfl, .cons st pr, RvsK.cons rb rk⟩
    obtain ⟨ps, ws, rfl, pr, rk⟩ := key rr
    refine ⟨p, ps, ws, rfl, SqL.of s, pr, fun y hy => ?_⟩
    refine q.new R f hy fun a b c g => ?_
    obtain ⟨e1, e2⟩ := (RvsK.mergeK rk (l := []) (vs := []) .nil).grow g
    exact .dic a b c e1 e2
  · exact f.elim
/-! ### found.update(d2), keys that are tuples -/
def dUpdT (P : Program) (w : World) (fo fx : DE) : DE := fun ρ h Q E => fo ρ h (fun o h1 => ∃ n, o = .ref n ∧ (∃ l0, h1[n]? = some (.dit l0)) ∧ fx ρ h1 (fun x h2 => ∃ l more, h2[n]? = some (.dit l) ∧ x = .dit more ∧ (l ≠ [] ∨ (more.map fun kv => hashT P w kv.1).Nodup) ∧ l.length + more.length ≤ 1000000 ∧ Q .non (h2.set n (.dit (mergeD l more)))) E) E
theorem fe_updT {tx : TE} (hK : X.K = K) (ho : FE K dd E X o to fo) (hx : FE K dd E X e tx fx)
    (hb : ∀ t u, PE X o t → PA X [e] u → PE X (.Call (.Attribute o "update" apos) [e] [] cpos) (tBM X.K "dict" (rUpdT X.prog X.w) t u)) (he : starEach [e] X.env = (false, eval e X.env) :: starEach [] X.env := by rfl) :
    FE K dd E X (.Call (.Attribute o "update" apos) [e] [] cpos) (tBM K "dict" (rUpdT X.prog X.w) to (tCons tx tNil)) (dUpdT X.prog X.w fo fx) := by
  obtain ⟨po, eo⟩ := ho
  obtain ⟨px, evx⟩ := hx
  refine ⟨kk_bm hK (hb _ _ po (pa_cons px pa_nil he)), fun R P hf G Q q => eo R P hf G _ fun d h1 m1 H1 v R1 g1 r1 f1 => ?_⟩
  obtain ⟨n, rfl, ⟨l0, hn⟩, f1⟩ := f1
  cases r1 with
  | @ref _ p hp =>
    obtain ⟨vs, z, y0, r⟩ := R1.cs n _ _ hn hp
    refine ⟨.inr (.inr (.inl ⟨rfl, .inr ⟨vs, z⟩⟩)), evx R1 (P.grow g1) f1 (G.later R1 g1) _ fun x h2 m2 H2 w R2 g2 r2 f2 => ?_⟩
    obtain ⟨l, more, hl, rfl, hap, hz, f2⟩ := f2
    have hp2 := g2.cell hp
    obtain ⟨us, z2, y2, r3⟩ := R2.cs n _ _ hl hp2
    cases r2 with
    | @dit y _ ws a b c e rr =>
      have rk : RvsK K dd _ m2 H2 more ws := ⟨e, rr⟩
      have rl : RvsK K dd _ m2 H2 l us := ⟨y2, r3⟩
      refine ⟨p, y, us, ws, rfl, rfl, z2, c, fun e => a (e ▸ List.mem_of_getElem? hp2), ?_, by rw [← rk.length, ← rl.length]; exact hz, ?_⟩
      · rcases hap with hap | hap
        · left
          intro e0
          rw [e0] at rl
          exact hap (List.length_eq_zero_iff.mp rl.length)
        · right
          have : (ws.map fun kv => hashT X.prog X.w kv.1) = (more.map fun kv => hashT X.prog X.w kv.1) := by
            have e1 : (ws.map fun kv => hashT X.prog X.w kv.1) = (ws.map (·.1)).map (hashT X.prog X.w) := by rw [List.map_map]; rfl
            have e2 : (more.map fun kv => hashT X.prog X.w kv.1) = (more.map (·.1)).map (hashT X.prog X.w) := by rw [List.map_map]; rfl
            rw [e1, e2, e]
          rw [this]
          exact hap
      · obtain ⟨R3, g3⟩ := R2.setCell (o := .dT (KG.mergeT us ws)) (c := .dit (mergeD l more)) hp2 fun H' g e => ⟨_, e, ((RvsK.mergeT rk rl).grow g)⟩
        exact q _ _ m2 _ _ R3 ((g1.comp R1 g2).comp R2 g3) .non f2
end
end DL

end

section
set_option maxHeartbeats 1000000
/-! F18: dict([((i, j), x) for ..]): the pairs are made anew; comprehensions between whose turns cells change; equations. -/
namespace DL
open PySem PySem.Spec PyProof.Rows L2 KG
section
variable {K : PySem.W.Frag} {dd : Hid} {ex ex' m m' : List Addr} {H H' : Hp} {h : List Cell} {E : L2.St → XK} {X : Cx}
/-- a pair, made anew: (a tuple of two ints, made anew; any value) -/
def RvP (K : PySem.W.Frag) (dd : Hid) (ex m : List Addr) (H : Hp) (d : D) (v : V) : Prop := ∃ (p b : Addr) (i j : Int) (z : D) (w : V), d = .tup [.tup [.int i, .int j], z] ∧ v = .ref p ∧ (p ∉ m ∧ ¬ dd.On p ∧ p ∉ ex) ∧ (b ∉ m ∧ ¬ dd.On b ∧ b ∉ ex) ∧ H p = some (.tup [.ref b, w]) ∧ H b = some (.tup [.int i, .int j]) ∧ Rv K dd ex m H z w
theorem RvP.grow {d : D} {v : V} (g : Grow dd m H m' H') (r : RvP K dd ex m H d v) : RvP K dd ex m' H' d v := by
  obtain ⟨p, b, i, j, z, w, e1, e2, a, c, hp, hb, r⟩ := r
  exact ⟨p, b, i, j, z, w, e1, e2, ⟨g.out a.1 hp, a.2⟩, ⟨g.out c.1 hb, c.2⟩, g.keep _ _ a.1 a.2.1 hp, g.keep _ _ c.1 c.2.1 hb, r.grow g⟩
theorem RvP.hid {d : D} {v : V} {p0 : Addr} {o : HO} (hp0 : p0 ∈ ex) (r : RvP K dd ex m H d v) : RvP K dd ex m (upd H p0 o) d v := by
  obtain ⟨p, b, i, j, z, w, e1, e2, a, c, hp, hb, r⟩ := r
  exact ⟨p, b, i, j, z, w, e1, e2, a, c, (upd_ne (show p ≠ p0 from fun y => a.2.2 (y ▸ hp0))).trans hp, (upd_ne (show b ≠ p0 from fun y => c.2.2 (y ▸ hp0))).trans hb, r.hid hp0⟩
theorem RvP.exq {d : D} {v : V} (q : Exq ex H ex') (r : RvP K dd ex m H d v) : RvP K dd ex' m H d v := by
  obtain ⟨p, b, i, j, z, w, e1, e2, a, c, hp, hb, r⟩ := r
  exact ⟨p, b, i, j, z, w, e1, e2, ⟨a.1, a.2.1, exq_rd q a.2.2 (.inl hp)⟩, ⟨c.1, c.2.1, exq_rd q c.2.2 (.inl hb)⟩, hp, hb, r.exq q⟩
inductive RvPs (K : PySem.W.Frag) (dd : Hid) (ex m : List Addr) (H : Hp) : List D → List V → Prop
  | nil : RvPs K dd ex m H [] []
  | cons {d : D} {ds : List D} {v : V} {vs : List V} : RvP K dd ex m H d v → RvPs K dd ex m H ds vs → RvPs K dd ex m H (d :: ds) (v :: vs)
theorem RvPs.map {ex2 m2 : List Addr} {H2 : Hp} (f : ∀ d v, RvP K dd ex m H d v → RvP K dd ex2 m2 H2 d v) : ∀ {ds : List D} {vs : List V}, RvPs K dd ex m H ds vs → RvPs K dd ex2 m2 H2 ds vs
  | _, _, .nil => .nil
  | _, _, .cons r t => .cons (f _ _ r) (RvPs.map f t)
theorem RvPs.snoc {d : D} {v : V} (r : RvP K dd ex m H d v) : ∀ {ds : List D} {vs : List V}, RvPs K dd ex m H ds vs → RvPs K dd ex m H (ds ++ [d]) (vs ++ [v])
  | _, _, .nil => .cons r .nil
  | _, _, .cons r2 t => .cons r2 (RvPs.snoc r t)
theorem RvPs.length : ∀ {ds : List D} {vs : List V}, RvPs K dd ex m H ds vs → ds.length = vs.length
  | _, _, .nil => rfl
  | _, _, .cons _ t => by simp [RvPs.length t]
/-- the element ((a, b), c) -/
def dPr (fs : DA) (fc : DE) : DE := fun ρ h Q E => fs ρ h (fun xs h1 => ∃ i j, xs = [.int i, .int j] ∧ fc ρ h1 (fun z h2 => Q (.tup [.tup [.int i, .int j], z]) h2) E) E
theorem ev_pr {ts : TA} {fs : DA} {tc : TE} {fc : DE} (es : EvA K dd E ts fs) (ec : EvE K dd E tc fc) : EvG K dd (RvP K dd) E (tTup (tCons (tTup ts) (tCons tc tNil))) (dPr fs fc) := fun {ex m h H ρ σ Qd Ed} R P hf G Q q => es R P hf G _ fun xs h1 m1 H1 vs R1 g1 r1 f1 => by
  obtain ⟨i, j, rfl, f1⟩ := f1
  obtain ⟨v1, v2, rfl, ra, rb⟩ := rvs2 r1
  cases ra; cases rb
  refine ⟨by show 2 ≤ sizeLine; decide, fun b hb => ?_⟩
  obtain ⟨R2, g2, n1, n2, n3⟩ := R1.new (o := .tup [.int i, .int j]) hb
  have P2 := (P.grow g1).grow g2
  have G2 := (G.later R1 g1).later R2 g2
  refine ec R2 P2 f1 G2 _ fun z h3 m3 H3 w R3 g3 r3 f3 => ⟨by show 2 ≤ sizeLine; decide, fun p hp => ?_⟩
  have e3 : H3 b = some (.tup [.int i, .int j]) := g3.keep b _ n1 n2 upd_same
  have o3 : b ∉ m3 := g3.out n1 upd_same
  obtain ⟨R4, g4, k1, k2, k3⟩ := R3.new (o := .tup [.ref b, w]) hp
  refine q _ _ _ _ _ R4 (((g1.comp R1 g2).comp R2 g3).comp R3 g4) ⟨p, b, i, j, z, w, rfl, rfl, ⟨k1, k2, k3⟩, ⟨o3, n2, n3⟩, upd_same, ?_, r3.grow g4⟩ f3
  exact (upd_ne (ne_of_none e3 hp)).trans e3
/-- a comprehension of such pairs: the list stands where nobody looks -/
theorem lc_pairs {wi : TI} {fi : DI} {g : TG} {gd : DTG} {te : TE} {fe : DE} {tt : TT} {ft : DT} {vs : List Nat} (ei : EvI K dd E wi fi) (eg : EvTg K dd g gd) (hw : Wn g vs) (et : EvT K dd E tt ft) (ee : EvG K dd (RvP K dd) E te fe) (hE : ∀ σ σ', E σ = E σ') {ρ : Rho} {σ : L2.St} {Qd : List D → List Cell → Prop} {Ed : DX}
    (R : Rel K dd ex m H h) (P : REnv K dd ex m H ρ σ) (hf : fi ρ h (fun lc h1 => dLcGo lc.2 gd ft fe Ed (wipeD ρ vs) Qd lc.1 [] h1) Ed) (G : Goes K dd ex E σ m H Ed) (Q : VK)
    (q : ∀ acc h' m' H' D us, Rel K dd ex m' H' h' → Grow dd m H m' H' → D ∉ m' ∧ ¬ dd.On D ∧ D ∉ ex → H' D = some (.lst us) → RvPs K dd ex m' H' acc us → Qd acc h' → Q (.ref D) H') : tLc wi g tt te vs σ H Q := ei R P hf G _ fun l chk h1 m1 H1 J R1 g1 W1 f1 D hD => by
  obtain ⟨R2, g2, nd, nx⟩ := R1.hide (o := .lst []) hD
  have hq0 : Exq ex H1 (D :: ex) := fun p hp => by
    rcases List.mem_cons.mp hp with e | hp
    · rw [e]; exact .inr hD
    · exact .inl hp
  refine lc_of (n := l.length) (fun i x H H' => J.yld i H x H') (fun i H' => ∃ h' m' acc us, Rel K dd (D :: ex) m' H' h' ∧ Grow dd m1 H1 m' H' ∧ H' D = some (.lst us) ∧ RvPs K dd (D :: ex) m' H' acc us ∧ dLcGo chk gd ft fe Ed (wipeD ρ vs) Qd (l.drop i) acc h')
    (fun i H' hi ⟨h', m', acc, us, R', g', hd', r', q'⟩ => W1.go _ i m' h' H' hq0 R' g' (lcgo_chk q') hi) (fun _ _ _ _ _ y => y) (fun H' ⟨h', m', acc, us, R', g', hd', r', q'⟩ => W1.stop _ m' h' H' hq0 R' g' (lcgo_chk q'))
    ⟨h1, m1, [], [], R2, g2, upd_same, .nil, f1⟩ ?_ ?_
  · rintro i x H' H2 hi y ⟨h', m', acc, us, R', g', hd', r', q'⟩
    obtain ⟨d, ed, R3, g3, r3⟩ := W1.yld _ i m' h' H' x H2 hq0 R' g' (lcgo_chk q') hi y
    rw [drop_cons ed] at q'
    have g13 := g'.comp R' g3
    have P1 : REnv K dd (D :: ex) m' H2 (wipeD ρ vs) (wipe σ vs) := (((P.grow g1).exq hq0).grow g13).wipes vs
    have Ge : ∀ {m5 H5 h5}, Rel K dd (D :: ex) m5 H5 h5 → Grow dd m1 H1 m5 H5 → ∀ σ', Goes K dd (D :: ex) E σ' m5 H5 Ed := fun {m5 H5 h5} R5 g5 σ' e h6 m6 H6 R6 g6 q6 cls dx rx => by
      rw [hE σ' σ]
      refine G e h6 m6 H6 (R6.sub fun p hp => List.mem_cons_of_mem _ hp) (g1.comp R1 (g5.comp R5 g6)) q6 cls dx (rx.exq fun p hp => .inl (List.mem_cons_of_mem _ hp))
    have ww : wipe (wipe σ vs) vs = wipe σ vs := by
      have : ∀ us : List Nat, (∀ u ∈ us, u ∈ vs) → wipe (wipe σ us) vs = wipe σ vs := by
        intro us
        induction us with
        | nil => intro _; rfl
        | cons u us ih =>
          intro hu
          show wipe ((wipe σ us).set u none) vs = _
          rw [wipe_set (hu u (List.mem_cons_self ..))]
          exact ih fun w hw => hu w (List.mem_cons_of_mem _ hw)
      exact this vs fun _ h => h
    have kD : ∀ {m5 H5 h5}, Rel K dd (D :: ex) m5 H5 h5 → Grow dd m' H2 m5 H5 → H5 D = some (.lst us) := fun {m5 H5 h5} R5 g5 => g5.keep D _ (R'.xs D (List.mem_cons_self ..)).1 nd (g3.keep D _ (R'.xs D (List.mem_cons_self ..)).1 nd hd')
    have z := hw x (wipe σ vs) H2 _ (eg R3 P1 r3 q'.2 (fun σ2 H3 => tt σ2 H3 fun b H4 => BrL b te D (fun H' => ∃ h' m' acc us, Rel K dd (D :: ex) m' H' h' ∧ Grow dd m1 H1 m' H' ∧ H' D = some (.lst us) ∧ RvPs K dd (D :: ex) m' H' acc us ∧ dLcGo chk gd ft fe Ed (wipeD ρ vs) Qd (l.drop (i + 1)) acc h') σ2 H4)
      fun ρ3 h3 m3 H3 σ3 R4 g4 P3 q3 => et R4 P3 q3 (Ge R4 (g13.comp R3 g4) _) _ fun b h4 m4 H4 c R5 g5 e5 q5 => by
        subst e5
        have g45 := g4.comp R4 g5
        unfold BrL
        cases c
        · rw [if_neg Bool.false_ne_true] at q5 ⊢
          exact ⟨h4, m4, acc, us, R5, g13.comp R3 g45, kD R5 g45, r'.map (fun _ _ r => r.grow (g3.comp R3 g45)), q5⟩
        · rw [if_pos rfl] at q5 ⊢
          refine ee R5 (P3.grow g5) q5 (Ge R5 (g13.comp R3 g45) _) _ fun y h6 m6 H6 v R6 g6 r6 q6 => ?_
          have g46 := g45.comp R5 g6
          have r6' := r'.map (fun _ _ r => r.grow (g3.comp R3 g46))
          refine ⟨us, kD R6 g46, Nat.lt_of_lt_of_le (by rw [← r'.length]; exact q6.1) line_ge, h6, m6, acc ++ [y], us ++ [v], R6.hid (List.mem_cons_self ..) nd trivial, ⟨(g13.comp R3 g46).pre, fun p o a b e => ?_⟩, upd_same, (RvPs.snoc r6 r6').map (fun _ _ r => r.hid (List.mem_cons_self ..)), q6.2⟩
          rw [upd_ne fun z => by rw [z, hD] at e; cases e]
          exact (g13.comp R3 g46).keep p o a b e)
    rw [ww] at z
    exact z
  · rintro H' ⟨h', m', acc, us, R', g', hd', r', q'⟩
    rw [List.drop_length] at q'
    have sub : Exq (D :: ex) H' ex := fun p hp => .inl (List.mem_cons_of_mem _ hp)
    exact q acc h' m' H' D us (R'.sub fun p hp => List.mem_cons_of_mem _ hp) (g1.comp R1 g') ⟨(R'.xs D (List.mem_cons_self ..)).1, nd, nx⟩ hd' (r'.map fun _ _ r => r.exq sub) q'.2
/-- the keys and values of such pairs -/
def prK : List D → Option (List (List L2.Key × D))
  | [] => some []
  | .tup [.tup [.int i, .int j], z] :: l => (prK l).map (([.inl i, .inl j], z) :: ·)
  | _ :: _ => none
def dDictT (fi : DI) (gd : DTG) (ft : DT) (fe : DE) (vs : List Nat) : DE := fun ρ h Q E => fi ρ h (fun lc h1 => dLcGo lc.2 gd ft fe E (wipeD ρ vs) (fun acc h2 => ∃ kvs, prK acc = some kvs ∧ Q (.dit (mergeD [] kvs)) h2) lc.1 [] h1) E
theorem prs_of : ∀ {acc : List D} {us : List V} {kvs : List (List L2.Key × D)}, RvPs K dd ex m H acc us → prK acc = some kvs → ∃ (ps : List Addr) (ws : List (List L2.Key × V)), us = ps.map V.ref ∧ PrsT H ps ws ∧ RvsK K dd ex m H kvs ws
  | _, _, _, .nil, e => by cases e; exact ⟨[], [], rfl, .nil, .nil⟩
  | _, _, kvs, .cons (ds := ds) r t, e => by
    obtain ⟨p, b, i, j, z, w, rfl, rfl, a, c, hp, hb, r⟩ := r
    unfold prK at e
    cases q : prK ds with
    | none => rw [q] at e; cases e
    | some k' =>
      rw [q] at e
      cases e
      obtain ⟨ps, ws, rfl, h1, h2⟩ := prs_of t q
      exact ⟨p :: ps, ([.inl i, .inl j], w) :: ws, rfl, .cons ⟨b, hp, hb⟩ h1, RvsK.cons r h2⟩
theorem fe_dictLcT {es : List Expr} {c tg iter : Expr} {ifs : List Expr} {scope : Scope} {own : List (Str × Nat)} {pos pos2 p tp tp2 : Pos} {k1 k2 kr : Nat} {wi : TI} {fi : DI} {g : TG} {gd : DTG} {ts : TA} {fs : DA} {tc : TE} {fc : DE} {tt : TT} {ft : DT} (hE : ∀ σ σ', E σ = E σ') (hK : X.K = K) (hc : X.calm = true) (hr : Room kr X.A) (hg0 : Gl X "dict") (hm0 : X.mg "dict" = none) (hN : X.N.Nodup) (hi : FI K dd E X tg iter wi fi) (ok : BlkOk X.N X.env.scope scope own) (hw : Wn g (own.map (·.2)))
    (hg : ∀ (s : Shared) (H : Hp) (C : Addr) (cl : List (Str × Addr)) (fp : List Addr), FG K dd (X.blk s H scope (compEnvC scope cl C X.env) fp) tg g gd) (ht : ∀ (s : Shared) (H : Hp) (C : Addr) (cl : List (Str × Addr)) (fp : List Addr), FTs K dd E (X.blk s H scope (compEnvC scope cl C X.env) fp) ifs tt ft)
    (he : ∀ (s : Shared) (H : Hp) (C : Addr) (cl : List (Str × Addr)) (fp : List Addr), FA K dd E (X.blk s H scope (compEnvC scope cl C X.env) fp) es ts fs) (hec : ∀ (s : Shared) (H : Hp) (C : Addr) (cl : List (Str × Addr)) (fp : List Addr), FE K dd E (X.blk s H scope (compEnvC scope cl C X.env) fp) c tc fc)
    (hst : ∀ (s : Shared) (H : Hp) (C : Addr) (cl : List (Str × Addr)) (fp : List Addr), starEach [.Tuple es k1 tp, c] (X.blk s H scope (compEnvC scope cl C X.env) fp).env = (false, eval (.Tuple es k1 tp) (X.blk s H scope (compEnvC scope cl C X.env) fp).env) :: starEach [c] (X.blk s H scope (compEnvC scope cl C X.env) fp).env)
    (hst2 : ∀ (s : Shared) (H : Hp) (C : Addr) (cl : List (Str × Addr)) (fp : List Addr), starEach [c] (X.blk s H scope (compEnvC scope cl C X.env) fp).env = (false, eval c (X.blk s H scope (compEnvC scope cl C X.env) fp).env) :: starEach [] (X.blk s H scope (compEnvC scope cl C X.env) fp).env)
    (hs : ∀ x, foldedSetIterable iter X.env x = pure x) (s0 : Shared)
    (na : starEach [.ListComp (.Tuple [.Tuple es k1 tp, c] k2 tp2) [⟨tg, iter, ifs, 0⟩] scope pos2] X.env = (false, eval (.ListComp (.Tuple [.Tuple es k1 tp, c] k2 tp2) [⟨tg, iter, ifs, 0⟩] scope pos2) X.env) :: starEach [] X.env := by rfl) :
    FE K dd E X (.Call (.Name "dict" p) [.ListComp (.Tuple [.Tuple es k1 tp, c] k2 tp2) [⟨tg, iter, ifs, 0⟩] scope pos2] [] pos)
      (tCB (rDictT K) (tCons (tLc wi g tt (tTup (tCons (tTup ts) (tCons tc tNil))) (own.map (·.2))) tNil)) (dDictT fi gd ft (dPr fs fc) (own.map (·.2))) := by
  subst hK
  have hu := hr.un
  refine ⟨pe_callTy (cr_dictT hc (by omega)) hg0 hm0 PyProof.Rows.boot_dict (pa_cons (pe_lc hc hN hi.1 ok (fun s H C cl fp => (hg s H C cl fp).1) (fun s H C cl fp => (ht s H C cl fp).1) (fun s H C cl fp => pe_tup (pa_cons (pe_tup (he s H C cl fp).1) (pa_cons (hec s H C cl fp).1 pa_nil (hst2 s H C cl fp)) (hst s H C cl fp))) hs) pa_nil na), fun {ex m h H ρ σ Qd Ed} R P hf G Q q => ?_⟩
  refine lc_pairs hi.2 (hg s0 (fun _ => none) 0 [] []).2 hw (ht s0 (fun _ => none) 0 [] []).2 (ev_pr (he s0 (fun _ => none) 0 [] []).2 (hec s0 (fun _ => none) 0 [] []).2) hE R P hf G (fun v H1 => rDictT X.K [v] H1 Q) fun acc h' m' H' D us R' g' nD hD rp fin => ?_
  obtain ⟨kvs, ek, fin⟩ := fin
  obtain ⟨ps, ws, rfl, h1, h2⟩ := prs_of rp ek
  refine ⟨D, ps, ws, rfl, SqL.of hD, h1, fun y hy => ?_⟩
  refine (q.later R' g').new R' fin hy fun a b c e => ?_
  obtain ⟨e1, e2⟩ := (RvsK.mergeT h2 (l := []) (vs := []) .nil).grow e
  exact .dit a b c e1 e2
end
end DL

end

section
set_option maxHeartbeats 1000000
/-! F19: equations of F15 to F18; loops; dice in a cell. -/
namespace DL
open PySem PySem.Spec PyProof.Rows L2 KG
section
variable {fa fb fo fi fx fc : DE} {fs : DA} {ρ : Rho} {h : List Cell} {Q : D → List Cell → Prop} {E : DX} {d : D} {Qg : Rho → List Cell → Prop} {P : Program} {w : World} {gi : DI} {gt : DTG} {ft : DT} {fe : DE} {vs : List Nat} {Qi : List D × (List Cell → Prop) → List Cell → Prop}
theorem d_subS : gSubD fo fi d ρ h Qg = fo ρ h (fun o h1 => fi ρ h1 (fun i h2 => ∃ n k l j, o = .ref n ∧ i = .int k ∧ h2[n]? = some (.lst l) ∧ ixN l.length k = some j ∧ Qg ρ (h2.set n (.lst (l.set j d)))) noX) noX := rfl
theorem d_ext : dExt fo fx ρ h Q E = fo ρ h (fun o h1 => ∃ n, o = .ref n ∧ (∃ l0, h1[n]? = some (.lst l0)) ∧ fx ρ h1 (fun x h2 => ∃ l ys, h2[n]? = some (.lst l) ∧ x = .lst ys ∧ l.length + ys.length ≤ 1000000 ∧ Q .non (h2.set n (.lst (l ++ ys)))) E) E := rfl
theorem d_popAt : dPopAt fo fi ρ h Q E = fo ρ h (fun o h1 => ∃ n, o = .ref n ∧ (∃ l0, h1[n]? = some (.lst l0)) ∧ fi ρ h1 (fun i h2 => ∃ (k : Nat) (l : List D) (x : D), i = .int (k : Nat) ∧ k < 1000000 ∧ h2[n]? = some (.lst l) ∧ l[k]? = some x ∧ Q x (h2.set n (.lst (l.eraseIdx k)))) E) E := rfl
theorem d_dgetK : dGetK fo fi ρ h Q E = fo ρ h (fun o h1 => fi ρ h1 (fun i h2 => ∃ l k d, asK h2 o = some l ∧ i = kD k ∧ valD l k = some d ∧ Q d h2) E) E := rfl
theorem d_dgetT : dGetT fo fs ρ h Q E = fo ρ h (fun o h1 => fs ρ h1 (fun xs h2 => ∃ l i j d, asT h2 o = some l ∧ xs = [.int i, .int j] ∧ valD l [.inl i, .inl j] = some d ∧ Q d h2) E) E := rfl
theorem d_newT : dNewT ρ h Q E = Q (.ref h.length) (h ++ [.dit []]) := rfl
theorem d_newK : dNewK ρ h Q E = Q (.ref h.length) (h ++ [.dic []]) := rfl
theorem d_updT : dUpdT P w fo fx ρ h Q E = fo ρ h (fun o h1 => ∃ n, o = .ref n ∧ (∃ l0, h1[n]? = some (.dit l0)) ∧ fx ρ h1 (fun x h2 => ∃ l more, h2[n]? = some (.dit l) ∧ x = .dit more ∧ (l ≠ [] ∨ (more.map fun kv => hashT P w kv.1).Nodup) ∧ l.length + more.length ≤ 1000000 ∧ Q .non (h2.set n (.dit (mergeD l more)))) E) E := rfl
theorem d_dictT : dDictT gi gt ft fe vs ρ h Q E = gi ρ h (fun lc h1 => dLcGo lc.2 gt ft fe E (wipeD ρ vs) (fun acc h2 => ∃ kvs, prK acc = some kvs ∧ Q (.dit (mergeD [] kvs)) h2) lc.1 [] h1) E := rfl
theorem d_pr : dPr fs fc ρ h Q E = fs ρ h (fun xs h1 => ∃ i j, xs = [.int i, .int j] ∧ fc ρ h1 (fun z h2 => Q (.tup [.tup [.int i, .int j], z]) h2) E) E := rfl
theorem d_listRng : dListRng fa ρ h Q E = fa ρ h (fun x h1 => ∃ n : Nat, x = .int (n : Nat) ∧ n ≤ 1000000 ∧ Q (.lst (intsD 0 n)) h1) E := rfl
theorem d_sortSet : dSortSet fs ρ h Q E = fs ρ h (fun xs h1 => gSortSet xs h1 Q) E := rfl
theorem d_rng2 : dRng2 fs ρ h Qi E = fs ρ h (fun xs h1 => ∃ i j : Int, xs = [.int i, .int j] ∧ (-(2 ^ 62) ≤ i ∧ i < 2 ^ 62 ∧ -(2 ^ 62) ≤ j ∧ j < 2 ^ 62) ∧ Qi (intsD i (j - i).toNat, fun _ => True) h1) E := rfl
theorem d_enumL : dEnumL fs ρ h Qi E = fs ρ h (fun xs h1 => ∃ d l, xs = [d] ∧ asL h1 d = some l ∧ Qi (enumD l, chkD d l) h1) E := rfl
theorem d_enumT : dEnumT fs ρ h Qi E = fs ρ h (fun xs h1 => ∃ l, xs = [.tup l] ∧ Qi (enumD l, fun _ => True) h1) E := rfl
theorem d_enumS : dEnumS fs ρ h Qi E = fs ρ h (fun xs h1 => ∃ t, xs = [.str t] ∧ Qi (enumD (signs t), fun _ => True) h1) E := rfl
end
/-- a comprehension between whose turns cells change -/
theorem lc_inv {chk : List Cell → Prop} {g : DTG} {ft : DT} {fe : DE} {E : DX} {ρ : Rho} {Q : List D → List Cell → Prop} {l : List D} {h0 : List Cell} (Iv : Nat → List D → List Cell → Prop) (hc : ∀ i acc h, i ≤ l.length → Iv i acc h → chk h) (h0' : Iv 0 [] h0)
    (hs : ∀ i d acc h (N : List D → List Cell → Prop), l[i]? = some d → Iv i acc h → (∀ acc2 h2, Iv (i + 1) acc2 h2 → N acc2 h2) → g d ρ h fun ρ1 h1 => ft ρ1 h1 (fun b h2 => if b = true then fe ρ1 h2 (fun x h3 => acc.length < 1000000 ∧ N (acc ++ [x]) h3) E else N acc h2) E)
    (hd : ∀ acc h, Iv l.length acc h → Q acc h) : dLcGo chk g ft fe E ρ Q l [] h0 := by
  have go : ∀ (n i : Nat) (acc : List D) (h : List Cell), n + i = l.length → Iv i acc h → dLcGo chk g ft fe E ρ Q (l.drop i) acc h := by
    intro n
    induction n with
    | zero =>
      intro i acc h hi iv
      have e : i = l.length := by omega
      rw [e, List.drop_length]
      subst e
      exact ⟨hc _ acc h (Nat.le_refl _) iv, hd acc h iv⟩
    | succ n ih =>
      intro i acc h hi iv
      have hlt : i < l.length := by omega
      rw [drop_cons (List.getElem?_eq_getElem hlt)]
      exact ⟨hc _ acc h (by omega) iv, hs i _ acc h (fun acc2 h2 => dLcGo chk g ft fe E ρ Q (l.drop (i + 1)) acc2 h2) (List.getElem?_eq_getElem hlt) iv fun acc2 h2 q2 => ih (i + 1) acc2 h2 (by omega) q2⟩
  have := go l.length 0 [] h0 (by omega) h0'
  rwa [List.drop_zero] at this
/-- one that passes some items -/
theorem lc_flt {chk : List Cell → Prop} {g : DTG} {ft : DT} {fe : DE} {E : DX} {ρ : Rho} {Q : List D → List Cell → Prop} {h : List Cell} {l : List D} (p : D → Bool) (f : D → D) (hc : chk h) (hl : l.length ≤ 1000000)
    (hs : ∀ d ∈ l, ∀ (K : D → List Cell → Prop) (K0 : List Cell → Prop), (p d = true → K (f d) h) → (p d = false → K0 h) → g d ρ h fun ρ1 h1 => ft ρ1 h1 (fun b h2 => if b = true then fe ρ1 h2 K E else K0 h2) E)
    (q : Q ((l.filter p).map f) h) : dLcGo chk g ft fe E ρ Q l [] h := by
  have key := lc_fm (chk := chk) (g := g) (ft := ft) (fe := fe) (E := E) (ρ := ρ) (Q := Q) (h := h) (fun d => if p d = true then some (f d) else none) l [] hc (by simpa using hl) (fun d hd K K0 k => by
    refine hs d hd K K0 (fun e => ?_) (fun e => ?_)
    · simp only [e, if_true] at k; exact k
    · rw [if_neg (by rw [e]; exact Bool.false_ne_true)] at k; exact k) (by
    have e : l.filterMap (fun d => if p d = true then some (f d) else none) = (l.filter p).map f := by
      clear hc hl hs q
      induction l with
      | nil => rfl
      | cons x l ih =>
        by_cases e : p x = true
        · simp [List.filterMap_cons, List.filter_cons, e, ih]
        · simp [List.filterMap_cons, List.filter_cons, e, ih]
    rw [List.nil_append, e]
    exact q)
  exact key
/-! ### the dice in a cell of ours -/
def Dice (n : Nat) (h : List Cell) : Prop := ∃ a b c : Int, h[n]? = some (.lst [.int a, .int b, .int c])
theorem Dice.set {n : Nat} {h : List Cell} (d : Dice n h) (a b c : Int) : Dice n (h.set n (.lst [.int a, .int b, .int c])) := by
  obtain ⟨x, y, z, e⟩ := d
  exact ⟨a, b, c, List.getElem?_set_self (List.getElem?_eq_some_iff.mp e).1⟩
theorem callC {n : Nat} {h : List Cell} {xs ys : List D} {sp : DSp} {Q : D → List Cell → Prop} (dc : Dice n h) (e : xs = .ref n :: ys) (nr : noRefs ys = true) (nd : noDis ys = true)
    (hs : ∀ Pd : D → Prop, (∀ d, noDi d = true → (∀ h2, Dice n h2 → Q d h2) → Pd d) → sp (.dice :: ys) Pd fun _ => False) :
    ∃ (n : Nat) (a b c : Int) (ys : List D), xs = .ref n :: ys ∧ h[n]? = some (.lst [.int a, .int b, .int c]) ∧ noRefs ys = true ∧ noDis ys = true ∧ sp (.dice :: ys) (fun d => noDi d = true ∧ ∀ a b c : Int, Q d (h.set n (.lst [.int a, .int b, .int c]))) fun _ => False := by
  obtain ⟨a, b, c, e'⟩ := dc
  exact ⟨n, a, b, c, ys, e, e', nr, nd, hs _ fun d hd k => ⟨hd, fun x y z => k _ (Dice.set ⟨a, b, c, e'⟩ x y z)⟩⟩
/-- at a place of a list -/
theorem ixN_nat {n i : Nat} (h : i < n) : ixN n (i : Int) = some i := by
  unfold ixN
  have h1 : (0 : Int) ≤ (i : Nat) := by omega
  have h2 : ((i : Nat) : Int) < (n : Nat) := by omega
  simp [h1, h2]
theorem at_cell {n i : Nat} {l : List D} {d : D} {h : List Cell} {Q : D → List Cell → Prop} (e : h[n]? = some (.lst l)) (e2 : l[i]? = some d) (q : Q d h) : gIx (.ref n) (.int (i : Nat)) h Q := (gIx_r e).mpr ⟨d, at_nat e2, q⟩
theorem ix_lst {i : Nat} {l : List D} {d : D} {h : List Cell} {Q : D → List Cell → Prop} (e2 : l[i]? = some d) (q : Q d h) : gIx (.lst l) (.int (i : Nat)) h Q := gIx_l.mpr ⟨d, at_nat e2, q⟩
theorem ix_tup {i : Nat} {l : List D} {d : D} {h : List Cell} {Q : D → List Cell → Prop} (e2 : l[i]? = some d) (q : Q d h) : gIx (.tup l) (.int (i : Nat)) h Q := gIx_t.mpr ⟨d, at_nat e2, q⟩
theorem gMin_i {i j : Int} {h : List Cell} {Q : D → List Cell → Prop} : gMin [.int i, .int j] h Q ↔ Q (.int (if j < i then j else i)) h := Iff.rfl
theorem gMax_i {i j : Int} {h : List Cell} {Q : D → List Cell → Prop} : gMax [.int i, .int j] h Q ↔ Q (.int (if j > i then j else i)) h := Iff.rfl
end DL
namespace DL
open PySem PySem.Spec PyProof.Rows L2 KG
/-! xs * n, a list made anew -/
def dMulN (fa fb : DE) : DA := fun ρ h Q E => fa ρ h (fun x h1 => fb ρ h1 (fun y h2 => ∃ l k, asL h2 x = some l ∧ y = .int k ∧ 0 ≤ k ∧ k ≤ 1000 ∧ l.length ≤ 1000 ∧ Q (List.replicate k.toNat l).flatten h2) E) E
section
variable {K : PySem.W.Frag} {dd : Hid} {E : L2.St → XK} {X : Cx} {a b : Expr} {fa fb : DE} {ta tb : TE} {pos : Pos}
theorem fn_mul (hK : X.K = K) (ha : FE K dd E X a ta fa) (hb : FE K dd E X b tb fb) : FN K dd E X (.BinOp a .Mult b pos) (tOp (kMul K) ta tb) (dMulN fa fb) := by
  obtain ⟨pa, ea⟩ := ha
  obtain ⟨pb, eb⟩ := hb
  refine ⟨pe_op (kk_mul (K := K) hK) pa pb, fun {ex m h H ρ σ Qd Ed} R P hf G Q q => ea R P hf G _ fun x h1 m1 H1 v R1 g1 r1 f1 => eb R1 (P.grow g1) f1 (G.later R1 g1) _ fun y h2 m2 H2 w R2 g2 r2 f2 => ?_⟩
  obtain ⟨l, k, el, rfl, k0, k1, hl, f2⟩ := f2
  cases r2
  have g12 := g1.comp R1 g2
  obtain ⟨p, vs, rfl, s, rr⟩ := rv_list R2 (r1.grow g2) el
  have hm : vs.length * k.toNat ≤ 1000 * 1000 := Nat.mul_le_mul (by rw [← rr.length]; exact hl) (by omega)
  refine .inl ⟨p, k, vs, rfl, rfl, s, by omega, by omega, line_of hm, fun y hy => ?_⟩
  obtain ⟨R3, g3, nd, nx⟩ := R2.hide (o := .lst (List.replicate k.toNat vs).flatten) hy
  have rr2 : Rvs K dd ex m2 H2 (List.replicate k.toNat l).flatten (List.replicate k.toNat vs).flatten := rvs_rep rr _
  exact q _ h2 m2 _ y _ R3 (g12.comp R2 g3) (fresh_back R2 g12 hy) nd nx upd_same (rr2.hide R2 hy) f2
theorem d_mulN {ρ : Rho} {h : List Cell} {Q : List D → List Cell → Prop} {Ed : DX} : dMulN fa fb ρ h Q Ed = fa ρ h (fun x h1 => fb ρ h1 (fun y h2 => ∃ l k, asL h2 x = some l ∧ y = .int k ∧ 0 ≤ k ∧ k ≤ 1000 ∧ l.length ≤ 1000 ∧ Q (List.replicate k.toNat l).flatten h2) Ed) Ed := rfl
end
end DL
namespace DL
open PySem PySem.Spec PyProof.Rows L2 KG
theorem cdiv_small {a n : Int} (h0 : 0 < n) (h1 : n < 2 ^ 100) : CDivW a n := ⟨h0, by have := PySem.Flt.log2_lt_of (n := n.natAbs) (k := 100) (by decide) (by omega); omega⟩
theorem gFdiv_i {i j : Int} {h : List Cell} {Q : D → List Cell → Prop} : gFdiv (.int i) (.int j) h Q ↔ CDivW i j ∧ Q (.int (i / j)) h := Iff.rfl
end DL
namespace DL
open PySem PySem.Spec PyProof.Rows L2 KG
/-! a call without arguments -/
def dFn0 (sp : DSp) : DE := fun ρ h Q E => sp [] (fun d => Q d h) fun _ => False
section
variable {X : Cx} {K : PySem.W.Frag} {dd : Hid} {E : L2.St → XK} {st : Stmt} {x : Str} {k : Nat} {sp : DSp} {p pos : Pos}
theorem fe_callO0 {tb : List (Addr × Str)} {D : Df X.K X.mg x st []} (hK : X.K = K) (ht : dd.tabs = tb) (F : FnOk X.prog X.w X.K X.mg X.base CX0 k D.f D.fd [] (spD K tb sp)) (hr : Room k X.A) (hg : Gl X x) (hdb : (x == ("__debug__" : Str)) = false := by decide) :
    FE K dd E X (.Call (.Name x p) [] [] pos) (tCall (spD K tb sp) [] E0 tNil) (dFn0 sp) := ⟨callO0 F hr hg hdb, fun {ex m h H ρ σ Qd Ed} R P hf G Q q => by
  refine ⟨dd, m ++ ex, [], fun d => Qd d h, fun _ => False, ht, R.enter, .nil, rfl, hf, fun d H' v R' g' r' q' => ?_, fun _ _ _ _ _ _ _ z => z.elim⟩
  obtain ⟨R2, g2⟩ := R.leave R' g'
  exact q d h m H' v R2 g2 (rv_out r') q'⟩
theorem d_fn0 {ρ : Rho} {h : List Cell} {Q : D → List Cell → Prop} {Ed : DX} : dFn0 sp ρ h Q Ed = sp [] (fun d => Q d h) fun _ => False := rfl
end
end DL

end

section
set_option maxHeartbeats 1000000
/-! F20: == of ints in lists and tuples. -/
namespace DL
open PySem PySem.Spec PyProof.Rows L2 KG
theorem gListN_l {l : List D} {h : List Cell} {Q : List D → List Cell → Prop} : gListN [.lst l] h Q ↔ Q l h := by
  show (∃ a, some l = some a ∧ _) ↔ _
  exact ⟨fun ⟨a, e, q⟩ => by cases e; exact q, fun q => ⟨_, rfl, q⟩⟩
theorem gListN_t {l : List D} {h : List Cell} {Q : List D → List Cell → Prop} : gListN [.tup l] h Q ↔ Q l h := by
  show (∃ a, some l = some a ∧ _) ↔ _
  exact ⟨fun ⟨a, e, q⟩ => by cases e; exact q, fun q => ⟨_, rfl, q⟩⟩
def pz (ns : List Int) : List PyData := ns.map PyData.int
theorem pyDs_z : ∀ ns : List Int, pyDs (zD ns) = some (pz ns)
  | [] => by simp [zD, pyDs, pz]
  | n :: ns => by
    show pyDs (.int n :: zD ns) = _
    rw [pyDs, pyDs_z ns]
    simp [pyD, pz]
theorem pyDs_n (ns : List Nat) : pyDs (nD ns) = some (pz (ns.map fun n : Nat => (n : Int))) := by rw [nD_z]; exact pyDs_z _
theorem pz_lay : ∀ ns : List Int, PyData.canLayAll0 (pz ns) = true ∧ PyData.depthAll (pz ns) = 0
  | [] => by simp [pz, PyData.canLayAll0, PyData.depthAll]
  | n :: ns => by
    obtain ⟨h1, h2⟩ := pz_lay ns
    show PyData.canLayAll0 (.int n :: pz ns) = true ∧ PyData.depthAll (.int n :: pz ns) = 0
    rw [PyData.canLayAll0, PyData.depthAll, h1, h2]
    simp [PyData.canLay0, PyData.depth]
theorem shaped_seq {xs : List PyData} {k : Nat} (h1 : PyData.canLayAll0 xs = true) (h2 : PyData.depthAll xs ≤ k) (hk : k ≤ 63) : SeqAt.shaped (.list xs) = true ∧ SeqAt.shaped (.tuple xs) = true := by
  unfold SeqAt.shaped
  constructor
  · rw [Bool.and_eq_true_iff]
    refine ⟨by rw [PyData.canLay0]; exact h1, decide_eq_true ?_⟩
    rw [PyData.depth]; omega
  · rw [Bool.and_eq_true_iff]
    refine ⟨by rw [PyData.canLay0]; exact h1, decide_eq_true ?_⟩
    rw [PyData.depth]; omega
theorem shaped_z (ns : List Int) : SeqAt.shaped (.list (pz ns)) = true ∧ SeqAt.shaped (.tuple (pz ns)) = true := shaped_seq (k := 0) (pz_lay ns).1 (by rw [(pz_lay ns).2]; exact Nat.le_refl _) (by decide)
theorem eqv_z : ∀ a b : List Int, PyData.eqvAll (pz a) (pz b) = decide (a = b)
  | [], [] => rfl
  | [], _ :: _ => rfl
  | _ :: _, [] => rfl
  | x :: a, y :: b => by
    show (PyData.eqv (.int x) (.int y) && PyData.eqvAll (pz a) (pz b)) = _
    rw [eqv_z a b, PyData.eqv]
    by_cases e : x = y
    · subst e; simp
    · simp [e]
theorem eqv_nil' (ds : List PyData) : PyData.eqv (.list ds) (.list []) = ds.isEmpty := by cases ds <;> rfl
section
variable {h : List Cell} {Q : D → List Cell → Prop}
theorem gEq_tz {a b : List Int} (q : Q (.bl (decide (a = b))) h) : gEq (.tup (zD a)) (.tup (zD b)) h Q := by
  show (isO (.tup (zD a)) || isO (.tup (zD b))) = true ∧ ∃ x y, pyC h (.tup (zD a)) = some x ∧ pyC h (.tup (zD b)) = some y ∧ _
  refine ⟨rfl, .tuple (pz a), .tuple (pz b), ?_, ?_, (shaped_z a).2, (shaped_z b).2, ?_⟩
  · show pyD _ = _; rw [pyD, pyDs_z]; rfl
  · show pyD _ = _; rw [pyD, pyDs_z]; rfl
  · rw [PyData.eqv, eqv_z]; exact q
theorem nat_inj {a b : List Nat} : (a.map fun n : Nat => (n : Int)) = b.map (fun n : Nat => (n : Int)) ↔ a = b := by
  constructor
  · intro h
    have := congrArg (List.map Int.toNat) h
    rw [List.map_map, List.map_map] at this
    have e : ∀ l : List Nat, List.map (Int.toNat ∘ fun n : Nat => (n : Int)) l = l := fun l => (List.map_congr_left fun x _ => Int.toNat_natCast x).trans (List.map_id _)
    rwa [e, e] at this
  · intro h; rw [h]
theorem gEq_tn {a b : List Nat} (q : Q (.bl (decide (a = b))) h) : gEq (.tup (nD a)) (.tup (nD b)) h Q := by
  rw [nD_z, nD_z]
  refine gEq_tz ?_
  rw [show decide ((a.map fun n : Nat => (n : Int)) = b.map (fun n : Nat => (n : Int))) = decide (a = b) from decide_eq_decide.mpr nat_inj]
  exact q
/-- a list that == sees, against [] -/
theorem gEq_nil {l : List D} {es : List PyData} (e : pyDs l = some es) (sh : SeqAt.shaped (.list es) = true) (q : Q (.bl l.isEmpty) h) : gEq (.lst l) (.lst []) h Q := by
  show (isO (.lst l) || isO (.lst [])) = true ∧ ∃ x y, pyC h (.lst l) = some x ∧ pyC h (.lst []) = some y ∧ _
  refine ⟨rfl, .list es, .list [], ?_, ?_, sh, rfl, ?_⟩
  · show pyD _ = _; rw [pyD, e]; rfl
  · show pyD _ = _; rw [pyD, pyDs]; rfl
  · rw [eqv_nil']
    have : es.isEmpty = l.isEmpty := by
      cases l with
      | nil => rw [pyDs] at e; cases e; rfl
      | cons x l =>
        rw [pyDs] at e
        split at e
        · cases e; rfl
        · cases e
    rw [this]
    exact q
theorem gNe_nil {l : List D} {es : List PyData} (e : pyDs l = some es) (sh : SeqAt.shaped (.list es) = true) (q : Q (.bl (!l.isEmpty)) h) : gNe (.lst l) (.lst []) h Q := by
  show (isO (.lst l) || isO (.lst [])) = true ∧ ∃ x y, pyC h (.lst l) = some x ∧ pyC h (.lst []) = some y ∧ _
  refine ⟨rfl, .list es, .list [], ?_, ?_, sh, rfl, ?_⟩
  · show pyD _ = _; rw [pyD, e]; rfl
  · show pyD _ = _; rw [pyD, pyDs]; rfl
  · rw [eqv_nil']
    have : es.isEmpty = l.isEmpty := by
      cases l with
      | nil => rw [pyDs] at e; cases e; rfl
      | cons x l =>
        rw [pyDs] at e
        split at e
        · cases e; rfl
        · cases e
    rw [this]
    exact q
theorem gEq_nilN {l : List Nat} (q : Q (.bl l.isEmpty) h) : gEq (.lst (nD l)) (.lst []) h Q := gEq_nil (pyDs_n l) (shaped_z _).1 (by unfold nD; rw [List.isEmpty_map]; exact q)
theorem gNe_nilN {l : List Nat} (q : Q (.bl (!l.isEmpty)) h) : gNe (.lst (nD l)) (.lst []) h Q := gNe_nil (pyDs_n l) (shaped_z _).1 (by unfold nD; rw [List.isEmpty_map]; exact q)
end
end DL
namespace DL
open PySem PySem.Spec PyProof.Rows L2 KG
theorem shaped_b2 (a b : Bool) : SeqAt.shaped (.list [.bool a, .bool b]) = true := by cases a <;> cases b <;> decide +kernel
theorem gEq_bb {a b c d : Bool} {h : List Cell} {Q : D → List Cell → Prop} (q : Q (.bl (decide (a = c) && decide (b = d))) h) : gEq (.lst [.bl a, .bl b]) (.lst [.bl c, .bl d]) h Q := by
  refine ⟨rfl, .list [.bool a, .bool b], .list [.bool c, .bool d], rfl, rfl, shaped_b2 a b, shaped_b2 c d, ?_⟩
  have e : PyData.eqv (.list [.bool a, .bool b]) (.list [.bool c, .bool d]) = (decide (a = c) && decide (b = d)) := by cases a <;> cases b <;> cases c <;> cases d <;> rfl
  show Q (.bl (PyData.eqv _ _)) h
  rw [e]
  exact q
theorem gNe_bb {a b c d : Bool} {h : List Cell} {Q : D → List Cell → Prop} (q : Q (.bl (!(decide (a = c) && decide (b = d)))) h) : gNe (.lst [.bl a, .bl b]) (.lst [.bl c, .bl d]) h Q := by
  refine ⟨rfl, .list [.bool a, .bool b], .list [.bool c, .bool d], rfl, rfl, shaped_b2 a b, shaped_b2 c d, ?_⟩
  have e : PyData.eqv (.list [.bool a, .bool b]) (.list [.bool c, .bool d]) = (decide (a = c) && decide (b = d)) := by cases a <;> cases b <;> cases c <;> cases d <;> rfl
  show Q (.bl (!(PyData.eqv _ _))) h
  rw [e]
  exact q
theorem lcgo_nil {chk : List Cell → Prop} {g : DTG} {ft : DT} {fe : DE} {E : DX} {ρ : Rho} {Q : List D → List Cell → Prop} {acc : List D} {h : List Cell} : dLcGo chk g ft fe E ρ Q [] acc h = (chk h ∧ Q acc h) := rfl
theorem lcgo_cons {chk : List Cell → Prop} {g : DTG} {ft : DT} {fe : DE} {E : DX} {ρ : Rho} {Q : List D → List Cell → Prop} {acc : List D} {h : List Cell} {d : D} {l : List D} : dLcGo chk g ft fe E ρ Q (d :: l) acc h = (chk h ∧ g d ρ h fun ρ1 h1 => ft ρ1 h1 (fun b h2 => if b = true then fe ρ1 h2 (fun x h3 => acc.length < 1000000 ∧ dLcGo chk g ft fe E ρ Q l (acc ++ [x]) h3) E else dLcGo chk g ft fe E ρ Q l acc h2) E) := rfl
end DL

end

section
set_option maxHeartbeats 1000000
/-! F21: dicts with new keys; the hashes of pairs of small ints. -/
namespace DL
open PySem PySem.Spec PyProof.Rows L2 KG
section
variable {κ : Type} [DecidableEq κ]
theorem valD_none {l : List (κ × D)} {k : κ} (h : ∀ d, (k, d) ∉ l) : valD l k = none := by
  unfold valD
  rw [List.find?_eq_none.mpr fun x hx => ?_]
  · rfl
  · intro e
    have : x.1 = k := of_decide_eq_true e
    exact h x.2 (by rw [← this]; exact hx)
theorem putD_new {l : List (κ × D)} {k : κ} {d : D} (h : ∀ d, (k, d) ∉ l) : putD l k d = l ++ [(k, d)] := by
  unfold putD
  rw [valD_any, valD_none h]
  simp
theorem mergeD_fresh : ∀ {more acc : List (κ × D)}, ((acc ++ more).map (·.1)).Nodup → mergeD acc more = acc ++ more
  | [], acc, _ => by simp [mergeD]
  | p :: more, acc, h => by
    have hp : ∀ d, (p.1, d) ∉ acc := fun d hd => by
      rw [List.map_append, List.map_cons] at h
      exact (List.nodup_append.mp h).2.2 p.1 (List.mem_map.mpr ⟨_, hd, rfl⟩) p.1 (List.mem_cons_self ..) rfl
    show mergeD (putD acc p.1 p.2) more = _
    rw [putD_new hp, mergeD_fresh (by simpa using h)]
    simp
theorem mergeD_nil {more : List (κ × D)} (h : (more.map (·.1)).Nodup) : mergeD [] more = more := by rw [mergeD_fresh (by simpa using h)]; rfl
theorem mem_putD {l : List (κ × D)} {k : κ} {d : D} {x : κ × D} (h : x ∈ putD l k d) : x ∈ l ∨ x = (k, d) := by
  unfold putD at h
  split at h
  · obtain ⟨y, hy, e⟩ := List.mem_map.mp h
    split at e
    · rename_i hk
      subst e
      right
      rw [hk]
    · subst e; exact .inl hy
  · rcases List.mem_append.mp h with h | h
    · exact .inl h
    · exact .inr (List.mem_singleton.mp h)
theorem mem_mergeD {x : κ × D} : ∀ {more l : List (κ × D)}, x ∈ mergeD l more → x ∈ l ∨ x ∈ more
  | [], l, h => .inl h
  | p :: more, l, h => by
    have h' : x ∈ mergeD (putD l p.1 p.2) more := h
    rcases mem_mergeD h' with h | h
    · rcases mem_putD h with h | h
      · exact .inl h
      · exact .inr (by rw [h]; exact List.mem_cons_self ..)
    · exact .inr (List.mem_cons_of_mem _ h)
theorem mergeD_ne {more l : List (κ × D)} (h : l ≠ [] ∨ more ≠ []) : mergeD l more ≠ [] := by
  induction more generalizing l with
  | nil => rcases h with h | h
           · exact h
           · exact absurd rfl h
  | cons p more ih => exact ih (l := putD l p.1 p.2) (.inl (putD_ne _ _ _))
end
theorem nrT_mem {l : List (List L2.Key × D)} : noRefT l = true ↔ ∀ x ∈ l, noRef x.2 = true := by
  induction l with
  | nil => simp [noRefT]
  | cons x l ih => rw [noRefT, Bool.and_eq_true, ih]; simp
theorem nrK_mem {l : List (L2.Key × D)} : noRefK l = true ↔ ∀ x ∈ l, noRef x.2 = true := by
  induction l with
  | nil => simp [noRefK]
  | cons x l ih => rw [noRefK, Bool.and_eq_true, ih]; simp
theorem fz_rT {n : Nat} {l : List (List L2.Key × D)} {h : List Cell} {P : D → Prop} (hn : h[n]? = some (.dit l)) (nr : noRefT l = true) (q : P (.dit l)) : ∃ d', frz h (.ref n) = some d' ∧ P d' := ⟨_, by unfold frz frz1; simp only [hn]; rw [if_pos nr], q⟩
theorem fz_dic {l : List (L2.Key × D)} {h : List Cell} {P : D → Prop} (nr : noRefK l = true) (q : P (.dic l)) : ∃ d', frz h (.dic l) = some d' ∧ P d' := ⟨_, by show (if noRef (.dic l) = true then _ else _) = _; rw [noRef, if_pos nr], q⟩
/-! hashes -/
def hash0 (o : Nat) : Int := reduceHash (Builtin.Tuple.tupleHashOf [hashInt 0, hashInt (o : Nat)])
theorem hash0_nodup : ((List.range 16).map hash0).Nodup := by decide +kernel
theorem hash_0 {P : Program} {w : World} {o : Nat} : hashT P w [.inl 0, .inl (o : Nat)] = hash0 o := rfl
theorem hash0_inj {a b : Nat} (ha : a < 16) (hb : b < 16) (h : hash0 a = hash0 b) : a = b := by
  have e : ∀ i, i < 16 → ((List.range 16).map hash0)[i]? = some (hash0 i) := fun i hi => by simp [hi]
  have l : ((List.range 16).map hash0).length = 16 := by simp
  have h1 := (List.getElem?_eq_some_iff.mp (e a ha))
  have h2 := (List.getElem?_eq_some_iff.mp (e b hb))
  exact (List.getElem_inj hash0_nodup).mp (h1.2.trans (h.trans h2.2.symm))
end DL
namespace DL
open PySem PySem.Spec PyProof.Rows L2 KG
theorem mt_updTr {X : Cx} {k : Nat} (hr : Room k X.A) : MtR X "dict.update" (rUpdT X.prog X.w) := mt_updT (by have := hr.un; omega)
end DL
namespace DL
open PySem PySem.Spec PyProof.Rows L2 KG
theorem atD0 {α : Type} {x : α} {l : List α} : atD (x :: l) 0 = some x := by unfold DL.atD atI; rw [show ixN (x :: l).length 0 = some 0 by unfold ixN; simp]; rfl
theorem hash_n {P : Program} {w : World} {o : Nat} : hashT P w [.inl ((0 : Nat) : Int), .inl (o : Nat)] = hash0 o := hash_0
end DL

end

section
set_option maxHeartbeats 4000000
namespace LW
open PySem PySem.Spec PyProof.Rows L2 KG KT

def top (i : Nat) : Stmt := PySem.Challenge.pw_onebetween_k80_whole_endless_web_of_form.main.body.getD i (.Pass ⟨0, 0, 0, 0⟩)
abbrev s_is_letter : Stmt := top 2
abbrev s_is_term : Stmt := top 10
abbrev s_require_term : Stmt := top 11
abbrev s_size_in : Stmt := top 12
abbrev s_end_of : Stmt := top 13
abbrev s_part_in : Stmt := top 14
abbrev s_put_in : Stmt := top 15
abbrev s_substituted_in : Stmt := top 16
abbrev s_match_in : Stmt := top 17
abbrev s_each_step : Stmt := top 20
abbrev s_first_step : Stmt := top 21
abbrev s_has_step : Stmt := top 22
abbrev s_chain_from : Stmt := top 23
abbrev s_form_in : Stmt := top 24
abbrev s_form_of : Stmt := top 25
abbrev s_require_terms : Stmt := top 26
abbrev s_require_forms : Stmt := top 27
abbrev s_require_room : Stmt := top 28
abbrev s_between_forms : Stmt := top 29
abbrev s_is_tied_form : Stmt := top 30
abbrev s__law_dice : Stmt := top 32
abbrev s__law_roll : Stmt := top 33
abbrev s__law_pick : Stmt := top 34
abbrev s__law_mixed : Stmt := top 35
abbrev s__law_power : Stmt := top 36
abbrev s__law_word_rows : Stmt := top 37
abbrev s__law_nine : Stmt := top 38
abbrev s__law_columns : Stmt := top 39
abbrev s__law_renamed : Stmt := top 40
abbrev s__law_mates : Stmt := top 41
abbrev s__law_switch_classes : Stmt := top 42
abbrev s__law_switched : Stmt := top 43
abbrev s__law_some_switches : Stmt := top 44
abbrev s__law_named : Stmt := top 45
abbrev s__law_two : Stmt := top 46
abbrev s__law_grown_term : Stmt := top 47
abbrev s__law_part_of : Stmt := top 48
abbrev s__law_sides : Stmt := top 49
abbrev s__law_rule_results : Stmt := top 50
abbrev s__law_steps : Stmt := top 51
abbrev s__law_down : Stmt := top 52
abbrev s__law_table : Stmt := top 53
abbrev s__law_worth : Stmt := top 54
abbrev s__law_drawn_values : Stmt := top 55
abbrev s__law_drawn_form : Stmt := top 56
abbrev s__law_is_tied : Stmt := top 57
abbrev s__law_right : Stmt := top 58
abbrev s__law_values_right : Stmt := top 59
abbrev s_law : Stmt := top 60
abbrev Tm := KT.T
structure Top (K : PySem.W.Frag) (mg : Str → Option Value) where
  abs : mg "abs" = none
  dict : mg "dict" = none
  enumerate : mg "enumerate" = none
  int : mg "int" = none
  isinstance : mg "isinstance" = none
  len : mg "len" = none
  list : mg "list" = none
  max : mg "max" = none
  min : mg "min" = none
  range : mg "range" = none
  set : mg "set" = none
  sorted : mg "sorted" = none
  str : mg "str" = none
  tuple : mg "tuple" = none
  LETTERS : ∃ t, mg "LETTERS" = some (.str "abcdefghijklmnopqrstuvwxyz" t)
  MAX_LETTERS : ∃ t, mg "MAX_LETTERS" = some (.int 200 t)
  STAR : ∃ t, mg "STAR" = some (.str "*" t)
  RULESa : Addr
  r1 : Addr
  r2 : Addr
  r3 : Addr
  RULES : mg "RULES" = some (.ref RULESa)
  t0 : KTup K RULESa [.ref r1, .ref r2, .ref r3]
  t1 : KTup K r1 [S [42, 42, 120, 121, 42, 121, 122], S [121]]
  t2 : KTup K r2 [S [42, 120, 42, 42, 120, 121, 122], S [42, 120, 121]]
  t3 : KTup K r3 [S [42, 42, 120, 42, 121, 122, 122], S [42, 121, 122]]
  is_letter : Df K mg "is_letter" s_is_letter ["value"]
  is_term : Df K mg "is_term" s_is_term ["value"]
  require_term : Df K mg "require_term" s_require_term ["value"]
  size_in : Df K mg "size_in" s_size_in ["term"]
  end_of : Df K mg "end_of" s_end_of ["term", "index"]
  part_in : Df K mg "part_in" s_part_in ["term", "index"]
  put_in : Df K mg "put_in" s_put_in ["term", "index", "other"]
  substituted_in : Df K mg "substituted_in" s_substituted_in ["term", "terms"]
  match_in : Df K mg "match_in" s_match_in ["pattern", "term"]
  each_step : Df K mg "each_step" s_each_step ["term"]
  first_step : Df K mg "first_step" s_first_step ["term"]
  has_step : Df K mg "has_step" s_has_step ["term"]
  chain_from : Df K mg "chain_from" s_chain_from ["term"]
  form_in : Df K mg "form_in" s_form_in ["term"]
  form_of : Df K mg "form_of" s_form_of ["term"]
  require_terms : Df K mg "require_terms" s_require_terms ["one", "other"]
  require_forms : Df K mg "require_forms" s_require_forms ["one", "other"]
  require_room : Df K mg "require_room" s_require_room ["size"]
  between_forms : Df K mg "between_forms" s_between_forms ["one", "other"]
  is_tied_form : Df K mg "is_tied_form" s_is_tied_form ["one", "other"]
  _law_dice : Df K mg "_law_dice" s__law_dice ["script", "spot"]
  _law_roll : Df K mg "_law_roll" s__law_roll ["dice", "total"]
  _law_pick : Df K mg "_law_pick" s__law_pick ["dice", "items"]
  _law_mixed : Df K mg "_law_mixed" s__law_mixed ["dice", "items"]
  _law_power : Df K mg "_law_power" s__law_power ["base", "number"]
  _law_word_rows : Df K mg "_law_word_rows" s__law_word_rows ["degree", "depth"]
  _law_nine : Df K mg "_law_nine" s__law_nine []
  _law_columns : Df K mg "_law_columns" s__law_columns ["rows"]
  _law_renamed : Df K mg "_law_renamed" s__law_renamed ["rows", "names"]
  _law_mates : Df K mg "_law_mates" s__law_mates ["rows", "one", "other"]
  _law_switch_classes : Df K mg "_law_switch_classes" s__law_switch_classes ["rows", "one", "other"]
  _law_switched : Df K mg "_law_switched" s__law_switched ["rows", "one", "other", "mine", "theirs"]
  _law_some_switches : Df K mg "_law_some_switches" s__law_some_switches ["dice", "rows", "turns"]
  _law_named : Df K mg "_law_named" s__law_named ["dice", "rows"]
  _law_two : Df K mg "_law_two" s__law_two ["dice"]
  _law_grown_term : Df K mg "_law_grown_term" s__law_grown_term ["dice", "letters", "size"]
  _law_part_of : Df K mg "_law_part_of" s__law_part_of ["term", "index"]
  _law_sides : Df K mg "_law_sides" s__law_sides ["term"]
  _law_rule_results : Df K mg "_law_rule_results" s__law_rule_results ["part"]
  _law_steps : Df K mg "_law_steps" s__law_steps ["term"]
  _law_down : Df K mg "_law_down" s__law_down ["dice", "term"]
  _law_table : Df K mg "_law_table" s__law_table ["rows"]
  _law_worth : Df K mg "_law_worth" s__law_worth ["table", "term", "values"]
  _law_drawn_values : Df K mg "_law_drawn_values" s__law_drawn_values ["dice", "letters", "total"]
  _law_drawn_form : Df K mg "_law_drawn_form" s__law_drawn_form ["dice", "letters"]
  _law_is_tied : Df K mg "_law_is_tied" s__law_is_tied ["dice", "one", "other"]
  _law_right : Df K mg "_law_right" s__law_right ["dice", "letters", "small"]
  _law_values_right : Df K mg "_law_values_right" s__law_values_right ["dice", "rows", "letters"]
  law : Df K mg "law" s_law ["script"]
end LW

end

section
set_option maxHeartbeats 4000000

namespace LW
open PySem PySem.Spec PyProof.Rows L2 KG KT
local macro_rules | `(tactic| walk_at "go") => `(tactic| try simp only [b_St, b_Sf, b_Et, b_Ef, b_At, b_Af, b_Ot, b_Of, b_AVt, b_AVf, b_OVt, b_OVf, b_Ct, b_Cf, g_seq, g_asg, g_name, g_ret, g_retN, g_next, g_brk, g_cont, g_drop, g_ifS, g_if, g_and, g_or, g_not, g_andV, g_orV, g_notV, g_chain, g_test, g_B, g_op, g_un, g_neg, g_var, g_c, g_nil, g_cons, g_CB, g_call, g_par, g_par3, g_aug, g_sl, g_part, g_nopart, g_tup, g_lst, g_gcons, g_gnil, g_BM, g_dnew, g_yes, g_never, g_tupK, g_listK, g_KCall, g_for1, g_tru, k_then, k_0, k_plain, k_if, k_yield, b_Gt, b_Gf, rx_K, kon_K, g_M1, g_dget2, g_isS, g_wipe0, g_wipe1, g_wipe2, g_wipe3, b_Lt, b_Lf,
  kAdd_i, kAdd_s, kMul_i, kMul_s, kInt_i, kInt0_i, kEq_i, kEq_s, kNe_i, kNe_s, kEq_b, kNe_b, kIn_s, kNotIn_s, kLen_s, kIx_s, kSl_s, kAug_i, kAbs_i, kMax_i, kMin_i, kIntOf_i, kIntOf_b, g_sub, isN_S, isN_i, isN_n, isN_r, notN_S, notN_i, notN_n, notN_r, isN_b, notN_b, tru_b, tru_i, tru_n, ex_bl, ex_int, ex_some, par_2, par_3, isi_S kit_ss, cx_K, cx_Kn, Bool.not_true, Bool.not_false,
  List.set_cons_zero, List.set_cons_succ, List.getElem?_cons_zero, List.getElem?_cons_succ, List.map_cons, List.map_nil, List.append_nil, List.length_cons, List.length_nil, Nat.zero_add, dec_one, true_and, decide_true, decide_false])
local macro_rules | `(tactic| walk_at "br") => `(tactic| first | refine br_W ?_ ?_ | refine br_G ?_ ?_ | refine br_L ?_ ?_ | refine br_Ln ?_ ?_ | refine br_Lm ?_ ?_ | refine br_Lb ?_ ?_ | refine br_S ?_ ?_ | refine br_E ?_ ?_ | refine br_A ?_ ?_ | refine br_O ?_ ?_ | refine br_AV ?_ ?_ | refine br_OV ?_ ?_ | refine br_C ?_ ?_ | refine br_Sn ?_ ?_ | refine br_En ?_ ?_ | refine br_An ?_ ?_ | refine br_On ?_ ?_ | refine br_AVn ?_ ?_ | refine br_OVn ?_ ?_ | refine br_Cn ?_ ?_ | refine br_Sm ?_ ?_ | refine br_Em ?_ ?_ | refine br_Am ?_ ?_ | refine br_Om ?_ ?_ | refine br_AVm ?_ ?_ | refine br_OVm ?_ ?_ | refine br_Cm ?_ ?_ | refine br_Sb ?_ ?_ | refine br_Eb ?_ ?_ | refine br_Ab ?_ ?_ | refine br_Ob ?_ ?_ | refine br_AVb ?_ ?_ | refine br_OVb ?_ ?_ | refine br_Cb ?_ ?_)

section
variable {P : Program} {w : World} {K : PySem.W.Frag} {mg : Str → Option Value} {base : Heap}
abbrev sl_is_letter : List Str := ["value"]
theorem sc_is_letter : FnScope sl_is_letter ["value"] (defScope s_is_letter) := ⟨rfl, rfl, rfl, by decide +kernel, rfl, by decide +kernel, by decide +kernel⟩
theorem st_is_letter (v0 : V) : L2.start sl_is_letter [v0] = [some v0] := rfl
abbrev sl_is_term : List Str := ["value", "wanted", "sign"]
theorem sc_is_term : FnScope sl_is_term ["value"] (defScope s_is_term) := ⟨rfl, rfl, rfl, by decide +kernel, rfl, by decide +kernel, by decide +kernel⟩
theorem st_is_term (v0 : V) : L2.start sl_is_term [v0] = [some v0, none, none] := rfl
abbrev sl_end_of : List Str := ["term", "index", "wanted", "at"]
theorem sc_end_of : FnScope sl_end_of ["term", "index"] (defScope s_end_of) := ⟨rfl, rfl, rfl, by decide +kernel, rfl, by decide +kernel, by decide +kernel⟩
theorem st_end_of (v0 : V) (v1 : V) : L2.start sl_end_of [v0, v1] = [some v0, some v1, none, none] := rfl
abbrev sl_part_in : List Str := ["term", "index"]
theorem sc_part_in : FnScope sl_part_in ["term", "index"] (defScope s_part_in) := ⟨rfl, rfl, rfl, by decide +kernel, rfl, by decide +kernel, by decide +kernel⟩
theorem st_part_in (v0 : V) (v1 : V) : L2.start sl_part_in [v0, v1] = [some v0, some v1] := rfl
abbrev sl_put_in : List Str := ["term", "index", "other"]
theorem sc_put_in : FnScope sl_put_in ["term", "index", "other"] (defScope s_put_in) := ⟨rfl, rfl, rfl, by decide +kernel, rfl, by decide +kernel, by decide +kernel⟩
theorem st_put_in (v0 : V) (v1 : V) (v2 : V) : L2.start sl_put_in [v0, v1, v2] = [some v0, some v1, some v2] := rfl
/-! ### is_letter -/
theorem in_letters (c : Nat) : decide (c ∈ [97, 98, 99, 100, 101, 102, 103, 104, 105, 106, 107, 108, 109, 110, 111, 112, 113, 114, 115, 116, 117, 118, 119, 120, 121, 122]) = isL c := by
  have e : ([97, 98, 99, 100, 101, 102, 103, 104, 105, 106, 107, 108, 109, 110, 111, 112, 113, 114, 115, 116, 117, 118, 119, 120, 121, 122] : List Nat) = List.range' 97 26 := by decide +kernel
  rw [e]
  unfold isL
  rw [← Bool.decide_and]
  congr 1
  rw [List.mem_range'_1]
  apply propext
  omega
def spLetter : Sp := fun vs H Q _ => ∃ c, vs = [S [c]] ∧ Q (.bl (isL c)) H
theorem spLetter_S {c : Nat} {H : Hp} {Q : VK} {E : XK} : spLetter [S [c]] H Q E ↔ Q (.bl (isL c)) H := by
  constructor
  · rintro ⟨d, h, q⟩
    cases S_inj.mp (List.cons.inj h).1
    exact q
  · exact fun q => ⟨c, rfl, q⟩
theorem ok_is_letter (T : Top K mg) : FnOk P w K mg base CX0 1 T.is_letter.f T.is_letter.fd ["value"] spLetter := by
  refine T.is_letter.F.ok sc_is_letter (fun vs H Q E h => ?_) (fun cdv A outer s H vs Q E hr h => ?_)
  · obtain ⟨c, rfl, _⟩ := h
    rfl
  · obtain ⟨c, rfl, k⟩ := h
    refine ⟨_, (pss_one (ps_ret (pe_and (pe_callB (kk_isi (K := K) rfl) (by rfl) T.isinstance (by decide +kernel) (pa_cons (pv 0) (pa_cons (pe_bltn (v := .ty "str") (by rfl) T.str (by decide +kernel) rfl) pa_nil))) (pe_and (pe_cmpR (kk_eq (K := K) rfl hr) (pe_callB (kk_len (K := K) rfl) (by rfl) T.len (by decide +kernel) (pa_cons (pv 0) pa_nil)) pe_int (nomark _)) (pe_one (pe_cmpR (kk_in (K := K) rfl hr) (pv 0) (pe_globS [97, 98, 99, 100, 101, 102, 103, 104, 105, 106, 107, 108, 109, 110, 111, 112, 113, 114, 115, 116, 117, 118, 119, 120, 121, 122] (by decide) (by rfl) T.LETTERS) (by rfl))))))), ?_⟩
    rw [st_is_letter]
    walk_at "go"
    refine ⟨by decide, ?_⟩
    walk_at "br"
    · intro _
      walk_at "go"
      rw [in_letters]
      exact k
    · intro h
      exact absurd rfl h
/-! ### is_term -/
def spTerm (K : PySem.W.Frag) : Sp := fun vs H Q _ => (∃ l, vs = [S l] ∧ l.length ≤ 1000000 ∧ Q (.bl (isT l)) H) ∨ ∃ v, vs = [v] ∧ (∃ m, kindV K v H = some m ∧ kitB m "str" = some false) ∧ Q (.bl false) H
theorem ok_is_term (T : Top K mg) : FnOk P w K mg base CX0 2 T.is_term.f T.is_term.fd ["value"] (spTerm K) := by
  refine T.is_term.F.ok sc_is_term (fun vs H Q E h => ?_) (fun cdv A outer s H vs Q E hr h => ?_)
  · rcases h with ⟨l, rfl, _⟩ | ⟨v, rfl, _⟩ <;> rfl
  · refine ⟨_, (pss_cons (ps_if (pw_or (pt_not (kk_tru (K := K) rfl (pt_truth (pe_callB (kk_isi (K := K) rfl) (by rfl) T.isinstance (by decide +kernel) (pa_cons (pv 0) (pa_cons (pe_bltn (v := .ty "str") (by rfl) T.str (by decide +kernel) rfl) pa_nil))) (fun _ => rfl)))) (pw_or1 (pt_not (pt_chain op_kLe op_kLe pe_int (pe_callB (kk_len (K := K) rfl) (by rfl) T.len (by decide +kernel) (pa_cons (pv 0) pa_nil)) (pe_op op_kSub (pe_op (kk_mul (K := K) rfl) pe_int (pe_globI (by rfl) T.MAX_LETTERS)) pe_int))))).pt (pss_one (ps_ret pe_bl)) pss_nil) (pss_cons (ps_set (i := 1) sc_is_term.nd rfl (by first | exact Or.inl rfl | exact Or.inr rfl) pe_int) (pss_cons (ps_for PassesOwn.never (by rfl) (kk_pi (K := K) rfl (pv 0)) (pg_name (i := 2) sc_is_term.nd rfl (by first | exact Or.inl rfl | exact Or.inr rfl)) (pss_cons (ps_if (pw_or (pt_cmpR (kk_eq (K := K) rfl hr) (pv 1) pe_int (nomark _)) (pw_or1 (pw_and (pt_cmpR (kk_ne (K := K) rfl hr) (pv 2) (pe_globS [42] (by decide) (by rfl) T.STAR) (nomark _)) (pw_and1 (pt_not (kk_tru (K := K) rfl (pt_truth (callO (ok_is_letter T) (hr.mono (by first | decide | omega)) (by rfl) (pa_cons (pv 2) pa_nil)) (fun _ => rfl)))))).pt)).pt (pss_one (ps_ret pe_bl)) pss_nil) (pss_one (ps_aug (i := 1) sc_is_term.nd rfl (by first | exact Or.inl rfl | exact Or.inr rfl) (pe_ifExp (pt_cmpR (kk_eq (K := K) rfl hr) (pv 2) (pe_globS [42] (by decide) (by rfl) T.STAR) (nomark _)) pe_int (pe_un un_neg pe_int)) ip_kAug)))) (pss_one (ps_ret (pe_cmpR (kk_eq (K := K) rfl hr) (pv 1) pe_int (nomark _))))))), ?_⟩
    rcases h with ⟨l, rfl, hl, k⟩ | ⟨v, rfl, ⟨m, hm, hb⟩, k⟩
    · rw [st_is_term]
      walk_at "go"
      refine ⟨hl, ?_⟩
      have step : ∀ c r w, KT.scan w (c :: r) = if w = 0 ∨ (c ≠ 42 ∧ isL c = false) then false else KT.scan (if c = 42 then w + 1 else w - 1) r := fun _ _ _ => rfl
      have out : ¬ (1 ≤ l.length ∧ l.length ≤ 399) → isT l = false := fun h => by
        unfold isT
        rw [show (decide (1 ≤ l.length) && decide (l.length ≤ 399)) = false by rw [← Bool.decide_and]; exact decide_eq_false h]
        rfl
      walk_at "br"
      · intro h1
        walk_at "go"
        refine ⟨.inr (.inl (by decide)), ?_⟩
        walk_at "br"
        · intro h2
          walk_at "go"
          have e0 : isT l = KT.scan 1 l := by
            unfold isT
            rw [decide_eq_true (show 1 ≤ l.length by omega), decide_eq_true (show l.length ≤ 399 by omega)]
            rfl
          refine loop_S (l := l) (is_var rfl) (fun i σ H' => H' = H ∧ ∃ (w : Nat) (o : Option V), σ = [some (S l), some (.int w), o] ∧ isT l = KT.scan w (l.drop i)) ⟨rfl, 1, none, rfl, by rw [e0]; rfl⟩ ?_ ?_
          · rintro i c σ' H' hi ⟨rfl, w', o, rfl, e1⟩
            have hd : l.drop i = c :: l.drop (i + 1) := by
              obtain ⟨hlt, e⟩ := List.getElem?_eq_some_iff.mp hi
              rw [← e, List.drop_eq_getElem_cons hlt]
            rw [hd, step] at e1
            walk_at "go"
            have fin : ¬ (w' = 0 ∨ c ≠ 42 ∧ isL c = false) → isT l = KT.scan (if c = 42 then w' + 1 else w' - 1) (List.drop (i + 1) l) := fun h => by rw [if_neg h] at e1; exact e1
            have bad : (w' = 0 ∨ c ≠ 42 ∧ isL c = false) → Q (V.bl false) H' := fun h => by
              rw [if_pos h] at e1
              rw [← e1]
              exact k
            walk_at "br"
            · intro h0
              walk_at "go"
              exact bad (.inl (by omega))
            · intro h0
              walk_at "go"
              walk_at "br"
              · intro h3
                subst h3
                walk_at "go"
                refine ⟨w' + 1, _, rfl, ?_⟩
                rw [fin (by omega), if_pos rfl]
              · intro h4
                walk_at "go"
                rw [spLetter_S]
                walk_at "go"
                walk_at "br"
                · intro h5
                  walk_at "go"
                  rw [decide_eq_false h4]
                  walk_at "go"
                  refine ⟨w' - 1, some (S [c]), ?_, ?_⟩
                  · rw [show ((w' - 1 : Nat) : Int) = (w' : Int) + -1 by omega]
                  · rw [fin (by rw [h5]; simp; omega), if_neg h4]
                · intro h5
                  walk_at "go"
                  exact bad (.inr ⟨h4, h5⟩)
          · rintro σ' H' ⟨rfl, w', o, rfl, e1⟩
            walk_at "go"
            rw [List.drop_length] at e1
            have e2 : isT l = decide ((w' : Int) = 0) := by
              rw [e1]
              show (w' == 0) = _
              cases w' <;> simp <;> omega
            rw [← e2]
            exact k
        · intro h2
          walk_at "go"
          rw [← out (by omega)]
          exact k
      · intro h1
        walk_at "go"
        rw [← out (by omega)]
        exact k
    · rw [st_is_term]
      walk_at "go"
      rw [kIsi_of hm hb]
      walk_at "go"
      exact k
/-! ### end_of, part_in, put_in -/
theorem drop_at {l : List Nat} {k c : Nat} {r : List Nat} (h : l.drop k = c :: r) : l[k]? = some c ∧ l.drop (k + 1) = r ∧ k < l.length := by
  have hk : k < l.length := by
    by_cases z : k < l.length
    · exact z
    · rw [List.drop_of_length_le (by omega)] at h
      cases h
  rw [List.drop_eq_getElem_cons hk] at h
  injection h with h1 h2
  exact ⟨by rw [List.getElem?_eq_getElem hk, h1], h2, hk⟩
theorem drop_len {l r : List Nat} {k : Nat} {e : List Nat} (h : l.drop k = e ++ r) (hk : k ≤ l.length) : l.length = k + e.length + r.length := by
  have h1 := congrArg List.length h
  rw [List.length_drop, List.length_append] at h1
  omega
theorem drop_in {l r : List Nat} {i : Nat} {t : Tm} (hd : l.drop i = enc t ++ r) : i ≤ l.length := by
  by_cases z : i ≤ l.length
  · exact z
  · rw [List.drop_of_length_le (by omega)] at hd
    have h1 := congrArg List.length hd
    have h2 := enc_len t
    have h3 := sz_pos t
    rw [List.length_append, List.length_nil] at h1
    omega
def spEnd : Sp := fun vs H Q _ => ∃ (l : List Nat) (i : Nat) (t : Tm) (r : List Nat), vs = [S l, .int (i : Nat)] ∧ l.length ≤ 1000000 ∧ ok t = true ∧ l.drop i = enc t ++ r ∧ Q (.int ((i + (enc t).length : Nat) : Int)) H
theorem ok_end_of (T : Top K mg) : FnOk P w K mg base CX0 1 T.end_of.f T.end_of.fd ["term", "index"] spEnd := by
  refine T.end_of.F.ok sc_end_of (fun vs H Q E h => ?_) (fun cdv A outer s H vs Q E hr h => ?_)
  · obtain ⟨l, i, t, r, rfl, _⟩ := h
    rfl
  · obtain ⟨l, i, t, r, rfl, hl, ht, hd, k⟩ := h
    refine ⟨_, (pss_cons (ps_par (i := 2) (j := 3) (by rfl) sc_end_of.nd rfl rfl (by decide) rfl rfl (pa_cons pe_int (pa_cons (pv 1) pa_nil)) rfl) (pss_cons (ps_while PassesOwn.never (pt_cmpR op_kGt (pv 2) pe_int (nomark _)) (pss_cons (ps_aug (i := 2) sc_end_of.nd rfl (by first | exact Or.inl rfl | exact Or.inr rfl) (pe_ifExp (pt_cmpR (kk_eq (K := K) rfl hr) (pe_ix (kk_ix (K := K) rfl) (pv 0) (pv 3) (fun _ _ => rfl)) (pe_globS [42] (by decide) (by rfl) T.STAR) (nomark _)) pe_int (pe_un un_neg pe_int)) ip_kAug) (pss_one (ps_aug (i := 3) sc_end_of.nd rfl (by first | exact Or.inl rfl | exact Or.inr rfl) pe_int ip_kAug)))) (pss_one (ps_ret (pv 3))))), ?_⟩
    rw [st_end_of]
    walk_at "go"
    rw [g_while]
    refine ⟨fun m σ' H' => H' = H ∧ ∃ (ts : List Tm) (j : Nat), m = (encs ts).length ∧ (∀ t ∈ ts, ok t = true) ∧ l.drop j = encs ts ++ r ∧ i + (enc t).length = j + (encs ts).length ∧ σ' = [some (S l), some (.int (i : Nat)), some (.int ts.length), some (.int (j : Nat))],
      ⟨_, rfl, [t], i, rfl, by simpa using ht, by rw [hd]; simp [encs], by simp [encs], rfl⟩, ?_⟩
    rintro m σ' H' ⟨rfl, ts, j, rfl, hts, hj, hs, rfl⟩
    walk_at "go"
    walk_at "br"
    · intro h0
      match ts, hts, hj, hs, h0 with
      | .lf c :: ts, hts, hj, hs, h0 =>
        obtain ⟨d1, d2, d3⟩ := drop_at (c := c) (r := encs ts ++ r) hj
        have hc : c ≠ 42 := isL_ne (hts (.lf c) (List.mem_cons_self ..))
        walk_at "go"
        refine ⟨hl, c, atI_nat d1, ?_⟩
        walk_at "go"
        rw [decide_eq_false hc]
        walk_at "go"
        refine ⟨(encs ts).length, by simp [encs, enc], rfl, ts, j + 1, rfl, fun t ht => hts t (List.mem_cons_of_mem _ ht), d2, ?_, ?_⟩
        · rw [hs]
          simp [encs, enc]
          omega
        · rw [show ((ts.length + 1 : Nat) : Int) + -1 = (ts.length : Int) by omega]
          rfl
      | .nd a b :: ts, hts, hj, hs, h0 =>
        obtain ⟨d1, d2, d3⟩ := drop_at (c := 42) (r := encs (a :: b :: ts) ++ r) (by rw [hj]; simp [encs, enc])
        obtain ⟨ha, hb⟩ := ok_nd.mp (hts (.nd a b) (List.mem_cons_self ..))
        walk_at "go"
        refine ⟨hl, 42, atI_nat d1, ?_⟩
        walk_at "go"
        refine ⟨(encs (a :: b :: ts)).length, by simp [encs, enc], rfl, a :: b :: ts, j + 1, rfl, ?_, d2, ?_, ?_⟩
        · intro t ht
          rcases List.mem_cons.mp ht with e | ht
          · rw [e]; exact ha
          rcases List.mem_cons.mp ht with e | ht
          · rw [e]; exact hb
          exact hts t (List.mem_cons_of_mem _ ht)
        · rw [hs]
          simp [encs, enc]
          omega
        · rfl
    · intro h0
      have e : ts = [] := List.length_eq_zero_iff.mp (by omega)
      subst e
      walk_at "go"
      rw [hs] at k
      exact k
theorem spEnd_S {l : List Nat} {i : Nat} {H : Hp} {Q : VK} {E : XK} {t : T} {r : List Nat} (hl : l.length ≤ 1000000) (ht : ok t = true) (hd : l.drop i = enc t ++ r) (q : Q (.int ((i + (enc t).length : Nat) : Int)) H) : spEnd [S l, .int (i : Nat)] H Q E := ⟨l, i, t, r, rfl, hl, ht, hd, q⟩
def spPart : Sp := fun vs H Q _ => ∃ (l : List Nat) (i : Nat) (t : Tm) (r : List Nat), vs = [S l, .int (i : Nat)] ∧ l.length ≤ 1000000 ∧ ok t = true ∧ l.drop i = enc t ++ r ∧ Q (S (enc t)) H
theorem ok_part_in (T : Top K mg) : FnOk P w K mg base CX0 2 T.part_in.f T.part_in.fd ["term", "index"] spPart := by
  refine T.part_in.F.ok sc_part_in (fun vs H Q E h => ?_) (fun cdv A outer s H vs Q E hr h => ?_)
  · obtain ⟨l, i, t, r, rfl, _⟩ := h
    rfl
  · obtain ⟨l, i, t, r, rfl, hl, ht, hd, k⟩ := h
    refine ⟨_, (pss_one (ps_ret (pe_slice (kk_sl (K := K) rfl) (pv 0) (po_some (pv 1)) (po_some (callO (ok_end_of T) (hr.mono (by first | decide | omega)) (by rfl) (pa_cons (pv 0) (pa_cons (pv 1) pa_nil))))))), ?_⟩
    rw [st_part_in]
    walk_at "go"
    have hi := drop_in hd
    have hz := drop_len hd hi
    refine spEnd_S hl ht hd ⟨_, rfl, ?_⟩
    walk_at "go"
    refine ⟨hl, ?_⟩
    rw [cutL_both (by omega) (by omega), hd, Nat.add_sub_cancel_left, List.take_left']
    · exact k
    · rfl
def spPut : Sp := fun vs H Q _ => ∃ (l : List Nat) (i : Nat) (t : Tm) (r o : List Nat), vs = [S l, .int (i : Nat), S o] ∧ l.length + o.length ≤ 1000000 ∧ ok t = true ∧ l.drop i = enc t ++ r ∧ Q (S (l.take i ++ o ++ r)) H
theorem ok_put_in (T : Top K mg) : FnOk P w K mg base CX0 2 T.put_in.f T.put_in.fd ["term", "index", "other"] spPut := by
  refine T.put_in.F.ok sc_put_in (fun vs H Q E h => ?_) (fun cdv A outer s H vs Q E hr h => ?_)
  · obtain ⟨l, i, t, r, o, rfl, _⟩ := h
    rfl
  · obtain ⟨l, i, t, r, o, rfl, hl, ht, hd, k⟩ := h
    refine ⟨_, (pss_one (ps_ret (pe_op (kk_add (K := K) rfl) (pe_op (kk_add (K := K) rfl) (pe_slice (kk_sl (K := K) rfl) (pv 0) po_none (po_some (pv 1))) (pv 2)) (pe_slice (kk_sl (K := K) rfl) (pv 0) (po_some (callO (ok_end_of T) (hr.mono (by first | decide | omega)) (by rfl) (pa_cons (pv 0) (pa_cons (pv 1) pa_nil)))) po_none)))), ?_⟩
    rw [st_put_in]
    walk_at "go"
    have hi := drop_in hd
    have hz := drop_len hd hi
    rw [cutL_hi hi, List.length_append, List.length_take]
    refine ⟨by omega, by omega, spEnd_S (by omega) ht hd ⟨_, rfl, ?_⟩⟩
    rw [cutL_lo (by omega), ← List.drop_drop, hd, List.drop_left]
    refine ⟨by omega, by omega, ?_⟩
    exact k
end
end LW

end

section
set_option maxHeartbeats 4000000

namespace LW
open PySem PySem.Spec PyProof.Rows L2 KG KT
local macro_rules | `(tactic| walk_at "go") => `(tactic| try simp only [b_St, b_Sf, b_Et, b_Ef, b_At, b_Af, b_Ot, b_Of, b_AVt, b_AVf, b_OVt, b_OVf, b_Ct, b_Cf, g_seq, g_asg, g_name, g_ret, g_retN, g_next, g_brk, g_cont, g_drop, g_ifS, g_if, g_and, g_or, g_not, g_andV, g_orV, g_notV, g_chain, g_test, g_B, g_op, g_un, g_neg, g_var, g_c, g_nil, g_cons, g_CB, g_call, g_par, g_par3, g_aug, g_sl, g_part, g_nopart, g_tup, g_lst, g_gcons, g_gnil, g_BM, g_dnew, g_yes, g_never, g_tupK, g_listK, g_KCall, g_for1, g_tru, k_then, k_0, k_plain, k_if, k_yield, b_Gt, b_Gf, rx_K, kon_K, g_M1, g_dget2, g_isS, g_wipe0, g_wipe1, g_wipe2, g_wipe3, b_Lt, b_Lf,
  kAdd_i, kAdd_s, kMul_i, kMul_s, kInt_i, kInt0_i, kEq_i, kEq_s, kNe_i, kNe_s, kEq_b, kNe_b, kIn_s, kNotIn_s, kLen_s, kIx_s, kSl_s, kAug_i, kAbs_i, kMax_i, kMin_i, kIntOf_i, kIntOf_b, g_sub, isN_S, isN_i, isN_n, isN_r, notN_S, notN_i, notN_n, notN_r, isN_b, notN_b, tru_b, tru_i, tru_n, ex_bl, ex_int, ex_some, par_2, par_3, isi_S kit_ss, cx_K, cx_Kn, Bool.not_true, Bool.not_false,
  List.set_cons_zero, List.set_cons_succ, List.getElem?_cons_zero, List.getElem?_cons_succ, List.map_cons, List.map_nil, List.append_nil, List.length_cons, List.length_nil, Nat.zero_add, dec_one, true_and, decide_true, decide_false])
local macro_rules | `(tactic| walk_at "br") => `(tactic| first | refine br_W ?_ ?_ | refine br_G ?_ ?_ | refine br_L ?_ ?_ | refine br_Ln ?_ ?_ | refine br_Lm ?_ ?_ | refine br_Lb ?_ ?_ | refine br_S ?_ ?_ | refine br_E ?_ ?_ | refine br_A ?_ ?_ | refine br_O ?_ ?_ | refine br_AV ?_ ?_ | refine br_OV ?_ ?_ | refine br_C ?_ ?_ | refine br_Sn ?_ ?_ | refine br_En ?_ ?_ | refine br_An ?_ ?_ | refine br_On ?_ ?_ | refine br_AVn ?_ ?_ | refine br_OVn ?_ ?_ | refine br_Cn ?_ ?_ | refine br_Sm ?_ ?_ | refine br_Em ?_ ?_ | refine br_Am ?_ ?_ | refine br_Om ?_ ?_ | refine br_AVm ?_ ?_ | refine br_OVm ?_ ?_ | refine br_Cm ?_ ?_ | refine br_Sb ?_ ?_ | refine br_Eb ?_ ?_ | refine br_Ab ?_ ?_ | refine br_Ob ?_ ?_ | refine br_AVb ?_ ?_ | refine br_OVb ?_ ?_ | refine br_Cb ?_ ?_)

section
variable {P : Program} {w : World} {K : PySem.W.Frag} {mg : Str → Option Value} {base : Heap}
abbrev sl_substituted_in : List Str := ["term", "terms", "sign"]
theorem sc_substituted_in : FnScope sl_substituted_in ["term", "terms"] (defScope s_substituted_in) := ⟨rfl, rfl, rfl, by decide +kernel, rfl, by decide +kernel, by decide +kernel⟩
theorem st_substituted_in (v0 : V) (v1 : V) : L2.start sl_substituted_in [v0, v1] = [some v0, some v1, none] := rfl
abbrev sl_match_in : List Str := ["pattern", "term", "found", "at", "sign", "part"]
theorem sc_match_in : FnScope sl_match_in ["pattern", "term"] (defScope s_match_in) := ⟨rfl, rfl, rfl, by decide +kernel, rfl, by decide +kernel, by decide +kernel⟩
theorem st_match_in (v0 : V) (v1 : V) : L2.start sl_match_in [v0, v1] = [some v0, some v1, none, none, none, none] := rfl
theorem spPart_S {l : List Nat} {i : Nat} {H : Hp} {Q : VK} {E : XK} {t : Tm} {r : List Nat} (hl : l.length ≤ 1000000) (ht : ok t = true) (hd : l.drop i = enc t ++ r) (q : Q (S (enc t)) H) : spPart [S l, .int (i : Nat)] H Q E := ⟨l, i, t, r, rfl, hl, ht, hd, q⟩
/-! ### substituted_in -/
def subC (b : List (Nat × List Nat)) (l : List Nat) : List Nat := (l.map fun c => (b.lookup c).getD [c]).flatten
def spSub : Sp := fun vs H Q _ => ∃ (l : List Nat) (d : Addr) (b : List (Nat × List Nat)), vs = [S l, .ref d] ∧ H d = some (.dK (kvs b)) ∧ l.length ≤ 1000 ∧ (subC b l).length ≤ 1000000 ∧ Evl.RetV (S (subC b l)) H Q
theorem ok_substituted_in (T : Top K mg) : FnOk P w K mg base CX0 1 T.substituted_in.f T.substituted_in.fd ["term", "terms"] spSub := by
  refine T.substituted_in.F.ok sc_substituted_in (fun vs H Q E h => ?_) (fun cdv A outer s H vs Q E hr h => ?_)
  · obtain ⟨l, d, b, rfl, _⟩ := h
    rfl
  · obtain ⟨l, d, b, rfl, hd, hl, hz, k⟩ := h
    refine ⟨_, (pss_one (ps_ret (kk_join (K := K) rfl (pe_join (pe_S [] (by decide)) (pe_lc (own := [("sign", 2)]) (by rfl) sc_substituted_in.nd (kk_pi (K := K) rfl (pv 0)) (blkOk_by (own := [("sign", 2)]) (N := sl_substituted_in) (sc := defScope s_substituted_in) (by decide +kernel)) (fun _ _ _ _ _ => (pg_name (i := 2) sc_substituted_in.nd rfl (by first | exact Or.inl rfl | exact Or.inr rfl))) (fun _ _ _ _ _ => pts_nil) (fun _ _ _ _ _ => (pe_dget2 (hu_of hr) (pv 1) (pv 2) (pv 2) ⟨rfl, rfl, rfl, rfl⟩))))))), ?_⟩
    rw [st_substituted_in]
    walk_at "go"
    have hb : ∀ H', Evl.Ex H H' → H' d = some (.dK (kvs b)) := fun H' e => e _ _ hd
    refine lc_S (l := l) (is_var rfl) (fun D i H' => Evl.Ex H H' ∧ H' D = some (.lst ((l.take i).map fun c => S ((b.lookup c).getD [c])))) (fun D hD => ⟨Evl.Ex.new hD, by rw [upd_same]; rfl⟩) ?_ ?_
    · rintro D i c H' hD hi ⟨ex, eD⟩
      walk_at "go"
      refine ⟨d, rfl, .inl ⟨_, .inl (hb H' ex)⟩, (valV (kvs b) (ks c)), (show DGet H' d (S [c]) _ from DGet.k (k := ks c) (hb H' ex)), _, eD, ?_, Evl.Ex.mut ex hD, ?_⟩
      · rw [List.length_map, List.length_take]
        have := line_ge
        omega
      · rw [upd_same, valV_kvs, List.take_add_one, hi]
        cases e : b.lookup c <;> simp [e]
    · rintro D H' hD ⟨ex, eD⟩
      rw [List.take_length] at eD
      refine join_run (a := []) (ls := l.map fun c => (b.lookup c).getD [c]) (.inl (SqL.of ?_)) ?_ ?_
      · rw [List.map_map]
        exact eD
      · have e : ((l.map fun c => (b.lookup c).getD [c]).map (·.length)).sum = (subC b l).length := by
          unfold subC
          rw [List.length_flatten]
        rw [e]
        simp
        exact hz
      · rw [joinL_nil]
        exact k H' ex
/-! ### match_in -/
def matchC : List Nat → List (Nat × Tm) → List Tm → Option (List (Nat × Tm))
  | [], b, _ => some b
  | _ :: _, _, [] => none
  | c :: p, b, t :: ts => if c = 42 then (match t with
      | .nd x y => matchC p b (x :: y :: ts)
      | .lf _ => none)
    else match b.lookup c with
      | none => matchC p (b ++ [(c, t)]) ts
      | some u => if u = t then matchC p b ts else none
theorem matchC_var {c : Nat} (hc : c ≠ 42) {p : List Nat} {b : List (Nat × Tm)} {t : Tm} {ts : List Tm} : matchC (c :: p) b (t :: ts) = match b.lookup c with
      | none => matchC p (b ++ [(c, t)]) ts
      | some u => if u = t then matchC p b ts else none := if_neg hc
theorem lookup_mem {c : Nat} {v : Tm} : ∀ {b : List (Nat × Tm)}, b.lookup c = some v → (c, v) ∈ b
  | [], h => by cases h
  | (d, x) :: r, h => by
    cases e : c == d
    · rw [List.lookup, e] at h
      exact List.mem_cons_of_mem _ (lookup_mem h)
    · rw [List.lookup, e] at h
      cases h
      have : c = d := by simpa using e
      subst this
      exact List.mem_cons_self ..
theorem lookup_encB (c : Nat) : ∀ b : List (Nat × Tm), (b.map fun p => (p.1, enc p.2)).lookup c = (b.lookup c).map enc
  | [] => rfl
  | (d, x) :: r => by
    have ih := lookup_encB c r
    cases h : c == d <;> simp [List.lookup, h, ih]
def encB (b : List (Nat × Tm)) : List (Nat × List Nat) := b.map fun p => (p.1, enc p.2)
def spMatch : Sp := fun vs H Q _ => ∃ (p : List Nat) (t : Tm), vs = [S p, S (enc t)] ∧ ok t = true ∧ p.length ≤ 1000 ∧ (enc t).length ≤ 1000000 ∧
  (matchC p [] [t] = none → Evl.RetV .non H Q) ∧ ∀ b, matchC p [] [t] = some b → ∀ d H2, H d = none → Evl.Ex H H2 → H2 d = some (.dK (kvs (encB b))) → Q (.ref d) H2
theorem ok_match_in (T : Top K mg) : FnOk P w K mg base CX0 3 T.match_in.f T.match_in.fd ["pattern", "term"] spMatch := by
  refine T.match_in.F.ok sc_match_in (fun vs H Q E h => ?_) (fun cdv A outer s H vs Q E hr h => ?_)
  · obtain ⟨p, t, rfl, _⟩ := h
    rfl
  · obtain ⟨p, t, rfl, ht, hp, hl, k1, k2⟩ := h
    refine ⟨_, (pss_cons (ps_par (i := 2) (j := 3) (by rfl) sc_match_in.nd rfl rfl (by decide) rfl rfl (pa_cons pe_dnewK (pa_cons pe_int pa_nil)) rfl) (pss_cons (ps_for PassesOwn.never (by rfl) (kk_pi (K := K) rfl (pv 0)) (pg_name (i := 4) sc_match_in.nd rfl (by first | exact Or.inl rfl | exact Or.inr rfl)) (pss_cons (ps_if (pt_cmpR op_kGe (pv 3) (pe_callB (kk_len (K := K) rfl) (by rfl) T.len (by decide +kernel) (pa_cons (pv 1) pa_nil)) (nomark _)) (pss_one (ps_ret pe_non)) pss_nil) (pss_one (ps_if (pt_cmpR (kk_eq (K := K) rfl hr) (pv 4) (pe_globS [42] (by decide) (by rfl) T.STAR) (nomark _)) (pss_cons (ps_if (pt_cmpR (kk_ne (K := K) rfl hr) (pe_ix (kk_ix (K := K) rfl) (pv 1) (pv 3) (fun _ _ => rfl)) (pe_globS [42] (by decide) (by rfl) T.STAR) (nomark _)) (pss_one (ps_ret pe_non)) pss_nil) (pss_one (ps_aug (i := 3) sc_match_in.nd rfl (by first | exact Or.inl rfl | exact Or.inr rfl) pe_int ip_kAug))) (pss_cons (ps_set (i := 5) sc_match_in.nd rfl (by first | exact Or.inl rfl | exact Or.inr rfl) (callO (ok_part_in T) (hr.mono (by first | decide | omega)) (by rfl) (pa_cons (pv 1) (pa_cons (pv 3) pa_nil)))) (pss_cons (ps_if (pt_cmpR (kk_ne (K := K) rfl hr) (kk_bm (K := K) rfl (pe_bm PySem.F.plainAttrs_dict PySem.F.slot_dict_setdefault PySem.F.type_dict_setdefault mt_setdefault (pv 2) (pa_cons (pv 4) (pa_cons (pv 5) pa_nil)))) (pv 5) (nomark _)) (pss_one (ps_ret pe_non)) pss_nil) (pss_one (ps_aug (i := 3) sc_match_in.nd rfl (by first | exact Or.inl rfl | exact Or.inr rfl) (pe_callB (kk_len (K := K) rfl) (by rfl) T.len (by decide +kernel) (pa_cons (pv 5) pa_nil)) ip_kAug)))))))) (pss_one (ps_ret (pv 2))))), ?_⟩
    rw [st_match_in]
    walk_at "go"
    intro d hd
    refine loop_S (l := p) (is_var rfl) (fun i σ' H' => ∃ (b : List (Nat × Tm)) (ts : List Tm) (j : Nat) (o1 o2 : Option V), σ' = [some (S p), some (S (enc t)), some (.ref d), some (.int (j : Nat)), o1, o2] ∧
      H' d = some (.dK (kvs (encB b))) ∧ Evl.Ex H H' ∧ (enc t).drop j = encs ts ∧ j ≤ (enc t).length ∧ (∀ t ∈ ts, ok t = true) ∧ matchC p [] [t] = matchC (p.drop i) b ts ∧ b.length ≤ i ∧ ∀ q ∈ b, ok q.2 = true)
      ⟨[], [t], 0, none, none, rfl, upd_same, Evl.Ex.new hd, by simp [encs], Nat.zero_le _, by simpa using ht, rfl, Nat.le_refl _, fun q h => by cases h⟩ ?_ ?_
    · rintro i c σ' H' hi ⟨b, ts, j, o1, o2, rfl, eD, ex, hj, hjl, hts, hm, hbl, hbo⟩
      have hi2 := (List.getElem?_eq_some_iff.mp hi).1
      have hdr : p.drop i = c :: p.drop (i + 1) := by
        obtain ⟨hlt, e⟩ := List.getElem?_eq_some_iff.mp hi
        rw [← e, List.drop_eq_getElem_cons hlt]
      rw [hdr] at hm
      walk_at "go"
      refine ⟨hl, ?_⟩
      match ts, hj, hts, hm with
      | [], hj, hts, hm =>
        have hz : (enc t).length ≤ j := by
          have h1 := congrArg List.length hj
          rw [List.length_drop, encs_nil, List.length_nil] at h1
          omega
        rw [decide_eq_true (show ((enc t).length : Int) ≤ (j : Int) by omega)]
        walk_at "go"
        exact k1 hm H' ex
      | u :: ts, hj, hts, hm =>
        have hu := hts u (List.mem_cons_self ..)
        have hts' : ∀ t ∈ ts, ok t = true := fun t h => hts t (List.mem_cons_of_mem _ h)
        have hz := drop_len (e := encs (u :: ts)) (r := []) (by rw [List.append_nil]; exact hj) hjl
        have hzu : (encs (u :: ts)).length = (enc u).length + (encs ts).length := by simp [encs]
        have hpu := enc_len u
        have hpo := sz_pos u
        rw [decide_eq_false (show ¬ ((enc t).length : Int) ≤ (j : Int) by omega)]
        walk_at "go"
        walk_at "br"
        · rintro rfl
          walk_at "go"
          match u, hj, hu, hm, hz, hzu, hpu with
          | .lf c, hj, hu, hm, hz, hzu, hpu =>
            obtain ⟨d1, d2, d3⟩ := drop_at (c := c) (r := encs ts) hj
            refine ⟨hl, c, atI_nat d1, ?_⟩
            walk_at "go"
            rw [decide_eq_false (isL_ne hu)]
            walk_at "go"
            exact k1 hm H' ex
          | .nd x y, hj, hu, hm, hz, hzu, hpu =>
            obtain ⟨d1, d2, d3⟩ := drop_at (c := 42) (r := encs (x :: y :: ts)) (by rw [hj]; simp [encs, enc])
            obtain ⟨hx, hy⟩ := ok_nd.mp hu
            refine ⟨hl, 42, atI_nat d1, ?_⟩
            walk_at "go"
            refine ⟨b, x :: y :: ts, j + 1, _, _, rfl, eD, ex, d2, d3, ?_, hm, by omega, hbo⟩
            intro t ht
            rcases List.mem_cons.mp ht with e | ht
            · rw [e]; exact hx
            rcases List.mem_cons.mp ht with e | ht
            · rw [e]; exact hy
            exact hts' t ht
        · intro hc
          walk_at "go"
          have hm' : matchC p [] [t] = match b.lookup c with
            | none => matchC (p.drop (i + 1)) (b ++ [(c, u)]) ts
            | some v => if v = u then matchC (p.drop (i + 1)) b ts else none := by
            rw [hm, matchC_var hc]
          have hn : (enc t).drop (j + (enc u).length) = encs ts := by
            rw [← List.drop_drop, hj]
            exact List.drop_left
          refine spPart_S hl hu (r := encs ts) hj ?_
          walk_at "go"
          refine ⟨tyDk eD, d, kvs (encB b), ks c, S (enc u), rfl, rfl, eD, ?_, ?_, ?_⟩
          · rw [kvs_len]
            have := line_ge
            simp [encB]
            omega
          · intro v hv
            rw [valV_kvs, show (encB b).lookup c = (b.lookup c).map enc from lookup_encB c b] at hv
            cases e : b.lookup c with
            | none => rw [e] at hv; cases hv
            | some v0 =>
              rw [e] at hv hm'
              cases hv
              have hm2 : matchC p [] [t] = if v0 = u then matchC (p.drop (i + 1)) b ts else none := hm'
              walk_at "go"
              walk_at "br"
              · intro hne
                have e0 : v0 = u := enc_inj' (hbo _ (lookup_mem e)) hu hne
                subst e0
                rw [if_pos rfl] at hm2
                walk_at "go"
                exact ⟨by omega, b, ts, j + (enc v0).length, _, _, rfl, eD, ex, hn, by omega, hts', hm2, by omega, hbo⟩
              · intro hne
                have e0 : ¬ v0 = u := fun z => hne (by rw [z])
                rw [if_neg e0] at hm2
                walk_at "go"
                exact k1 hm2 H' ex
          · intro hv
            rw [valV_kvs, show (encB b).lookup c = (b.lookup c).map enc from lookup_encB c b] at hv
            cases e : b.lookup c with
            | some v0 => rw [e] at hv; cases hv
            | none =>
              rw [e] at hm'
              have hm2 : matchC p [] [t] = matchC (p.drop (i + 1)) (b ++ [(c, u)]) ts := hm'
              have e2 : (encB b).lookup c = none := by
                rw [show (encB b).lookup c = (b.lookup c).map enc from lookup_encB c b, e] <;> rfl
              walk_at "go"
              refine ⟨by omega, b ++ [(c, u)], ts, j + (enc u).length, _, _, rfl, ?_, Evl.Ex.mut ex hd, hn, by omega, hts', hm2, by simp; omega, ?_⟩
              · rw [upd_same, putK_kvs e2]
                simp [encB]
              · intro q hq
                rcases List.mem_append.mp hq with hq | hq
                · exact hbo q hq
                · cases List.mem_singleton.mp hq
                  exact hu
    · rintro σ' H' ⟨b, ts, j, o1, o2, rfl, eD, ex, hj, hjl, hts, hm, hbl, hbo⟩
      walk_at "go"
      rw [List.drop_length] at hm
      exact k2 b hm d H' hd ex eD
end
end LW

end

section
set_option maxHeartbeats 4000000

namespace LW
open PySem PySem.Spec PyProof.Rows L2 KG KT
local macro_rules | `(tactic| walk_at "go") => `(tactic| try simp only [b_St, b_Sf, b_Et, b_Ef, b_At, b_Af, b_Ot, b_Of, b_AVt, b_AVf, b_OVt, b_OVf, b_Ct, b_Cf, g_seq, g_asg, g_name, g_ret, g_retN, g_next, g_brk, g_cont, g_drop, g_ifS, g_if, g_and, g_or, g_not, g_andV, g_orV, g_notV, g_chain, g_test, g_B, g_op, g_un, g_neg, g_var, g_c, g_nil, g_cons, g_CB, g_call, g_par, g_par3, g_aug, g_sl, g_part, g_nopart, g_tup, g_lst, g_gcons, g_gnil, g_BM, g_dnew, g_yes, g_never, g_tupK, g_listK, g_KCall, g_for1, g_tru, k_then, k_0, k_plain, k_if, k_yield, b_Gt, b_Gf, rx_K, kon_K, g_M1, g_dget2, g_isS, g_wipe0, g_wipe1, g_wipe2, g_wipe3, b_Lt, b_Lf,
  kAdd_i, kAdd_s, kMul_i, kMul_s, kInt_i, kInt0_i, kEq_i, kEq_s, kNe_i, kNe_s, kEq_b, kNe_b, kIn_s, kNotIn_s, kLen_s, kIx_s, kSl_s, kAug_i, kAbs_i, kMax_i, kMin_i, kIntOf_i, kIntOf_b, g_sub, isN_S, isN_i, isN_n, isN_r, notN_S, notN_i, notN_n, notN_r, isN_b, notN_b, tru_b, tru_i, tru_n, ex_bl, ex_int, ex_some, par_2, par_3, isi_S kit_ss, cx_K, cx_Kn, Bool.not_true, Bool.not_false,
  List.set_cons_zero, List.set_cons_succ, List.getElem?_cons_zero, List.getElem?_cons_succ, List.map_cons, List.map_nil, List.append_nil, List.length_cons, List.length_nil, Nat.zero_add, dec_one, true_and, decide_true, decide_false])
local macro_rules | `(tactic| walk_at "br") => `(tactic| first | refine br_W ?_ ?_ | refine br_G ?_ ?_ | refine br_L ?_ ?_ | refine br_Ln ?_ ?_ | refine br_Lm ?_ ?_ | refine br_Lb ?_ ?_ | refine br_S ?_ ?_ | refine br_E ?_ ?_ | refine br_A ?_ ?_ | refine br_O ?_ ?_ | refine br_AV ?_ ?_ | refine br_OV ?_ ?_ | refine br_C ?_ ?_ | refine br_Sn ?_ ?_ | refine br_En ?_ ?_ | refine br_An ?_ ?_ | refine br_On ?_ ?_ | refine br_AVn ?_ ?_ | refine br_OVn ?_ ?_ | refine br_Cn ?_ ?_ | refine br_Sm ?_ ?_ | refine br_Em ?_ ?_ | refine br_Am ?_ ?_ | refine br_Om ?_ ?_ | refine br_AVm ?_ ?_ | refine br_OVm ?_ ?_ | refine br_Cm ?_ ?_ | refine br_Sb ?_ ?_ | refine br_Eb ?_ ?_ | refine br_Ab ?_ ?_ | refine br_Ob ?_ ?_ | refine br_AVb ?_ ?_ | refine br_OVb ?_ ?_ | refine br_Cb ?_ ?_)

/-! ### the three rules, by texts -/
def outC (p r : List Nat) (n : Nat) (t : Tm) : List (Nat × List Nat) := match matchC p [] [t] with
  | none => []
  | some b => [(n, subC (encB b) r)]
theorem out1 (t : Tm) : outC [42, 42, 120, 121, 42, 121, 122] [121] 1 t = (red1 t).map fun q => (q.1, enc q.2) := by
  match t with
  | .lf c => rfl
  | .nd (.lf c) b => rfl
  | .nd (.nd x y) (.lf c) => rfl
  | .nd (.nd x y) (.nd y' z) =>
    by_cases h : y = y'
    · subst h
      simp [outC, matchC, red1, List.lookup, subC, encB]
    · simp [outC, matchC, red1, List.lookup, subC, encB, h]
theorem out2 (t : Tm) : outC [42, 120, 42, 42, 120, 121, 122] [42, 120, 121] 2 t = (red2 t).map fun q => (q.1, enc q.2) := by
  match t with
  | .lf c => rfl
  | .nd x (.lf c) => rfl
  | .nd x (.nd (.lf c) z) => rfl
  | .nd x (.nd (.nd x' y) z) =>
    by_cases h : x' = x
    · subst h
      simp [outC, matchC, red2, List.lookup, subC, encB, enc]
    · have h2 : ¬ x = x' := fun e => h e.symm
      simp [outC, matchC, red2, List.lookup, subC, encB, h, h2]
theorem out3 (t : Tm) : outC [42, 42, 120, 42, 121, 122, 122] [42, 121, 122] 3 t = (red3 t).map fun q => (q.1, enc q.2) := by
  match t with
  | .lf c => rfl
  | .nd (.lf c) z => rfl
  | .nd (.nd x (.lf c)) z => rfl
  | .nd (.nd x (.nd y z')) z =>
    by_cases h : z' = z
    · subst h
      simp [outC, matchC, red3, List.lookup, subC, encB, enc]
    · simp [outC, matchC, red3, List.lookup, subC, encB, h]
theorem red_len (t : Tm) : (red t).length ≤ 3 := by
  have h1 : (red1 t).length ≤ 1 := by
    unfold red1
    split
    · split <;> simp
    · simp
  have h2 : (red2 t).length ≤ 1 := by
    unfold red2
    split
    · split <;> simp
    · simp
  have h3 : (red3 t).length ≤ 1 := by
    unfold red3
    split
    · split <;> simp
    · simp
  unfold red
  rw [List.length_append, List.length_append]
  omega
theorem stepsFrom_len : ∀ (ps : List (Tm × (Tm → Tm))) (i : Nat), (stepsFrom i ps).length ≤ 3 * ps.length
  | [], _ => by simp [stepsFrom]
  | p :: ps, i => by
    have h1 := stepsFrom_len ps (i + 1)
    have h2 := red_len p.1
    simp only [stepsFrom, stepsAt, List.length_append, List.length_map, List.length_cons]
    omega
theorem steps_len (t : Tm) : (steps t).length ≤ 3 * (enc t).length := by
  have h := stepsFrom_len (subs t) 0
  rw [subs_len] at h
  exact h
/-- a step as it is told -/
def tellS (s : Nat × Nat × Tm) (H : Hp) (v : V) : Prop := ∃ a, v = .ref a ∧ H a = some (.tup [.int (s.1 : Nat), .int (s.2.1 : Nat), S (enc s.2.2)])
abbrev Told (H : Hp) (ys : List V) (ss : List (Nat × Nat × Tm)) : Prop := Paired (fun v s => tellS s H v) ys ss
theorem tellS.mono {s : Nat × Nat × Tm} {H H' : Hp} {v : V} (e : Evl.Ex H H') : tellS s H v → tellS s H' v
  | ⟨a, h1, h2⟩ => ⟨a, h1, e _ _ h2⟩
theorem Told.mono {H H' : Hp} (e : Evl.Ex H H') : ∀ {ys : List V} {ss : List (Nat × Nat × Tm)}, Told H ys ss → Told H' ys ss
  | _, _, .nil => .nil
  | _, _, .cons h t => .cons (h.mono e) (Told.mono e t)
theorem Told.snoc {H : Hp} {x : V} {s : Nat × Nat × Tm} (h : tellS s H x) : ∀ {ys : List V} {ss : List (Nat × Nat × Tm)}, Told H ys ss → Told H (ys ++ [x]) (ss ++ [s])
  | _, _, .nil => .cons h .nil
  | _, _, .cons h' t => .cons h' (Told.snoc h t)
/-- the rules' outcomes from the n-th one on -/
def redFrom (n : Nat) (s : Tm) : List (Nat × Tm) := match n with
  | 0 => red1 s ++ (red2 s ++ red3 s)
  | 1 => red2 s ++ red3 s
  | 2 => red3 s
  | _ => []
def ruleP (n : Nat) : List Nat := match n with
  | 0 => [42, 42, 120, 121, 42, 121, 122]
  | 1 => [42, 120, 42, 42, 120, 121, 122]
  | _ => [42, 42, 120, 42, 121, 122, 122]
def ruleR (n : Nat) : List Nat := match n with
  | 0 => [121]
  | 1 => [42, 120, 121]
  | _ => [42, 121, 122]
theorem redFrom_step {n : Nat} (h : n < 3) (s : Tm) : (matchC (ruleP n) [] [s] = none ∧ redFrom n s = redFrom (n + 1) s) ∨
    ∃ b u, matchC (ruleP n) [] [s] = some b ∧ redFrom n s = (n + 1, u) :: redFrom (n + 1) s ∧ enc u = subC (encB b) (ruleR n) := by
  have key : ∀ (p r : List Nat) (k : Nat) (l : List (Nat × Tm)), outC p r k s = l.map (fun q => (q.1, enc q.2)) → (matchC p [] [s] = none ∧ l = []) ∨ ∃ b u, matchC p [] [s] = some b ∧ l = [(k, u)] ∧ enc u = subC (encB b) r := by
    intro p r k l e
    unfold outC at e
    cases m : matchC p [] [s] with
    | none =>
      rw [m] at e
      exact .inl ⟨rfl, List.map_eq_nil_iff.mp e.symm⟩
    | some b =>
      rw [m] at e
      match l, e with
      | [(k', u)], e =>
        simp only [List.map_cons, List.map_nil, List.cons.injEq, Prod.mk.injEq, and_true] at e
        exact .inr ⟨b, u, rfl, by rw [e.1], e.2.symm⟩
      | [], e => simp at e
      | _ :: _ :: _, e => simp at e
  match n, h with
  | 0, _ =>
    rcases key _ _ _ _ (out1 s) with ⟨h1, h2⟩ | ⟨b, u, h1, h2, h3⟩
    · exact .inl ⟨h1, by show red1 s ++ _ = _; rw [h2]; rfl⟩
    · exact .inr ⟨b, u, h1, by show red1 s ++ _ = _; rw [h2]; rfl, h3⟩
  | 1, _ =>
    rcases key _ _ _ _ (out2 s) with ⟨h1, h2⟩ | ⟨b, u, h1, h2, h3⟩
    · exact .inl ⟨h1, by show red2 s ++ _ = _; rw [h2]; rfl⟩
    · exact .inr ⟨b, u, h1, by show red2 s ++ _ = _; rw [h2]; rfl, h3⟩
  | 2, _ =>
    rcases key _ _ _ _ (out3 s) with ⟨h1, h2⟩ | ⟨b, u, h1, h2, h3⟩
    · exact .inl ⟨h1, by show red3 s = _; rw [h2]; rfl⟩
    · exact .inr ⟨b, u, h1, by show red3 s = _; rw [h2]; rfl, h3⟩
theorem redFrom_lf (n c : Nat) : redFrom n (.lf c) = [] := by
  unfold redFrom
  split <;> rfl
theorem redFrom_sub {n r : Nat} {s u : Tm} (h : (r, u) ∈ redFrom n s) : (r, u) ∈ red s := by
  unfold redFrom at h
  unfold red
  split at h
  · exact h
  · exact List.mem_append_right _ h
  · exact List.mem_append_right _ (List.mem_append_right _ h)
  · cases h
theorem head_of {s : Tm} {l r : List Nat} {i c : Nat} (hs : ok s = true) (h : l.drop i = enc s ++ r) (hc : l[i]? = some c) : (c = 42 ∧ ∃ a b, s = .nd a b) ∨ (c ≠ 42 ∧ s = .lf c) := by
  match s, hs, h with
  | .lf d, hs, h =>
    obtain ⟨d1, _, _⟩ := drop_at (c := d) (r := r) h
    rw [hc] at d1
    cases d1
    exact .inr ⟨isL_ne hs, rfl⟩
  | .nd a b, hs, h =>
    obtain ⟨d1, _, _⟩ := drop_at (c := 42) (r := enc a ++ enc b ++ r) (by rw [h]; simp [enc])
    rw [hc] at d1
    cases d1
    exact .inl ⟨rfl, a, b, rfl⟩
section
variable {P : Program} {w : World} {K : PySem.W.Frag} {mg : Str → Option Value} {base : Heap}
abbrev sl_each_step : List Str := ["term", "index", "sign", "part", "number", "left", "right", "found"]
theorem sc_each_step : GScope sl_each_step ["term"] (defScope s_each_step) := ⟨rfl, rfl, rfl, by decide +kernel, rfl, by decide +kernel, by decide +kernel⟩
theorem st_each_step (v0 : V) : L2.start sl_each_step [v0] = [some v0, none, none, none, none, none, none, none] := rfl
def spEach : SpK := fun vs Hs yl Q _ => ∃ t : Tm, vs = [S (enc t)] ∧ ok t = true ∧ (enc t).length ≤ 100000 ∧
  (∀ ys x H' s, (steps t)[ys.length]? = some s → Told H' ys ((steps t).take ys.length) → tellS s H' x → yl ys x H') ∧ ∀ ys H', Told H' ys (steps t) → Q ys H'
theorem gen_each_step (T : Top K mg) : KFn P w K mg base 5 T.each_step.f T.each_step.fd ["term"] spEach := by
  refine gen_ok T.each_step.F sc_each_step (fun vs H yl Q E h => ?_) (fun cdv A outer sc Hs vs yl Q E a go Ss Gh hr rg h => ?_)
  · obtain ⟨t, rfl, _⟩ := h
    rfl
  · obtain ⟨t, rfl, ht, hl, hy, hq⟩ := h
    refine ⟨_, (kss_one (ks_for (fun _ => PassesOwn.leaving) (fun _ => (pi_enumS (by rfl) T.enumerate (pa_cons (pv 0) pa_nil))) (fun _ => (kk_gtup (K := K) rfl (pg_tup (n := 2) (by rfl) (pgs_cons (pg_name (i := 1) sc_each_step.nd rfl (by first | exact Or.inl rfl | exact Or.inr rfl)) (pgs_cons (pg_name (i := 2) sc_each_step.nd rfl (by first | exact Or.inl rfl | exact Or.inr rfl)) pgs_nil))))) (kss_cons (ks_ps (fun _ => (ps_set (i := 3) sc_each_step.nd rfl (by first | exact Or.inl rfl | exact Or.inr rfl) (pe_ifExp (pt_cmpR (kk_eq (K := K) rfl hr) (pv 2) (pe_globS [42] (by decide) (by rfl) T.STAR) (nomark _)) (callO (ok_part_in T) (hr.mono (by first | decide | omega)) (by rfl) (pa_cons (pv 0) (pa_cons (pv 1) pa_nil))) (pe_S [] (by decide)))))) (kss_one (ks_for (fun _ => PassesOwn.leaving) (fun _ => (kk_piT (K := K) rfl (pi_enumT (by rfl) T.enumerate (pa_cons (pe_globR (by rfl) T.RULES) pa_nil)))) (fun _ => (kk_gtup (K := K) rfl (pg_tup (n := 2) (by rfl) (pgs_cons (pg_name (i := 4) sc_each_step.nd rfl (by first | exact Or.inl rfl | exact Or.inr rfl)) (pgs_cons (kk_gtup (K := K) rfl (pg_tup (n := 2) (by rfl) (pgs_cons (pg_name (i := 5) sc_each_step.nd rfl (by first | exact Or.inl rfl | exact Or.inr rfl)) (pgs_cons (pg_name (i := 6) sc_each_step.nd rfl (by first | exact Or.inl rfl | exact Or.inr rfl)) pgs_nil)))) pgs_nil))))) (kss_cons (ks_ps (fun _ => (ps_set (i := 7) sc_each_step.nd rfl (by first | exact Or.inl rfl | exact Or.inr rfl) (pe_ifExp (pt_cmpR (kk_ne (K := K) rfl hr) (pv 3) (pe_S [] (by decide)) (nomark _)) (callO (ok_match_in T) (hr.mono (by first | decide | omega)) (by rfl) (pa_cons (pv 5) (pa_cons (pv 3) pa_nil))) pe_non)))) (kss_one (ks_if (fun _ => (pt_cmpR op_kNotN (pv 7) pe_non (nomark _))) (kss_one (ks_yield rg (fun _ => (pe_tup (pa_cons (pv 1) (pa_cons (pe_op (kk_add (K := K) rfl) (pv 4) pe_int) (pa_cons (callO (ok_put_in T) (hr.mono (by first | decide | omega)) (by rfl) (pa_cons (pv 0) (pa_cons (pv 1) (pa_cons (callO (ok_substituted_in T) (hr.mono (by first | decide | omega)) (by rfl) (pa_cons (pv 6) (pa_cons (pv 7) pa_nil))) pa_nil)))) pa_nil))))))) kss_nil)))))))), ?_⟩
    rw [st_each_step]
    walk_at "go"
    refine kloop_eS (l := enc t) (fun Q q => ⟨_, rfl, q⟩) (fun i ys σ H' => ∃ (o1 o2 o3 o4 o5 o6 o7 : Option V) (dn : List (Nat × Nat × Tm)), σ = [some (S (enc t)), o1, o2, o3, o4, o5, o6, o7] ∧ Told H' ys dn ∧ steps t = dn ++ stepsFrom i ((subs t).drop i))
      ⟨none, none, none, none, none, none, none, [], rfl, .nil, rfl⟩ ?_ ?_
    · rintro i c ys σ H1 A1 hc hA1 ⟨o1, o2, o3, o4, o5, o6, o7, dn, rfl, told, hst⟩
      have ex1 : Evl.Ex H1 (upd H1 A1 (.tup [.int (i : Nat), S [c]])) := Evl.Ex.new hA1
      refine g_unpack (SqT.of upd_same) rfl ?_
      walk_at "go"
      have hi := (List.getElem?_eq_some_iff.mp hc).1
      obtain ⟨s, f, hsf⟩ := subs_some t hi
      obtain ⟨f1, f2, f3, f4, f5⟩ := subs_at t i s f hsf
      obtain ⟨os, of⟩ := f4 ht
      have hdrop : (subs t).drop i = (s, f) :: (subs t).drop (i + 1) := by
        obtain ⟨hlt, e⟩ := List.getElem?_eq_some_iff.mp hsf
        rw [← e, List.drop_eq_getElem_cons hlt]
      have hst2 : steps t = dn ++ ((redFrom 0 s).map (fun q => (i, q.1, f q.2)) ++ stepsFrom (i + 1) ((subs t).drop (i + 1))) := by
        rw [hst, hdrop]
        rfl
      have told1 := told.mono ex1
      generalize hG : upd H1 A1 (HO.tup [V.int (i : Nat), S [c]]) = G1 at told1 ⊢
      -- the three rules at this part, its text pt
      have inner : ∀ pt : List Nat, (pt = enc s ∨ (pt = [] ∧ ∃ d, s = .lf d)) → (pt = [] → ∃ d, s = .lf d) →
        tGThen (tGFor (iEnumT K (tCons (tC (V.ref T.RULESa)) tNil)) (gTup K 2 (gCons (gName 4) (gCons (gTup K 2 (gCons (gName 5) (gCons (gName 6) gNil))) gNil)))
          (tGThen (tPlain (tAsg (tIf (tTest (tOp (kNe K) (tVar 3) (tC (S [])))) (tCall spMatch [] E0 (tCons (tVar 5) (tCons (tVar 3) tNil))) (tC V.non)) (gName 7)))
            (tGThen (tGIf (tTest (tOp kNotN (tVar 7) (tC V.non)))
                (tGThen (tKYield yl (tTup (tCons (tVar 1) (tCons (tOp (kAdd K) (tVar 4) (tC (V.int 1))) (tCons (tCall spPut [] E0 (tCons (tVar 0) (tCons (tVar 1) (tCons (tCall spSub [] E0 (tCons (tVar 6) (tCons (tVar 7) tNil))) tNil)))) tNil))))) tG0) tG0) tG0))) tG0
          { nx := fun ys σ H' => ∃ (o1 o2 o3 o4 o5 o6 o7 : Option V) (dn : List (Nat × Nat × Tm)), σ = [some (S (enc t)), o1, o2, o3, o4, o5, o6, o7] ∧ Told H' ys dn ∧ steps t = dn ++ stepsFrom (i + 1) ((subs t).drop (i + 1)),
            rt := fun ys v H' => v = V.non ∧ Q ys H', bk := fun ys x H' => Q ys H', ct := fun ys σ H' => ∃ (o1 o2 o3 o4 o5 o6 o7 : Option V) (dn : List (Nat × Nat × Tm)), σ = [some (S (enc t)), o1, o2, o3, o4, o5, o6, o7] ∧ Told H' ys dn ∧ steps t = dn ++ stepsFrom (i + 1) ((subs t).drop (i + 1)) } ys
          [some (S (enc t)), some (V.int (i : Nat)), some (S [c]), some (S pt), o4, o5, o6, o7] G1 := by
        intro pt hpt hpt2
        walk_at "go"
        refine kloop_eT (a := T.RULESa) (xs := [.ref T.r1, .ref T.r2, .ref T.r3]) (fun Q q => q) (fun n ys σ H' => ∃ (p4 p5 p6 p7 : Option V) (dn : List (Nat × Nat × Tm)), σ = [some (S (enc t)), some (V.int (i : Nat)), some (S [c]), some (S pt), p4, p5, p6, p7] ∧ Told H' ys dn ∧
            steps t = dn ++ ((redFrom n s).map (fun q => (i, q.1, f q.2)) ++ stepsFrom (i + 1) ((subs t).drop (i + 1)))) ⟨o4, o5, o6, o7, dn, rfl, told1, hst2⟩ (fun _ _ _ _ _ => T.t0.sq) ?_ ?_
        · rintro n x ys2 σ2 H2 A2 hx hA2 ⟨p4, p5, p6, p7, dn2, rfl, told2, hst3⟩
          obtain ⟨hn, r, rfl, hr2⟩ : n < 3 ∧ ∃ r, x = .ref r ∧ KTup K r [S (ruleP n), S (ruleR n)] := by
            match n, hx with
            | 0, hx => cases hx; exact ⟨by omega, _, rfl, T.t1⟩
            | 1, hx => cases hx; exact ⟨by omega, _, rfl, T.t2⟩
            | 2, hx => cases hx; exact ⟨by omega, _, rfl, T.t3⟩
            | n + 3, hx => simp at hx
          have told3 := told2.mono (Evl.Ex.new (o := .tup [.int (n : Nat), .ref r]) hA2)
          refine g_unpack (SqT.of upd_same) rfl ?_
          walk_at "go"
          refine g_unpack hr2.sq rfl ?_
          walk_at "go"
          generalize hG2 : upd H2 A2 (HO.tup [V.int (n : Nat), V.ref r]) = G2 at told3 ⊢
          -- nothing found at this rule
          have none_ : redFrom n s = redFrom (n + 1) s → ∀ G3, Evl.Ex G2 G3 → ∃ (p4 p5 p6 p7 : Option V) (dn : List (Nat × Nat × Tm)), [some (S (enc t)), some (V.int (i : Nat)), some (S [c]), some (S pt), some (V.int (n : Nat)), some (S (ruleP n)), some (S (ruleR n)), some V.non] = [some (S (enc t)), some (V.int (i : Nat)), some (S [c]), some (S pt), p4, p5, p6, p7] ∧ Told G3 ys2 dn ∧
              steps t = dn ++ ((redFrom (n + 1) s).map (fun q => (i, q.1, f q.2)) ++ stepsFrom (i + 1) ((subs t).drop (i + 1))) := fun e G3 ex3 => ⟨_, _, _, _, dn2, rfl, told3.mono ex3, by rw [hst3, e]⟩
          walk_at "br"
          · intro hp0
            obtain ⟨d, rfl⟩ := hpt2 hp0
            walk_at "go"
            exact none_ (by rw [redFrom_lf, redFrom_lf]) G2 (Evl.Ex.refl _)
          · intro hp0
            rcases hpt with hpt | ⟨h0, _⟩
            · subst hpt
              walk_at "go"
              have hls : (enc s).length ≤ 100000 := by
                have := drop_len f2 (Nat.le_of_lt hi)
                omega
              refine ⟨ruleP n, s, rfl, os, ?_, by omega, fun hm G3 ex3 => ?_, fun b hb d G3 hd ex3 eD => ?_⟩
              · unfold ruleP
                split <;> decide
              · walk_at "go"
                rcases redFrom_step hn s with ⟨_, e⟩ | ⟨b, u, e, _⟩
                · exact none_ e G3 ex3
                · rw [hm] at e; cases e
              · walk_at "go"
                rcases redFrom_step hn s with ⟨e, _⟩ | ⟨b', u, e, hru, heu⟩
                · rw [hb] at e; cases e
                rw [hb] at e
                cases e
                have hmem : (n + 1, u) ∈ red s := redFrom_sub (by rw [hru]; exact List.mem_cons_self ..)
                obtain ⟨u1, u2, _⟩ := red_sz hmem
                have hlu := enc_len u
                have hls2 := enc_len s
                have hlt2 := enc_len t
                have hst4 : steps t = dn2 ++ ((i, n + 1, f u) :: ((redFrom (n + 1) s).map (fun q => (i, q.1, f q.2)) ++ stepsFrom (i + 1) ((subs t).drop (i + 1)))) := by
                  rw [hst3, hru]
                  rfl
                have hys := told2.length
                have hlen := congrArg List.length hst4
                rw [List.length_append, List.length_cons] at hlen
                have hsl := steps_len t
                have hline := line_ge
                refine ⟨by omega, ruleR n, d, encB b, rfl, eD, ?_, by rw [← heu]; omega, fun G4 ex4 => ?_⟩
                · unfold ruleR
                  split <;> decide
                · refine ⟨enc t, i, s, (enc t).drop (i + (enc s).length), subC (encB b) (ruleR n), rfl, by rw [← heu]; omega, os, f2, ⟨by omega, fun p hp => ?_⟩⟩
                  rw [← heu, ← f1 u]
                  have hx : tellS (i, n + 1, f u) (upd G4 p (HO.tup [V.int (i : Nat), V.int ((n : Nat) + 1), S (enc (f u))])) (.ref p) := ⟨p, rfl, upd_same⟩
                  have told5 := told3.mono ((ex3.trans ex4).trans (Evl.Ex.new (o := .tup [V.int (i : Nat), V.int ((n : Nat) + 1), S (enc (f u))]) hp))
                  refine ⟨hy _ _ _ (i, n + 1, f u) ?_ ?_ hx, _, _, _, _, dn2 ++ [(i, n + 1, f u)], rfl, Told.snoc hx told5, ?_⟩
                  · rw [hys, hst4]
                    simp
                  · rw [hys, hst4, List.take_left]
                    exact told5
                  · rw [hst4, List.append_assoc]
                    rfl
            · exact absurd h0 hp0
        · rintro ys2 σ2 H2 ⟨p4, p5, p6, p7, dn2, rfl, told2, hst3⟩
          walk_at "go"
          exact ⟨_, _, _, _, _, _, _, dn2, rfl, told2, hst3⟩
      walk_at "br"
      · rintro rfl
        walk_at "go"
        refine spPart_S (by omega) os f2 ?_
        walk_at "go"
        exact inner (enc s) (.inl rfl) (fun z => by
          have h1 := enc_len s
          have h2 := sz_pos s
          rw [z] at h1
          simp at h1
          omega)
      · intro hc42
        walk_at "go"
        have h : ∃ d, s = KT.T.lf d := by
          rcases head_of os f2 hc with ⟨z, _⟩ | ⟨_, z⟩
          · exact absurd z hc42
          · exact ⟨_, z⟩
        exact inner [] (.inr ⟨rfl, h⟩) (fun _ => h)
    · rintro ys σ H1 ⟨o1, o2, o3, o4, o5, o6, o7, dn, rfl, told, hst⟩
      rw [List.drop_of_length_le (by rw [subs_len]; exact Nat.le_refl _)] at hst
      have e : steps t = dn := by rw [hst]; simp [stepsFrom]
      walk_at "go"
      exact hq ys H1 (by rw [e]; exact told)
end
end LW

end

section
set_option maxHeartbeats 4000000

namespace LW
open PySem PySem.Spec PyProof.Rows L2 KG KT
local macro_rules | `(tactic| walk_at "go") => `(tactic| try simp only [b_St, b_Sf, b_Et, b_Ef, b_At, b_Af, b_Ot, b_Of, b_AVt, b_AVf, b_OVt, b_OVf, b_Ct, b_Cf, g_seq, g_asg, g_name, g_ret, g_retN, g_next, g_brk, g_cont, g_drop, g_ifS, g_if, g_and, g_or, g_not, g_andV, g_orV, g_notV, g_chain, g_test, g_B, g_op, g_un, g_neg, g_var, g_c, g_nil, g_cons, g_CB, g_call, g_par, g_par3, g_aug, g_sl, g_part, g_nopart, g_tup, g_lst, g_gcons, g_gnil, g_BM, g_dnew, g_yes, g_never, g_tupK, g_listK, g_KCall, g_for1, g_tru, k_then, k_0, k_plain, k_if, k_yield, b_Gt, b_Gf, rx_K, kon_K, g_M1, g_dget2, g_isS, g_wipe0, g_wipe1, g_wipe2, g_wipe3, b_Lt, b_Lf,
  kAdd_i, kAdd_s, kMul_i, kMul_s, kInt_i, kInt0_i, kEq_i, kEq_s, kNe_i, kNe_s, kEq_b, kNe_b, kIn_s, kNotIn_s, kLen_s, kIx_s, kSl_s, kAug_i, kAbs_i, kMax_i, kMin_i, kIntOf_i, kIntOf_b, g_sub, isN_S, isN_i, isN_n, isN_r, notN_S, notN_i, notN_n, notN_r, isN_b, notN_b, tru_b, tru_i, tru_n, ex_bl, ex_int, ex_some, par_2, par_3, isi_S kit_ss, cx_K, cx_Kn, Bool.not_true, Bool.not_false,
  List.set_cons_zero, List.set_cons_succ, List.getElem?_cons_zero, List.getElem?_cons_succ, List.map_cons, List.map_nil, List.append_nil, List.length_cons, List.length_nil, Nat.zero_add, dec_one, true_and, decide_true, decide_false])
local macro_rules | `(tactic| walk_at "br") => `(tactic| first | refine br_W ?_ ?_ | refine br_G ?_ ?_ | refine br_L ?_ ?_ | refine br_Ln ?_ ?_ | refine br_Lm ?_ ?_ | refine br_Lb ?_ ?_ | refine br_S ?_ ?_ | refine br_E ?_ ?_ | refine br_A ?_ ?_ | refine br_O ?_ ?_ | refine br_AV ?_ ?_ | refine br_OV ?_ ?_ | refine br_C ?_ ?_ | refine br_Sn ?_ ?_ | refine br_En ?_ ?_ | refine br_An ?_ ?_ | refine br_On ?_ ?_ | refine br_AVn ?_ ?_ | refine br_OVn ?_ ?_ | refine br_Cn ?_ ?_ | refine br_Sm ?_ ?_ | refine br_Em ?_ ?_ | refine br_Am ?_ ?_ | refine br_Om ?_ ?_ | refine br_AVm ?_ ?_ | refine br_OVm ?_ ?_ | refine br_Cm ?_ ?_ | refine br_Sb ?_ ?_ | refine br_Eb ?_ ?_ | refine br_Ab ?_ ?_ | refine br_Ob ?_ ?_ | refine br_AVb ?_ ?_ | refine br_OVb ?_ ?_ | refine br_Cb ?_ ?_)

section
variable {P : Program} {w : World} {K : PySem.W.Frag} {mg : Str → Option Value} {base : Heap}
abbrev sl_require_term : List Str := ["value"]
theorem sc_require_term : FnScope sl_require_term ["value"] (defScope s_require_term) := ⟨rfl, rfl, rfl, by decide +kernel, rfl, by decide +kernel, by decide +kernel⟩
theorem st_require_term (v0 : V) : L2.start sl_require_term [v0] = [some v0] := rfl
abbrev sl_first_step : List Str := ["term", "step"]
theorem sc_first_step : FnScope sl_first_step ["term"] (defScope s_first_step) := ⟨rfl, rfl, rfl, by decide +kernel, rfl, by decide +kernel, by decide +kernel⟩
theorem st_first_step (v0 : V) : L2.start sl_first_step [v0] = [some v0, none] := rfl
abbrev sl_has_step : List Str := ["term"]
theorem sc_has_step : FnScope sl_has_step ["term"] (defScope s_has_step) := ⟨rfl, rfl, rfl, by decide +kernel, rfl, by decide +kernel, by decide +kernel⟩
theorem st_has_step (v0 : V) : L2.start sl_has_step [v0] = [some v0] := rfl
theorem len_of {t : Tm} (h : sz t ≤ 400) : (enc t).length ≤ 1000 := by
  have := enc_len t
  omega
theorem spTerm_S {l : List Nat} {H : Hp} {Q : VK} {E : XK} (hl : l.length ≤ 1000000) (q : Q (.bl (isT l)) H) : spTerm K [S l] H Q E := .inl ⟨l, rfl, hl, q⟩
def spReq : Sp := fun vs H Q _ => ∃ t : Tm, vs = [S (enc t)] ∧ ok t = true ∧ sz t ≤ 200 ∧ Q .non H
theorem ok_require_term (T : Top K mg) : FnOk P w K mg base CX0 3 T.require_term.f T.require_term.fd ["value"] spReq := by
  refine T.require_term.F.ok sc_require_term (fun vs H Q E h => ?_) (fun cdv A outer s H vs Q E hr h => ?_)
  · obtain ⟨t, rfl, _⟩ := h
    rfl
  · obtain ⟨t, rfl, ht, hz, k⟩ := h
    refine ⟨_, (pss_one (ps_if (pt_not (kk_tru (K := K) rfl (pt_truth (callO (ok_is_term T) (hr.mono (by first | decide | omega)) (by rfl) (pa_cons (pv 0) pa_nil)) (fun _ => rfl)))) (pss_one ps_never) pss_nil)), ?_⟩
    rw [st_require_term]
    walk_at "go"
    refine spTerm_S (by have := len_of (t := t) (by omega); omega) ?_
    rw [isT_enc ht hz]
    walk_at "go"
    exact k
def spFirst : Sp := fun vs H Q _ => ∃ t : Tm, vs = [S (enc t)] ∧ ok t = true ∧ sz t ≤ 200 ∧ (steps t = [] → Evl.RetV .non H Q) ∧ ∀ s ss, steps t = s :: ss → ∀ v H2, Evl.Ex H H2 → tellS s H2 v → Q v H2
theorem ok_first_step (T : Top K mg) : FnOk P w K mg base CX0 20 T.first_step.f T.first_step.fd ["term"] spFirst := by
  refine T.first_step.F.ok sc_first_step (fun vs H Q E h => ?_) (fun cdv A outer s H vs Q E hr h => ?_)
  · obtain ⟨t, rfl, _⟩ := h
    rfl
  · obtain ⟨t, rfl, ht, hz, k1, k2⟩ := h
    refine ⟨_, (pss_cons (ps_for1 PassesOwn.never (by rfl) (pkgen_call (gen_each_step T) (hr.mono (by first | decide | omega)) (by rfl) T.each_step.g T.each_step.F.kp T.each_step.b (pa_cons (pv 0) pa_nil)) (hr.mono (by first | decide | omega)) (pg_name (i := 1) sc_first_step.nd rfl (by first | exact Or.inl rfl | exact Or.inr rfl)) (pss_one (ps_ret (pv 1)))) (pss_one (ps_ret pe_non))), ?_⟩
    rw [st_first_step]
    walk_at "go"
    have hl := len_of (t := t) (by omega)
    refine ⟨fun ys x H' => ys = [] → ∃ s ss, steps t = s :: ss ∧ tellS s H' x, fun ys H' => Told H' ys (steps t), _, Shares.none _, ⟨t, rfl, ht, by omega, fun ys x H' s h1 h2 h3 h4 => ?_, fun _ _ h => h⟩, fun H' Hm told e1 e2 => ?_, fun x H' Hm hx e1 e2 => ?_⟩
    · subst h4
      cases e : steps t with
      | nil => rw [e] at h1; cases h1
      | cons s' ss =>
        rw [e] at h1
        cases h1
        exact ⟨_, _, rfl, h3⟩
    · walk_at "go"
      refine k1 ?_ Hm e1
      have := told.length
      exact List.length_eq_zero_iff.mp this.symm
    · walk_at "go"
      obtain ⟨s, ss, e, h⟩ := hx rfl
      exact k2 s ss e x Hm e1 (h.mono e2)
def spHas : Sp := fun vs H Q _ => ∃ t : Tm, vs = [S (enc t)] ∧ ok t = true ∧ sz t ≤ 200 ∧ Evl.RetV (.bl (!(steps t).isEmpty)) H Q
theorem ok_has_step (T : Top K mg) : FnOk P w K mg base CX0 21 T.has_step.f T.has_step.fd ["term"] spHas := by
  refine T.has_step.F.ok sc_has_step (fun vs H Q E h => ?_) (fun cdv A outer s H vs Q E hr h => ?_)
  · obtain ⟨t, rfl, _⟩ := h
    rfl
  · obtain ⟨t, rfl, ht, hz, k⟩ := h
    refine ⟨_, (pss_one (ps_ret (pe_cmpR op_kNotN (callO (ok_first_step T) (hr.mono (by first | decide | omega)) (by rfl) (pa_cons (pv 0) pa_nil)) pe_non (nomark _)))), ?_⟩
    rw [st_has_step]
    walk_at "go"
    refine ⟨t, rfl, ht, hz, fun e H2 e2 => ?_, fun s ss e v H2 e2 hv => ?_⟩
    · walk_at "go"
      rw [e] at k
      exact k H2 e2
    · obtain ⟨a, rfl, _⟩ := hv
      walk_at "go"
      rw [e] at k
      exact k H2 e2
end
end LW

end

section
set_option maxHeartbeats 4000000

namespace LW
open PySem PySem.Spec PyProof.Rows L2 KG KT
local macro_rules | `(tactic| walk_at "go") => `(tactic| try simp only [b_St, b_Sf, b_Et, b_Ef, b_At, b_Af, b_Ot, b_Of, b_AVt, b_AVf, b_OVt, b_OVf, b_Ct, b_Cf, g_seq, g_asg, g_name, g_ret, g_retN, g_next, g_brk, g_cont, g_drop, g_ifS, g_if, g_and, g_or, g_not, g_andV, g_orV, g_notV, g_chain, g_test, g_B, g_op, g_un, g_neg, g_var, g_c, g_nil, g_cons, g_CB, g_call, g_par, g_par3, g_aug, g_sl, g_part, g_nopart, g_tup, g_lst, g_gcons, g_gnil, g_BM, g_dnew, g_yes, g_never, g_tupK, g_listK, g_KCall, g_for1, g_tru, k_then, k_0, k_plain, k_if, k_yield, b_Gt, b_Gf, rx_K, kon_K, g_M1, g_dget2, g_isS, g_wipe0, g_wipe1, g_wipe2, g_wipe3, b_Lt, b_Lf,
  kAdd_i, kAdd_s, kMul_i, kMul_s, kInt_i, kInt0_i, kEq_i, kEq_s, kNe_i, kNe_s, kEq_b, kNe_b, kIn_s, kNotIn_s, kLen_s, kIx_s, kSl_s, kAug_i, kAbs_i, kMax_i, kMin_i, kIntOf_i, kIntOf_b, g_sub, isN_S, isN_i, isN_n, isN_r, notN_S, notN_i, notN_n, notN_r, isN_b, notN_b, tru_b, tru_i, tru_n, ex_bl, ex_int, ex_some, par_2, par_3, isi_S kit_ss, cx_K, cx_Kn, Bool.not_true, Bool.not_false,
  List.set_cons_zero, List.set_cons_succ, List.getElem?_cons_zero, List.getElem?_cons_succ, List.map_cons, List.map_nil, List.append_nil, List.length_cons, List.length_nil, Nat.zero_add, dec_one, true_and, decide_true, decide_false])
local macro_rules | `(tactic| walk_at "br") => `(tactic| first | refine br_W ?_ ?_ | refine br_G ?_ ?_ | refine br_L ?_ ?_ | refine br_Ln ?_ ?_ | refine br_Lm ?_ ?_ | refine br_Lb ?_ ?_ | refine br_S ?_ ?_ | refine br_E ?_ ?_ | refine br_A ?_ ?_ | refine br_O ?_ ?_ | refine br_AV ?_ ?_ | refine br_OV ?_ ?_ | refine br_C ?_ ?_ | refine br_Sn ?_ ?_ | refine br_En ?_ ?_ | refine br_An ?_ ?_ | refine br_On ?_ ?_ | refine br_AVn ?_ ?_ | refine br_OVn ?_ ?_ | refine br_Cn ?_ ?_ | refine br_Sm ?_ ?_ | refine br_Em ?_ ?_ | refine br_Am ?_ ?_ | refine br_Om ?_ ?_ | refine br_AVm ?_ ?_ | refine br_OVm ?_ ?_ | refine br_Cm ?_ ?_ | refine br_Sb ?_ ?_ | refine br_Eb ?_ ?_ | refine br_Ab ?_ ?_ | refine br_Ob ?_ ?_ | refine br_AVb ?_ ?_ | refine br_OVb ?_ ?_ | refine br_Cb ?_ ?_)

section
variable {P : Program} {w : World} {K : PySem.W.Frag} {mg : Str → Option Value} {base : Heap}
abbrev sl__law_dice : List Str := ["script", "spot", "cell", "left"]
theorem sc__law_dice : FnScope sl__law_dice ["script", "spot"] (defScope s__law_dice) := ⟨rfl, rfl, rfl, by decide +kernel, rfl, by decide +kernel, by decide +kernel⟩
theorem st__law_dice (v0 : V) (v1 : V) : L2.start sl__law_dice [v0, v1] = [some v0, some v1, none, none] := rfl
abbrev sl__law_roll : List Str := ["dice", "total", "found", "one", "two"]
theorem sc__law_roll : FnScope sl__law_roll ["dice", "total"] (defScope s__law_roll) := ⟨rfl, rfl, rfl, by decide +kernel, rfl, by decide +kernel, by decide +kernel⟩
theorem st__law_roll (v0 : V) (v1 : V) : L2.start sl__law_roll [v0, v1] = [some v0, some v1, none, none, none] := rfl
abbrev sl__law_pick : List Str := ["dice", "items"]
theorem sc__law_pick : FnScope sl__law_pick ["dice", "items"] (defScope s__law_pick) := ⟨rfl, rfl, rfl, by decide +kernel, rfl, by decide +kernel, by decide +kernel⟩
theorem st__law_pick (v0 : V) (v1 : V) : L2.start sl__law_pick [v0, v1] = [some v0, some v1] := rfl
/-! ### the dice -/
def spDice (K : PySem.W.Frag) : Sp := fun vs H Q _ => ∃ (a : Addr) (ns : List Int) (i : Nat), vs = [.ref a, .int (i : Nat)] ∧ SqL K H a (ns.map V.int) ∧ i < 1000 ∧ ∀ d H2, H d = none → Evl.Ex H H2 → Dc H2 d → Q (.ref d) H2
theorem ok__law_dice (T : Top K mg) : FnOk P w K mg base CX0 1 T._law_dice.f T._law_dice.fd ["script", "spot"] (spDice K) := by
  refine T._law_dice.F.ok sc__law_dice (fun vs H Q E h => ?_) (fun cdv A outer s H vs Q E hr h => ?_)
  · obtain ⟨a, ns, i, rfl, _⟩ := h
    rfl
  · obtain ⟨a, ns, i, rfl, hs, hi, k⟩ := h
    refine ⟨_, (pss_cons (ps_set (i := 2) sc__law_dice.nd rfl (by first | exact Or.inl rfl | exact Or.inr rfl) (pe_ifExp (pt_cmpR op_kLt (pv 1) (pe_callB (kk_len (K := K) rfl) (by rfl) T.len (by decide +kernel) (pa_cons (pv 0) pa_nil)) (nomark _)) (pe_callTy call_kInt (by rfl) T.int (by decide +kernel) (pa_cons (pe_ix (kk_ix (K := K) rfl) (pv 0) (pv 1) (fun _ _ => rfl)) pa_nil)) (pe_op (kk_add (K := K) rfl) (pe_op (kk_mul (K := K) rfl) pe_int (pv 1)) pe_int))) (pss_cons (ps_set (i := 3) sc__law_dice.nd rfl (by first | exact Or.inl rfl | exact Or.inr rfl) (pe_op op_kMod (pe_callB (call_kMax (by rfl)) (by rfl) T.max (by decide +kernel) (pa_cons pe_int (pa_cons (pe_op op_kSub (pe_callB call_kAbs (by rfl) T.abs (by decide +kernel) (pa_cons (pv 2) pa_nil)) (pe_op op_kPow pe_int pe_int)) pa_nil))) (pe_op (kk_mul (K := K) rfl) (pe_op op_kPow pe_int pe_int) (pe_op op_kPow pe_int pe_int)))) (pss_one (ps_ret (pe_lst (pa_cons (pv 3) (pa_cons (pe_op (kk_add (K := K) rfl) (pe_op (kk_add (K := K) rfl) (pe_op (kk_add (K := K) rfl) (pe_op (kk_mul (K := K) rfl) (pe_op op_kMod (pe_callB call_kAbs (by rfl) T.abs (by decide +kernel) (pa_cons (pv 2) pa_nil)) pe_int) pe_int) (pe_op (kk_mul (K := K) rfl) pe_int (pv 1))) (pe_op (kk_mul (K := K) rfl) pe_int (pe_callTy call_kInt (by rfl) T.int (by decide +kernel) (pa_cons (pe_cmpR op_kLt (pv 2) pe_int (nomark _)) pa_nil)))) pe_int) (pa_cons pe_int pa_nil)))))))), ?_⟩
    rw [st__law_dice]
    walk_at "go"
    refine lenL hs ?_
    rw [List.length_map]
    walk_at "go"
    walk_at "br"
    · intro h
      walk_at "go"
      refine ixL hs (v := .int (ns[i]'(by omega))) (atI_nat (by rw [List.getElem?_map, List.getElem?_eq_getElem (by omega)]; rfl)) ?_
      walk_at "go"
      generalize ns[i]'(by omega) = cell
      exact ⟨⟨by decide, by decide, by decide⟩, ⟨by decide, by decide, by decide⟩, ⟨by decide, by decide, by decide⟩, .inl (by show Nat.log2 _ + Nat.log2 _ < _; decide +kernel), by decide +kernel, by decide, .inr (.inr (by decide)), .inr (.inl (by decide)), .inr (.inl (by decide)), by decide, fun p hp => k p _ hp (Evl.Ex.new hp) ⟨_, _, _, upd_same⟩⟩
    · intro h
      walk_at "go"
      refine ⟨.inr (.inl (by decide)), ?_⟩
      generalize 73 * (i : Int) + 37 = cell
      exact ⟨⟨by decide, by decide, by decide⟩, ⟨by decide, by decide, by decide⟩, ⟨by decide, by decide, by decide⟩, .inl (by show Nat.log2 _ + Nat.log2 _ < _; decide +kernel), by decide +kernel, by decide, .inr (.inr (by decide)), .inr (.inl (by decide)), .inr (.inl (by decide)), by decide, fun p hp => k p _ hp (Evl.Ex.new hp) ⟨_, _, _, upd_same⟩⟩
def spRoll : Sp := fun vs H Q _ => ∃ (d : Addr) (n : Int), vs = [.ref d, .int n] ∧ Dc H d ∧ 0 < n ∧ n < 2 ^ 100 ∧ ∀ r H2, 0 ≤ r → r < n → Fx d H H2 → Q (.int r) H2
theorem ok__law_roll (T : Top K mg) : FnOk P w K mg base CX0 1 T._law_roll.f T._law_roll.fd ["dice", "total"] spRoll := by
  refine T._law_roll.F.ok sc__law_roll (fun vs H Q E h => ?_) (fun cdv A outer s H vs Q E hr h => ?_)
  · obtain ⟨d, n, rfl, _⟩ := h
    rfl
  · obtain ⟨d, n, rfl, ⟨a, b, c, hd⟩, h0, h1, k⟩ := h
    refine ⟨_, (pss_cons (ps_if (pt_cmpR op_kGt (pe_ix (kk_ix (K := K) rfl) (pv 0) pe_int (fun _ _ => rfl)) pe_int (nomark _)) (pss_cons (ps_set (i := 2) sc__law_roll.nd rfl (by first | exact Or.inl rfl | exact Or.inr rfl) (pe_op op_kMod (pe_callTy call_kInt (by rfl) T.int (by decide +kernel) (pa_cons (pe_ix (kk_ix (K := K) rfl) (pv 0) pe_int (fun _ _ => rfl)) pa_nil)) (pv 1))) (pss_cons (ps_asg (pe_op op_kFdiv (pe_ix (kk_ix (K := K) rfl) (pv 0) pe_int (fun _ _ => rfl)) (pv 1)) (pg_sub (pv 0) pe_int set_list (fun _ => rfl))) (pss_one (ps_ret (pv 2))))) pss_nil) (pss_cons (ps_asg (pe_op (kk_add (K := K) rfl) (pe_ix (kk_ix (K := K) rfl) (pv 0) pe_int (fun _ _ => rfl)) pe_int) (pg_sub (pv 0) pe_int set_list (fun _ => rfl))) (pss_cons (ps_set (i := 3) sc__law_roll.nd rfl (by first | exact Or.inl rfl | exact Or.inr rfl) (pe_op op_kMod (pe_callTy call_kInt (by rfl) T.int (by decide +kernel) (pa_cons (pe_op (kk_add (K := K) rfl) (pe_ix (kk_ix (K := K) rfl) (pv 0) pe_int (fun _ _ => rfl)) (pe_op (kk_mul (K := K) rfl) pe_int (pe_ix (kk_ix (K := K) rfl) (pv 0) pe_int (fun _ _ => rfl)))) pa_nil)) pe_int)) (pss_cons (ps_set (i := 4) sc__law_roll.nd rfl (by first | exact Or.inl rfl | exact Or.inr rfl) (pe_op (kk_add (K := K) rfl) (pe_op (kk_mul (K := K) rfl) (pe_op op_kMod (pe_callTy call_kInt (by rfl) T.int (by decide +kernel) (pa_cons (pe_op (kk_add (K := K) rfl) (pe_op (kk_mul (K := K) rfl) (pv 3) (pv 3)) (pe_op (kk_mul (K := K) rfl) pe_int (pe_ix (kk_ix (K := K) rfl) (pv 0) pe_int (fun _ _ => rfl)))) pa_nil)) pe_int) pe_int) (pv 3))) (pss_one (ps_ret (pe_op op_kMod (pe_callTy call_kInt (by rfl) T.int (by decide +kernel) (pa_cons (pe_op op_kFdiv (pv 4) pe_int) pa_nil)) (pv 1)))))))), ?_⟩
    rw [st__law_roll]
    walk_at "go"
    refine ixL (SqL.of hd) rfl ?_
    walk_at "go"
    have hdiv : CDivW a n := ⟨h0, by have := PySem.Flt.log2_lt_of (n := n.natAbs) (k := 100) (by decide) (by omega); omega⟩
    walk_at "br"
    · intro ha
      walk_at "go"
      refine ixL (SqL.of hd) rfl ?_
      walk_at "go"
      refine ⟨h0, ixL (SqL.of hd) rfl ?_⟩
      walk_at "go"
      refine ⟨hdiv, setL hd rfl ?_⟩
      walk_at "go"
      exact k _ _ (Int.emod_nonneg _ (by omega)) (Int.emod_lt_of_pos _ h0) Fx.upd
    · intro ha
      walk_at "go"
      refine ixL (SqL.of hd) rfl ?_
      walk_at "go"
      refine setL (j := 2) hd rfl ?_
      have hd2 : (upd H d (HO.lst ([V.int a, V.int b, V.int c].set 2 (V.int (c + 1))))) d = some (.lst [V.int a, V.int b, V.int (c + 1)]) := upd_same
      have hf : Fx d H (upd H d (HO.lst ([V.int a, V.int b, V.int c].set 2 (V.int (c + 1))))) := Fx.upd
      generalize upd H d (HO.lst ([V.int a, V.int b, V.int c].set 2 (V.int (c + 1)))) = H2 at hd2 hf ⊢
      walk_at "go"
      refine ixL (SqL.of hd2) rfl ?_
      walk_at "go"
      refine ixL (SqL.of hd2) rfl ?_
      walk_at "go"
      refine ⟨.inr (.inl (by decide)), by decide, ?_⟩
      have b1 := Int.emod_nonneg (b + 86028121 * (c + 1)) (show (2305843009213693669 : Int) ≠ 0 by decide)
      have b2 := Int.emod_lt_of_pos (b + 86028121 * (c + 1)) (show (0 : Int) < 2305843009213693669 by decide)
      generalize (b + 86028121 * (c + 1)) % 2305843009213693669 = one at b1 b2 ⊢
      refine ⟨.inr (.inl ⟨by omega, by omega⟩), ixL (SqL.of hd2) rfl ?_⟩
      walk_at "go"
      refine ⟨.inr (.inl (by decide)), by decide, .inr (.inr (by decide)), ⟨by decide, by show Nat.log2 131072 < 9000; decide +kernel⟩, h0, ?_⟩
      exact k _ _ (Int.emod_nonneg _ (by omega)) (Int.emod_lt_of_pos _ h0) hf
theorem roll_run {H : Hp} {Q : VK} {E : XK} {d : Addr} {n : Int} (hd : Dc H d) (h0 : 0 < n) (h1 : n < 2 ^ 100) (k : ∀ r H2, 0 ≤ r → r < n → Fx d H H2 → Q (.int r) H2) : spRoll [.ref d, .int n] H Q E := ⟨d, n, rfl, hd, h0, h1, k⟩
/-! ### a thing drawn from a row -/
def spPick (K : PySem.W.Frag) : Sp := fun vs H Q _ => (∃ (d : Addr) (l : List Nat), vs = [.ref d, S l] ∧ Dc H d ∧ l ≠ [] ∧ l.length ≤ 1000000 ∧ ∀ c H2, c ∈ l → Fx d H H2 → Q (S [c]) H2) ∨
  ∃ (d p : Addr) (xs : List V), vs = [.ref d, .ref p] ∧ Dc H d ∧ p ≠ d ∧ SqL K H p xs ∧ xs ≠ [] ∧ xs.length ≤ 1000000 ∧ ∀ x H2, x ∈ xs → Fx d H H2 → Q x H2
theorem ok__law_pick (T : Top K mg) : FnOk P w K mg base CX0 2 T._law_pick.f T._law_pick.fd ["dice", "items"] (spPick K) := by
  refine T._law_pick.F.ok sc__law_pick (fun vs H Q E h => ?_) (fun cdv A outer s H vs Q E hr h => ?_)
  · rcases h with ⟨d, l, rfl, _⟩ | ⟨d, p, xs, rfl, _⟩ <;> rfl
  · refine ⟨_, (pss_one (ps_ret (pe_ix (kk_ix (K := K) rfl) (pv 1) (callO (ok__law_roll T) (hr.mono (by first | decide | omega)) (by rfl) (pa_cons (pv 0) (pa_cons (pe_callB (kk_len (K := K) rfl) (by rfl) T.len (by decide +kernel) (pa_cons (pv 1) pa_nil)) pa_nil))) (fun _ _ => rfl)))), ?_⟩
    rcases h with ⟨d, l, rfl, hd, hn, hl, k⟩ | ⟨d, p, xs, rfl, hd, hp, hx, hn, hl, k⟩
    · rw [st__law_pick]
      walk_at "go"
      have hpos : 0 < l.length := List.length_pos_iff.mpr hn
      refine ⟨hl, roll_run hd (by omega) (by omega) fun r H2 r0 r1 fx => ?_⟩
      walk_at "go"
      obtain ⟨j, rfl⟩ : ∃ j : Nat, r = j := ⟨r.toNat, by omega⟩
      have hj : l[j]? = some (l[j]'(by omega)) := List.getElem?_eq_getElem (by omega)
      exact ⟨hl, _, atI_nat hj, k _ _ (List.getElem_mem _) fx⟩
    · rw [st__law_pick]
      walk_at "go"
      have hpos : 0 < xs.length := List.length_pos_iff.mpr hn
      refine lenL hx (roll_run hd (by omega) (by omega) fun r H2 r0 r1 fx => ?_)
      walk_at "go"
      obtain ⟨j, rfl⟩ : ∃ j : Nat, r = j := ⟨r.toNat, by omega⟩
      have hj : xs[j]? = some (xs[j]'(by omega)) := List.getElem?_eq_getElem (by omega)
      exact ixL (fx.l hp hx) (atI_nat hj) (k _ _ (List.getElem_mem _) fx)
theorem pick_S {H : Hp} {Q : VK} {E : XK} {d : Addr} {l : List Nat} (hd : Dc H d) (hn : l ≠ []) (hl : l.length ≤ 1000000) (k : ∀ c H2, c ∈ l → Fx d H H2 → Q (S [c]) H2) : spPick K [.ref d, S l] H Q E := .inl ⟨d, l, rfl, hd, hn, hl, k⟩
theorem pick_L {H : Hp} {Q : VK} {E : XK} {d p : Addr} {xs : List V} (hd : Dc H d) (hp : p ≠ d) (hx : SqL K H p xs) (hn : xs ≠ []) (hl : xs.length ≤ 1000000) (k : ∀ x H2, x ∈ xs → Fx d H H2 → Q x H2) : spPick K [.ref d, .ref p] H Q E := .inr ⟨d, p, xs, rfl, hd, hp, hx, hn, hl, k⟩
/-! ### a drawn term -/
abbrev sl__law_grown_term : List Str := ["dice", "letters", "size", "left"]
theorem sc__law_grown_term : FnScope sl__law_grown_term ["dice", "letters", "size"] (defScope s__law_grown_term) := ⟨rfl, rfl, rfl, by decide +kernel, rfl, by decide +kernel, by decide +kernel⟩
theorem st__law_grown_term (v0 : V) (v1 : V) (v2 : V) : L2.start sl__law_grown_term [v0, v1, v2] = [some v0, some v1, some v2, none] := rfl
def spGrown (m : Nat) : Sp := fun vs H Q _ => ∃ (d : Addr) (l : List Nat) (n : Nat), vs = [.ref d, S l, .int (n : Nat)] ∧ 1 ≤ n ∧ n ≤ m ∧ m ≤ 1000 ∧ Dc H d ∧ l ≠ [] ∧ l.length ≤ 1000 ∧ (∀ c ∈ l, isL c = true) ∧
  ∀ (t : Tm) H2, ok t = true → sz t = n → Fx d H H2 → Q (S (enc t)) H2
theorem ok__law_grown_term (T : Top K mg) : ∀ m : Nat, FnOk P w K mg base CX0 (m + 3) T._law_grown_term.f T._law_grown_term.fd ["dice", "letters", "size"] (spGrown m) := by
  intro m
  induction m with
  | zero =>
    refine ⟨fun vs H Q E h => ?_, fun A outer s H args us vs Q E _ _ _ _ h => ?_⟩ <;> obtain ⟨d, l, n, _, h1, h2, _⟩ := h <;> omega
  | succ m ih =>
    refine T._law_grown_term.F.ok sc__law_grown_term (fun vs H Q E h => ?_) (fun cdv A outer s H vs Q E hr h => ?_)
    · obtain ⟨d, l, n, rfl, _⟩ := h
      rfl
    · obtain ⟨d, l, n, rfl, h1, hm, hm2, hd, hn, hl, hL, k⟩ := h
      have hr1 : Room (m + 3) (A.deeper (envOfC "_law_grown_term" (defScope s__law_grown_term) s.heap.objs.size T._law_grown_term.f cdv)) := hr
      refine ⟨_, (pss_cons (ps_if (pt_cmpR (kk_eq (K := K) rfl hr) (pv 2) pe_int (nomark _)) (pss_one (ps_ret (callO (ok__law_pick T) (hr.mono (by first | decide | omega)) (by rfl) (pa_cons (pv 0) (pa_cons (pv 1) pa_nil))))) pss_nil) (pss_cons (ps_set (i := 3) sc__law_grown_term.nd rfl (by first | exact Or.inl rfl | exact Or.inr rfl) (pe_op (kk_add (K := K) rfl) pe_int (callO (ok__law_roll T) (hr.mono (by first | decide | omega)) (by rfl) (pa_cons (pv 0) (pa_cons (pe_op op_kSub (pv 2) pe_int) pa_nil))))) (pss_one (ps_ret (pe_op (kk_add (K := K) rfl) (pe_op (kk_add (K := K) rfl) (pe_S [42] (by decide)) (callO ih (hr.mono (by first | decide | omega)) (by rfl) (pa_cons (pv 0) (pa_cons (pv 1) (pa_cons (pv 3) pa_nil))))) (callO ih (hr.mono (by first | decide | omega)) (by rfl) (pa_cons (pv 0) (pa_cons (pv 1) (pa_cons (pe_op op_kSub (pv 2) (pv 3)) pa_nil))))))))), ?_⟩
      rw [st__law_grown_term]
      walk_at "go"
      walk_at "br"
      · intro hn1
        walk_at "go"
        refine pick_S hd hn (by omega) fun c H2 hc fx => ?_
        exact k (.lf c) H2 (hL c hc) (by simp only [sz]; omega) fx
      · intro hn1
        walk_at "go"
        refine roll_run hd (by omega) (by omega) fun r H2 r0 r1 fx => ?_
        walk_at "go"
        obtain ⟨j, rfl⟩ : ∃ j : Nat, r = j := ⟨r.toNat, by omega⟩
        refine ⟨d, l, j + 1, by rw [show (1 : Int) + (j : Int) = ((j + 1 : Nat) : Int) by omega], by omega, by omega, by omega, fx.dc, hn, hl, hL, fun t1 H3 ht1 hz1 fx3 => ?_⟩
        have e1 := enc_len t1
        walk_at "go"
        refine ⟨by omega, d, l, n - (j + 1), by rw [show (n : Int) - (1 + (j : Int)) = ((n - (j + 1) : Nat) : Int) by omega], by omega, by omega, by omega, fx3.dc, hn, hl, hL, fun t2 H4 ht2 hz2 fx4 => ?_⟩
        have e2 := enc_len t2
        walk_at "go"
        refine ⟨by simp; omega, ?_⟩
        exact k (.nd t1 t2) H4 (ok_nd.mpr ⟨ht1, ht2⟩) (by simp only [sz]; omega) ((fx.trans fx3).trans fx4)
end
end LW

end

section
set_option maxHeartbeats 4000000

namespace LW
open PySem PySem.Spec PyProof.Rows L2 KG KT
local macro_rules | `(tactic| walk_at "go") => `(tactic| try simp only [b_St, b_Sf, b_Et, b_Ef, b_At, b_Af, b_Ot, b_Of, b_AVt, b_AVf, b_OVt, b_OVf, b_Ct, b_Cf, g_seq, g_asg, g_name, g_ret, g_retN, g_next, g_brk, g_cont, g_drop, g_ifS, g_if, g_and, g_or, g_not, g_andV, g_orV, g_notV, g_chain, g_test, g_B, g_op, g_un, g_neg, g_var, g_c, g_nil, g_cons, g_CB, g_call, g_par, g_par3, g_aug, g_sl, g_part, g_nopart, g_tup, g_lst, g_gcons, g_gnil, g_BM, g_dnew, g_yes, g_never, g_tupK, g_listK, g_KCall, g_for1, g_tru, k_then, k_0, k_plain, k_if, k_yield, b_Gt, b_Gf, rx_K, kon_K, g_M1, g_dget2, g_isS, g_wipe0, g_wipe1, g_wipe2, g_wipe3, b_Lt, b_Lf,
  kAdd_i, kAdd_s, kMul_i, kMul_s, kInt_i, kInt0_i, kEq_i, kEq_s, kNe_i, kNe_s, kEq_b, kNe_b, kIn_s, kNotIn_s, kLen_s, kIx_s, kSl_s, kAug_i, kAbs_i, kMax_i, kMin_i, kIntOf_i, kIntOf_b, g_sub, isN_S, isN_i, isN_n, isN_r, notN_S, notN_i, notN_n, notN_r, isN_b, notN_b, tru_b, tru_i, tru_n, ex_bl, ex_int, ex_some, par_2, par_3, isi_S kit_ss, cx_K, cx_Kn, Bool.not_true, Bool.not_false,
  List.set_cons_zero, List.set_cons_succ, List.getElem?_cons_zero, List.getElem?_cons_succ, List.map_cons, List.map_nil, List.append_nil, List.length_cons, List.length_nil, Nat.zero_add, dec_one, true_and, decide_true, decide_false])
local macro_rules | `(tactic| walk_at "br") => `(tactic| first | refine br_W ?_ ?_ | refine br_G ?_ ?_ | refine br_L ?_ ?_ | refine br_Ln ?_ ?_ | refine br_Lm ?_ ?_ | refine br_Lb ?_ ?_ | refine br_S ?_ ?_ | refine br_E ?_ ?_ | refine br_A ?_ ?_ | refine br_O ?_ ?_ | refine br_AV ?_ ?_ | refine br_OV ?_ ?_ | refine br_C ?_ ?_ | refine br_Sn ?_ ?_ | refine br_En ?_ ?_ | refine br_An ?_ ?_ | refine br_On ?_ ?_ | refine br_AVn ?_ ?_ | refine br_OVn ?_ ?_ | refine br_Cn ?_ ?_ | refine br_Sm ?_ ?_ | refine br_Em ?_ ?_ | refine br_Am ?_ ?_ | refine br_Om ?_ ?_ | refine br_AVm ?_ ?_ | refine br_OVm ?_ ?_ | refine br_Cm ?_ ?_ | refine br_Sb ?_ ?_ | refine br_Eb ?_ ?_ | refine br_Ab ?_ ?_ | refine br_Ob ?_ ?_ | refine br_AVb ?_ ?_ | refine br_OVb ?_ ?_ | refine br_Cb ?_ ?_)

section
variable {P : Program} {w : World} {K : PySem.W.Frag} {mg : Str → Option Value} {base : Heap}
abbrev sl__law_part_of : List Str := ["term", "index", "wanted", "end", "turn"]
theorem sc__law_part_of : FnScope sl__law_part_of ["term", "index"] (defScope s__law_part_of) := ⟨rfl, rfl, rfl, by decide +kernel, rfl, by decide +kernel, by decide +kernel⟩
theorem st__law_part_of (v0 : V) (v1 : V) : L2.start sl__law_part_of [v0, v1] = [some v0, some v1, none, none, none] := rfl
abbrev sl__law_sides : List Str := ["term", "left"]
theorem sc__law_sides : FnScope sl__law_sides ["term"] (defScope s__law_sides) := ⟨rfl, rfl, rfl, by decide +kernel, rfl, by decide +kernel, by decide +kernel⟩
theorem st__law_sides (v0 : V) : L2.start sl__law_sides [v0] = [some v0, none] := rfl
abbrev sl__law_rule_results : List Str := ["part", "found", "left", "right"]
theorem sc__law_rule_results : FnScope sl__law_rule_results ["part"] (defScope s__law_rule_results) := ⟨rfl, rfl, rfl, by decide +kernel, rfl, by decide +kernel, by decide +kernel⟩
theorem st__law_rule_results (v0 : V) : L2.start sl__law_rule_results [v0] = [some v0, none, none, none] := rfl
/-! ### the law's own look at a term -/
theorem ok__law_part_of (T : Top K mg) : FnOk P w K mg base CX0 1 T._law_part_of.f T._law_part_of.fd ["term", "index"] spPart := by
  refine T._law_part_of.F.ok sc__law_part_of (fun vs H Q E h => ?_) (fun cdv A outer s H vs Q E hr h => ?_)
  · obtain ⟨l, i, t, r, rfl, _⟩ := h
    rfl
  · obtain ⟨l, i, t, r, rfl, hl, ht, hd, k⟩ := h
    refine ⟨_, (pss_cons (ps_par (i := 2) (j := 3) (by rfl) sc__law_part_of.nd rfl rfl (by decide) rfl rfl (pa_cons pe_int (pa_cons (pv 1) pa_nil)) rfl) (pss_cons (ps_for PassesOwn.never (by rfl) (pi_range1 (by rfl) T.range (pa_cons (pe_op op_kSub (pe_callB (kk_len (K := K) rfl) (by rfl) T.len (by decide +kernel) (pa_cons (pv 0) pa_nil)) (pv 1)) pa_nil)) (pg_name (i := 4) sc__law_part_of.nd rfl (by first | exact Or.inl rfl | exact Or.inr rfl)) (pss_cons (ps_if (pt_cmpR (kk_eq (K := K) rfl hr) (pv 2) pe_int (nomark _)) (pss_one ps_break) pss_nil) (pss_cons (ps_set (i := 2) sc__law_part_of.nd rfl (by first | exact Or.inl rfl | exact Or.inr rfl) (pe_op (kk_add (K := K) rfl) (pv 2) (pe_ifExp (pt_cmpR (kk_eq (K := K) rfl hr) (pe_ix (kk_ix (K := K) rfl) (pv 0) (pv 3) (fun _ _ => rfl)) (pe_S [42] (by decide)) (nomark _)) pe_int (pe_op op_kSub pe_int pe_int)))) (pss_one (ps_set (i := 3) sc__law_part_of.nd rfl (by first | exact Or.inl rfl | exact Or.inr rfl) (pe_op (kk_add (K := K) rfl) (pv 3) pe_int)))))) (pss_one (ps_ret (pe_slice (kk_sl (K := K) rfl) (pv 0) (po_some (pv 1)) (po_some (pv 3))))))), ?_⟩
    rw [st__law_part_of]
    walk_at "go"
    have hi := drop_in hd
    have hz := drop_len hd hi
    refine loop_R (n := (l.length : Int) - (i : Int)) (fun Q q => by walk_at "go"; exact ⟨hl, q⟩) (by omega)
      (fun k σ' H' => H' = H ∧ ∃ (ts : List Tm) (j : Nat) (o : Option V), (∀ t ∈ ts, ok t = true) ∧ l.drop j = encs ts ++ r ∧ i + (enc t).length = j + (encs ts).length ∧ j = i + k ∧ j ≤ l.length ∧ σ' = [some (S l), some (.int (i : Nat)), some (.int ts.length), some (.int (j : Nat)), o])
      ⟨rfl, [t], i, none, by simpa using ht, by rw [hd]; simp [encs], by simp [encs], rfl, hi, rfl⟩ ?_ ?_
    · rintro n σ' H' hn ⟨rfl, ts, j, o, hts, hj, hs, hjn, hjl, rfl⟩
      walk_at "go"
      match ts, hts, hj, hs with
      | [], hts, hj, hs =>
        walk_at "br"
        · intro _
          walk_at "go"
          have e : j = i + (enc t).length := by rw [hs]; simp [encs]
          rw [e]
          refine ⟨hl, ?_⟩
          rw [cutL_both (by omega) (by omega), hd, Nat.add_sub_cancel_left, List.take_left']
          · exact k
          · rfl
        · intro h
          exact absurd rfl h
      | u :: ts, hts, hj, hs =>
        rw [decide_eq_false (by rw [List.length_cons]; omega)]
        walk_at "go"
        match u, hts, hj, hs with
        | .lf c, hts, hj, hs =>
          obtain ⟨d1, d2, d3⟩ := drop_at (c := c) (r := encs ts ++ r) hj
          have hc : c ≠ 42 := isL_ne (hts (.lf c) (List.mem_cons_self ..))
          refine ⟨hl, c, atI_nat d1, ?_⟩
          walk_at "go"
          rw [decide_eq_false hc]
          walk_at "go"
          refine ⟨ts, j + 1, some (V.int (n : Nat)), fun t ht => hts t (List.mem_cons_of_mem _ ht), d2, ?_, by omega, d3, ?_⟩
          · rw [hs]
            simp [encs, enc]
            omega
          · rw [show ((ts.length + 1 : Nat) : Int) + (0 - 1) = (ts.length : Int) by omega]
            rfl
        | .nd a b, hts, hj, hs =>
          obtain ⟨d1, d2, d3⟩ := drop_at (c := 42) (r := encs (a :: b :: ts) ++ r) (by rw [hj]; simp [encs, enc])
          obtain ⟨ha, hb⟩ := ok_nd.mp (hts (.nd a b) (List.mem_cons_self ..))
          refine ⟨hl, 42, atI_nat d1, ?_⟩
          walk_at "go"
          refine ⟨a :: b :: ts, j + 1, some (V.int (n : Nat)), ?_, d2, ?_, by omega, d3, ?_⟩
          · intro t ht
            rcases List.mem_cons.mp ht with e | ht
            · rw [e]; exact ha
            rcases List.mem_cons.mp ht with e | ht
            · rw [e]; exact hb
            exact hts t (List.mem_cons_of_mem _ ht)
          · rw [hs]
            simp [encs, enc]
            omega
          · rfl
    · rintro σ' H' ⟨rfl, ts, j, o, hts, hj, hs, hjn, hjl, rfl⟩
      have e1 : j = l.length := by omega
      have e2 : encs ts ++ r = [] := by rw [← hj, e1, List.drop_length]
      have e3 : (encs ts).length = 0 := by
        have := congrArg List.length e2
        simp at this
        simp [this.1]
      have e : j = i + (enc t).length := by omega
      rw [e]
      walk_at "go"
      refine ⟨hl, ?_⟩
      rw [cutL_both (by omega) (by omega), hd, Nat.add_sub_cancel_left, List.take_left']
      · exact k
      · rfl
theorem at0 {α : Type} {xs : List α} {v : α} (h : xs[0]? = some v) : atI xs 0 = some v := atI_nat (j := 0) h
/-- both sides of a product, as a tuple -/
def spSides : Sp := fun vs H Q _ => ∃ a b : Tm, vs = [S (enc (.nd a b))] ∧ ok (.nd a b) = true ∧ (enc (.nd a b)).length ≤ 1000000 ∧ ∀ p H2, Evl.Ex H H2 → H2 p = some (.tup [S (enc a), S (enc b)]) → Q (.ref p) H2
theorem ok__law_sides (T : Top K mg) : FnOk P w K mg base CX0 2 T._law_sides.f T._law_sides.fd ["term"] spSides := by
  refine T._law_sides.F.ok sc__law_sides (fun vs H Q E h => ?_) (fun cdv A outer s H vs Q E hr h => ?_)
  · obtain ⟨a, b, rfl, _⟩ := h
    rfl
  · obtain ⟨a, b, rfl, ht, hl, k⟩ := h
    refine ⟨_, (pss_cons (ps_set (i := 1) sc__law_sides.nd rfl (by first | exact Or.inl rfl | exact Or.inr rfl) (callO (ok__law_part_of T) (hr.mono (by first | decide | omega)) (by rfl) (pa_cons (pv 0) (pa_cons pe_int pa_nil)))) (pss_one (ps_ret (pe_tup (pa_cons (pv 1) (pa_cons (pe_slice (kk_sl (K := K) rfl) (pv 0) (po_some (pe_op (kk_add (K := K) rfl) pe_int (pe_callB (kk_len (K := K) rfl) (by rfl) T.len (by decide +kernel) (pa_cons (pv 1) pa_nil)))) po_none) pa_nil)))))), ?_⟩
    rw [st__law_sides]
    walk_at "go"
    obtain ⟨ha, hb⟩ := ok_nd.mp ht
    have e : (enc (.nd a b)).drop 1 = enc a ++ enc b := rfl
    have hn : (enc (.nd a b)).length = 1 + (enc a).length + (enc b).length := by simp [enc]; omega
    refine spPart_S hl (i := 1) ha e ?_
    walk_at "go"
    refine ⟨by omega, hl, by decide, fun p hp => ?_⟩
    rw [show (1 : Int) + ((enc a).length : Nat) = ((1 + (enc a).length : Nat) : Int) by omega, cutL_lo (by omega), ← List.drop_drop, e, List.drop_left]
    exact k p _ (Evl.Ex.new hp) upd_same
theorem sides_run {H : Hp} {Q : VK} {E : XK} {a b : Tm} (ht : ok (.nd a b) = true) (hl : (enc (.nd a b)).length ≤ 1000000) (k : ∀ p H2, Evl.Ex H H2 → H2 p = some (.tup [S (enc a), S (enc b)]) → Q (.ref p) H2) : spSides [S (enc (.nd a b))] H Q E := ⟨a, b, rfl, ht, hl, k⟩
theorem pair_app {α β : Type} {F : α → β → Prop} : ∀ {a c : List α} {b d : List β}, Paired F a b → Paired F c d → Paired F (a ++ c) (b ++ d)
  | _, _, _, _, .nil, h => h
  | _, _, _, _, .cons r t, h => .cons r (pair_app t h)
/-- the rules' outcomes at a part, as a fresh list -/
def tellR (q : Nat × Tm) (H : Hp) (v : V) : Prop := ∃ a, v = .ref a ∧ H a = some (.tup [.int (q.1 : Nat), S (enc q.2)])
def spRes : Sp := fun vs H Q _ => ∃ t : Tm, vs = [S (enc t)] ∧ ok t = true ∧ (enc t).length ≤ 1000000 ∧ ∀ p H2 xs, H p = none → Evl.Ex H H2 → H2 p = some (.lst xs) → Paired (fun v q => tellR q H2 v) xs (red t) → Q (.ref p) H2
theorem ok__law_rule_results (T : Top K mg) : FnOk P w K mg base CX0 3 T._law_rule_results.f T._law_rule_results.fd ["part"] spRes := by
  refine T._law_rule_results.F.ok sc__law_rule_results (fun vs H Q E h => ?_) (fun cdv A outer s H vs Q E hr h => ?_)
  · obtain ⟨t, rfl, _⟩ := h
    rfl
  · obtain ⟨t, rfl, ht, hl, k⟩ := h
    refine ⟨_, (pss_cons (ps_set (i := 1) sc__law_rule_results.nd rfl (by first | exact Or.inl rfl | exact Or.inr rfl) (pe_lst pa_nil)) (Evl.pss_cut (ps_if (pt_cmpR (kk_ne (K := K) rfl hr) (pe_ix (kk_ix (K := K) rfl) (pv 0) pe_int (fun _ _ => rfl)) (pe_S [42] (by decide)) (nomark _)) (pss_one (ps_ret (pv 1))) pss_nil) (pss_cons (ps_asg (callO (ok__law_sides T) (hr.mono (by first | decide | omega)) (by rfl) (pa_cons (pv 0) pa_nil)) (kk_gtup (K := K) rfl (pg_tup (n := 2) (by rfl) (pgs_cons (pg_name (i := 2) sc__law_rule_results.nd rfl (by first | exact Or.inl rfl | exact Or.inr rfl)) (pgs_cons (pg_name (i := 3) sc__law_rule_results.nd rfl (by first | exact Or.inl rfl | exact Or.inr rfl)) pgs_nil))))) (Evl.pss_cut (ps_if (pw_and (pt_cmpR (kk_eq (K := K) rfl hr) (pe_ix (kk_ix (K := K) rfl) (pv 2) pe_int (fun _ _ => rfl)) (pe_S [42] (by decide)) (nomark _)) (pw_and (pt_cmpR (kk_eq (K := K) rfl hr) (pe_ix (kk_ix (K := K) rfl) (pv 3) pe_int (fun _ _ => rfl)) (pe_S [42] (by decide)) (nomark _)) (pw_and1 (pt_cmpR (kk_eq (K := K) rfl hr) (pe_ix (kk_ix (K := K) rfl) (callO (ok__law_sides T) (hr.mono (by first | decide | omega)) (by rfl) (pa_cons (pv 2) pa_nil)) pe_int (fun _ _ => rfl)) (pe_ix (kk_ix (K := K) rfl) (callO (ok__law_sides T) (hr.mono (by first | decide | omega)) (by rfl) (pa_cons (pv 3) pa_nil)) pe_int (fun _ _ => rfl)) (nomark _))))).pt (pss_one (ps_expr (kk_bm (K := K) rfl (pe_bm PySem.F.plainAttrs_list PySem.F.slot_list_append PySem.F.type_list_append mt_append (pv 1) (pa_cons (pe_tup (pa_cons pe_int (pa_cons (pe_ix (kk_ix (K := K) rfl) (callO (ok__law_sides T) (hr.mono (by first | decide | omega)) (by rfl) (pa_cons (pv 2) pa_nil)) pe_int (fun _ _ => rfl)) pa_nil))) pa_nil))))) pss_nil) (Evl.pss_cut (ps_if (pw_and (pt_cmpR (kk_eq (K := K) rfl hr) (pe_ix (kk_ix (K := K) rfl) (pv 3) pe_int (fun _ _ => rfl)) (pe_S [42] (by decide)) (nomark _)) (pw_and (pt_cmpR (kk_eq (K := K) rfl hr) (pe_ix (kk_ix (K := K) rfl) (pe_ix (kk_ix (K := K) rfl) (callO (ok__law_sides T) (hr.mono (by first | decide | omega)) (by rfl) (pa_cons (pv 3) pa_nil)) pe_int (fun _ _ => rfl)) pe_int (fun _ _ => rfl)) (pe_S [42] (by decide)) (nomark _)) (pw_and1 (pt_cmpR (kk_eq (K := K) rfl hr) (pe_ix (kk_ix (K := K) rfl) (callO (ok__law_sides T) (hr.mono (by first | decide | omega)) (by rfl) (pa_cons (pe_ix (kk_ix (K := K) rfl) (callO (ok__law_sides T) (hr.mono (by first | decide | omega)) (by rfl) (pa_cons (pv 3) pa_nil)) pe_int (fun _ _ => rfl)) pa_nil)) pe_int (fun _ _ => rfl)) (pv 2) (nomark _))))).pt (pss_one (ps_expr (kk_bm (K := K) rfl (pe_bm PySem.F.plainAttrs_list PySem.F.slot_list_append PySem.F.type_list_append mt_append (pv 1) (pa_cons (pe_tup (pa_cons pe_int (pa_cons (pe_ix (kk_ix (K := K) rfl) (callO (ok__law_sides T) (hr.mono (by first | decide | omega)) (by rfl) (pa_cons (pv 3) pa_nil)) pe_int (fun _ _ => rfl)) pa_nil))) pa_nil))))) pss_nil) (Evl.pss_cut (ps_if (pw_and (pt_cmpR (kk_eq (K := K) rfl hr) (pe_ix (kk_ix (K := K) rfl) (pv 2) pe_int (fun _ _ => rfl)) (pe_S [42] (by decide)) (nomark _)) (pw_and (pt_cmpR (kk_eq (K := K) rfl hr) (pe_ix (kk_ix (K := K) rfl) (pe_ix (kk_ix (K := K) rfl) (callO (ok__law_sides T) (hr.mono (by first | decide | omega)) (by rfl) (pa_cons (pv 2) pa_nil)) pe_int (fun _ _ => rfl)) pe_int (fun _ _ => rfl)) (pe_S [42] (by decide)) (nomark _)) (pw_and1 (pt_cmpR (kk_eq (K := K) rfl hr) (pe_ix (kk_ix (K := K) rfl) (callO (ok__law_sides T) (hr.mono (by first | decide | omega)) (by rfl) (pa_cons (pe_ix (kk_ix (K := K) rfl) (callO (ok__law_sides T) (hr.mono (by first | decide | omega)) (by rfl) (pa_cons (pv 2) pa_nil)) pe_int (fun _ _ => rfl)) pa_nil)) pe_int (fun _ _ => rfl)) (pv 3) (nomark _))))).pt (pss_one (ps_expr (kk_bm (K := K) rfl (pe_bm PySem.F.plainAttrs_list PySem.F.slot_list_append PySem.F.type_list_append mt_append (pv 1) (pa_cons (pe_tup (pa_cons pe_int (pa_cons (pe_ix (kk_ix (K := K) rfl) (callO (ok__law_sides T) (hr.mono (by first | decide | omega)) (by rfl) (pa_cons (pv 2) pa_nil)) pe_int (fun _ _ => rfl)) pa_nil))) pa_nil))))) pss_nil) (pss_one (ps_ret (pv 1))))))))), ?_⟩
    rw [st__law_rule_results]
    walk_at "go"
    refine ⟨by decide, fun p hp => ?_⟩
    refine ⟨fun σ' H' => σ' = [some (S (enc t)), some (.ref p), none, none] ∧ H' = upd H p (.lst []) ∧ ∃ a b, t = .nd a b, ?_, ?_⟩
    · walk_at "go"
      match t, ht, hl, k with
      | .lf c, ht, hl, k =>
        refine ⟨hl, c, at0 rfl, ?_⟩
        rw [decide_eq_false (isL_ne ht)]
        walk_at "go"
        exact k p _ [] hp (Evl.Ex.new hp) upd_same .nil
      | .nd a b, ht, hl, k =>
        refine ⟨hl, 42, at0 rfl, ?_⟩
        walk_at "go"
        exact ⟨a, b, rfl⟩
    · rintro σ' H' ⟨rfl, rfl, a, b, rfl⟩
      walk_at "go"
      obtain ⟨ha, hb⟩ := ok_nd.mp ht
      have hn : (enc (.nd a b)).length = 1 + (enc a).length + (enc b).length := by simp [enc]; omega
      refine sides_run ht hl fun p1 H1 e1 hp1 => ?_
      refine g_unpack (SqT.of hp1) rfl ?_
      walk_at "go"
      have m1 : Mx p (upd H p (.lst [])) H1 := Mx.of e1
      have l1 : H1 p = some (.lst []) := e1 _ _ upd_same
      -- the first rule
      refine ⟨fun σ' H' => σ' = [some (S (enc (.nd a b))), some (.ref p), some (S (enc a)), some (S (enc b))] ∧ Mx p (upd H p (.lst [])) H' ∧ ∃ xs, H' p = some (.lst xs) ∧ Paired (fun v q => tellR q H' v) xs (red1 (.nd a b)), ?_, ?_⟩
      · walk_at "go"
        refine ⟨by omega, ?_⟩
        match a, ha, hn with
        | .lf c, ha, hn =>
          refine ⟨c, at0 rfl, ?_⟩
          rw [decide_eq_false (isL_ne ha)]
          walk_at "go"
          exact ⟨m1, [], l1, .nil⟩
        | .nd a1 a2, ha, hn =>
          refine ⟨42, at0 rfl, ?_⟩
          walk_at "go"
          refine ⟨by omega, ?_⟩
          match b, hb, hn with
          | .lf c, hb, hn =>
            refine ⟨c, at0 rfl, ?_⟩
            rw [decide_eq_false (isL_ne hb)]
            walk_at "go"
            exact ⟨m1, [], l1, .nil⟩
          | .nd b1 b2, hb, hn =>
            refine ⟨42, at0 rfl, ?_⟩
            walk_at "go"
            refine sides_run ha (by omega) fun p2 H2 e2 hp2 => ixT (SqT.of hp2) rfl ?_
            refine sides_run hb (by omega) fun p3 H3 e3 hp3 => ixT (SqT.of hp3) rfl ?_
            walk_at "go"
            have m3 : Mx p (upd H p (.lst [])) H3 := (m1.trans (Mx.of e2)).trans (Mx.of e3)
            have l3 : H3 p = some (.lst []) := e3 _ _ (e2 _ _ l1)
            walk_at "br"
            · intro he
              have he2 : a2 = b1 := enc_inj' (ok_nd.mp ha).2 (ok_nd.mp hb).1 he
              subst he2
              walk_at "go"
              refine ⟨tyL l3, sides_run ha (by omega) fun p4 H4 e4 hp4 => ixT (SqT.of hp4) rfl ⟨by decide, fun p5 hp5 => ?_⟩⟩
              have l4 : H4 p = some (.lst []) := e4 _ _ l3
              have l5 : (upd H4 p5 (.tup [V.int 1, S (enc a2)])) p = some (.lst []) := (Evl.Ex.new hp5) _ _ l4
              refine rApp l5 (by decide) ?_
              refine ⟨((m3.trans (Mx.of e4)).trans (Mx.of (Evl.Ex.new hp5))).trans Mx.upd, [.ref p5], upd_same, ?_⟩
              rw [show red1 (.nd (.nd a1 a2) (.nd a2 b2)) = [(1, a2)] by simp [red1]]
              exact .cons ⟨p5, rfl, Mx.upd _ _ (ne_of_none (l4 ▸ rfl : H4 p = some (.lst [])) hp5).symm upd_same⟩ .nil
            · intro he
              walk_at "go"
              exact ⟨m3, [], l3, by rw [show red1 (.nd (.nd a1 a2) (.nd b1 b2)) = [] from if_neg fun z => he (by rw [z])]; exact .nil⟩
      · rintro σ' H' ⟨rfl, m2, xs, l2, t2⟩
        walk_at "go"
        have z2 : xs.length ≤ 3 := by
          have h1 := t2.length
          have h2 : (red1 (.nd a b)).length ≤ 3 := by
            have := red_len (.nd a b)
            unfold red at this
            rw [List.length_append] at this
            omega
          omega
        -- the second rule
        refine ⟨fun σ' H'' => σ' = [some (S (enc (.nd a b))), some (.ref p), some (S (enc a)), some (S (enc b))] ∧ Mx p H' H'' ∧ ∃ ys, H'' p = some (.lst (xs ++ ys)) ∧ Paired (fun v q => tellR q H'' v) ys (red2 (.nd a b)), ?_, ?_⟩
        · walk_at "go"
          refine ⟨by omega, ?_⟩
          match b, hb, hn with
          | .lf c, hb, hn =>
            refine ⟨c, at0 rfl, ?_⟩
            rw [decide_eq_false (isL_ne hb)]
            walk_at "go"
            exact ⟨Mx.refl, [], by rw [List.append_nil]; exact l2, .nil⟩
          | .nd b1 b2, hb, hn =>
            refine ⟨42, at0 rfl, ?_⟩
            walk_at "go"
            have hn2 : (enc (.nd b1 b2)).length = 1 + (enc b1).length + (enc b2).length := by simp [enc]; omega
            refine sides_run hb (by omega) fun p2 H2 e2 hp2 => ixT (SqT.of hp2) rfl ?_
            walk_at "go"
            refine ⟨by omega, ?_⟩
            match b1, hb, hn, hn2, hp2 with
            | .lf c, hb, hn, hn2, hp2 =>
              refine ⟨c, at0 rfl, ?_⟩
              rw [decide_eq_false (isL_ne (ok_nd.mp hb).1)]
              walk_at "go"
              exact ⟨Mx.of e2, [], by rw [List.append_nil]; exact e2 _ _ l2, .nil⟩
            | .nd x y, hb, hn, hn2, hp2 =>
              have hb1 := (ok_nd.mp hb).1
              refine ⟨42, at0 rfl, ?_⟩
              walk_at "go"
              refine sides_run hb (by omega) fun p3 H3 e3 hp3 => ixT (SqT.of hp3) rfl ?_
              refine sides_run hb1 (by omega) fun p4 H4 e4 hp4 => ixT (SqT.of hp4) rfl ?_
              walk_at "go"
              have e24 : Evl.Ex H' H4 := (e2.trans e3).trans e4
              walk_at "br"
              · intro he
                have he2 : x = a := enc_inj' (ok_nd.mp hb1).1 ha he
                subst he2
                walk_at "go"
                refine ⟨tyL (e24 _ _ l2), sides_run hb (by omega) fun p5 H5 e5 hp5 => ixT (SqT.of hp5) rfl ⟨by decide, fun p6 hp6 => ?_⟩⟩
                have l5 : H5 p = some (.lst xs) := e5 _ _ (e24 _ _ l2)
                refine rApp ((Evl.Ex.new hp6) _ _ l5) (by omega) ?_
                refine ⟨((Mx.of e24).trans (Mx.of e5)).trans ((Mx.of (Evl.Ex.new hp6)).trans Mx.upd), [.ref p6], upd_same, ?_⟩
                rw [show red2 (.nd x (.nd (.nd x y) b2)) = [(2, .nd x y)] by simp [red2]]
                exact .cons ⟨p6, rfl, Mx.upd _ _ (ne_of_none l5 hp6).symm upd_same⟩ .nil
              · intro he
                walk_at "go"
                exact ⟨Mx.of e24, [], by rw [List.append_nil]; exact e24 _ _ l2, by rw [show red2 (.nd a (.nd (.nd x y) b2)) = [] from if_neg fun z => he (by rw [z])]; exact .nil⟩
        · rintro σ' H'' ⟨rfl, m3, ys, l3, t3⟩
          walk_at "go"
          have z3 : ys.length ≤ 3 := by
            have h1 := t3.length
            have h2 : (red2 (.nd a b)).length ≤ 3 := by
              have := red_len (.nd a b)
              unfold red at this
              rw [List.length_append, List.length_append] at this
              omega
            omega
          -- the third rule
          refine ⟨fun σ' H3 => σ' = [some (S (enc (.nd a b))), some (.ref p), some (S (enc a)), some (S (enc b))] ∧ Mx p H'' H3 ∧ ∃ zs, H3 p = some (.lst (xs ++ ys ++ zs)) ∧ Paired (fun v q => tellR q H3 v) zs (red3 (.nd a b)), ?_, ?_⟩
          · walk_at "go"
            refine ⟨by omega, ?_⟩
            match a, ha, hn with
            | .lf c, ha, hn =>
              refine ⟨c, at0 rfl, ?_⟩
              rw [decide_eq_false (isL_ne ha)]
              walk_at "go"
              exact ⟨Mx.refl, [], by rw [List.append_nil]; exact l3, .nil⟩
            | .nd a1 a2, ha, hn =>
              refine ⟨42, at0 rfl, ?_⟩
              walk_at "go"
              have hn2 : (enc (.nd a1 a2)).length = 1 + (enc a1).length + (enc a2).length := by simp [enc]; omega
              refine sides_run ha (by omega) fun p2 H2 e2 hp2 => ixT (SqT.of hp2) rfl ?_
              walk_at "go"
              refine ⟨by omega, ?_⟩
              match a2, ha, hn, hn2, hp2 with
              | .lf c, ha, hn, hn2, hp2 =>
                refine ⟨c, at0 rfl, ?_⟩
                rw [decide_eq_false (isL_ne (ok_nd.mp ha).2)]
                walk_at "go"
                exact ⟨Mx.of e2, [], by rw [List.append_nil]; exact e2 _ _ l3, .nil⟩
              | .nd y z, ha, hn, hn2, hp2 =>
                have ha2 := (ok_nd.mp ha).2
                refine ⟨42, at0 rfl, ?_⟩
                walk_at "go"
                refine sides_run ha (by omega) fun p3 H3 e3 hp3 => ixT (SqT.of hp3) rfl ?_
                refine sides_run ha2 (by omega) fun p4 H4 e4 hp4 => ixT (SqT.of hp4) rfl ?_
                walk_at "go"
                have e24 : Evl.Ex H'' H4 := (e2.trans e3).trans e4
                walk_at "br"
                · intro he
                  have he2 : z = b := enc_inj' (ok_nd.mp ha2).2 hb he
                  subst he2
                  walk_at "go"
                  refine ⟨tyL (e24 _ _ l3), sides_run ha (by omega) fun p5 H5 e5 hp5 => ixT (SqT.of hp5) rfl ⟨by decide, fun p6 hp6 => ?_⟩⟩
                  have l5 : H5 p = some (.lst (xs ++ ys)) := e5 _ _ (e24 _ _ l3)
                  refine rApp ((Evl.Ex.new hp6) _ _ l5) (by rw [List.length_append]; omega) ?_
                  refine ⟨((Mx.of e24).trans (Mx.of e5)).trans ((Mx.of (Evl.Ex.new hp6)).trans Mx.upd), [.ref p6], upd_same, ?_⟩
                  rw [show red3 (.nd (.nd a1 (.nd y z)) z) = [(3, .nd y z)] by simp [red3]]
                  exact .cons ⟨p6, rfl, Mx.upd _ _ (ne_of_none l5 hp6).symm upd_same⟩ .nil
                · intro he
                  walk_at "go"
                  exact ⟨Mx.of e24, [], by rw [List.append_nil]; exact e24 _ _ l3, by rw [show red3 (.nd (.nd a1 (.nd y z)) b) = [] from if_neg fun w => he (by rw [w])]; exact .nil⟩
          · rintro σ' H3 ⟨rfl, m4, zs, l4, t4⟩
            walk_at "go"
            have mono : ∀ {G G' : Hp} {us : List V} {qs : List (Nat × Tm)}, Mx p G G' → (∃ ws, G p = some (.lst ws)) → Paired (fun v q => tellR q G v) us qs → Paired (fun v q => tellR q G' v) us qs := fun m ⟨ws, hw⟩ t => L2.Paired.mapP t fun v q ⟨w, h1, h2⟩ => ⟨w, h1, m.at hw h2 (by intro z; cases z)⟩
            refine k p H3 (xs ++ ys ++ zs) hp (((m2.trans m3).trans m4).ex hp) l4 ?_
            have t2' := mono (m3.trans m4) ⟨_, l2⟩ t2
            have t3' := mono m4 ⟨_, l3⟩ t3
            rw [List.append_assoc]
            exact pair_app t2' (pair_app t3' t4)
abbrev sl__law_steps : List Str := ["term", "found", "index", "part", "rule", "result"]
theorem sc__law_steps : FnScope sl__law_steps ["term"] (defScope s__law_steps) := ⟨rfl, rfl, rfl, by decide +kernel, rfl, by decide +kernel, by decide +kernel⟩
theorem st__law_steps (v0 : V) : L2.start sl__law_steps [v0] = [some v0, none, none, none, none, none] := rfl
theorem pair_get {α β : Type} {F : α → β → Prop} : ∀ {a : List α} {b : List β} {i : Nat} {x : α}, Paired F a b → a[i]? = some x → ∃ y, b[i]? = some y ∧ F x y
  | _, _, _, _, .nil, e => by simp at e
  | _, _, 0, _, .cons r _, e => by simp at e; subst e; exact ⟨_, rfl, r⟩
  | _, _, i + 1, _, .cons _ t, e => by
    obtain ⟨y, h1, h2⟩ := pair_get (i := i) t (by simpa using e)
    exact ⟨y, by simpa using h1, h2⟩
theorem for_via {te : TE} {g : TG} {tb : TS} {D : Ends} {σ : L2.St} {H : Hp} : tFor (iK K te) g tb D σ H = te σ H fun v H1 => tFor (iK K (tC v)) g tb D σ H1 := rfl
/-- all steps, as a fresh list -/
def spAll : Sp := fun vs H Q _ => ∃ t : Tm, vs = [S (enc t)] ∧ ok t = true ∧ (enc t).length ≤ 100000 ∧ ∀ p H2 xs, H p = none → Evl.Ex H H2 → H2 p = some (.lst xs) → Told H2 xs (steps t) → Q (.ref p) H2
theorem ok__law_steps (T : Top K mg) : FnOk P w K mg base CX0 4 T._law_steps.f T._law_steps.fd ["term"] spAll := by
  refine T._law_steps.F.ok sc__law_steps (fun vs H Q E h => ?_) (fun cdv A outer s H vs Q E hr h => ?_)
  · obtain ⟨t, rfl, _⟩ := h
    rfl
  · obtain ⟨t, rfl, ht, hl, k⟩ := h
    refine ⟨_, (pss_cons (ps_set (i := 1) sc__law_steps.nd rfl (by first | exact Or.inl rfl | exact Or.inr rfl) (pe_lst pa_nil)) (pss_cons (ps_for PassesOwn.never (by rfl) (pi_range1 (by rfl) T.range (pa_cons (pe_callB (kk_len (K := K) rfl) (by rfl) T.len (by decide +kernel) (pa_cons (pv 0) pa_nil)) pa_nil)) (pg_name (i := 2) sc__law_steps.nd rfl (by first | exact Or.inl rfl | exact Or.inr rfl)) (pss_cons (ps_set (i := 3) sc__law_steps.nd rfl (by first | exact Or.inl rfl | exact Or.inr rfl) (callO (ok__law_part_of T) (hr.mono (by first | decide | omega)) (by rfl) (pa_cons (pv 0) (pa_cons (pv 2) pa_nil)))) (pss_one (ps_for PassesOwn.never (by rfl) (kk_pi (K := K) rfl (callO (ok__law_rule_results T) (hr.mono (by first | decide | omega)) (by rfl) (pa_cons (pv 3) pa_nil))) (kk_gtup (K := K) rfl (pg_tup (n := 2) (by rfl) (pgs_cons (pg_name (i := 4) sc__law_steps.nd rfl (by first | exact Or.inl rfl | exact Or.inr rfl)) (pgs_cons (pg_name (i := 5) sc__law_steps.nd rfl (by first | exact Or.inl rfl | exact Or.inr rfl)) pgs_nil)))) (pss_one (ps_expr (kk_bm (K := K) rfl (pe_bm PySem.F.plainAttrs_list PySem.F.slot_list_append PySem.F.type_list_append mt_append (pv 1) (pa_cons (pe_tup (pa_cons (pv 2) (pa_cons (pv 4) (pa_cons (pe_op (kk_add (K := K) rfl) (pe_op (kk_add (K := K) rfl) (pe_slice (kk_sl (K := K) rfl) (pv 0) po_none (po_some (pv 2))) (pv 5)) (pe_slice (kk_sl (K := K) rfl) (pv 0) (po_some (pe_op (kk_add (K := K) rfl) (pv 2) (pe_callB (kk_len (K := K) rfl) (by rfl) T.len (by decide +kernel) (pa_cons (pv 3) pa_nil)))) po_none)) pa_nil)))) pa_nil))))))))) (pss_one (ps_ret (pv 1))))), ?_⟩
    rw [st__law_steps]
    walk_at "go"
    refine ⟨by decide, fun p hp => ?_⟩
    have mono : ∀ {G G' : Hp} {us : List V} {qs : List (Nat × Nat × Tm)}, Mx p G G' → (∃ ws, G p = some (.lst ws)) → Told G us qs → Told G' us qs := fun m ⟨ws, hw⟩ t => L2.Paired.mapP t fun v q ⟨w, h1, h2⟩ => ⟨w, h1, m.at hw h2 (by intro z; cases z)⟩
    refine loop_R (n := ((enc t).length : Int)) (fun Q q => by walk_at "go"; exact ⟨by omega, q⟩) (by omega) (fun i σ' H' => ∃ (o2 o3 o4 o5 : Option V) (xs : List V) (dn : List (Nat × Nat × Tm)), σ' = [some (S (enc t)), some (.ref p), o2, o3, o4, o5] ∧ Mx p (upd H p (.lst [])) H' ∧ H' p = some (.lst xs) ∧ Told H' xs dn ∧ steps t = dn ++ stepsFrom i ((subs t).drop i))
      ⟨none, none, none, none, [], [], rfl, Mx.refl, upd_same, .nil, rfl⟩ ?_ ?_
    · rintro i σ' H1 hi ⟨o2, o3, o4, o5, xs, dn, rfl, m1, l1, told, hst⟩
      walk_at "go"
      have hi2 : i < (enc t).length := by omega
      obtain ⟨s, f, hsf⟩ := subs_some t hi2
      obtain ⟨f1, f2, f3, f4, f5⟩ := subs_at t i s f hsf
      obtain ⟨os, of⟩ := f4 ht
      have hdrop : (subs t).drop i = (s, f) :: (subs t).drop (i + 1) := by
        obtain ⟨hlt, e⟩ := List.getElem?_eq_some_iff.mp hsf
        rw [← e, List.drop_eq_getElem_cons hlt]
      have hst2 : steps t = dn ++ ((red s).map (fun q => (i, q.1, f q.2)) ++ stepsFrom (i + 1) ((subs t).drop (i + 1))) := by
        rw [hst, hdrop]
        rfl
      have hz := drop_len f2 (Nat.le_of_lt hi2)
      refine spPart_S (by omega) os f2 ?_
      walk_at "go"
      rw [for_via]
      walk_at "go"
      refine ⟨s, rfl, os, by omega, fun q H2 rs hq e2 hrs res => ?_⟩
      have hqp : q ≠ p := fun z => by rw [z, l1] at hq; cases hq
      have hlen := congrArg List.length hst2
      rw [List.length_append, List.length_append, List.length_map] at hlen
      have hsl := steps_len t
      have hxs := told.length
      have hrl := res.length
      refine loop_L (a := q) (xs := rs) (fun Q q => q) (fun n σ' H' => ∃ (o4 o5 : Option V) (ys : List V), σ' = [some (S (enc t)), some (.ref p), some (V.int (i : Nat)), some (S (enc s)), o4, o5] ∧ Mx p H2 H' ∧ H' p = some (.lst ys) ∧ n ≤ (red s).length ∧ Told H' ys (dn ++ ((red s).take n).map (fun q => (i, q.1, f q.2))))
        ⟨o4, o5, xs, rfl, Mx.refl, e2 _ _ l1, Nat.zero_le _, by rw [List.take_zero, List.map_nil, List.append_nil]; exact told.mono e2⟩ ?_ ?_ ?_
      · rintro n σ' H' _ ⟨_, _, _, rfl, m, _⟩
        exact SqL.of (m q _ hqp hrs)
      · rintro n x σ' H3 hx ⟨o4, o5, ys, rfl, m3, l3, hn, told3⟩
        obtain ⟨⟨r, u⟩, hru, a, rfl, ha⟩ := pair_get res hx
        have ha3 : H3 a = some (.tup [.int (r : Nat), S (enc u)]) := m3.at (e2 _ _ l1) ha (by intro z; cases z)
        refine g_unpack (SqT.of ha3) rfl ?_
        walk_at "go"
        have hmem : (r, u) ∈ red s := List.mem_of_getElem? hru
        obtain ⟨u1, u2, _⟩ := red_sz hmem
        have hlu := enc_len u
        have hls := enc_len s
        have hnl := (List.getElem?_eq_some_iff.mp hru).1
        have htl := told3.length
        rw [List.length_append, List.length_map, List.length_take] at htl
        rw [cutL_hi (by omega), show (i : Int) + ((enc s).length : Nat) = ((i + (enc s).length : Nat) : Int) by omega, cutL_lo (by omega)]
        have htk : (List.take i (enc t)).length = i := by rw [List.length_take]; omega
        refine ⟨tyL l3, by omega, by omega, by omega, by omega, by rw [List.length_append, List.length_drop]; omega, by decide, fun p2 hp2 => ?_⟩
        rw [← f1 u]
        refine rApp ((Evl.Ex.new hp2) _ _ l3) (by omega) ?_
        have m4 : Mx p H3 (upd (upd H3 p2 (.tup [V.int (i : Nat), V.int (r : Nat), S (enc (f u))])) p (.lst (ys ++ [V.ref p2]))) := (Mx.of (Evl.Ex.new hp2)).trans Mx.upd
        refine ⟨_, _, ys ++ [.ref p2], rfl, m3.trans m4, upd_same, hnl, ?_⟩
        rw [List.take_add_one, hru, Option.toList_some, List.map_append, ← List.append_assoc]
        have told4 := mono m4 ⟨_, l3⟩ told3
        exact Told.snoc (s := (i, r, f u)) ⟨p2, rfl, Mx.upd _ _ (ne_of_none l3 hp2).symm upd_same⟩ told4
      · rintro σ' H3 ⟨o4, o5, ys, rfl, m3, l3, hn, told3⟩
        rw [hrl, List.take_length] at told3
        exact ⟨_, _, _, _, ys, _, rfl, (m1.trans (Mx.of e2)).trans m3, l3, told3, by rw [hst2, List.append_assoc]⟩
    · rintro σ' H1 ⟨o2, o3, o4, o5, xs, dn, rfl, m1, l1, told, hst⟩
      rw [show ((enc t).length : Int).toNat = (enc t).length by omega, List.drop_of_length_le (by rw [subs_len]; exact Nat.le_refl _)] at hst
      have e : steps t = dn := by rw [hst]; simp [stepsFrom]
      walk_at "go"
      exact k p H1 xs hp (m1.ex hp) l1 (by rw [e]; exact told)
end
end LW

end

section
set_option maxHeartbeats 4000000

namespace LW
open PySem PySem.Spec PyProof.Rows L2 KG KT
local macro_rules | `(tactic| walk_at "go") => `(tactic| try simp only [b_St, b_Sf, b_Et, b_Ef, b_At, b_Af, b_Ot, b_Of, b_AVt, b_AVf, b_OVt, b_OVf, b_Ct, b_Cf, g_seq, g_asg, g_name, g_ret, g_retN, g_next, g_brk, g_cont, g_drop, g_ifS, g_if, g_and, g_or, g_not, g_andV, g_orV, g_notV, g_chain, g_test, g_B, g_op, g_un, g_neg, g_var, g_c, g_nil, g_cons, g_CB, g_call, g_par, g_par3, g_aug, g_sl, g_part, g_nopart, g_tup, g_lst, g_gcons, g_gnil, g_BM, g_dnew, g_yes, g_never, g_tupK, g_listK, g_KCall, g_for1, g_tru, k_then, k_0, k_plain, k_if, k_yield, b_Gt, b_Gf, rx_K, kon_K, g_M1, g_dget2, g_isS, g_wipe0, g_wipe1, g_wipe2, g_wipe3, b_Lt, b_Lf,
  kAdd_i, kAdd_s, kMul_i, kMul_s, kInt_i, kInt0_i, kEq_i, kEq_s, kNe_i, kNe_s, kEq_b, kNe_b, kIn_s, kNotIn_s, kLen_s, kIx_s, kSl_s, kAug_i, kAbs_i, kMax_i, kMin_i, kIntOf_i, kIntOf_b, g_sub, isN_S, isN_i, isN_n, isN_r, notN_S, notN_i, notN_n, notN_r, isN_b, notN_b, tru_b, tru_i, tru_n, ex_bl, ex_int, ex_some, par_2, par_3, isi_S kit_ss, cx_K, cx_Kn, Bool.not_true, Bool.not_false,
  List.set_cons_zero, List.set_cons_succ, List.getElem?_cons_zero, List.getElem?_cons_succ, List.map_cons, List.map_nil, List.append_nil, List.length_cons, List.length_nil, Nat.zero_add, dec_one, true_and, decide_true, decide_false])
local macro_rules | `(tactic| walk_at "br") => `(tactic| first | refine br_W ?_ ?_ | refine br_G ?_ ?_ | refine br_L ?_ ?_ | refine br_Ln ?_ ?_ | refine br_Lm ?_ ?_ | refine br_Lb ?_ ?_ | refine br_S ?_ ?_ | refine br_E ?_ ?_ | refine br_A ?_ ?_ | refine br_O ?_ ?_ | refine br_AV ?_ ?_ | refine br_OV ?_ ?_ | refine br_C ?_ ?_ | refine br_Sn ?_ ?_ | refine br_En ?_ ?_ | refine br_An ?_ ?_ | refine br_On ?_ ?_ | refine br_AVn ?_ ?_ | refine br_OVn ?_ ?_ | refine br_Cn ?_ ?_ | refine br_Sm ?_ ?_ | refine br_Em ?_ ?_ | refine br_Am ?_ ?_ | refine br_Om ?_ ?_ | refine br_AVm ?_ ?_ | refine br_OVm ?_ ?_ | refine br_Cm ?_ ?_ | refine br_Sb ?_ ?_ | refine br_Eb ?_ ?_ | refine br_Ab ?_ ?_ | refine br_Ob ?_ ?_ | refine br_AVb ?_ ?_ | refine br_OVb ?_ ?_ | refine br_Cb ?_ ?_)

theorem kNe_same {K : PySem.W.Frag} {x : Str} {H : Hp} {Q : VK} : kNe K (.str x) (.str x) H Q ↔ Q (.bl false) H := by
  unfold kNe
  rw [if_pos (by rfl)]
  simp
theorem show_b {K : PySem.W.Frag} {b : Bool} {H : Hp} {Q : VK} (q : Q (.str (PyData.shown (.bool b))) H) : rRepr K [.bl b] H Q := ⟨_, .bool b, rfl, .bl b, rfl, by show 0 < 64; decide, by cases b <;> decide +kernel, q⟩
/-! ### the steps as data -/
theorem stepsFrom_mem {i r : Nat} {u : Tm} : ∀ {ps : List (Tm × (Tm → Tm))} {k : Nat}, (i, r, u) ∈ stepsFrom k ps → ∃ j p x, ps[j]? = some p ∧ i = k + j ∧ (r, x) ∈ red p.1 ∧ u = p.2 x
  | [], _, h => by cases h
  | p :: ps, k, h => by
    rw [stepsFrom] at h
    rcases List.mem_append.mp h with h | h
    · unfold stepsAt at h
      obtain ⟨⟨r', x⟩, hx, e⟩ := List.mem_map.mp h
      cases e
      exact ⟨0, p, x, rfl, rfl, hx, rfl⟩
    · obtain ⟨j, q, x, h1, h2, h3, h4⟩ := stepsFrom_mem h
      exact ⟨j + 1, q, x, by simpa using h1, by omega, h3, h4⟩
theorem steps_mem {t u : Tm} {i r : Nat} (h : (i, r, u) ∈ steps t) : ∃ s f x, (subs t)[i]? = some (s, f) ∧ (r, x) ∈ red s ∧ u = f x := by
  obtain ⟨j, ⟨s, f⟩, x, h1, h2, h3, h4⟩ := stepsFrom_mem h
  exact ⟨s, f, x, by rw [h2, Nat.zero_add]; exact h1, h3, h4⟩
theorem steps_ok {t u : Tm} {i r : Nat} (ht : ok t = true) (h : (i, r, u) ∈ steps t) : i < (enc t).length ∧ r < 4 ∧ ok u = true ∧ sz u < sz t := by
  obtain ⟨s, f, x, h1, h2, rfl⟩ := steps_mem h
  obtain ⟨_, _, _, h6, h7⟩ := subs_at t i s f h1
  obtain ⟨os, of⟩ := h6 ht
  obtain ⟨r1, r2, r3⟩ := red_sz h2
  have := h7 x
  exact ⟨by rw [← subs_len]; exact (List.getElem?_eq_some_iff.mp h1).1, r3, of x (r2 os), by omega⟩
theorem enc_codes : ∀ (t : Tm), ok t = true → ∀ c ∈ enc t, c < 128
  | .lf c, h, d, hd => by
    have e : d = c := List.mem_singleton.mp hd
    subst e
    have h' : isL d = true := h
    unfold isL at h'
    simp at h'
    omega
  | .nd a b, h, d, hd => by
    obtain ⟨ha, hb⟩ := ok_nd.mp h
    rcases List.mem_cons.mp hd with e | hd
    · omega
    · rcases List.mem_append.mp hd with hd | hd
      · exact enc_codes a ha d hd
      · exact enc_codes b hb d hd
def stepD (s : Nat × Nat × Tm) : PyData := .tuple [.int (s.1 : Nat), .int (s.2.1 : Nat), .str ⟨(enc s.2.2).toArray⟩]
section
variable {K : PySem.W.Frag} {H : Hp}
theorem tellS.dp {s : Nat × Nat × Tm} {v : V} : tellS s H v → Dp K H v (stepD s)
  | ⟨a, e, h⟩ => by
    subst e
    exact .tup (SqT.of h) (.cons (.int _) (.cons (.int _) (.cons (.str _) .nil)))
theorem Told.dp : ∀ {ys : List V} {ss : List (Nat × Nat × Tm)}, Told H ys ss → DpAll K H ys (ss.map stepD)
  | _, _, .nil => .nil
  | _, _, .cons h t => .cons h.dp (Told.dp t)
end
/-- small enough to be shown -/
structure Sm (ss : List (Nat × Nat × Tm)) : Prop where
  all : ∀ s ∈ ss, s.1 < 1000 ∧ s.2.1 < 4 ∧ ok s.2.2 = true ∧ (enc s.2.2).length ≤ 400
theorem short_int : ∀ n : Nat, n < 1000 → (PyData.shown (.int (n : Int))).length ≤ 13 := by
  have h : ∀ n : Fin 1000, (toString ((n.val : Nat) : Int) : Str).length ≤ 13 := by decide +kernel
  intro n hn
  have := h ⟨n, hn⟩
  simpa [PyData.shown] using this
theorem weight_int {n : Nat} (h : n < 1000) : PyData.weight (.int (n : Int)) ≤ 10 := by
  unfold PyData.weight
  split
  · omega
  · have : (n : Int).natAbs.log2 < 10 := PySem.Flt.log2_lt_of (by decide) (by simp; omega)
    omega
theorem sm_data : ∀ {ss : List (Nat × Nat × Tm)}, (∀ s ∈ ss, s.1 < 1000 ∧ s.2.1 < 4 ∧ ok s.2.2 = true ∧ (enc s.2.2).length ≤ 400) →
    PyData.canLayAll0 (ss.map stepD) = true ∧ PyData.showableAll (ss.map stepD) = true ∧ PyData.depthAll (ss.map stepD) ≤ 1 ∧ PyData.weightAll (ss.map stepD) ≤ 430 * ss.length ∧ PyData.intsShortAll 13 (ss.map stepD) = true
  | [], _ => by simp [PyData.canLayAll0, PyData.showableAll, PyData.depthAll, PyData.weightAll, PyData.intsShortAll]
  | s :: ss, h => by
    obtain ⟨h1, h2, h3, h4, h5⟩ := sm_data fun x hx => h x (List.mem_cons_of_mem _ hx)
    obtain ⟨g1, g2, g3, g4⟩ := h s (List.mem_cons_self ..)
    have w1 := weight_int g1
    have w2 := weight_int (show s.2.1 < 1000 by omega)
    have i1 := short_int s.1 g1
    have i2 := short_int s.2.1 (by omega)
    have l1 : (s.1 : Int).natAbs.log2 < 1920 := Nat.lt_of_lt_of_le (PySem.Flt.log2_lt_of (n := (s.1 : Int).natAbs) (k := 10) (by decide) (by simp; omega)) (by decide)
    have l2 : (s.2.1 : Int).natAbs.log2 < 1920 := Nat.lt_of_lt_of_le (PySem.Flt.log2_lt_of (n := (s.2.1 : Int).natAbs) (k := 10) (by decide) (by simp; omega)) (by decide)
    have so : PyData.canLay0 (.str ⟨(enc s.2.2).toArray⟩) = true := by
      simp only [PyData.canLay0, PyData.strOk]
      rw [← Array.all_toList, List.all_eq_true]
      intro c hc
      have := enc_codes s.2.2 g3 c (by simpa using hc)
      simp
      omega
    refine ⟨?_, ?_, ?_, ?_, ?_⟩
    · simp only [List.map_cons, PyData.canLayAll0, stepD, PyData.canLay0, h1, Bool.and_true, Bool.true_and]
      simpa only [PyData.canLay0] using so
    · simp only [List.map_cons, PyData.showableAll, stepD, PyData.showable, h2, Bool.and_true, decide_eq_true l1, decide_eq_true l2]
    · simp only [List.map_cons, PyData.depthAll, stepD, PyData.depth]
      omega
    · simp only [List.map_cons, PyData.weightAll, stepD, List.length_cons]
      have e1 : PyData.weight (.tuple [.int (s.1 : Nat), .int (s.2.1 : Nat), .str ⟨(enc s.2.2).toArray⟩]) = PyData.weight (.int (s.1 : Nat)) + 1 + (PyData.weight (.int (s.2.1 : Nat)) + 1 + ((enc s.2.2).length + 1 + 0)) := by
        simp only [PyData.weight, PyData.weightAll]
        rfl
      omega
    · simp only [List.map_cons, PyData.intsShortAll, stepD, PyData.intsShort, h5, Bool.and_true, decide_eq_true i1, decide_eq_true i2]
theorem sm_steps {t : Tm} (ht : ok t = true) (hz : sz t ≤ 200) : ∀ s ∈ steps t, s.1 < 1000 ∧ s.2.1 < 4 ∧ ok s.2.2 = true ∧ (enc s.2.2).length ≤ 400 := by
  rintro ⟨i, r, u⟩ h
  obtain ⟨h1, h2, h3, h4⟩ := steps_ok ht h
  have e1 := enc_len t
  have e2 := enc_len u
  exact ⟨by show i < 1000; omega, h2, h3, by show (enc u).length ≤ 400; omega⟩
theorem shown_steps {t : Tm} (ht : ok t = true) (hz : sz t ≤ 200) : (PyData.tuple ((steps t).map stepD)).showable = true ∧ (PyData.tuple ((steps t).map stepD)).depth < 64 ∧ (PyData.tuple ((steps t).map stepD)).shown.length ≤ sizeLine := by
  obtain ⟨h1, h2, h3, h4, h5⟩ := sm_data (sm_steps ht hz)
  have e1 := enc_len t
  have e2 := steps_len t
  have hd : (PyData.tuple ((steps t).map stepD)).depth < 64 := by
    simp only [PyData.depth]
    omega
  refine ⟨by simpa only [PyData.showable] using h2, hd, ?_⟩
  have hl : PyData.layable0 (PyData.tuple ((steps t).map stepD)) = true := by
    unfold PyData.layable0
    simp only [PyData.canLay0, h1, Bool.true_and, Bool.and_eq_true, decide_eq_true_eq]
    refine ⟨by omega, ?_⟩
    simp only [PyData.weight]
    omega
  have h6 := PyProof.Rows.shown_le13 hl (by simpa only [PyData.intsShort] using h5)
  rw [sizeLine_eq]
  omega
end LW

end

section
set_option maxHeartbeats 4000000

namespace LW
open PySem PySem.Spec PyProof.Rows L2 KG KT
local macro_rules | `(tactic| walk_at "go") => `(tactic| try simp only [b_St, b_Sf, b_Et, b_Ef, b_At, b_Af, b_Ot, b_Of, b_AVt, b_AVf, b_OVt, b_OVf, b_Ct, b_Cf, g_seq, g_asg, g_name, g_ret, g_retN, g_next, g_brk, g_cont, g_drop, g_ifS, g_if, g_and, g_or, g_not, g_andV, g_orV, g_notV, g_chain, g_test, g_B, g_op, g_un, g_neg, g_var, g_c, g_nil, g_cons, g_CB, g_call, g_par, g_par3, g_aug, g_sl, g_part, g_nopart, g_tup, g_lst, g_gcons, g_gnil, g_BM, g_dnew, g_yes, g_never, g_tupK, g_listK, g_KCall, g_for1, g_tru, k_then, k_0, k_plain, k_if, k_yield, b_Gt, b_Gf, rx_K, kon_K, g_M1, g_dget2, g_isS, g_wipe0, g_wipe1, g_wipe2, g_wipe3, b_Lt, b_Lf,
  kAdd_i, kAdd_s, kMul_i, kMul_s, kInt_i, kInt0_i, kEq_i, kEq_s, kNe_i, kNe_s, kEq_b, kNe_b, kIn_s, kNotIn_s, kLen_s, kIx_s, kSl_s, kAug_i, kAbs_i, kMax_i, kMin_i, kIntOf_i, kIntOf_b, g_sub, isN_S, isN_i, isN_n, isN_r, notN_S, notN_i, notN_n, notN_r, isN_b, notN_b, tru_b, tru_i, tru_n, ex_bl, ex_int, ex_some, par_2, par_3, isi_S kit_ss, cx_K, cx_Kn, Bool.not_true, Bool.not_false,
  List.set_cons_zero, List.set_cons_succ, List.getElem?_cons_zero, List.getElem?_cons_succ, List.map_cons, List.map_nil, List.append_nil, List.length_cons, List.length_nil, Nat.zero_add, dec_one, true_and, decide_true, decide_false])
local macro_rules | `(tactic| walk_at "br") => `(tactic| first | refine br_W ?_ ?_ | refine br_G ?_ ?_ | refine br_L ?_ ?_ | refine br_Ln ?_ ?_ | refine br_Lm ?_ ?_ | refine br_Lb ?_ ?_ | refine br_S ?_ ?_ | refine br_E ?_ ?_ | refine br_A ?_ ?_ | refine br_O ?_ ?_ | refine br_AV ?_ ?_ | refine br_OV ?_ ?_ | refine br_C ?_ ?_ | refine br_Sn ?_ ?_ | refine br_En ?_ ?_ | refine br_An ?_ ?_ | refine br_On ?_ ?_ | refine br_AVn ?_ ?_ | refine br_OVn ?_ ?_ | refine br_Cn ?_ ?_ | refine br_Sm ?_ ?_ | refine br_Em ?_ ?_ | refine br_Am ?_ ?_ | refine br_Om ?_ ?_ | refine br_AVm ?_ ?_ | refine br_OVm ?_ ?_ | refine br_Cm ?_ ?_ | refine br_Sb ?_ ?_ | refine br_Eb ?_ ?_ | refine br_Ab ?_ ?_ | refine br_Ob ?_ ?_ | refine br_AVb ?_ ?_ | refine br_OVb ?_ ?_ | refine br_Cb ?_ ?_)

section
variable {P : Program} {w : World} {K : PySem.W.Frag} {mg : Str → Option Value} {base : Heap}
abbrev sl_require_terms : List Str := ["one", "other"]
theorem sc_require_terms : FnScope sl_require_terms ["one", "other"] (defScope s_require_terms) := ⟨rfl, rfl, rfl, by decide +kernel, rfl, by decide +kernel, by decide +kernel⟩
theorem st_require_terms (v0 : V) (v1 : V) : L2.start sl_require_terms [v0, v1] = [some v0, some v1] := rfl
def spReqs : Sp := fun vs H Q _ => ∃ t u : Tm, vs = [S (enc t), S (enc u)] ∧ ok t = true ∧ sz t ≤ 200 ∧ ok u = true ∧ sz u ≤ 200 ∧ Q .non H
theorem ok_require_terms (T : Top K mg) : FnOk P w K mg base CX0 4 T.require_terms.f T.require_terms.fd ["one", "other"] spReqs := by
  refine T.require_terms.F.ok sc_require_terms (fun vs H Q E h => ?_) (fun cdv A outer s H vs Q E hr h => ?_)
  · obtain ⟨t, u, rfl, _⟩ := h
    rfl
  · obtain ⟨t, u, rfl, ht, hz, hu, hz2, k⟩ := h
    refine ⟨_, (pss_cons (ps_expr (callO (ok_require_term T) (hr.mono (by first | decide | omega)) (by rfl) (pa_cons (pv 0) pa_nil))) (pss_one (ps_expr (callO (ok_require_term T) (hr.mono (by first | decide | omega)) (by rfl) (pa_cons (pv 1) pa_nil))))), ?_⟩
    rw [st_require_terms]
    walk_at "go"
    refine ⟨t, rfl, ht, hz, ?_⟩
    walk_at "go"
    exact ⟨u, rfl, hu, hz2, k⟩
/-- one leads down to other by a step -/
def leads (t u : Tm) : Bool := (steps t).any fun s => decide (enc s.2.2 = enc u)
def spLeads : Sp := fun vs H Q _ => ∃ t u : Tm, vs = [S (enc t), S (enc u)] ∧ ok t = true ∧ sz t ≤ 200 ∧ Evl.RetV (.bl (leads t u)) H Q
theorem leads_run {H : Hp} {Q : VK} {E : XK} {t u : Tm} (ht : ok t = true) (hz : sz t ≤ 200) (k : Evl.RetV (.bl (leads t u)) H Q) : spLeads [S (enc t), S (enc u)] H Q E := ⟨t, u, rfl, ht, hz, k⟩
/-- a row of terms -/
abbrev Ch (ts : List Tm) : List V := ts.map fun t => S (enc t)
abbrev Fine (ts : List Tm) : Prop := ∀ t ∈ ts, ok t = true ∧ sz t ≤ 200
def NoTup (K : PySem.W.Frag) (v : V) (H : Hp) : Prop := ∃ m, kindV K v H = some m ∧ kitB m "tuple" = some false
theorem kind_tup {K : PySem.W.Frag} {H : Hp} {p : Addr} {xs : List V} (h : H p = some (.tup xs)) : kindV K (.ref p) H = some "tuple" := by
  show (match H p with | some (.lst _) => some "list" | some (.tup _) => some "tuple" | some (.dK _) => some "dict" | _ => none) = some "tuple"
  rw [h]
def spChain (K : PySem.W.Frag) : Sp := fun vs H Q _ => (∃ p ts, vs = [.ref p] ∧ H p = some (.tup (Ch ts)) ∧ Fine ts ∧ ts.length ≤ 100000 ∧ Evl.RetV (.bl (decide (1 ≤ ts.length ∧ ts.length ≤ 400))) H Q) ∨ ∃ v, vs = [v] ∧ NoTup K v H ∧ Q (.bl false) H
end
end LW

end

section
set_option maxHeartbeats 4000000
/-! E1: the promises of the older kind, over plain data. -/
namespace LW
open PySem PySem.Spec PyProof.Rows L2 KG KT DL
abbrev eD (t : Tm) : D := .str (enc t)
abbrev eDs (ts : List Tm) : List D := ts.map eD
def stD (s : Nat × Nat × Tm) : D := .tup [.int (s.1 : Nat), .int (s.2.1 : Nat), eD s.2.2]
section
variable {P : Program} {w : World} {K : PySem.W.Frag} {mg : Str → Option Value} {base : Heap} {tb : List (Addr × Str)}
theorem rv_str' {dd : Hid} {ex m : List Addr} {H : Hp} {l : List Nat} {v : V} (r : Rv K dd ex m H (.str l) v) : v = S l := rv_of_str r
def d_require_term : DSp := fun ds Q _ => ∃ t : Tm, ds = [eD t] ∧ ok t = true ∧ sz t ≤ 200 ∧ Q .non
theorem okd_require_term (T : Top K mg) : FnOk P w K mg base CX0 3 T.require_term.f T.require_term.fd ["value"] (spD K tb d_require_term) := (ok_require_term T).imp fun vs H Q E h => by
  obtain ⟨dd, ex, ds, Qd, Ed, et, R, r, n, ⟨t, rfl, ht, hz, q⟩, hq, _⟩ := h
  obtain ⟨v, rfl, r'⟩ := DL.rvs1 r
  obtain rfl := rv_of_str r'
  exact ⟨t, rfl, ht, hz, hq .non H .non R Grow.refl .non q⟩
def d_require_terms : DSp := fun ds Q _ => ∃ t u : Tm, ds = [eD t, eD u] ∧ ok t = true ∧ sz t ≤ 200 ∧ ok u = true ∧ sz u ≤ 200 ∧ Q .non
theorem okd_require_terms (T : Top K mg) : FnOk P w K mg base CX0 4 T.require_terms.f T.require_terms.fd ["one", "other"] (spD K tb d_require_terms) := (ok_require_terms T).imp fun vs H Q E h => by
  obtain ⟨dd, ex, ds, Qd, Ed, et, R, r, n, ⟨t, u, rfl, ht, hz, hu, hz2, q⟩, hq, _⟩ := h
  obtain ⟨v, w, rfl, r, r2⟩ := rvs2 r
  cases r; cases r2
  exact ⟨t, u, rfl, ht, hz, hu, hz2, hq .non H .non R Grow.refl .non q⟩
theorem rv_step {dd : Hid} {ex : List Addr} {H : Hp} {s : Nat × Nat × Tm} {v : V} (R : Rel K dd ex [] H []) (h : tellS s H v) : Rv K dd ex [] H (stD s) v := by
  obtain ⟨a, rfl, ha⟩ := h
  exact rv_tupAt R ha (.cons (.int _) (.cons (.int _) (.cons (.str _) .nil)))
theorem rvs_told {dd : Hid} {ex : List Addr} {H : Hp} (R : Rel K dd ex [] H []) : ∀ {ss : List (Nat × Nat × Tm)} {ys : List V}, Told H ys ss → Rvs K dd ex [] H (ss.map stD) ys
  | [], _, .nil => .nil
  | _ :: _, _, .cons h t => .cons (rv_step R h) (rvs_told R t)
def d_first_step : DSp := fun ds Q _ => ∃ t : Tm, ds = [eD t] ∧ ok t = true ∧ sz t ≤ 200 ∧ Q (match steps t with | [] => .non | s :: _ => stD s)
theorem okd_first_step (T : Top K mg) : FnOk P w K mg base CX0 20 T.first_step.f T.first_step.fd ["term"] (spD K tb d_first_step) := (ok_first_step T).imp fun vs H Q E h => by
  obtain ⟨dd, ex, ds, Qd, Ed, et, R, r, n, ⟨t, rfl, ht, hz, q⟩, hq, _⟩ := h
  obtain ⟨v, rfl, r'⟩ := DL.rvs1 r
  obtain rfl := rv_of_str r'
  refine ⟨t, rfl, ht, hz, fun e H2 e2 => ?_, fun s ss e v H2 e2 tl => ?_⟩
  · rw [e] at q
    obtain ⟨R2, g2⟩ := R.ofEx e2
    exact hq .non H2 .non R2 g2 .non q
  · rw [e] at q
    obtain ⟨R2, g2⟩ := R.ofEx e2
    exact hq _ H2 v R2 g2 (rv_step R2 tl) q
def d__law_steps : DSp := fun ds Q _ => ∃ t : Tm, ds = [eD t] ∧ ok t = true ∧ sz t ≤ 200 ∧ Q (.lst ((steps t).map stD))
theorem okd__law_steps (T : Top K mg) : FnOk P w K mg base CX0 4 T._law_steps.f T._law_steps.fd ["term"] (spD K tb d__law_steps) := (ok__law_steps T).imp fun vs H Q E h => by
  obtain ⟨dd, ex, ds, Qd, Ed, et, R, r, n, ⟨t, rfl, ht, hz, q⟩, hq, _⟩ := h
  obtain ⟨v, rfl, r'⟩ := DL.rvs1 r
  obtain rfl := rv_of_str r'
  refine ⟨t, rfl, ht, by have := enc_len t; omega, fun p H2 xs hn e2 hp tl => ?_⟩
  obtain ⟨R2, g2⟩ := R.ofEx e2
  exact hq _ H2 _ R2 g2 (rv_lstAt R hn hp (rvs_told R2 tl)) q
/-! the dice -/
def d__law_roll : DSp := fun ds Q _ => ∃ n : Int, ds = [.dice, .int n] ∧ 0 < n ∧ n < 2 ^ 100 ∧ ∀ r : Int, 0 ≤ r → r < n → Q (.int r)
theorem okd__law_roll (T : Top K mg) : FnOk P w K mg base CX0 1 T._law_roll.f T._law_roll.fd ["dice", "total"] (spD K tb d__law_roll) := (ok__law_roll T).imp fun vs H Q E h => by
  obtain ⟨dd, ex, ds, Qd, Ed, et, R, r, n, ⟨k, rfl, h0, h1, q⟩, hq, _⟩ := h
  obtain ⟨v, w, rfl, r, r2⟩ := rvs2 r
  obtain ⟨d, hd, rfl⟩ := rv_dice r
  cases r2
  refine ⟨d, k, rfl, R.ok.dc d hd, h0, h1, fun j H2 a b f => ?_⟩
  obtain ⟨R2, g2⟩ := R.ofFx hd f
  exact hq _ H2 _ R2 g2 (.int _) (q j a b)
theorem rvs_mem {dd : Hid} {ex m : List Addr} {H : Hp} {v : V} : ∀ {ds : List D} {vs : List V}, Rvs K dd ex m H ds vs → v ∈ vs → ∃ d ∈ ds, Rv K dd ex m H d v
  | _, _, .nil, h => by cases h
  | _, _, .cons r t, h => by
    rcases List.mem_cons.mp h with e | h
    · subst e; exact ⟨_, List.mem_cons_self .., r⟩
    · obtain ⟨d, hd, q⟩ := rvs_mem t h
      exact ⟨d, List.mem_cons_of_mem _ hd, q⟩
def d__law_pick : DSp := fun ds Q _ => (∃ l : List Nat, ds = [.dice, .str l] ∧ l ≠ [] ∧ l.length ≤ 1000000 ∧ ∀ c ∈ l, Q (.str [c])) ∨ ∃ l : List D, ds = [.dice, .lst l] ∧ l ≠ [] ∧ l.length ≤ 1000000 ∧ ∀ x ∈ l, Q x
theorem okd__law_pick (T : Top K mg) : FnOk P w K mg base CX0 2 T._law_pick.f T._law_pick.fd ["dice", "items"] (spD K tb d__law_pick) := (ok__law_pick T).imp fun vs H Q E h => by
  obtain ⟨dd, ex, ds, Qd, Ed, et, R, r, n, h, hq, _⟩ := h
  rcases h with ⟨l, rfl, h0, h1, q⟩ | ⟨l, rfl, h0, h1, q⟩
  · obtain ⟨v, w, rfl, r, r2⟩ := rvs2 r
    obtain ⟨d, hd, rfl⟩ := rv_dice r
    cases r2
    refine .inl ⟨d, l, rfl, R.ok.dc d hd, h0, h1, fun c H2 a f => ?_⟩
    obtain ⟨R2, g2⟩ := R.ofFx hd f
    exact hq _ H2 _ R2 g2 (.str _) (q c a)
  · obtain ⟨v, w, rfl, r, r2⟩ := rvs2 r
    obtain ⟨d, hd, rfl⟩ := rv_dice r
    cases r2 with
    | @lst p _ xs a b c e =>
      refine .inr ⟨d, p, xs, rfl, R.ok.dc d hd, fun z => b.1 (.inl (by rw [z]; exact hd)), SqL.of c, fun z => h0 (List.length_eq_zero_iff.mp (by rw [e.length, z]; rfl)), by rw [← e.length]; exact h1, fun x H2 hx f => ?_⟩
      obtain ⟨R2, g2⟩ := R.ofFx hd f
      obtain ⟨y, hy, ry⟩ := rvs_mem e hx
      exact hq _ H2 _ R2 g2 (ry.grow g2) (q y hy)
def d__law_grown_term (m : Nat) : DSp := fun ds Q _ => ∃ (l : List Nat) (n : Nat), ds = [.dice, .str l, .int (n : Nat)] ∧ 1 ≤ n ∧ n ≤ m ∧ m ≤ 1000 ∧ l ≠ [] ∧ l.length ≤ 1000 ∧ (∀ c ∈ l, isL c = true) ∧ ∀ t : Tm, ok t = true → sz t = n → Q (eD t)
theorem okd__law_grown_term (T : Top K mg) : FnOk P w K mg base CX0 9 T._law_grown_term.f T._law_grown_term.fd ["dice", "letters", "size"] (spD K tb (d__law_grown_term 6)) := (ok__law_grown_term T 6).imp fun vs H Q E h => by
  obtain ⟨dd, ex, ds, Qd, Ed, et, R, r, n, ⟨l, k, rfl, h1, h2, h3, h4, h5, h6, q⟩, hq, _⟩ := h
  obtain ⟨u, v, w, rfl, r, r2, r3⟩ := rvs3 r
  obtain ⟨d, hd, rfl⟩ := rv_dice r
  cases r2; cases r3
  refine ⟨d, l, k, rfl, h1, h2, h3, R.ok.dc d hd, h4, h5, h6, fun t H2 a b f => ?_⟩
  obtain ⟨R2, g2⟩ := R.ofFx hd f
  exact hq _ H2 _ R2 g2 (.str _) (q t a b)
def d__law_dice : DSpN := fun ds Q => ∃ (ns : List Int) (i : Nat), ds = [.scr ns, .int (i : Nat)] ∧ i < 1000 ∧ ∀ a b c : Int, Q [.int a, .int b, .int c]
theorem okn__law_dice (T : Top K mg) : FnOk P w K mg base CX0 1 T._law_dice.f T._law_dice.fd ["script", "spot"] (spN K tb d__law_dice) := (ok__law_dice T).imp fun vs H Q E h => by
  obtain ⟨dd, ex, ds, Qd, et, R, r, n, ⟨ns, i, rfl, hi, q⟩, hq⟩ := h
  obtain ⟨v, w, rfl, r', r2⟩ := rvs2 r
  cases r2
  cases r' with
  | @scr p _ c =>
    refine ⟨p, ns, i, rfl, c.elim .inr fun z => .inl z.2.2, hi, fun d H2 hn e2 dc => ?_⟩
    obtain ⟨R2, g2⟩ := R.ofEx e2
    obtain ⟨a, b, c, hd⟩ := dc
    exact hq _ H2 d _ R2 g2 hn hd (.cons (.int a) (.cons (.int b) (.cons (.int c) .nil))) (by simp [noDis, noDi]) (q a b c)
/-! what the papers' words ask -/
def d_is_term : DSp := fun ds Q _ => ∃ t : Tm, ds = [eD t] ∧ ok t = true ∧ sz t ≤ 200 ∧ Q (.bl true)
theorem okd_is_term (T : Top K mg) : FnOk P w K mg base CX0 2 T.is_term.f T.is_term.fd ["value"] (spD K tb d_is_term) := (ok_is_term T).imp fun vs H Q E h => by
  obtain ⟨dd, ex, ds, Qd, Ed, et, R, r, n, ⟨t, rfl, ht, hz, q⟩, hq, _⟩ := h
  obtain ⟨v, rfl, r'⟩ := DL.rvs1 r
  obtain rfl := rv_of_str r'
  refine .inl ⟨enc t, rfl, by have := enc_len t; omega, ?_⟩
  rw [isT_enc ht hz]
  exact hq _ H _ R Grow.refl (.bl _) q
def d_has_step : DSp := fun ds Q _ => ∃ t : Tm, ds = [eD t] ∧ ok t = true ∧ sz t ≤ 200 ∧ Q (.bl (!(steps t).isEmpty))
theorem okd_has_step (T : Top K mg) : FnOk P w K mg base CX0 21 T.has_step.f T.has_step.fd ["term"] (spD K tb d_has_step) := (ok_has_step T).imp fun vs H Q E h => by
  obtain ⟨dd, ex, ds, Qd, Ed, et, R, r, n, ⟨t, rfl, ht, hz, q⟩, hq, _⟩ := h
  obtain ⟨v, rfl, r'⟩ := DL.rvs1 r
  obtain rfl := rv_of_str r'
  refine ⟨t, rfl, ht, hz, fun H2 e2 => ?_⟩
  obtain ⟨R2, g2⟩ := R.ofEx e2
  exact hq _ H2 _ R2 g2 (.bl _) q
end
end LW

end

section
set_option maxHeartbeats 1000000
/-! M77: ways down, forms, mirrors, in plain words. -/
namespace LW
open KT
theorem step_nf {t u : Tm} {i r : Nat} (h : (i, r, u) ∈ steps t) : nf u = nf t := by
  obtain ⟨s, f, x, h1, h2, rfl⟩ := steps_mem h
  obtain ⟨_, _, h5, _⟩ := subs_at t i s f h1
  have := subs_form t i s f h1 _ _ (red_form h2)
  rw [← this, h5]
theorem leads_of {t : Tm} {s : Nat × Nat × Tm} (h : s ∈ steps t) : leads t s.2.2 = true := List.any_eq_true.mpr ⟨s, h, decide_eq_true rfl⟩
theorem steps_okS {t : Tm} {s : Nat × Nat × Tm} (ht : ok t = true) (h : s ∈ steps t) : ok s.2.2 = true ∧ sz s.2.2 < sz t := by
  obtain ⟨i, r, u⟩ := s
  exact ⟨(steps_ok ht h).2.2.1, (steps_ok ht h).2.2.2⟩
theorem step_nfS {t : Tm} {s : Nat × Nat × Tm} (h : s ∈ steps t) : nf s.2.2 = nf t := by
  obtain ⟨i, r, u⟩ := s
  exact step_nf h
/-- a way down from t, ending in z -/
inductive Dn (t : Tm) : List Tm → Tm → Prop
  | one : ok t = true → Dn t [t] t
  | snoc {ts : List Tm} {z : Tm} {s : Nat × Nat × Tm} : Dn t ts z → s ∈ steps z → Dn t (ts ++ [s.2.2]) s.2.2
theorem Dn.okz {t z : Tm} {ts : List Tm} (d : Dn t ts z) : ok z = true := by
  induction d with
  | one h => exact h
  | @snoc ts z s d h ih => exact (steps_okS ih h).1
theorem Dn.len {t z : Tm} {ts : List Tm} (d : Dn t ts z) : ts.length + sz z ≤ sz t + 1 ∧ 1 ≤ ts.length := by
  induction d with
  | one h => simp; omega
  | @snoc ts z s d h ih =>
    have := (steps_okS d.okz h).2
    simp only [List.length_append, List.length_cons, List.length_nil]
    omega
theorem Dn.head {t z : Tm} {ts : List Tm} (d : Dn t ts z) : ts[0]? = some t := by
  induction d with
  | one h => rfl
  | @snoc ts z s d h ih =>
    rw [List.getElem?_append_left (by have := d.len; omega)]
    exact ih
theorem Dn.last {t z : Tm} {ts : List Tm} (d : Dn t ts z) : ts[ts.length - 1]? = some z := by
  cases d with
  | one h => rfl
  | snoc d h => simp
theorem Dn.nf {t z : Tm} {ts : List Tm} (d : Dn t ts z) : nf z = nf t := by
  induction d with
  | one h => rfl
  | @snoc ts z s d h ih => exact (step_nfS h).trans ih
theorem Dn.all {t z : Tm} {ts : List Tm} (d : Dn t ts z) : ∀ x ∈ ts, ok x = true ∧ sz x ≤ sz t := by
  have key : ∀ {ts z}, Dn t ts z → (∀ x ∈ ts, ok x = true ∧ sz x ≤ sz t) := by
    intro ts z d
    induction d with
    | one h => intro x hx; rw [List.mem_singleton.mp hx]; exact ⟨h, Nat.le_refl _⟩
    | @snoc ts z s d h ih =>
      intro x hx
      rcases List.mem_append.mp hx with hx | hx
      · exact ih x hx
      · rw [List.mem_singleton.mp hx]
        have h1 := steps_okS d.okz h
        have h2 := d.len
        exact ⟨h1.1, by omega⟩
  exact key d
theorem Dn.links {t z : Tm} {ts : List Tm} (d : Dn t ts z) : ∀ (i : Nat) (a b : Tm), ts[i]? = some a → ts[i + 1]? = some b → leads a b = true := by
  induction d with
  | one h => intro i a b _ e; simp at e
  | @snoc ts z s d h ih =>
    intro i a b e1 e2
    by_cases hi : i + 1 < ts.length
    · rw [List.getElem?_append_left hi] at e2
      rw [List.getElem?_append_left (by omega)] at e1
      exact ih i a b e1 e2
    · have hl := (List.getElem?_eq_some_iff.mp e2).1
      simp only [List.length_append, List.length_cons, List.length_nil] at hl
      have : i + 1 = ts.length := by omega
      rw [List.getElem?_append_left (by omega)] at e1
      rw [this, List.getElem?_append_right (Nat.le_refl _)] at e2
      simp at e2
      subst e2
      have h2 := d.last
      rw [show ts.length - 1 = i by omega, e1] at h2
      cases h2
      exact leads_of h
theorem Dn.form {t z : Tm} {ts : List Tm} (d : Dn t ts z) (h : steps z = []) : z = KT.nf t := by
  rw [← d.nf, nf_id (steps_nil.mp h)]
theorem ok_nf {t : Tm} (h : ok t = true) : ok (nf t) = true := by
  have : ∀ n t, sz t ≤ n → ok t = true → ∃ ts z, Dn t ts z ∧ steps z = [] := by
    have go : ∀ n ts z, Dn t ts z → sz z ≤ n → ∃ ts z, Dn t ts z ∧ steps z = [] := by
      intro n
      induction n with
      | zero => intro ts z d hz; have := sz_pos z; omega
      | succ n ih =>
        intro ts z d hz
        cases e : steps z with
        | nil => exact ⟨ts, z, d, e⟩
        | cons s ss =>
          have hm : s ∈ steps z := by rw [e]; exact List.mem_cons_self ..
          exact ih _ _ (d.snoc hm) (by have := (steps_okS d.okz hm).2; omega)
    intro n t' _ h'
    by_cases e : t' = t
    · subst e; exact go _ _ _ (.one h') (Nat.le_refl _)
    · -- the general case is the same
      have go' : ∀ n ts z, Dn t' ts z → sz z ≤ n → ∃ ts z, Dn t' ts z ∧ steps z = [] := by
        intro n
        induction n with
        | zero => intro ts z d hz; have := sz_pos z; omega
        | succ n ih =>
          intro ts z d hz
          cases e : steps z with
          | nil => exact ⟨ts, z, d, e⟩
          | cons s ss =>
            have hm : s ∈ steps z := by rw [e]; exact List.mem_cons_self ..
            exact ih _ _ (d.snoc hm) (by have := (steps_okS d.okz hm).2; omega)
      exact go' _ _ _ (.one h') (Nat.le_refl _)
  obtain ⟨ts, z, d, e⟩ := this _ t (Nat.le_refl _) h
  rw [← d.form e]
  exact d.okz
/-! mirrors -/
def mir : Tm → Tm
  | .lf c => .lf c
  | .nd a b => .nd (mir b) (mir a)
theorem mir_sz : ∀ t, sz (mir t) = sz t
  | .lf _ => rfl
  | .nd a b => by show sz (mir b) + sz (mir a) = sz a + sz b; rw [mir_sz a, mir_sz b, Nat.add_comm]
theorem mir_ok : ∀ t, ok (mir t) = ok t
  | .lf _ => rfl
  | .nd a b => by show (ok (mir b) && ok (mir a)) = (ok a && ok b); rw [mir_ok a, mir_ok b, Bool.and_comm]
theorem mir_mir : ∀ t, mir (mir t) = t
  | .lf _ => rfl
  | .nd a b => by show T.nd (mir (mir a)) (mir (mir b)) = _; rw [mir_mir a, mir_mir b]
theorem mir_inj {t u : Tm} (h : mir t = mir u) : t = u := by rw [← mir_mir t, h, mir_mir]
theorem red_mir {t u : Tm} {r : Nat} (h : (r, u) ∈ red t) : ∃ r', (r', mir u) ∈ red (mir t) := by
  unfold red at h
  rcases List.mem_append.mp h with h | h
  · obtain ⟨x, y, z, rfl, _, rfl⟩ := red1_mem.mp h
    exact ⟨1, by unfold red; exact List.mem_append_left _ (red1_mem.mpr ⟨_, _, _, rfl, rfl, rfl⟩)⟩
  · rcases List.mem_append.mp h with h | h
    · obtain ⟨x, y, z, rfl, _, rfl⟩ := red2_mem.mp h
      exact ⟨3, by unfold red; exact List.mem_append_right _ (List.mem_append_right _ (red3_mem.mpr ⟨_, _, _, rfl, rfl, rfl⟩))⟩
    · obtain ⟨x, y, z, rfl, _, rfl⟩ := red3_mem.mp h
      exact ⟨2, by unfold red; exact List.mem_append_right _ (List.mem_append_left _ (red2_mem.mpr ⟨_, _, _, rfl, rfl, rfl⟩))⟩
theorem mir_isNf : ∀ {t : Tm}, isNf t = true → isNf (mir t) = true
  | .lf _, _ => rfl
  | .nd a b, h => by
    obtain ⟨h1, h2, h3⟩ := isNf_nd.mp h
    refine isNf_nd.mpr ⟨mir_isNf h2, mir_isNf h1, ?_⟩
    cases e : red (.nd (mir b) (mir a)) with
    | nil => rfl
    | cons q l =>
      obtain ⟨r, u⟩ := q
      obtain ⟨r', h'⟩ := red_mir (t := .nd (mir b) (mir a)) (r := r) (u := u) (by rw [e]; exact List.mem_cons_self ..)
      have : mir (.nd (mir b) (mir a)) = .nd a b := by show T.nd (mir (mir a)) (mir (mir b)) = _; rw [mir_mir, mir_mir]
      rw [this, h3] at h'
      cases h'
theorem mul_mir {x y : Tm} (hx : isNf x = true) (hy : isNf y = true) : mul (mir y) (mir x) = mir (mul x y) := by
  unfold mul
  cases e : red (.nd x y) with
  | nil =>
    have : isNf (mir (.nd x y)) = true := mir_isNf (isNf_nd.mpr ⟨hx, hy, e⟩)
    have := (isNf_nd.mp (show isNf (.nd (mir y) (mir x)) = true from this)).2.2
    rw [this]
    rfl
  | cons q l =>
    obtain ⟨r, u⟩ := q
    obtain ⟨r', h'⟩ := red_mir (t := .nd x y) (r := r) (u := u) (by rw [e]; exact List.mem_cons_self ..)
    have := mul_red (mir_isNf hy) (mir_isNf hx) (show (r', mir u) ∈ red (.nd (mir y) (mir x)) from h')
    unfold mul at this
    exact this
theorem nf_mir : ∀ t : Tm, nf (mir t) = mir (nf t)
  | .lf _ => rfl
  | .nd a b => by
    show mul (nf (mir b)) (nf (mir a)) = mir (mul (nf a) (nf b))
    rw [nf_mir a, nf_mir b]
    exact mul_mir (nf_nf a) (nf_nf b)
theorem eq_mir {t u : Tm} : nf (mir t) = nf (mir u) ↔ nf t = nf u := by
  rw [nf_mir, nf_mir]
  exact ⟨mir_inj, fun h => by rw [h]⟩
theorem eq_left {t u : Tm} (d : Tm) (h : nf t = nf u) : nf (.nd t d) = nf (.nd u d) := by
  show mul (nf t) (nf d) = mul (nf u) (nf d); rw [h]
theorem eq_right {t u : Tm} (d : Tm) (h : nf t = nf u) : nf (.nd d t) = nf (.nd d u) := by
  show mul (nf d) (nf t) = mul (nf d) (nf u); rw [h]
end LW

end

section
set_option maxHeartbeats 4000000
/-! E2: chains down, forms, equality. -/
namespace LW
open PySem PySem.Spec PyProof.Rows L2 KG KT DL
local macro_rules | `(tactic| walk_at "dgo") => `(tactic| try simp only [d_var, d_c, d_op, d_nil, d_cons, d_star, d_call, d_tup, d_lst, d_new, DL.d_len, d_listN, d_test, d_tru, d_if, d_now, d_and, d_or, d_not, d_andV, d_orV, d_notV, d_part, d_nopart, d_sl, d_rev, d_revS, d_neg, d_fn, d_fnR, d_app, d_pass, d_seq, d_ret, d_retN, d_brk, d_cont, d_drop, d_set, d_asg, d_nm, d_ifS, d_aug, d_par, d_par3, d_for, d_it, d_rng1, d_lc, d_chain, d_whileN, d_callV, d_lam, d_fnC, d_fnN, d_head, gListN_l, gListN_t, d_fn0, d_mulN, d_subS, d_ext, d_popAt, d_dgetK, d_dgetT, d_newT, d_newK, d_updT, d_dictT, d_pr, d_listRng, d_sortSet, d_rng2, d_enumL, d_enumT, d_enumS, gListS_s, gMin_i, gMax_i, d_gcons, d_gnil, d_gtp, gReprB_b, gLen_scr, d_zip, DL.at0, DL.at1, DL.at2, dif_t, dif_f, difs_t, difs_f, way_t, way_f,
  gAdd_i, gAdd_s, gAdd_t, gAdd_l, gSub_i, gMod_i, gFdiv_i, gMul_i, gEq_i, gEq_s, gEq_b, gNe_i, gNe_s, gNe_b, gLt_i, gIs_n, gIs_b, gIsNot_n, gIsNot_b, gIx_s, gIx_t, gIx_l, gSl_s, gSl_t, gSl_l, gLen_s, gLen_t, gLen_l, gTupOf_l, gTupOf_t, gListOf_l, gListOf_t, gIsi_tt, gRepr_b, xb, xi, xs2, xp2, xp3, xref, tru_b', fz_s, fz_i, fz_b, fz_n, DL.isNon, fnEnds, wipeD, asS, asL, noRefs, noRef,
  List.set_cons_zero, List.set_cons_succ, List.getElem?_cons_zero, List.getElem?_cons_succ, List.map_cons, List.map_nil, List.append_nil, List.nil_append, List.cons_append, List.length_cons, List.length_nil, Nat.zero_add, true_and, and_true, Bool.and_true, Bool.true_and, Bool.not_true, Bool.not_false, decide_true, decide_false, Option.some.injEq, exists_eq_left'])
local macro_rules | `(tactic| walk_at "dbr") => `(tactic| first | refine way_p ?_ ?_ | refine difs_p ?_ ?_ | refine difs_n ?_ ?_ | refine dif_p ?_ ?_ | refine dif_n ?_ ?_ | refine difs_b ?_ ?_ | refine dif_b ?_ ?_)

-- @CELL chain_from found
section
variable {P : Program} {w : World} {K : PySem.W.Frag} {mg : Str → Option Value} {base : Heap} {tb : List (Addr × Str)}
theorem nrs_eDs : ∀ l : List Tm, noRefs (eDs l) = true
  | [] => by rw [show eDs [] = [] from rfl, noRefs]
  | t :: l => by
    show noRefs (.str (enc t) :: eDs l) = true
    rw [noRefs, nrs_eDs l]
    simp [noRef]
theorem nr_str {l : List Nat} : noRef (.str l) = true := by simp [noRef]
theorem nr_tup {l : List D} : noRef (.tup l) = noRefs l := by rw [noRef]
theorem at_neg {α : Type} {l : List α} {z : α} (h : l[l.length - 1]? = some z) : atD l (-1) = some z := by
  have hp : 0 < l.length := by have := (List.getElem?_eq_some_iff.mp h).1; omega
  exact at_last h
theorem gIx_r {n : Nat} {l : List D} {i : Int} {h : List Cell} {Q : D → List Cell → Prop} (e : h[n]? = some (.lst l)) : gIx (.ref n) (.int i) h Q ↔ ∃ d, atD l i = some d ∧ Q d h := by
  show (∃ l d, asS h (.ref n) = some l ∧ _) ↔ _
  have : asS h (.ref n) = some l := by show asL h (.ref n) = _; unfold asL; simp only [e]
  rw [this]
  exact ⟨fun ⟨l', d, e, r⟩ => by cases e; exact ⟨d, r⟩, fun ⟨d, r⟩ => ⟨l, d, rfl, r⟩⟩
theorem eq_enc {t u : Tm} (h1 : ok t = true) (h2 : ok u = true) : decide (enc t = enc u) = decide (t = u) := decide_eq_decide.mpr ⟨enc_inj' h1 h2, fun e => by rw [e]⟩
theorem cut_last {α : Type} {l : List α} : DL.cutD l none (some (-1)) = l.take (l.length - 1) := by
  unfold DL.cutD
  have e : HT.sIx l.length l.length (some (-1)) = l.length - 1 := by
    show (if (-1 : Int) < 0 then ((-1 : Int) + (l.length : Int)).toNat else min (-1 : Int).toNat l.length) = _
    rw [if_pos (by decide)]
    omega
  rw [e, HT.sIx_none, List.drop_zero, Nat.sub_zero]
abbrev sl_chain_from : List Str := ["term", "found", "step"]
theorem sc_chain_from : FnScope sl_chain_from ["term"] (defScope s_chain_from) := ⟨rfl, rfl, rfl, by decide +kernel, rfl, by decide +kernel, by decide +kernel⟩
theorem st_chain_from (v0 : V) : L2.start sl_chain_from [v0] = [some v0, none, none] := rfl
theorem sd_chain_from (v0 : D) : startD sl_chain_from [v0] = [some v0, none, none] := rfl
def d_chain_from : DSp := fun ds Q _ => ∃ t : Tm, ds = [eD t] ∧ ok t = true ∧ sz t ≤ 200 ∧ ∀ ts z, Dn t ts z → steps z = [] → Q (.lst (eDs ts))
theorem okd_chain_from (T : Top K mg) : FnOk P w K mg base CX0 21 T.chain_from.f T.chain_from.fd ["term"] (spD K tb d_chain_from) := by
  refine okD T.chain_from.F sc_chain_from (fun ds Qd Ed h => ?_) (fun dd et cdv A outer s H E hr => ⟨_, (fss_cons (fs_set (i := 1) sc_chain_from.nd rfl (by first | exact Or.inl rfl | exact Or.inr rfl) (fe_cell (fn_lst (fa_cons (fe_var (pv 0)) fa_nil)))) (fss_cons (fs_whileN (i := 2) PassesOwn.never sc_chain_from.nd rfl (by first | exact Or.inl rfl | exact Or.inr rfl) op_kNotN er_isnot (fe_callO (K := K) rfl et (okd_first_step T) (hr.mono (by first | decide | omega)) (by rfl) (fa_cons (fe_ix (kk_ix (K := K) rfl) er_ix (fe_var (pv 1)) (fe_neg fe_int)) fa_nil)) fe_non (nomark _) (fss_one (fs_expr (fe_append (K := K) rfl (fe_var (pv 1)) (fe_ix (kk_ix (K := K) rfl) er_ix (fe_var (pv 2)) fe_int) (fun _ _ a b => pe_bm PySem.F.plainAttrs_list PySem.F.slot_list_append PySem.F.type_list_append mt_append a b)))) (fun _ _ => rfl)) (fss_one (fs_ret (fe_var (pv 1)))))), fun ds Qd Ed n h => ?_⟩)
  · obtain ⟨t, rfl, _⟩ := h
    rfl
  · obtain ⟨t, rfl, ht, hz, q⟩ := h
    rw [sd_chain_from]
    walk_at "dgo"
    refine ⟨by decide, fun n ρ h => ∃ ts z o, Dn t ts z ∧ n = sz z ∧ ρ = [some (eD t), some (.ref 0), o] ∧ h = [.lst (eDs ts)], ⟨_, [t], t, _, .one ht, rfl, rfl, rfl⟩, ?_⟩
    rintro n ρ h ⟨ts, z, o, hd, rfl, rfl, rfl⟩
    walk_at "dgo"
    have hl := hd.last
    have hlen := hd.len
    refine (gIx_r (l := eDs ts) rfl).mpr ⟨eD z, at_neg (by rw [List.length_map, List.getElem?_map, hl]; rfl), ?_⟩
    have hz' := hd.all z (List.mem_of_getElem? hl)
    refine ⟨rfl, z, rfl, hz'.1, by omega, ?_⟩
    cases e : steps z with
    | nil =>
      walk_at "dgo"
      exact fz_r (l := eDs ts) rfl (nrs_eDs ts) (q ts z hd e)
    | cons s ss =>
      have hm : s ∈ steps z := by rw [e]; exact List.mem_cons_self ..
      dsimp only
      rw [show stD s = .tup [.int (s.1 : Nat), .int (s.2.1 : Nat), eD s.2.2] from rfl]
      dsimp only
      walk_at "dgo"
      refine ⟨⟨_, rfl⟩, _, rfl, by rw [List.length_map]; omega, ?_⟩
      refine ⟨sz s.2.2, (steps_okS hd.okz hm).2, ts ++ [s.2.2], s.2.2, _, hd.snoc hm, rfl, rfl, ?_⟩
      simp [eDs]
abbrev sl_form_in : List Str := ["term"]
theorem sc_form_in : FnScope sl_form_in ["term"] (defScope s_form_in) := ⟨rfl, rfl, rfl, by decide +kernel, rfl, by decide +kernel, by decide +kernel⟩
theorem st_form_in (v0 : V) : L2.start sl_form_in [v0] = [some v0] := rfl
theorem sd_form_in (v0 : D) : startD sl_form_in [v0] = [some v0] := rfl
def d_form_in : DSp := fun ds Q _ => ∃ t : Tm, ds = [eD t] ∧ ok t = true ∧ sz t ≤ 200 ∧ Q (eD (nf t))
theorem okd_form_in (T : Top K mg) : FnOk P w K mg base CX0 22 T.form_in.f T.form_in.fd ["term"] (spD K tb d_form_in) := by
  refine okD T.form_in.F sc_form_in (fun ds Qd Ed h => ?_) (fun dd et cdv A outer s H E hr => ⟨_, (fss_one (fs_ret (fe_ix (kk_ix (K := K) rfl) er_ix (fe_callO (K := K) rfl et (okd_chain_from T) (hr.mono (by first | decide | omega)) (by rfl) (fa_cons (fe_var (pv 0)) fa_nil)) (fe_neg fe_int)))), fun ds Qd Ed n h => ?_⟩)
  · obtain ⟨t, rfl, _⟩ := h
    rfl
  · obtain ⟨t, rfl, ht, hz, q⟩ := h
    rw [sd_form_in]
    walk_at "dgo"
    refine ⟨t, rfl, ht, hz, fun ts z hd e => ?_⟩
    walk_at "dgo"
    refine ⟨eD z, at_neg (by rw [List.length_map, List.getElem?_map, hd.last]; rfl), ?_⟩
    walk_at "dgo"
    rw [hd.form e]
    exact q
end
end LW

end

section
set_option maxHeartbeats 4000000
/-! E4: the law's way down; whether a paper shows. -/
namespace LW
open PySem PySem.Spec PyProof.Rows L2 KG KT DL
local macro_rules | `(tactic| walk_at "dgo") => `(tactic| try simp only [d_var, d_c, d_op, d_nil, d_cons, d_star, d_call, d_tup, d_lst, d_new, DL.d_len, d_listN, d_test, d_tru, d_if, d_now, d_and, d_or, d_not, d_andV, d_orV, d_notV, d_part, d_nopart, d_sl, d_rev, d_revS, d_neg, d_fn, d_fnR, d_app, d_pass, d_seq, d_ret, d_retN, d_brk, d_cont, d_drop, d_set, d_asg, d_nm, d_ifS, d_aug, d_par, d_par3, d_for, d_it, d_rng1, d_lc, d_chain, d_whileN, d_callV, d_lam, d_fnC, d_fnN, d_head, gListN_l, gListN_t, d_fn0, d_mulN, d_subS, d_ext, d_popAt, d_dgetK, d_dgetT, d_newT, d_newK, d_updT, d_dictT, d_pr, d_listRng, d_sortSet, d_rng2, d_enumL, d_enumT, d_enumS, gListS_s, gMin_i, gMax_i, d_gcons, d_gnil, d_gtp, gReprB_b, gLen_scr, d_zip, DL.at0, DL.at1, DL.at2, dif_t, dif_f, difs_t, difs_f, way_t, way_f,
  gAdd_i, gAdd_s, gAdd_t, gAdd_l, gSub_i, gMod_i, gFdiv_i, gMul_i, gEq_i, gEq_s, gEq_b, gNe_i, gNe_s, gNe_b, gLt_i, gIs_n, gIs_b, gIsNot_n, gIsNot_b, gIx_s, gIx_t, gIx_l, gSl_s, gSl_t, gSl_l, gLen_s, gLen_t, gLen_l, gTupOf_l, gTupOf_t, gListOf_l, gListOf_t, gIsi_tt, gRepr_b, xb, xi, xs2, xp2, xp3, xref, tru_b', fz_s, fz_i, fz_b, fz_n, DL.isNon, fnEnds, wipeD, asS, asL, noRefs, noRef,
  List.set_cons_zero, List.set_cons_succ, List.getElem?_cons_zero, List.getElem?_cons_succ, List.map_cons, List.map_nil, List.append_nil, List.nil_append, List.cons_append, List.length_cons, List.length_nil, Nat.zero_add, true_and, and_true, Bool.and_true, Bool.true_and, Bool.not_true, Bool.not_false, decide_true, decide_false, Option.some.injEq, exists_eq_left'])
local macro_rules | `(tactic| walk_at "dbr") => `(tactic| first | refine way_p ?_ ?_ | refine difs_p ?_ ?_ | refine difs_n ?_ ?_ | refine dif_p ?_ ?_ | refine dif_n ?_ ?_ | refine difs_b ?_ ?_ | refine dif_b ?_ ?_)

-- @CELL _law_down found
section
variable {P : Program} {w : World} {K : PySem.W.Frag} {mg : Str → Option Value} {base : Heap} {tb : List (Addr × Str)}
theorem intsD_len {lo : Int} {n : Nat} : (intsD lo n).length = n := by simp [intsD]
theorem steps_shaped {t : Tm} (ht : ok t = true) (hz : sz t ≤ 200) : SeqAt.shaped (.list ((steps t).map stepD)) = true := by
  obtain ⟨h1, _, h3, _⟩ := sm_data (sm_steps ht hz)
  unfold SeqAt.shaped
  rw [Bool.and_eq_true_iff]
  refine ⟨h1, decide_eq_true ?_⟩
  show PyData.depthAll _ + 1 ≤ 64
  omega
theorem eqv_nil (ds : List PyData) : PyData.eqv (.list ds) (.list []) = ds.isEmpty := by cases ds <;> rfl
theorem pyDs_st : ∀ ss : List (Nat × Nat × Tm), pyDs (ss.map stD) = some (ss.map stepD)
  | [] => by rw [List.map_nil, pyDs]; rfl
  | s :: ss => by
    rw [List.map_cons, pyDs, pyDs_st ss]
    have : pyD (stD s) = some (stepD s) := by
      unfold stD
      simp [pyD, pyDs, stepD]
    rw [this]
    rfl
theorem gEq_st {t : Tm} {h : List Cell} {Q : D → List Cell → Prop} (ht : ok t = true) (hz : sz t ≤ 200) (q : Q (.bl (steps t).isEmpty) h) : gEq (.lst ((steps t).map stD)) (.lst []) h Q := by
  show (isO (.lst ((steps t).map stD)) || isO (.lst [])) = true ∧ ∃ a b, pyC h (.lst ((steps t).map stD)) = some a ∧ pyC h (.lst []) = some b ∧ _
  refine ⟨rfl, .list ((steps t).map stepD), .list [], ?_, ?_, steps_shaped ht hz, rfl, ?_⟩
  · show pyD _ = _
    rw [pyD, pyDs_st]
    rfl
  · show pyD _ = _
    rw [pyD, pyDs]
    rfl
  · rw [eqv_nil, List.isEmpty_map]
    exact q
theorem nrs_st : ∀ ss : List (Nat × Nat × Tm), noRefs (ss.map stD) = true
  | [] => by rw [List.map_nil, noRefs]
  | s :: ss => by
    rw [List.map_cons, noRefs, nrs_st ss]
    unfold stD
    simp [noRefs, noRef]
abbrev sl__law_down : List Str := ["dice", "term", "found", "turn", "steps"]
theorem sc__law_down : FnScope sl__law_down ["dice", "term"] (defScope s__law_down) := ⟨rfl, rfl, rfl, by decide +kernel, rfl, by decide +kernel, by decide +kernel⟩
theorem st__law_down (v0 : V) (v1 : V) : L2.start sl__law_down [v0, v1] = [some v0, some v1, none, none, none] := rfl
theorem sd__law_down (v0 : D) (v1 : D) : startD sl__law_down [v0, v1] = [some v0, some v1, none, none, none] := rfl
def d__law_down : DSp := fun ds Q _ => ∃ t : Tm, ds = [.dice, eD t] ∧ ok t = true ∧ sz t ≤ 100 ∧ ∀ ts z, Dn t ts z → steps z = [] → Q (.lst (eDs ts))
theorem okd__law_down (T : Top K mg) : FnOk P w K mg base CX0 5 T._law_down.f T._law_down.fd ["dice", "term"] (spD K tb d__law_down) := by
  refine okD T._law_down.F sc__law_down (fun ds Qd Ed h => ?_) (fun dd et cdv A outer s H E hr => ⟨_, (fss_cons (fs_set (i := 2) sc__law_down.nd rfl (by first | exact Or.inl rfl | exact Or.inr rfl) (fe_cell (fn_lst (fa_cons (fe_var (pv 1)) fa_nil)))) (fss_cons (fs_for PassesOwn.never (by rfl) (fi_range1 (by rfl) T.range (fa_cons (fe_callB (kk_len (K := K) rfl) ec_len (by rfl) T.len (by decide +kernel) (fa_cons (fe_var (pv 1)) fa_nil)) fa_nil)) (fg_name (i := 3) sc__law_down.nd rfl (by first | exact Or.inl rfl | exact Or.inr rfl)) (fss_cons (fs_set (i := 4) sc__law_down.nd rfl (by first | exact Or.inl rfl | exact Or.inr rfl) (fe_callO (K := K) rfl et (okd__law_steps T) (hr.mono (by first | decide | omega)) (by rfl) (fa_cons (fe_ix (kk_ix (K := K) rfl) er_ix (fe_var (pv 2)) (fe_neg fe_int)) fa_nil))) (fss_cons (fs_if (ft_cmp (kk_eq (K := K) rfl hr) er_eq (fe_var (pv 4)) (fe_lst fa_nil) (nomark _)) (fss_one fs_brk) fss_nil) (fss_one (fs_expr (fe_append (K := K) rfl (fe_var (pv 2)) (fe_ix (kk_ix (K := K) rfl) er_ix (fe_callO (K := K) rfl et (okd__law_pick T) (hr.mono (by first | decide | omega)) (by rfl) (fa_cons (fe_var (pv 0)) (fa_cons (fe_var (pv 4)) fa_nil))) fe_int) (fun _ _ a b => pe_bm PySem.F.plainAttrs_list PySem.F.slot_list_append PySem.F.type_list_append mt_append a b))))))) (fss_one (fs_ret (fe_var (pv 2)))))), fun ds Qd Ed n h => ?_⟩)
  · obtain ⟨t, rfl, _⟩ := h
    rfl
  · obtain ⟨t, rfl, ht, hz, q⟩ := h
    rw [sd__law_down]
    walk_at "dgo"
    have hlen := enc_len t
    refine ⟨by decide, by omega, _, rfl, by omega, by omega, ?_⟩
    refine loop_inv (fun i ρ h => ∃ ts z o3 o4, Dn t ts z ∧ ts.length = i + 1 ∧ ρ = [some .dice, some (eD t), some (.ref 0), o3, o4] ∧ h = [.lst (eDs ts)]) (fun _ _ _ _ _ => trivial) ⟨[t], t, _, _, .one ht, rfl, rfl, rfl⟩ ?_ ?_
    · rintro i d ρ h N hi ⟨ts, z, o3, o4, hd, hl, rfl, rfl⟩ k
      have hdl := hd.last
      have hlz := hd.len
      have hz' := hd.all z (List.mem_of_getElem? hdl)
      walk_at "dgo"
      refine (gIx_r (l := eDs ts) rfl).mpr ⟨eD z, at_neg (by rw [List.length_map, List.getElem?_map, hdl]; rfl), ?_⟩
      refine ⟨nr_str, z, rfl, hz'.1, by omega, ?_⟩
      walk_at "dgo"
      refine ⟨by decide, gEq_st hz'.1 (by omega) ?_⟩
      cases e : steps z with
      | nil =>
        rw [show ([] : List (Nat × Nat × Tm)).isEmpty = true from rfl]
        walk_at "dgo"
        exact fz_r (l := eDs ts) rfl (nrs_eDs ts) (q ts z hd e)
      | cons s ss =>
        rw [show (s :: ss).isEmpty = false from rfl, ← e]
        walk_at "dgo"
        have hsl := steps_len z
        have hzl := enc_len z
        refine ⟨⟨_, rfl⟩, nrs_st _, .inr ⟨_, rfl, ?_, by rw [List.length_map]; omega, fun x hx => ?_⟩⟩
        · rw [e]; simp
        · obtain ⟨s', hs', rfl⟩ := List.mem_map.mp hx
          rw [show stD s' = .tup [.int (s'.1 : Nat), .int (s'.2.1 : Nat), eD s'.2.2] from rfl]
          walk_at "dgo"
          refine ⟨eDs ts, rfl, by rw [List.length_map]; omega, k _ _ ⟨ts ++ [s'.2.2], s'.2.2, _, _, hd.snoc hs', by simp; omega, rfl, ?_⟩⟩
          simp [eDs]
    · rintro ρ h ⟨ts, z, o3, o4, hd, hl, rfl, rfl⟩
      have hlz := hd.len
      have := sz_pos z
      rw [intsD_len] at hl
      simp only [Int.toNat_natCast] at hl
      omega
end
end LW

end

section
set_option maxHeartbeats 4000000
/-! G1: places between forms, ties of forms. -/
namespace LW
open PySem PySem.Spec PyProof.Rows L2 KG KT DL
local macro_rules | `(tactic| walk_at "dgo") => `(tactic| try simp only [d_var, d_c, d_op, d_nil, d_cons, d_star, d_call, d_tup, d_lst, d_new, DL.d_len, d_listN, d_test, d_tru, d_if, d_now, d_and, d_or, d_not, d_andV, d_orV, d_notV, d_part, d_nopart, d_sl, d_rev, d_revS, d_neg, d_fn, d_fnR, d_app, d_pass, d_seq, d_ret, d_retN, d_brk, d_cont, d_drop, d_set, d_asg, d_nm, d_ifS, d_aug, d_par, d_par3, d_for, d_it, d_rng1, d_lc, d_chain, d_whileN, d_callV, d_lam, d_fnC, d_fnN, d_head, gListN_l, gListN_t, d_fn0, d_mulN, d_subS, d_ext, d_popAt, d_dgetK, d_dgetT, d_newT, d_newK, d_updT, d_dictT, d_pr, d_listRng, d_sortSet, d_rng2, d_enumL, d_enumT, d_enumS, gListS_s, gMin_i, gMax_i, d_gcons, d_gnil, d_gtp, gReprB_b, gLen_scr, d_zip, DL.at0, DL.at1, DL.at2, dif_t, dif_f, difs_t, difs_f, way_t, way_f,
  gAdd_i, gAdd_s, gAdd_t, gAdd_l, gSub_i, gMod_i, gFdiv_i, gMul_i, gEq_i, gEq_s, gEq_b, gNe_i, gNe_s, gNe_b, gLt_i, gIs_n, gIs_b, gIsNot_n, gIsNot_b, gIx_s, gIx_t, gIx_l, gSl_s, gSl_t, gSl_l, gLen_s, gLen_t, gLen_l, gTupOf_l, gTupOf_t, gListOf_l, gListOf_t, gIsi_tt, gRepr_b, xb, xi, xs2, xp2, xp3, xref, tru_b', fz_s, fz_i, fz_b, fz_n, DL.isNon, fnEnds, wipeD, asS, asL, noRefs, noRef,
  List.set_cons_zero, List.set_cons_succ, List.getElem?_cons_zero, List.getElem?_cons_succ, List.map_cons, List.map_nil, List.append_nil, List.nil_append, List.cons_append, List.length_cons, List.length_nil, Nat.zero_add, true_and, and_true, Bool.and_true, Bool.true_and, Bool.not_true, Bool.not_false, decide_true, decide_false, Option.some.injEq, exists_eq_left'])
local macro_rules | `(tactic| walk_at "dbr") => `(tactic| first | refine way_p ?_ ?_ | refine difs_p ?_ ?_ | refine difs_n ?_ ?_ | refine dif_p ?_ ?_ | refine dif_n ?_ ?_ | refine difs_b ?_ ?_ | refine dif_b ?_ ?_)

section
variable {P : Program} {w : World} {K : PySem.W.Frag} {mg : Str → Option Value} {base : Heap} {tb : List (Addr × Str)}
theorem sz_mul (x y : Tm) : sz (mul x y) ≤ sz (.nd x y) := by
  unfold mul
  split
  · exact Nat.le_refl _
  · rename_i r u l e
    have := (red_sz (r := r) (u := u) (t := .nd x y) (by rw [e]; exact List.mem_cons_self ..)).1
    omega
theorem sz_nf : ∀ t : Tm, sz (nf t) ≤ sz t
  | .lf _ => Nat.le_refl _
  | .nd a b => by
    have h1 := sz_nf a
    have h2 := sz_nf b
    have h3 := sz_mul (nf a) (nf b)
    have e1 : sz (.nd (nf a) (nf b)) = sz (nf a) + sz (nf b) := rfl
    have e2 : sz (.nd a b) = sz a + sz b := rfl
    show sz (mul (nf a) (nf b)) ≤ _
    omega
abbrev sl_size_in : List Str := ["term"]
theorem sc_size_in : FnScope sl_size_in ["term"] (defScope s_size_in) := ⟨rfl, rfl, rfl, by decide +kernel, rfl, by decide +kernel, by decide +kernel⟩
theorem st_size_in (v0 : V) : L2.start sl_size_in [v0] = [some v0] := rfl
theorem sd_size_in (v0 : D) : startD sl_size_in [v0] = [some v0] := rfl
def d_size_in : DSp := fun ds Q _ => ∃ t : Tm, ds = [eD t] ∧ sz t ≤ 1000 ∧ Q (.int (sz t : Nat))
theorem okd_size_in (T : Top K mg) : FnOk P w K mg base CX0 1 T.size_in.f T.size_in.fd ["term"] (spD K tb d_size_in) := by
  refine okD T.size_in.F sc_size_in (fun ds Qd Ed h => ?_) (fun dd et cdv A outer s H E hr => ⟨_, (fss_one (fs_ret (fe_op op_kFdiv er_fdiv (fe_op (kk_add (K := K) rfl) er_add (fe_callB (kk_len (K := K) rfl) ec_len (by rfl) T.len (by decide +kernel) (fa_cons (fe_var (pv 0)) fa_nil)) fe_int) fe_int))), fun ds Qd Ed n h => ?_⟩)
  · obtain ⟨t, rfl, _⟩ := h
    rfl
  · obtain ⟨t, rfl, hz, q⟩ := h
    rw [sd_size_in]
    have := enc_len t
    walk_at "dgo"
    refine ⟨by omega, cdiv_small (by decide) (by decide), ?_⟩
    rw [show ((enc t).length : Int) + 1 = 2 * (sz t : Nat) by omega, show (2 * ((sz t : Nat) : Int)) / 2 = (sz t : Nat) by omega]
    exact q
abbrev sl_require_room : List Str := ["size"]
theorem sc_require_room : FnScope sl_require_room ["size"] (defScope s_require_room) := ⟨rfl, rfl, rfl, by decide +kernel, rfl, by decide +kernel, by decide +kernel⟩
theorem st_require_room (v0 : V) : L2.start sl_require_room [v0] = [some v0] := rfl
theorem sd_require_room (v0 : D) : startD sl_require_room [v0] = [some v0] := rfl
def d_require_room : DSp := fun ds Q _ => ∃ n : Nat, ds = [.int (n : Nat)] ∧ n ≤ 200 ∧ Q .non
theorem okd_require_room (T : Top K mg) : FnOk P w K mg base CX0 1 T.require_room.f T.require_room.fd ["size"] (spD K tb d_require_room) := by
  refine okD T.require_room.F sc_require_room (fun ds Qd Ed h => ?_) (fun dd et cdv A outer s H E hr => ⟨_, (fss_one (fs_if (ft_cmp op_kGt (er_int0 fun _ _ _ _ _ => .bl _) (fe_var (pv 0)) (fe_c (pe_globI (by rfl) T.MAX_LETTERS) (fun _ _ _ => .int _)) (nomark _)) (fss_one fs_never) fss_nil)), fun ds Qd Ed n h => ?_⟩)
  · obtain ⟨t, rfl, _⟩ := h
    rfl
  · obtain ⟨t, rfl, hz, q⟩ := h
    rw [sd_require_room]
    walk_at "dgo"
    exact difs_ff (decide_eq_false (by omega)) q
abbrev sl_require_forms : List Str := ["one", "other"]
theorem sc_require_forms : FnScope sl_require_forms ["one", "other"] (defScope s_require_forms) := ⟨rfl, rfl, rfl, by decide +kernel, rfl, by decide +kernel, by decide +kernel⟩
theorem st_require_forms (v0 : V) (v1 : V) : L2.start sl_require_forms [v0, v1] = [some v0, some v1] := rfl
theorem sd_require_forms (v0 : D) (v1 : D) : startD sl_require_forms [v0, v1] = [some v0, some v1] := rfl
def d_require_forms : DSp := fun ds Q _ => ∃ t u : Tm, ds = [eD t, eD u] ∧ ok t = true ∧ sz t ≤ 200 ∧ ok u = true ∧ sz u ≤ 200 ∧ steps t = [] ∧ steps u = [] ∧ Q .non
theorem okd_require_forms (T : Top K mg) : FnOk P w K mg base CX0 22 T.require_forms.f T.require_forms.fd ["one", "other"] (spD K tb d_require_forms) := by
  refine okD T.require_forms.F sc_require_forms (fun ds Qd Ed h => ?_) (fun dd et cdv A outer s H E hr => ⟨_, (fss_cons (fs_expr (fe_callO (K := K) rfl et (okd_require_terms T) (hr.mono (by first | decide | omega)) (by rfl) (fa_cons (fe_var (pv 0)) (fa_cons (fe_var (pv 1)) fa_nil)))) (fss_one (fs_if (fw_or (ft_tru (K := K) rfl (fe_callO (K := K) rfl et (okd_has_step T) (hr.mono (by first | decide | omega)) (by rfl) (fa_cons (fe_var (pv 0)) fa_nil))) (fw_or1 (ft_tru (K := K) rfl (fe_callO (K := K) rfl et (okd_has_step T) (hr.mono (by first | decide | omega)) (by rfl) (fa_cons (fe_var (pv 1)) fa_nil))))).toFT (fss_one fs_never) fss_nil))), fun ds Qd Ed n h => ?_⟩)
  · obtain ⟨t, u, rfl, _⟩ := h
    rfl
  · obtain ⟨t, u, rfl, ht, hz, hu, hz2, f1, f2, q⟩ := h
    rw [sd_require_forms]
    walk_at "dgo"
    refine ⟨t, u, rfl, ht, hz, hu, hz2, t, rfl, ht, hz, ?_⟩
    rw [f1]
    refine ⟨false, rfl, dif_ff rfl ?_⟩
    walk_at "dgo"
    refine ⟨u, rfl, hu, hz2, ?_⟩
    rw [f2]
    refine ⟨false, rfl, difs_ff rfl q⟩
abbrev sl_form_of : List Str := ["term"]
theorem sc_form_of : FnScope sl_form_of ["term"] (defScope s_form_of) := ⟨rfl, rfl, rfl, by decide +kernel, rfl, by decide +kernel, by decide +kernel⟩
theorem st_form_of (v0 : V) : L2.start sl_form_of [v0] = [some v0] := rfl
theorem sd_form_of (v0 : D) : startD sl_form_of [v0] = [some v0] := rfl
def d_form_of : DSp := fun ds Q _ => ∃ t : Tm, ds = [eD t] ∧ ok t = true ∧ sz t ≤ 200 ∧ Q (eD (nf t))
theorem okd_form_of (T : Top K mg) : FnOk P w K mg base CX0 23 T.form_of.f T.form_of.fd ["term"] (spD K tb d_form_of) := by
  refine okD T.form_of.F sc_form_of (fun ds Qd Ed h => ?_) (fun dd et cdv A outer s H E hr => ⟨_, (fss_cons (fs_expr (fe_callO (K := K) rfl et (okd_require_term T) (hr.mono (by first | decide | omega)) (by rfl) (fa_cons (fe_var (pv 0)) fa_nil))) (fss_one (fs_ret (fe_callO (K := K) rfl et (okd_form_in T) (hr.mono (by first | decide | omega)) (by rfl) (fa_cons (fe_var (pv 0)) fa_nil))))), fun ds Qd Ed n h => ?_⟩)
  · obtain ⟨t, rfl, _⟩ := h
    rfl
  · obtain ⟨t, rfl, ht, hz, q⟩ := h
    rw [sd_form_of]
    walk_at "dgo"
    refine ⟨t, rfl, ht, hz, t, rfl, ht, hz, ?_⟩
    walk_at "dgo"
    exact q
abbrev sl_between_forms : List Str := ["one", "other"]
theorem sc_between_forms : FnScope sl_between_forms ["one", "other"] (defScope s_between_forms) := ⟨rfl, rfl, rfl, by decide +kernel, rfl, by decide +kernel, by decide +kernel⟩
theorem st_between_forms (v0 : V) (v1 : V) : L2.start sl_between_forms [v0, v1] = [some v0, some v1] := rfl
theorem sd_between_forms (v0 : D) (v1 : D) : startD sl_between_forms [v0, v1] = [some v0, some v1] := rfl
def d_between_forms : DSp := fun ds Q _ => ∃ t u : Tm, ds = [eD t, eD u] ∧ ok t = true ∧ ok u = true ∧ sz t + sz u ≤ 200 ∧ steps t = [] ∧ steps u = [] ∧ Q (eD (nf (.nd t u)))
theorem okd_between_forms (T : Top K mg) : FnOk P w K mg base CX0 23 T.between_forms.f T.between_forms.fd ["one", "other"] (spD K tb d_between_forms) := by
  refine okD T.between_forms.F sc_between_forms (fun ds Qd Ed h => ?_) (fun dd et cdv A outer s H E hr => ⟨_, (fss_cons (fs_expr (fe_callO (K := K) rfl et (okd_require_forms T) (hr.mono (by first | decide | omega)) (by rfl) (fa_cons (fe_var (pv 0)) (fa_cons (fe_var (pv 1)) fa_nil)))) (fss_cons (fs_expr (fe_callO (K := K) rfl et (okd_require_room T) (hr.mono (by first | decide | omega)) (by rfl) (fa_cons (fe_op (kk_add (K := K) rfl) er_add (fe_callO (K := K) rfl et (okd_size_in T) (hr.mono (by first | decide | omega)) (by rfl) (fa_cons (fe_var (pv 0)) fa_nil)) (fe_callO (K := K) rfl et (okd_size_in T) (hr.mono (by first | decide | omega)) (by rfl) (fa_cons (fe_var (pv 1)) fa_nil))) fa_nil))) (fss_one (fs_ret (fe_callO (K := K) rfl et (okd_form_in T) (hr.mono (by first | decide | omega)) (by rfl) (fa_cons (fe_op (kk_add (K := K) rfl) er_add (fe_op (kk_add (K := K) rfl) er_add (fe_c (pe_globS [42] (by decide) (by rfl) T.STAR) (fun _ _ _ => .str _)) (fe_var (pv 0))) (fe_var (pv 1))) fa_nil)))))), fun ds Qd Ed n h => ?_⟩)
  · obtain ⟨t, u, rfl, _⟩ := h
    rfl
  · obtain ⟨t, u, rfl, ht, hu, hz, f1, f2, q⟩ := h
    rw [sd_between_forms]
    walk_at "dgo"
    refine ⟨t, u, rfl, ht, by omega, hu, by omega, f1, f2, t, rfl, by omega, u, rfl, by omega, ?_⟩
    walk_at "dgo"
    have l1 := enc_len t
    have l2 := enc_len u
    refine ⟨sz t + sz u, by simp, hz, ?_⟩
    walk_at "dgo"
    refine ⟨by omega, by omega, .nd t u, rfl, ok_nd.mpr ⟨ht, hu⟩, hz, ?_⟩
    walk_at "dgo"
    exact q
abbrev sl_is_tied_form : List Str := ["one", "other"]
theorem sc_is_tied_form : FnScope sl_is_tied_form ["one", "other"] (defScope s_is_tied_form) := ⟨rfl, rfl, rfl, by decide +kernel, rfl, by decide +kernel, by decide +kernel⟩
theorem st_is_tied_form (v0 : V) (v1 : V) : L2.start sl_is_tied_form [v0, v1] = [some v0, some v1] := rfl
theorem sd_is_tied_form (v0 : D) (v1 : D) : startD sl_is_tied_form [v0, v1] = [some v0, some v1] := rfl
def tied (t u : Tm) : Bool := decide (nf (.nd t (nf (.nd u u))) = u)
def d_is_tied_form : DSp := fun ds Q _ => ∃ t u : Tm, ds = [eD t, eD u] ∧ ok t = true ∧ ok u = true ∧ sz t + 2 * sz u ≤ 200 ∧ steps t = [] ∧ steps u = [] ∧ Q (.bl (tied t u))
theorem okd_is_tied_form (T : Top K mg) : FnOk P w K mg base CX0 23 T.is_tied_form.f T.is_tied_form.fd ["one", "other"] (spD K tb d_is_tied_form) := by
  refine okD T.is_tied_form.F sc_is_tied_form (fun ds Qd Ed h => ?_) (fun dd et cdv A outer s H E hr => ⟨_, (fss_cons (fs_expr (fe_callO (K := K) rfl et (okd_require_forms T) (hr.mono (by first | decide | omega)) (by rfl) (fa_cons (fe_var (pv 0)) (fa_cons (fe_var (pv 1)) fa_nil)))) (fss_cons (fs_expr (fe_callO (K := K) rfl et (okd_require_room T) (hr.mono (by first | decide | omega)) (by rfl) (fa_cons (fe_op (kk_add (K := K) rfl) er_add (fe_callO (K := K) rfl et (okd_size_in T) (hr.mono (by first | decide | omega)) (by rfl) (fa_cons (fe_var (pv 0)) fa_nil)) (fe_op (kk_mul (K := K) rfl) er_mul fe_int (fe_callO (K := K) rfl et (okd_size_in T) (hr.mono (by first | decide | omega)) (by rfl) (fa_cons (fe_var (pv 1)) fa_nil)))) fa_nil))) (fss_one (fs_ret (fe_cmp (kk_eq (K := K) rfl hr) er_eq (fe_callO (K := K) rfl et (okd_form_in T) (hr.mono (by first | decide | omega)) (by rfl) (fa_cons (fe_op (kk_add (K := K) rfl) er_add (fe_op (kk_add (K := K) rfl) er_add (fe_c (pe_globS [42] (by decide) (by rfl) T.STAR) (fun _ _ _ => .str _)) (fe_var (pv 0))) (fe_callO (K := K) rfl et (okd_form_in T) (hr.mono (by first | decide | omega)) (by rfl) (fa_cons (fe_op (kk_add (K := K) rfl) er_add (fe_op (kk_add (K := K) rfl) er_add (fe_c (pe_globS [42] (by decide) (by rfl) T.STAR) (fun _ _ _ => .str _)) (fe_var (pv 1))) (fe_var (pv 1))) fa_nil))) fa_nil)) (fe_var (pv 1)) (nomark _)))))), fun ds Qd Ed n h => ?_⟩)
  · obtain ⟨t, u, rfl, _⟩ := h
    rfl
  · obtain ⟨t, u, rfl, ht, hu, hz, f1, f2, q⟩ := h
    rw [sd_is_tied_form]
    walk_at "dgo"
    refine ⟨t, u, rfl, ht, by omega, hu, by omega, f1, f2, t, rfl, by omega, u, rfl, by omega, ?_⟩
    walk_at "dgo"
    have l1 := enc_len t
    have l2 := enc_len u
    have h1 := sz_nf (.nd u u)
    have e1 : sz (.nd u u) = sz u + sz u := rfl
    have l3 := enc_len (nf (.nd u u))
    refine ⟨.inr (.inl (by omega)), sz t + 2 * sz u, by simp, hz, ?_⟩
    walk_at "dgo"
    refine ⟨by omega, by omega, by omega, .nd u u, rfl, ok_nd.mpr ⟨hu, hu⟩, by omega, ?_⟩
    walk_at "dgo"
    refine ⟨by omega, .nd t (nf (.nd u u)), rfl, ok_nd.mpr ⟨ht, ok_nf (ok_nd.mpr ⟨hu, hu⟩)⟩, ?_, ?_⟩
    · have : sz (.nd t (nf (.nd u u))) = sz t + sz (nf (.nd u u)) := rfl
      omega
    walk_at "dgo"
    rw [eq_enc (ok_nf (ok_nd.mpr ⟨ht, ok_nf (ok_nd.mpr ⟨hu, hu⟩)⟩)) hu]
    exact q
end
end LW

end

section
set_option maxHeartbeats 4000000
/-! G2: the law's webs: word webs, NINE, columns. -/
namespace LW
open PySem PySem.Spec PyProof.Rows L2 KG KT DL KW
local macro_rules | `(tactic| walk_at "dgo") => `(tactic| try simp only [d_var, d_c, d_op, d_nil, d_cons, d_star, d_call, d_tup, d_lst, d_new, DL.d_len, d_listN, d_test, d_tru, d_if, d_now, d_and, d_or, d_not, d_andV, d_orV, d_notV, d_part, d_nopart, d_sl, d_rev, d_revS, d_neg, d_fn, d_fnR, d_app, d_pass, d_seq, d_ret, d_retN, d_brk, d_cont, d_drop, d_set, d_asg, d_nm, d_ifS, d_aug, d_par, d_par3, d_for, d_it, d_rng1, d_lc, d_chain, d_whileN, d_callV, d_lam, d_fnC, d_fnN, d_head, gListN_l, gListN_t, d_fn0, d_mulN, d_subS, d_ext, d_popAt, d_dgetK, d_dgetT, d_newT, d_newK, d_updT, d_dictT, d_pr, d_listRng, d_sortSet, d_rng2, d_enumL, d_enumT, d_enumS, gListS_s, gMin_i, gMax_i, d_gcons, d_gnil, d_gtp, gReprB_b, gLen_scr, d_zip, DL.at0, DL.at1, DL.at2, dif_t, dif_f, difs_t, difs_f, way_t, way_f,
  gAdd_i, gAdd_s, gAdd_t, gAdd_l, gSub_i, gMod_i, gFdiv_i, gMul_i, gEq_i, gEq_s, gEq_b, gNe_i, gNe_s, gNe_b, gLt_i, gIs_n, gIs_b, gIsNot_n, gIsNot_b, gIx_s, gIx_t, gIx_l, gSl_s, gSl_t, gSl_l, gLen_s, gLen_t, gLen_l, gTupOf_l, gTupOf_t, gListOf_l, gListOf_t, gIsi_tt, gRepr_b, xb, xi, xs2, xp2, xp3, xref, tru_b', fz_s, fz_i, fz_b, fz_n, DL.isNon, fnEnds, wipeD, asS, asL, noRefs, noRef,
  List.set_cons_zero, List.set_cons_succ, List.getElem?_cons_zero, List.getElem?_cons_succ, List.map_cons, List.map_nil, List.append_nil, List.nil_append, List.cons_append, List.length_cons, List.length_nil, Nat.zero_add, true_and, and_true, Bool.and_true, Bool.true_and, Bool.not_true, Bool.not_false, decide_true, decide_false, Option.some.injEq, exists_eq_left'])
local macro_rules | `(tactic| walk_at "dbr") => `(tactic| first | refine way_p ?_ ?_ | refine difs_p ?_ ?_ | refine difs_n ?_ ?_ | refine dif_p ?_ ?_ | refine dif_n ?_ ?_ | refine difs_b ?_ ?_ | refine dif_b ?_ ?_)

-- @CELT _law_columns
section
variable {P : Program} {w : World} {K : PySem.W.Frag} {mg : Str → Option Value} {base : Heap} {tb : List (Addr × Str)}
def rowsD (R : Rows) : List D := R.map fun r => D.tup (nD r)
theorem rowsD_len (R : Rows) : (rowsD R).length = R.length := by unfold rowsD; rw [List.length_map]
theorem rowsD_at {R : Rows} {i : Nat} (h : i < R.length) : (rowsD R)[i]? = some (.tup (nD (row R i))) := by unfold rowsD; rw [List.getElem?_map, row_at h]; rfl
theorem nrs_rowsD : ∀ R : Rows, noRefs (rowsD R) = true
  | [] => by simp [rowsD, noRefs]
  | r :: R => by
    show noRefs (.tup (nD r) :: rowsD R) = true
    rw [noRefs, nrs_rowsD R, noRef, nrs_nD]
    rfl
theorem nds_rowsD : ∀ R : Rows, noDis (rowsD R) = true
  | [] => by simp [rowsD, noDis]
  | r :: R => by
    show noDis (.tup (nD r) :: rowsD R) = true
    rw [noDis, nds_rowsD R, noDi, nds_nD]
    rfl
abbrev sl__law_power : List Str := ["base", "number", "found", "turn"]
theorem sc__law_power : FnScope sl__law_power ["base", "number"] (defScope s__law_power) := ⟨rfl, rfl, rfl, by decide +kernel, rfl, by decide +kernel, by decide +kernel⟩
theorem st__law_power (v0 : V) (v1 : V) : L2.start sl__law_power [v0, v1] = [some v0, some v1, none, none] := rfl
theorem sd__law_power (v0 : D) (v1 : D) : startD sl__law_power [v0, v1] = [some v0, some v1, none, none] := rfl
def d__law_power : DSp := fun ds Q _ => ∃ b n : Nat, ds = [.int (b : Nat), .int (n : Nat)] ∧ b ≤ 1000 ∧ n ≤ 1000 ∧ Q (.int (b ^ n : Nat))
theorem okd__law_power (T : Top K mg) : FnOk P w K mg base CX0 1 T._law_power.f T._law_power.fd ["base", "number"] (spD K tb d__law_power) := by
  refine okD T._law_power.F sc__law_power (fun ds Qd Ed h => ?_) (fun dd et cdv A outer s H E hr => ⟨_, (fss_cons (fs_set (i := 2) sc__law_power.nd rfl (by first | exact Or.inl rfl | exact Or.inr rfl) fe_int) (fss_cons (fs_for PassesOwn.never (by rfl) (fi_range1 (by rfl) T.range (fa_cons (fe_var (pv 1)) fa_nil)) (fg_name (i := 3) sc__law_power.nd rfl (by first | exact Or.inl rfl | exact Or.inr rfl)) (fss_one (fs_set (i := 2) sc__law_power.nd rfl (by first | exact Or.inl rfl | exact Or.inr rfl) (fe_op (kk_mul (K := K) rfl) er_mul (fe_var (pv 2)) (fe_var (pv 0)))))) (fss_one (fs_ret (fe_var (pv 2)))))), fun ds Qd Ed nr h => ?_⟩)
  · obtain ⟨b, n, rfl, _⟩ := h
    rfl
  · obtain ⟨b, n, rfl, hb, hn, q⟩ := h
    rw [sd__law_power]
    walk_at "dgo"
    refine ⟨_, rfl, by omega, by omega, ?_⟩
    refine loop_inv (fun i ρ h => ∃ o, ρ = [some (.int (b : Nat)), some (.int (n : Nat)), some (.int (b ^ i : Nat)), o]) (fun _ _ _ _ _ => trivial) ⟨_, by simp; rfl⟩ ?_ ?_
    · rintro i d ρ h N hi ⟨o, rfl⟩ k
      walk_at "dgo"
      refine ⟨.inr (.inr ⟨by omega, by omega⟩), ?_⟩
      rw [show ((b ^ i : Nat) : Int) * (b : Nat) = (b ^ (i + 1) : Nat) by rw [Nat.pow_succ]; simp]
      exact k _ _ ⟨_, rfl⟩
    · rintro ρ h ⟨o, rfl⟩
      walk_at "dgo"
      rw [intsD_len, Int.toNat_natCast]
      exact q
abbrev sl__law_nine : List Str := ["found"]
theorem sc__law_nine : FnScope sl__law_nine [] (defScope s__law_nine) := ⟨rfl, rfl, rfl, by decide +kernel, rfl, by decide +kernel, by decide +kernel⟩
theorem st__law_nine  : L2.start sl__law_nine [] = [none] := rfl
theorem sd__law_nine  : startD sl__law_nine [] = [none] := rfl
def nine : Rows := [[0, 1, 2], [4, 5, 6], [3, 7, 8], [0, 1, 2], [3, 4, 5], [6, 7, 8], [0, 1, 2], [3, 4, 5], [6, 7, 8]]
def d__law_nine : DSp := fun ds Q _ => ds = [] ∧ Q (.lst (rowsD nine))
theorem okd__law_nine (T : Top K mg) : FnOk P w K mg base CX0 1 T._law_nine.f T._law_nine.fd [] (spD K tb d__law_nine) := by
  refine okD T._law_nine.F sc__law_nine (fun ds Qd Ed h => ?_) (fun dd et cdv A outer s H E hr => ⟨_, (fss_cons (fs_set (i := 0) sc__law_nine.nd rfl (by first | exact Or.inl rfl | exact Or.inr rfl) (fe_lst (fa_cons (fe_tup (fa_cons fe_int (fa_cons fe_int (fa_cons fe_int fa_nil)))) (fa_cons (fe_tup (fa_cons fe_int (fa_cons fe_int (fa_cons fe_int fa_nil)))) (fa_cons (fe_tup (fa_cons fe_int (fa_cons fe_int (fa_cons fe_int fa_nil)))) (fa_cons (fe_tup (fa_cons fe_int (fa_cons fe_int (fa_cons fe_int fa_nil)))) (fa_cons (fe_tup (fa_cons fe_int (fa_cons fe_int (fa_cons fe_int fa_nil)))) fa_nil))))))) (fss_one (fs_ret (fe_op (kk_add (K := K) rfl) er_add (fe_var (pv 0)) (fe_lst (fa_cons (fe_tup (fa_cons fe_int (fa_cons fe_int (fa_cons fe_int fa_nil)))) (fa_cons (fe_tup (fa_cons fe_int (fa_cons fe_int (fa_cons fe_int fa_nil)))) (fa_cons (fe_tup (fa_cons fe_int (fa_cons fe_int (fa_cons fe_int fa_nil)))) (fa_cons (fe_tup (fa_cons fe_int (fa_cons fe_int (fa_cons fe_int fa_nil)))) fa_nil))))))))), fun ds Qd Ed nr h => ?_⟩)
  · obtain ⟨rfl, _⟩ := h
    rfl
  · obtain ⟨rfl, q⟩ := h
    rw [sd__law_nine]
    walk_at "dgo"
    iterate 12 (refine ⟨by decide, ?_⟩)
    exact fz_l (nrs_rowsD nine) q
abbrev sl__law_word_rows : List Str := ["degree", "depth", "total", "figure", "place"]
theorem sc__law_word_rows : FnScope sl__law_word_rows ["degree", "depth"] (defScope s__law_word_rows) := ⟨rfl, rfl, rfl, by decide +kernel, rfl, by decide +kernel, by decide +kernel⟩
theorem st__law_word_rows (v0 : V) (v1 : V) : L2.start sl__law_word_rows [v0, v1] = [some v0, some v1, none, none, none] := rfl
theorem sd__law_word_rows (v0 : D) (v1 : D) : startD sl__law_word_rows [v0, v1] = [some v0, some v1, none, none, none] := rfl
theorem word_asc {d p : Nat} (h1 : 2 ≤ d) (h2 : d ≤ 4) (hp : p < d ^ 2) : ((List.range d).map fun f => (p * d + f) % (d ^ 2)).Pairwise (· ≤ ·) := by
  have : ∀ d : Fin 5, ∀ p : Fin 16, p.val < d.val ^ 2 → ((List.range d.val).map fun f => (p.val * d.val + f) % (d.val ^ 2)).Pairwise (· ≤ ·) := by decide
  exact this ⟨d, by omega⟩ ⟨p, by have : d ^ 2 ≤ 4 ^ 2 := Nat.pow_le_pow_left h2 2; omega⟩ hp
theorem perm_asc {l l' : List Nat} (p : l'.Perm l) (h : l.Pairwise (· ≤ ·)) (h' : l'.Pairwise (· ≤ ·)) : l' = l := List.Perm.eq_of_pairwise (fun a b _ _ x y => Nat.le_antisymm x y) h' h p
def wordRows (d : Nat) : Rows := (List.range (d ^ 2)).map fun p => (List.range d).map fun f => (p * d + f) % (d ^ 2)
def d__law_word_rows : DSp := fun ds Q _ => ∃ d : Nat, ds = [.int (d : Nat), .int 2] ∧ 2 ≤ d ∧ d ≤ 4 ∧ Q (.lst (rowsD (wordRows d)))
theorem okd__law_word_rows (T : Top K mg) : FnOk P w K mg base CX0 2 T._law_word_rows.f T._law_word_rows.fd ["degree", "depth"] (spD K tb d__law_word_rows) := by
  refine okD T._law_word_rows.F sc__law_word_rows (fun ds Qd Ed h => ?_) (fun dd et cdv A outer s H E hr => ⟨_, (fss_cons (fs_set (i := 2) sc__law_word_rows.nd rfl (by first | exact Or.inl rfl | exact Or.inr rfl) (fe_callO (K := K) rfl et (okd__law_power T) (hr.mono (by first | decide | omega)) (by rfl) (fa_cons (fe_var (pv 0)) (fa_cons (fe_var (pv 1)) fa_nil)))) (fss_one (fs_ret (fe_lc (own := [("place", 4)]) (fun _ _ => rfl) (by rfl) sc__law_word_rows.nd (fi_range1 (by rfl) T.range (fa_cons (fe_var (pv 2)) fa_nil)) (blkOk_by (own := [("place", 4)]) (N := sl__law_word_rows) (sc := defScope s__law_word_rows) (by decide +kernel)) (wn_name (by decide)) (fun _ _ _ _ _ => (fg_name (i := 4) sc__law_word_rows.nd rfl (by first | exact Or.inl rfl | exact Or.inr rfl))) (fun _ _ _ _ _ => fts_nil) (fun _ _ _ _ _ => (fe_callTy (kk_tupOf (K := K) rfl) ec_tupOf (by rfl) T.tuple (by decide +kernel) (fa_cons (fe_callB (kk_sortedI (K := K) rfl) ec_sorted (by rfl) T.sorted (by decide +kernel) (fa_cons (fe_lc (own := [("figure", 3)]) (fun _ _ => rfl) (by rfl) sc__law_word_rows.nd (fi_range1 (by rfl) T.range (fa_cons (fe_var (pv 0)) fa_nil)) (blkOk_by (own := [("figure", 3)]) (N := sl__law_word_rows) (by kernel_rfl)) (wn_name (by decide)) (fun _ _ _ _ _ => (fg_name (i := 3) sc__law_word_rows.nd rfl (by first | exact Or.inl rfl | exact Or.inr rfl))) (fun _ _ _ _ _ => fts_nil) (fun _ _ _ _ _ => (fe_op op_kMod er_mod (fe_op (kk_add (K := K) rfl) er_add (fe_op (kk_mul (K := K) rfl) er_mul (fe_var (pv 4)) (fe_var (pv 0))) (fe_var (pv 3))) (fe_var (pv 2)))) (by intro _; rfl) s) fa_nil)) fa_nil))) (by intro _; rfl) s)))), fun ds Qd Ed nr h => ?_⟩)
  · obtain ⟨d, rfl, _⟩ := h
    rfl
  · obtain ⟨d, rfl, h1, h2, q⟩ := h
    rw [sd__law_word_rows]
    walk_at "dgo"
    have e2 : d ^ 2 ≤ 4 ^ 2 := Nat.pow_le_pow_left h2 2
    refine ⟨d, 2, rfl, by omega, by omega, _, rfl, by omega, by omega, ?_⟩
    rw [Int.toNat_natCast]
    refine lc_map (fun x => match x with | .int i => .tup (nD ((List.range d).map fun f => (i.toNat * d + f) % (d ^ 2))) | x => x) trivial (by rw [intsD_len]; omega) ?_ ?_
    · intro x hx k q
      obtain ⟨i, hi, rfl⟩ := intsD_mem hx
      rw [Int.zero_add] at q ⊢
      walk_at "dgo"
      refine ⟨_, rfl, by omega, by omega, ?_⟩
      rw [Int.toNat_natCast]
      refine lc_map (fun x => match x with | .int f => .int (((i * d + f.toNat) % (d ^ 2) : Nat)) | x => x) trivial (by rw [intsD_len]; omega) ?_ ?_
      · intro y hy k2 q2
        obtain ⟨f, hf, rfl⟩ := intsD_mem hy
        rw [Int.zero_add] at q2 ⊢
        walk_at "dgo"
        have hd : 0 < d ^ 2 := Nat.pow_pos (by omega)
        refine ⟨.inr (.inr ⟨by omega, by omega⟩), by omega, ?_⟩
        simpa using q2
      · rw [intsD_n, show List.map (fun x => match x with | D.int f => D.int (((i * d + f.toNat) % (d ^ 2) : Nat)) | x => x) (nD (List.range d)) = nD ((List.range d).map fun f => (i * d + f) % (d ^ 2)) by unfold nD; simp]
        refine gSorted_n fun ks' hp hs => ?_
        rw [perm_asc hp (word_asc h1 h2 hi) hs]
        walk_at "dgo"
        simpa using q
    · rw [intsD_n, show List.map _ (nD (List.range (d ^ 2))) = rowsD (wordRows d) by unfold rowsD wordRows nD; simp]
      exact fz_l (nrs_rowsD _) q
def cellsD (cs : Rows) : List Cell := cs.map fun c => Cell.lst (nD c)
theorem cellsD_len (cs : Rows) : (cellsD cs).length = cs.length := by unfold cellsD; rw [List.length_map]
theorem cellsD_at {cs : Rows} {i : Nat} (h : i < cs.length) : (cellsD cs)[i]? = some (.lst (nD (row cs i))) := by unfold cellsD; rw [List.getElem?_map, row_at h]; rfl
theorem cellsD_set {cs : Rows} {i : Nat} {c : List Nat} {l : List D} (e : l = nD c) : (cellsD cs).set i (.lst l) = cellsD (cs.set i c) := by unfold cellsD; rw [List.map_set, e]
theorem row_set {cs : Rows} {i j : Nat} {c : List Nat} (h : i < cs.length) : row (cs.set i c) j = if j = i then c else row cs j := by
  unfold row
  rw [List.getD_eq_getElem?_getD, List.getD_eq_getElem?_getD]
  by_cases e : j = i
  · subst e; rw [if_pos rfl, List.getElem?_set_self h]; rfl
  · rw [if_neg e, List.getElem?_set_ne (Ne.symm e)]
def refsD (n : Nat) : List D := (List.range n).map D.ref
theorem refsD_at {n i : Nat} (h : i < n) : (refsD n)[i]? = some (.ref i) := by unfold refsD; simp [h]
theorem enumD_at {l : List D} {i : Nat} {d : D} (h : (enumD l)[i]? = some d) : ∃ x, l[i]? = some x ∧ d = .tup [.int (i : Nat), x] := by
  unfold enumD at h
  rw [List.getElem?_mapIdx] at h
  obtain ⟨x, e, rfl⟩ := Option.map_eq_some_iff.mp h
  exact ⟨x, e, rfl⟩
theorem nD_at' {ns : List Nat} {i : Nat} {d : D} (h : (nD ns)[i]? = some d) : ∃ n, ns[i]? = some n ∧ d = .int (n : Nat) := by
  unfold nD at h
  rw [List.getElem?_map] at h
  obtain ⟨x, e, rfl⟩ := Option.map_eq_some_iff.mp h
  exact ⟨x, e, rfl⟩
theorem enumD_len {l : List D} : (enumD l).length = l.length := by unfold enumD; rw [List.length_mapIdx]
abbrev sl__law_columns : List Str := ["rows", "found", "place", "row", "one", "column"]
theorem sc__law_columns : FnScope sl__law_columns ["rows"] (defScope s__law_columns) := ⟨rfl, rfl, rfl, by decide +kernel, rfl, by decide +kernel, by decide +kernel⟩
theorem st__law_columns (v0 : V) : L2.start sl__law_columns [v0] = [some v0, none, none, none, none, none] := rfl
theorem sd__law_columns (v0 : D) : startD sl__law_columns [v0] = [some v0, none, none, none, none, none] := rfl
def d__law_columns : DSp := fun ds Q _ => ∃ R : Rows, ds = [.lst (rowsD R)] ∧ R.length ≤ 100 ∧ (∀ r ∈ R, ∀ p ∈ r, p < R.length) ∧ (∀ r ∈ R, r.length ≤ 100) ∧ ∀ cs : Rows, cs.length = R.length → (∀ i p, p ∈ row cs i ↔ i ∈ row R p) → Q (.lst (rowsD cs))
theorem okd__law_columns (T : Top K mg) : FnOk P w K mg base CX0 1 T._law_columns.f T._law_columns.fd ["rows"] (spD K tb d__law_columns) := by
  refine okD T._law_columns.F sc__law_columns (fun ds Qd Ed h => ?_) (fun dd et cdv A outer s H E hr => ⟨_, (fss_cons (fs_setLc (i := 1) (own := [("place", 2)]) (fun _ _ => rfl) (by rfl) sc__law_columns.nd rfl rfl (sw_true rfl rfl rfl (by decide +kernel)) (fi_range1 (by rfl) T.range (fa_cons (fe_callB (kk_len (K := K) rfl) ec_len (by rfl) T.len (by decide +kernel) (fa_cons (fe_var (pv 0)) fa_nil)) fa_nil)) (blkOk_by (own := [("place", 2)]) (N := sl__law_columns) (sc := defScope s__law_columns) (by decide +kernel)) (wn_name (by decide)) (fun _ _ _ _ _ => (fg_name (i := 2) sc__law_columns.nd rfl (by first | exact Or.inl rfl | exact Or.inr rfl))) (fun _ _ _ _ _ => fts_nil) (fun _ _ _ _ _ => (fe_cell (fn_lst fa_nil))) (by intro _; rfl) s) (fss_cons (fs_for PassesOwn.never (by rfl) (fi_enumL (K := K) rfl (by rfl) T.enumerate (fa_cons (fe_var (pv 0)) fa_nil)) (fg_tup (K := K) (n := 2) rfl (by rfl) (fgs_cons (fg_name (i := 2) sc__law_columns.nd rfl (by first | exact Or.inl rfl | exact Or.inr rfl)) (fgs_cons (fg_name (i := 3) sc__law_columns.nd rfl (by first | exact Or.inl rfl | exact Or.inr rfl)) fgs_nil))) (fss_one (fs_for PassesOwn.never (by rfl) (fi_seq (K := K) rfl (fe_var (pv 3))) (fg_name (i := 4) sc__law_columns.nd rfl (by first | exact Or.inl rfl | exact Or.inr rfl)) (fss_one (fs_expr (fe_append (K := K) rfl (fe_ix (kk_ix (K := K) rfl) er_ix (fe_var (pv 1)) (fe_var (pv 4))) (fe_var (pv 2)) (fun _ _ a b => pe_bm PySem.F.plainAttrs_list PySem.F.slot_list_append PySem.F.type_list_append mt_append a b))))))) (fss_one (fs_ret (fe_lc (own := [("column", 5)]) (fun _ _ => rfl) (by rfl) sc__law_columns.nd (fi_seq (K := K) rfl (fe_var (pv 1))) (blkOk_by (own := [("column", 5)]) (N := sl__law_columns) (sc := defScope s__law_columns) (by decide +kernel)) (wn_name (by decide)) (fun _ _ _ _ _ => (fg_name (i := 5) sc__law_columns.nd rfl (by first | exact Or.inl rfl | exact Or.inr rfl))) (fun _ _ _ _ _ => fts_nil) (fun _ _ _ _ _ => (fe_callTy (kk_tupOf (K := K) rfl) ec_tupOf (by rfl) T.tuple (by decide +kernel) (fa_cons (fe_var (pv 5)) fa_nil))) (by intro _; rfl) s))))), fun ds Qd Ed nr h => ?_⟩)
  · obtain ⟨R, rfl, _⟩ := h
    rfl
  · obtain ⟨R, rfl, hn, hlt, hll, q⟩ := h
    rw [sd__law_columns]
    walk_at "dgo"
    refine ⟨_, rfl, by rw [rowsD_len]; omega, by rw [rowsD_len]; omega, ?_⟩
    rw [Int.toNat_natCast, rowsD_len]
    refine lc_inv (fun i acc h => acc = refsD i ∧ h = cellsD (List.replicate i [])) (fun _ _ _ _ _ => trivial) ⟨rfl, rfl⟩ ?_ ?_
    · rintro i d acc h N hi ⟨rfl, rfl⟩ k
      have hi' := (intsD_at hi).1
      walk_at "dgo"
      refine ⟨by omega, by unfold refsD; simp; omega, k _ _ ⟨?_, ?_⟩⟩
      · rw [cellsD_len]
        unfold refsD
        simp [List.range_succ]
      · unfold cellsD
        rw [List.replicate_succ', List.map_append]
        rfl
    · rintro acc h ⟨rfl, rfl⟩
      rw [intsD_len]
      refine ⟨_, _, rfl, rfl, ?_⟩
      refine loop_inv (fun k ρ h => ∃ (cs : Rows) (o2 o3 o4 o5 : Option D), ρ = [some (.lst (rowsD R)), some (.lst (refsD R.length)), o2, o3, o4, o5] ∧ h = cellsD cs ∧ cs.length = R.length ∧ (∀ i p, p ∈ row cs i ↔ p < k ∧ i ∈ row R p) ∧ ∀ i, (row cs i).length ≤ 100 * k)
        (fun _ _ _ _ _ => trivial) ⟨List.replicate R.length [], _, _, _, _, rfl, rfl, by simp, fun i p => ?_, fun i => ?_⟩ ?_ ?_
      · unfold row
        rw [List.getD_eq_getElem?_getD, List.getElem?_replicate]
        split <;> simp
      · unfold row
        rw [List.getD_eq_getElem?_getD, List.getElem?_replicate]
        split <;> simp
      · rintro k d ρ h N hi ⟨cs, o2, o3, o4, o5, rfl, rfl, hl, hm, hc⟩ kN
        obtain ⟨x, ex, rfl⟩ := enumD_at hi
        have hk : k < R.length := by
          have := (List.getElem?_eq_some_iff.mp ex).1
          rwa [rowsD_len] at this
        rw [rowsD_at hk] at ex
        cases ex
        walk_at "dgo"
        refine ⟨_, rfl, rfl, _, _, rfl, _, _, rfl, rfl, ?_⟩
        walk_at "dgo"
        refine ⟨_, rfl, ?_⟩
        refine loop_inv (fun j ρ h => ∃ (cs : Rows) (o4 o5 : Option D), ρ = [some (.lst (rowsD R)), some (.lst (refsD R.length)), some (.int (k : Nat)), some (.tup (nD (row R k))), o4, o5] ∧ h = cellsD cs ∧ cs.length = R.length ∧ (∀ i p, p ∈ row cs i ↔ (p < k ∧ i ∈ row R p) ∨ (p = k ∧ i ∈ (row R k).take j)) ∧ ∀ i, (row cs i).length ≤ 100 * k + j)
          (fun _ _ _ _ _ => trivial) ⟨cs, _, _, rfl, rfl, hl, fun i p => by rw [hm]; simp, fun i => by have := hc i; omega⟩ ?_ ?_
        · rintro j d ρ h N2 hj ⟨cs, o4, o5, rfl, rfl, hl, hm, hc⟩ kN2
          obtain ⟨x, ex, rfl⟩ := nD_at' hj
          have hxm : x ∈ row R k := List.mem_of_getElem? ex
          have hx : x < R.length := hlt _ (row_mem hxm).2 x hxm
          walk_at "dgo"
          refine ⟨_, at_nat (refsD_at hx), _, rfl, ⟨_, cellsD_at (by omega)⟩, _, cellsD_at (by omega), ?_, kN2 _ _ ⟨cs.set x (row cs x ++ [k]), _, _, rfl, cellsD_set (by rw [← nD_app]; rfl), by simpa using hl, fun i p => ?_, fun i => ?_⟩⟩
          · rw [nD_len]
            have := hc x
            have h1 : j < (row R k).length := (List.getElem?_eq_some_iff.mp ex).1
            have h2 := hll _ (row_mem hxm).2
            omega
          · rw [row_set (by omega)]
            have tk : ∀ i, i ∈ (row R k).take (j + 1) ↔ i ∈ (row R k).take j ∨ i = x := fun i => by
              rw [List.take_add_one, ex]
              simp
            rw [tk]
            by_cases e : i = x
            · subst e
              rw [if_pos rfl, List.mem_append, hm, List.mem_singleton]
              constructor
              · rintro (h | h)
                · rcases h with h | h
                  · exact .inl h
                  · exact .inr ⟨h.1, .inl h.2⟩
                · exact .inr ⟨h, .inr rfl⟩
              · rintro (h | ⟨h, _⟩)
                · exact .inl (.inl h)
                · exact .inr h
            · rw [if_neg e, hm]
              simp [e]
          · rw [row_set (by omega)]
            have h1 := hc i
            have h2 := hc x
            split
            · rw [List.length_append, List.length_singleton]; omega
            · omega
        · rintro ρ h ⟨cs, o4, o5, rfl, rfl, hl, hm, hc⟩
          rw [nD_len] at hm hc
          refine kN _ _ ⟨cs, _, _, _, _, rfl, rfl, hl, fun i p => ?_, fun i => ?_⟩
          · rw [hm, List.take_length]
            constructor
            · rintro (⟨h1, h2⟩ | ⟨rfl, h2⟩)
              · exact ⟨by omega, h2⟩
              · exact ⟨by omega, h2⟩
            · rintro ⟨h1, h2⟩
              by_cases e : p = k
              · subst e; exact .inr ⟨rfl, h2⟩
              · exact .inl ⟨by omega, h2⟩
          · have h1 := hc i
            have h2 : (row R k).length ≤ 100 := by
              have := row_at hk
              exact hll _ (List.mem_of_getElem? this)
            omega
      · rintro ρ h ⟨cs, o2, o3, o4, o5, rfl, rfl, hl, hm, hc⟩
        rw [enumD_len, rowsD_len] at hm hc
        walk_at "dgo"
        refine ⟨_, rfl, ?_⟩
        refine lc_map (fun d => match d with | .ref i => .tup (nD (row cs i)) | d => d) trivial (by unfold refsD; simp; omega) ?_ ?_
        · intro d hd k q
          obtain ⟨i, hi, rfl⟩ := List.mem_map.mp hd
          have hi' : i < R.length := List.mem_range.mp hi
          walk_at "dgo"
          exact ⟨_, asL_r (cellsD_at (by omega)), q⟩
        · have e : List.map (fun d => match d with | D.ref i => D.tup (nD (row cs i)) | d => d) (refsD R.length) = rowsD cs := by
            unfold refsD rowsD
            rw [List.map_map, ← hl]
            refine List.ext_getElem (by simp) fun i h1 h2 => ?_
            have hi : i < cs.length := by simpa using h1
            simp only [List.getElem_map, List.getElem_range, Function.comp]
            rw [row_of (List.getElem?_eq_getElem hi)]
          rw [e]
          refine fz_l (nrs_rowsD _) (q cs hl fun i p => ?_)
          rw [hm]
          exact ⟨fun h => h.2, fun h => ⟨(row_mem h).1, h⟩⟩
end
end LW

end

section
set_option maxHeartbeats 4000000
/-! G3: other names, mates, switched rows, a drawn order. -/
namespace LW
open PySem PySem.Spec PyProof.Rows L2 KG KT DL KW
local macro_rules | `(tactic| walk_at "dgo") => `(tactic| try simp only [d_var, d_c, d_op, d_nil, d_cons, d_star, d_call, d_tup, d_lst, d_new, DL.d_len, d_listN, d_test, d_tru, d_if, d_now, d_and, d_or, d_not, d_andV, d_orV, d_notV, d_part, d_nopart, d_sl, d_rev, d_revS, d_neg, d_fn, d_fnR, d_app, d_pass, d_seq, d_ret, d_retN, d_brk, d_cont, d_drop, d_set, d_asg, d_nm, d_ifS, d_aug, d_par, d_par3, d_for, d_it, d_rng1, d_lc, d_chain, d_whileN, d_callV, d_lam, d_fnC, d_fnN, d_head, gListN_l, gListN_t, d_fn0, d_mulN, d_subS, d_ext, d_popAt, d_dgetK, d_dgetT, d_newT, d_newK, d_updT, d_dictT, d_pr, d_listRng, d_sortSet, d_rng2, d_enumL, d_enumT, d_enumS, gListS_s, gMin_i, gMax_i, d_gcons, d_gnil, d_gtp, gReprB_b, gLen_scr, d_zip, DL.at0, DL.at1, DL.at2, dif_t, dif_f, difs_t, difs_f, way_t, way_f,
  gAdd_i, gAdd_s, gAdd_t, gAdd_l, gSub_i, gMod_i, gFdiv_i, gMul_i, gEq_i, gEq_s, gEq_b, gNe_i, gNe_s, gNe_b, gLt_i, gIs_n, gIs_b, gIsNot_n, gIsNot_b, gIx_s, gIx_t, gIx_l, gSl_s, gSl_t, gSl_l, gLen_s, gLen_t, gLen_l, gTupOf_l, gTupOf_t, gListOf_l, gListOf_t, gIsi_tt, gRepr_b, xb, xi, xs2, xp2, xp3, xref, tru_b', fz_s, fz_i, fz_b, fz_n, DL.isNon, fnEnds, wipeD, asS, asL, noRefs, noRef,
  List.set_cons_zero, List.set_cons_succ, List.getElem?_cons_zero, List.getElem?_cons_succ, List.map_cons, List.map_nil, List.append_nil, List.nil_append, List.cons_append, List.length_cons, List.length_nil, Nat.zero_add, true_and, and_true, Bool.and_true, Bool.true_and, Bool.not_true, Bool.not_false, decide_true, decide_false, Option.some.injEq, exists_eq_left'])
local macro_rules | `(tactic| walk_at "dbr") => `(tactic| first | refine way_p ?_ ?_ | refine difs_p ?_ ?_ | refine difs_n ?_ ?_ | refine dif_p ?_ ?_ | refine dif_n ?_ ?_ | refine difs_b ?_ ?_ | refine dif_b ?_ ?_)

-- @CELL _law_renamed found
-- @CELL _law_mates found
-- @CELL _law_switched found
-- @CELL _law_mixed left found
-- @REFARG _law_mixed len
section
variable {P : Program} {w : World} {K : PySem.W.Frag} {mg : Str → Option Value} {base : Heap} {tb : List (Addr × Str)}
/-- the shape of a lone web -/
structure Web (R : Rows) : Prop where
  lone : Lone R
  len : R.length ≤ 16
theorem Web.lt {R : Rows} (W : Web R) : ∀ r ∈ R, ∀ p ∈ r, p < R.length := fun r hr p hp => by
  obtain ⟨i, hi, e⟩ := List.mem_iff_getElem.mp hr
  have : p ∈ row R i := by rw [row_of (List.getElem?_eq_getElem hi), e]; exact hp
  exact (W.lone.one.lt i p this).2
theorem Web.rlen {R : Rows} (W : Web R) (r : List Nat) (hr : r ∈ R) : r.length ≤ 16 := by
  have := len_le (l1 := r) (l2 := List.range R.length) (asc_nd (W.lone.asc r hr)) fun x hx => List.mem_range.mpr (W.lt r hr x hx)
  rw [List.length_range] at this
  have := W.len
  omega
theorem Web.row_len {R : Rows} (W : Web R) (a : Nat) : (row R a).length ≤ 16 := by
  by_cases h : a < R.length
  · exact W.rlen _ (List.mem_of_getElem? (row_at h))
  · unfold row
    rw [List.getD_eq_getElem?_getD, List.getElem?_eq_none (by omega)]
    simp
theorem nrs_mem {l : List D} : noRefs l = true ↔ ∀ d ∈ l, noRef d = true := by
  induction l with
  | nil => simp [noRefs]
  | cons x l ih => rw [noRefs, Bool.and_eq_true, ih]; simp
theorem nrs_perm {l l' : List D} (p : l'.Perm l) (h : noRefs l = true) : noRefs l' = true := nrs_mem.mpr fun d hd => nrs_mem.mp h d (p.mem_iff.mp hd)
def prsD (ps : List (Nat × Nat)) : List D := ps.map fun x => .tup [.int (x.1 : Nat), .int (x.2 : Nat)]
theorem nrs_prsD (ps : List (Nat × Nat)) : noRefs (prsD ps) = true := nrs_mem.mpr fun d hd => by
  obtain ⟨x, _, rfl⟩ := List.mem_map.mp hd
  simp [noRef, noRefs]
abbrev sl__law_renamed : List Str := ["rows", "names", "found", "place", "row", "one"]
theorem sc__law_renamed : FnScope sl__law_renamed ["rows", "names"] (defScope s__law_renamed) := ⟨rfl, rfl, rfl, by decide +kernel, rfl, by decide +kernel, by decide +kernel⟩
theorem st__law_renamed (v0 : V) (v1 : V) : L2.start sl__law_renamed [v0, v1] = [some v0, some v1, none, none, none, none] := rfl
theorem sd__law_renamed (v0 : D) (v1 : D) : startD sl__law_renamed [v0, v1] = [some v0, some v1, none, none, none, none] := rfl
def d__law_renamed : DSp := fun ds Q _ => ∃ (R : Rows) (nm : List Nat), ds = [.lst (rowsD R), .lst (nD nm)] ∧ Web R ∧ nm.Perm (List.range R.length) ∧ ∀ R', Web R' → R'.length = R.length → Q (.lst (rowsD R'))
theorem okd__law_renamed (T : Top K mg) : FnOk P w K mg base CX0 1 T._law_renamed.f T._law_renamed.fd ["rows", "names"] (spD K tb d__law_renamed) := by
  refine okD T._law_renamed.F sc__law_renamed (fun ds Qd Ed h => ?_) (fun dd et cdv A outer s H E hr => ⟨_, (fss_cons (fs_set (i := 2) sc__law_renamed.nd rfl (by first | exact Or.inl rfl | exact Or.inr rfl) (fe_cell (fn_mul (K := K) rfl (fe_lst (fa_cons (fe_tup fa_nil) fa_nil)) (fe_callB (kk_len (K := K) rfl) ec_len (by rfl) T.len (by decide +kernel) (fa_cons (fe_var (pv 0)) fa_nil))))) (fss_cons (fs_for PassesOwn.never (by rfl) (fi_enumL (K := K) rfl (by rfl) T.enumerate (fa_cons (fe_var (pv 0)) fa_nil)) (fg_tup (K := K) (n := 2) rfl (by rfl) (fgs_cons (fg_name (i := 3) sc__law_renamed.nd rfl (by first | exact Or.inl rfl | exact Or.inr rfl)) (fgs_cons (fg_name (i := 4) sc__law_renamed.nd rfl (by first | exact Or.inl rfl | exact Or.inr rfl)) fgs_nil))) (fss_one (fs_asg (fe_callTy (kk_tupOf (K := K) rfl) ec_tupOf (by rfl) T.tuple (by decide +kernel) (fa_cons (fe_callB (kk_sortedI (K := K) rfl) ec_sorted (by rfl) T.sorted (by decide +kernel) (fa_cons (fe_lc (own := [("one", 5)]) (fun _ _ => rfl) (by rfl) sc__law_renamed.nd (fi_seq (K := K) rfl (fe_var (pv 4))) (blkOk_by (own := [("one", 5)]) (N := sl__law_renamed) (sc := defScope s__law_renamed) (by decide +kernel)) (wn_name (by decide)) (fun _ _ _ _ _ => (fg_name (i := 5) sc__law_renamed.nd rfl (by first | exact Or.inl rfl | exact Or.inr rfl))) (fun _ _ _ _ _ => fts_nil) (fun _ _ _ _ _ => (fe_ix (kk_ix (K := K) rfl) er_ix (fe_var (pv 1)) (fe_var (pv 5)))) (by intro _; rfl) s) fa_nil)) fa_nil)) (fg_sub (E := fun _ => E0) (fe_var (pv 2)) (fe_ix (kk_ix (K := K) rfl) er_ix (fe_var (pv 1)) (fe_var (pv 3))))))) (fss_one (fs_ret (fe_var (pv 2)))))), fun ds Qd Ed nr h => ?_⟩)
  · obtain ⟨R, nm, rfl, _⟩ := h
    rfl
  · obtain ⟨R, nm, rfl, W, hp, q⟩ := h
    rw [sd__law_renamed]
    walk_at "dgo"
    have wl := W.len
    have nl : nm.length = R.length := by rw [hp.length_eq, List.length_range]
    have nn : nm.Nodup := hp.nodup_iff.mpr List.nodup_range
    have nlt : ∀ p, p < R.length → nm.getD p 0 < R.length ∧ nm[p]? = some (nm.getD p 0) := fun p h => by
      have e : nm[p]? = some (nm.getD p 0) := by rw [List.getD_eq_getElem?_getD, List.getElem?_eq_getElem (by omega)]; rfl
      exact ⟨List.mem_range.mp (hp.mem_iff.mp (List.mem_of_getElem? e)), e⟩
    have inj : ∀ p q, p < R.length → q < R.length → nm.getD p 0 = nm.getD q 0 → p = q := fun p q h1 h2 e => by
      rw [List.getD_eq_getElem?_getD, List.getD_eq_getElem?_getD, List.getElem?_eq_getElem (by omega), List.getElem?_eq_getElem (by omega)] at e
      exact (List.getElem_inj nn).mp e
    refine ⟨by omega, by omega, _, _, rfl, rfl, by omega, by rw [rowsD_len]; omega, by simp, _, _, rfl, rfl, ?_⟩
    rw [rowsD_len, Int.toNat_natCast]
    refine loop_inv (fun k ρ h => ∃ (F : Rows) (o3 o4 o5 : Option D), ρ = [some (.lst (rowsD R)), some (.lst (nD nm)), some (.ref 0), o3, o4, o5] ∧ h = [.lst (rowsD F)] ∧ F.length = R.length ∧ ∀ p, p < k → p < R.length → ∃ r, F[nm.getD p 0]? = some r ∧ r.Pairwise (· ≤ ·) ∧ r.Perm ((row R p).map fun q => nm.getD q 0))
      (fun _ _ _ _ _ => trivial) ⟨List.replicate R.length [], _, _, _, rfl, ?_, by simp, fun p h => by omega⟩ ?_ ?_
    · have : (List.replicate R.length [D.tup []]).flatten = rowsD (List.replicate R.length []) := by
        unfold rowsD
        rw [List.map_replicate]
        generalize R.length = n
        induction n with
        | zero => rfl
        | succ n ih => rw [List.replicate_succ, List.flatten_cons, ih, List.replicate_succ]; rfl
      rw [this]
    · rintro k d ρ h N hi ⟨F, o3, o4, o5, rfl, rfl, hl, hF⟩ kN
      obtain ⟨x, ex, rfl⟩ := enumD_at hi
      have hk : k < R.length := by
        have := (List.getElem?_eq_some_iff.mp ex).1
        rwa [rowsD_len] at this
      rw [rowsD_at hk] at ex
      cases ex
      walk_at "dgo"
      refine ⟨_, rfl, rfl, _, _, rfl, _, _, rfl, rfl, ?_⟩
      walk_at "dgo"
      refine ⟨_, rfl, ?_⟩
      have rl := W.row_len k
      refine lc_map (fun x => match x with | .int q => .int ((nm.getD q.toNat 0 : Nat)) | x => x) trivial (by rw [nD_len]; omega) ?_ ?_
      · intro x hx kk q0
        obtain ⟨j, hj, rfl⟩ := List.mem_map.mp hx
        have hjl := (W.lone.one.lt k j hj).2
        walk_at "dgo"
        refine ⟨_, at_nat (nD_at (nlt j hjl).2), ?_⟩
        simpa using q0
      · rw [show List.map (fun x => match x with | D.int q => D.int ((nm.getD q.toNat 0 : Nat)) | x => x) (nD (row R k)) = nD ((row R k).map fun q => nm.getD q 0) by unfold nD; simp]
        refine gSorted_n fun ks' hp' hs' => ?_
        walk_at "dgo"
        refine ⟨_, at_nat (nD_at (nlt k hk).2), 0, _, _, nm.getD k 0, rfl, rfl, rfl, ?_, ?_⟩
        · rw [rowsD_len, hl]; exact ixN_nat (nlt k hk).1
        · refine kN _ _ ⟨F.set (nm.getD k 0) ks', _, _, _, rfl, ?_, by simpa using hl, fun p h1 h2 => ?_⟩
          · unfold rowsD; rw [List.map_set]; rfl
          · by_cases e : p = k
            · subst e
              exact ⟨ks', List.getElem?_set_self (by rw [hl]; exact (nlt p h2).1), hs', hp'⟩
            · obtain ⟨r, h3, h4⟩ := hF p (by omega) h2
              exact ⟨r, by rw [List.getElem?_set_ne fun z => e (inj p k h2 hk z.symm)]; exact h3, h4⟩
    · rintro ρ h ⟨F, o3, o4, o5, rfl, rfl, hl, hF⟩
      walk_at "dgo"
      rw [enumD_len, rowsD_len] at hF
      exact fz_r (l := rowsD F) rfl (nrs_rowsD F) (q F ⟨W.lone.renamed hp hl fun p h => hF p h h, by omega⟩ hl)
abbrev sl__law_mates : List Str := ["rows", "one", "other", "found", "place", "mate", "end"]
theorem sc__law_mates : FnScope sl__law_mates ["rows", "one", "other"] (defScope s__law_mates) := ⟨rfl, rfl, rfl, by decide +kernel, rfl, by decide +kernel, by decide +kernel⟩
theorem st__law_mates (v0 : V) (v1 : V) (v2 : V) : L2.start sl__law_mates [v0, v1, v2] = [some v0, some v1, some v2, none, none, none, none] := rfl
theorem sd__law_mates (v0 : D) (v1 : D) (v2 : D) : startD sl__law_mates [v0, v1, v2] = [some v0, some v1, some v2, none, none, none, none] := rfl
def d__law_mates : DSp := fun ds Q _ => ∃ (R : Rows) (o t : Nat), ds = [.lst (rowsD R), .int (o : Nat), .int (t : Nat)] ∧ Web R ∧ o < R.length ∧ t < R.length ∧ Q (.lst (prsD (mates R o t)))
theorem okd__law_mates (T : Top K mg) : FnOk P w K mg base CX0 1 T._law_mates.f T._law_mates.fd ["rows", "one", "other"] (spD K tb d__law_mates) := by
  refine okD T._law_mates.F sc__law_mates (fun ds Qd Ed h => ?_) (fun dd et cdv A outer s H E hr => ⟨_, (fss_cons (fs_set (i := 3) sc__law_mates.nd rfl (by first | exact Or.inl rfl | exact Or.inr rfl) (fe_cell (fn_lst fa_nil))) (fss_cons (fs_for PassesOwn.never (by rfl) (fi_seq (K := K) rfl (fe_ix (kk_ix (K := K) rfl) er_ix (fe_var (pv 0)) (fe_var (pv 1)))) (fg_name (i := 4) sc__law_mates.nd rfl (by first | exact Or.inl rfl | exact Or.inr rfl)) (fss_one (fs_expr (fe_extend (K := K) rfl (fe_var (pv 3)) (fe_lc (own := [("mate", 5)]) (fun _ _ => rfl) (by rfl) sc__law_mates.nd (fi_seq (K := K) rfl (fe_ix (kk_ix (K := K) rfl) er_ix (fe_var (pv 0)) (fe_var (pv 2)))) (blkOk_by (own := [("mate", 5)]) (N := sl__law_mates) (sc := defScope s__law_mates) (by decide +kernel)) (wn_name (by decide)) (fun _ _ _ _ _ => (fg_name (i := 5) sc__law_mates.nd rfl (by first | exact Or.inl rfl | exact Or.inr rfl))) (fun _ _ _ _ _ => (fts_one (ft_cmp (kk_ne (K := K) rfl hr) er_ne (fe_lc (own := [("end", 6)]) (fun _ _ => rfl) (by rfl) sc__law_mates.nd (fi_seq (K := K) rfl (fe_ix (kk_ix (K := K) rfl) er_ix (fe_var (pv 0)) (fe_var (pv 4)))) (blkOk_by (own := [("end", 6)]) (N := sl__law_mates) (by kernel_rfl)) (wn_name (by decide)) (fun _ _ _ _ _ => (fg_name (i := 6) sc__law_mates.nd rfl (by first | exact Or.inl rfl | exact Or.inr rfl))) (fun _ _ _ _ _ => (fts_one (ft_cmp (kk_in (K := K) rfl hr) er_in2 (fe_var (pv 6)) (fe_ix (kk_ix (K := K) rfl) er_ix (fe_var (pv 0)) (fe_var (pv 5))) (by rfl)))) (fun _ _ _ _ _ => (fe_var (pv 6))) (by intro _; rfl) s) (fe_lst fa_nil) (nomark _)))) (fun _ _ _ _ _ => (fe_tup (fa_cons (fe_var (pv 4)) (fa_cons (fe_var (pv 5)) fa_nil)))) (by intro _; rfl) s) (fun _ _ a b => pe_bm PySem.F.plainAttrs_list PySem.F.slot_list_extend PySem.F.type_list_extend mt_extend a b))))) (fss_one (fs_ret (fe_var (pv 3)))))), fun ds Qd Ed nr h => ?_⟩)
  · obtain ⟨R, o, t, rfl, _⟩ := h
    rfl
  · obtain ⟨R, o, t, rfl, W, ho, ht, q⟩ := h
    rw [sd__law_mates]
    walk_at "dgo"
    have ro := W.row_len o
    have rt := W.row_len t
    refine ⟨by omega, _, at_nat (rowsD_at ho), _, rfl, ?_⟩
    refine loop_inv (fun k ρ h => ∃ (F : List (Nat × Nat)) (o4 o5 o6 : Option D), ρ = [some (.lst (rowsD R)), some (.int (o : Nat)), some (.int (t : Nat)), some (.ref 0), o4, o5, o6] ∧ h = [.lst (prsD F)] ∧ F = ((row R o).take k).flatMap (fun p => ((row R t).filter fun m => !(common R p m).isEmpty).map fun m => (p, m)) ∧ F.length ≤ 16 * k)
      (fun _ _ _ _ _ => trivial) ⟨[], _, _, _, rfl, rfl, by simp, by simp⟩ ?_ ?_
    · rintro k d ρ h N hi ⟨F, o4, o5, o6, rfl, rfl, hF, hz⟩ kN
      obtain ⟨p, ep, rfl⟩ := nD_at' hi
      have hk : k < (row R o).length := (List.getElem?_eq_some_iff.mp ep).1
      have hpl := (W.lone.one.lt o p (List.mem_of_getElem? ep)).2
      have rp := W.row_len p
      walk_at "dgo"
      refine ⟨⟨_, rfl⟩, _, at_nat (rowsD_at ht), _, rfl, ?_⟩
      refine lc_flt (fun d => match d with | .int m => !(common R p m.toNat).isEmpty | _ => false) (fun d => .tup [.int (p : Nat), d]) trivial (by rw [nD_len]; omega) ?_ ?_
      · intro x hx kk k0 q1 q2
        obtain ⟨m, hm, rfl⟩ := List.mem_map.mp hx
        have hml := (W.lone.one.lt t m hm).2
        rw [show (D.int ((m : Nat) : Int)) = D.int (m : Nat) from rfl] at *
        simp only [Int.toNat_natCast] at q1 q2
        walk_at "dgo"
        refine ⟨_, at_nat (rowsD_at hpl), _, rfl, ?_⟩
        refine lc_flt (fun d => match d with | .int c => decide (c.toNat ∈ row R m) | _ => false) id trivial (by rw [nD_len]; omega) ?_ ?_
        · intro y hy kk2 k02 r1 r2
          obtain ⟨c, hc, rfl⟩ := List.mem_map.mp hy
          simp only [Int.toNat_natCast] at r1 r2
          walk_at "dgo"
          refine ⟨_, at_nat (rowsD_at hml), gIn2_t ⟨_, rfl, ?_⟩⟩
          by_cases e : c ∈ row R m
          · rw [decide_eq_true e, if_pos rfl]
            walk_at "dgo"
            exact r1 (decide_eq_true e)
          · rw [decide_eq_false e, if_neg Bool.false_ne_true]
            exact r2 (decide_eq_false e)
        · have e : List.map id (List.filter (fun d => match d with | D.int c => decide (c.toNat ∈ row R m) | _ => false) (nD (row R p))) = nD (common R p m) := by
            unfold nD common
            rw [List.map_id, List.filter_map]
            simp [Function.comp_def]
          rw [e]
          refine ⟨by decide, gNe_nilN ⟨_, rfl, ?_⟩⟩
          cases hb : (common R p m).isEmpty with
          | true =>
            rw [Bool.not_true, if_neg Bool.false_ne_true]
            exact q2 (by rw [hb]; rfl)
          | false =>
            rw [Bool.not_false, if_pos rfl]
            walk_at "dgo"
            exact ⟨by omega, q1 (by rw [hb]; rfl)⟩
      · have e : List.map (fun d => D.tup [.int (p : Nat), d]) (List.filter (fun d => match d with | D.int m => !(common R p m.toNat).isEmpty | _ => false) (nD (row R t))) = prsD (((row R t).filter fun m => !(common R p m).isEmpty).map fun m => (p, m)) := by
          unfold nD prsD
          rw [List.filter_map, List.map_map, List.map_map]
          simp [Function.comp_def]
        rw [e]
        have hlen : (((row R t).filter fun m => !(common R p m).isEmpty).map fun m => (p, m)).length ≤ 16 := by
          rw [List.length_map]
          exact Nat.le_trans (List.length_filter_le _ _) rt
        refine ⟨_, _, rfl, rfl, by unfold prsD; rw [List.length_map, List.length_map, List.length_map] ; have := List.length_filter_le (fun m => !(common R p m).isEmpty) (row R t); omega, kN _ _ ⟨F ++ ((row R t).filter fun m => !(common R p m).isEmpty).map fun m => (p, m), _, _, _, rfl, ?_, ?_, ?_⟩⟩
        · unfold prsD; rw [List.map_append]; rfl
        · rw [hF, List.take_add_one, ep]; simp
        · rw [List.length_append]; omega
    · rintro ρ h ⟨F, o4, o5, o6, rfl, rfl, hF, hz⟩
      walk_at "dgo"
      rw [nD_len, List.take_length] at hF
      subst hF
      exact fz_r rfl (nrs_prsD _) q
abbrev sl__law_switched : List Str := ["rows", "one", "other", "mine", "theirs", "found", "place"]
theorem sc__law_switched : FnScope sl__law_switched ["rows", "one", "other", "mine", "theirs"] (defScope s__law_switched) := ⟨rfl, rfl, rfl, by decide +kernel, rfl, by decide +kernel, by decide +kernel⟩
theorem st__law_switched (v0 : V) (v1 : V) (v2 : V) (v3 : V) (v4 : V) : L2.start sl__law_switched [v0, v1, v2, v3, v4] = [some v0, some v1, some v2, some v3, some v4, none, none] := rfl
theorem sd__law_switched (v0 : D) (v1 : D) (v2 : D) (v3 : D) (v4 : D) : startD sl__law_switched [v0, v1, v2, v3, v4] = [some v0, some v1, some v2, some v3, some v4, none, none] := rfl
def d__law_switched : DSp := fun ds Q _ => ∃ (R : Rows) (o t : Nat) (M N : List Nat), ds = [.lst (rowsD R), .int (o : Nat), .int (t : Nat), .lst (nD M), .lst (nD N)] ∧ Web R ∧ o ≠ t ∧ o < R.length ∧ t < R.length ∧ (∀ p, o ∈ row R p ↔ t ∈ row R p) ∧ GoodC R o t M N ∧ ∀ R', Web R' → R'.length = R.length → Q (.lst (rowsD R'))
theorem okd__law_switched (T : Top K mg) : FnOk P w K mg base CX0 1 T._law_switched.f T._law_switched.fd ["rows", "one", "other", "mine", "theirs"] (spD K tb d__law_switched) := by
  refine okD T._law_switched.F sc__law_switched (fun ds Qd Ed h => ?_) (fun dd et cdv A outer s H E hr => ⟨_, (fss_cons (fs_set (i := 5) sc__law_switched.nd rfl (by first | exact Or.inl rfl | exact Or.inr rfl) (fe_cell (fn_listOf (K := K) rfl (by rfl) T.list (by decide +kernel) (fa_cons (fe_var (pv 0)) fa_nil)))) (fss_cons (fs_asg (fe_callTy (kk_tupOf (K := K) rfl) ec_tupOf (by rfl) T.tuple (by decide +kernel) (fa_cons (fe_callB (kk_sortedI (K := K) rfl) ec_sorted (by rfl) T.sorted (by decide +kernel) (fa_cons (fe_op (kk_add (K := K) rfl) er_add (fe_lc (own := [("place", 6)]) (fun _ _ => rfl) (by rfl) sc__law_switched.nd (fi_seq (K := K) rfl (fe_ix (kk_ix (K := K) rfl) er_ix (fe_var (pv 0)) (fe_var (pv 1)))) (blkOk_by (own := [("place", 6)]) (N := sl__law_switched) (sc := defScope s__law_switched) (by decide +kernel)) (wn_name (by decide)) (fun _ _ _ _ _ => (fg_name (i := 6) sc__law_switched.nd rfl (by first | exact Or.inl rfl | exact Or.inr rfl))) (fun _ _ _ _ _ => (fts_one (ft_cmp (kk_notin (K := K) rfl hr) er_notin2 (fe_var (pv 6)) (fe_var (pv 3)) (by rfl)))) (fun _ _ _ _ _ => (fe_var (pv 6))) (by intro _; rfl) s) (fe_var (pv 4))) fa_nil)) fa_nil)) (fg_sub (E := fun _ => E0) (fe_var (pv 5)) (fe_var (pv 1)))) (fss_cons (fs_asg (fe_callTy (kk_tupOf (K := K) rfl) ec_tupOf (by rfl) T.tuple (by decide +kernel) (fa_cons (fe_callB (kk_sortedI (K := K) rfl) ec_sorted (by rfl) T.sorted (by decide +kernel) (fa_cons (fe_op (kk_add (K := K) rfl) er_add (fe_lc (own := [("place", 6)]) (fun _ _ => rfl) (by rfl) sc__law_switched.nd (fi_seq (K := K) rfl (fe_ix (kk_ix (K := K) rfl) er_ix (fe_var (pv 0)) (fe_var (pv 2)))) (blkOk_by (own := [("place", 6)]) (N := sl__law_switched) (sc := defScope s__law_switched) (by decide +kernel)) (wn_name (by decide)) (fun _ _ _ _ _ => (fg_name (i := 6) sc__law_switched.nd rfl (by first | exact Or.inl rfl | exact Or.inr rfl))) (fun _ _ _ _ _ => (fts_one (ft_cmp (kk_notin (K := K) rfl hr) er_notin2 (fe_var (pv 6)) (fe_var (pv 4)) (by rfl)))) (fun _ _ _ _ _ => (fe_var (pv 6))) (by intro _; rfl) s) (fe_var (pv 3))) fa_nil)) fa_nil)) (fg_sub (E := fun _ => E0) (fe_var (pv 5)) (fe_var (pv 2)))) (fss_one (fs_ret (fe_var (pv 5))))))), fun ds Qd Ed nr h => ?_⟩)
  · obtain ⟨R, o, t, M, N, rfl, _⟩ := h
    rfl
  · obtain ⟨R, o, t, M, N, rfl, W, ne, ho, ht, col, g, q⟩ := h
    rw [sd__law_switched]
    walk_at "dgo"
    have wl := W.len
    have ro := W.row_len o
    have rt := W.row_len t
    have sub : ∀ (l M : List Nat), l.Nodup → (∀ x ∈ l, x ∈ M) → M.length ≤ 16 → l.length ≤ 16 := fun l M h1 h2 h3 => by have := len_le h1 h2; omega
    have lM := sub M _ (asc_nd g.asc) g.mo ro
    have lN := sub N _ (asc_nd g.ascT) g.to rt
    refine ⟨_, at_nat (rowsD_at ho), _, rfl, ?_⟩
    refine lc_flt (fun d => match d with | .int m => decide (m.toNat ∉ M) | _ => false) id trivial (by rw [nD_len]; omega) ?_ ?_
    · intro x hx kk k0 q1 q2
      obtain ⟨m, hm, rfl⟩ := List.mem_map.mp hx
      simp only [Int.toNat_natCast] at q1 q2
      walk_at "dgo"
      refine gNotIn2_l ⟨_, rfl, ?_⟩
      by_cases e : m ∈ M
      · rw [decide_eq_true e, Bool.not_true, if_neg Bool.false_ne_true]
        exact q2 (decide_eq_false fun z => z e)
      · rw [decide_eq_false e, Bool.not_false, if_pos rfl]
        walk_at "dgo"
        exact q1 (decide_eq_true e)
    have fl : ∀ (a : Nat) (M : List Nat), List.map id (List.filter (fun d => match d with | D.int m => decide (m.toNat ∉ M) | _ => false) (nD (row R a))) = nD ((row R a).filter fun p => decide (p ∉ M)) := fun a M => by
      unfold nD
      rw [List.map_id, List.filter_map]
      simp [Function.comp_def]
    rw [fl, nD_app]
    have l1 := List.length_filter_le (fun p => decide (p ∉ M)) (row R o)
    refine ⟨by rw [nD_len, nD_len]; omega, gSorted_n fun r1 p1 s1 => ?_⟩
    walk_at "dgo"
    refine ⟨_, _, _, o, rfl, rfl, rfl, by rw [rowsD_len]; exact ixN_nat ho, _, at_nat (rowsD_at ht), _, rfl, ?_⟩
    refine lc_flt (fun d => match d with | .int m => decide (m.toNat ∉ N) | _ => false) id trivial (by rw [nD_len]; omega) ?_ ?_
    · intro x hx kk k0 q1 q2
      obtain ⟨m, hm, rfl⟩ := List.mem_map.mp hx
      simp only [Int.toNat_natCast] at q1 q2
      walk_at "dgo"
      refine gNotIn2_l ⟨_, rfl, ?_⟩
      by_cases e : m ∈ N
      · rw [decide_eq_true e, Bool.not_true, if_neg Bool.false_ne_true]
        exact q2 (decide_eq_false fun z => z e)
      · rw [decide_eq_false e, Bool.not_false, if_pos rfl]
        walk_at "dgo"
        exact q1 (decide_eq_true e)
    rw [fl, nD_app]
    have l2 := List.length_filter_le (fun p => decide (p ∉ N)) (row R t)
    refine ⟨by rw [nD_len, nD_len]; omega, gSorted_n fun r2 p2 s2 => ?_⟩
    walk_at "dgo"
    have er : ((rowsD R).set o (.tup (nD r1))).set t (.tup (nD r2)) = rowsD ((R.set o r1).set t r2) := by unfold rowsD; rw [List.map_set, List.map_set]
    refine ⟨_, _, _, t, rfl, rfl, rfl, by rw [List.length_set, rowsD_len]; exact ixN_nat ht, ?_⟩
    rw [er]
    have L := W.lone.switched g ne ho ht col p1 s1 p2 s2
    exact fz_r rfl (nrs_rowsD _) (q _ ⟨L, by simpa using wl⟩ (by simp))
abbrev sl__law_mixed : List Str := ["dice", "items", "left", "found", "turn"]
theorem sc__law_mixed : FnScope sl__law_mixed ["dice", "items"] (defScope s__law_mixed) := ⟨rfl, rfl, rfl, by decide +kernel, rfl, by decide +kernel, by decide +kernel⟩
theorem st__law_mixed (v0 : V) (v1 : V) : L2.start sl__law_mixed [v0, v1] = [some v0, some v1, none, none, none] := rfl
theorem sd__law_mixed (v0 : D) (v1 : D) : startD sl__law_mixed [v0, v1] = [some v0, some v1, none, none, none] := rfl
def d__law_mixed : DSp := fun ds Q _ => ∃ l : List D, ds = [.dice, .lst l] ∧ l.length ≤ 1000 ∧ ∀ l', l'.Perm l → Q (.lst l')
theorem okd__law_mixed (T : Top K mg) : FnOk P w K mg base CX0 2 T._law_mixed.f T._law_mixed.fd ["dice", "items"] (spD K tb d__law_mixed) := by
  refine okD T._law_mixed.F sc__law_mixed (fun ds Qd Ed h => ?_) (fun dd et cdv A outer s H E hr => ⟨_, (fss_cons (fs_par (i := 2) (j := 3) (by rfl) sc__law_mixed.nd rfl rfl (by decide) rfl rfl (fa_cons (fe_cell (fn_listOf (K := K) rfl (by rfl) T.list (by decide +kernel) (fa_cons (fe_var (pv 1)) fa_nil))) (fa_cons (fe_cell (fn_lst fa_nil)) fa_nil)) rfl) (fss_cons (fs_for PassesOwn.never (by rfl) (fi_range1 (by rfl) T.range (fa_cons (fe_callB (kk_len (K := K) rfl) ec_len (by rfl) T.len (by decide +kernel) (fa_cons (fe_var (pv 1)) fa_nil)) fa_nil)) (fg_name (i := 4) sc__law_mixed.nd rfl (by first | exact Or.inl rfl | exact Or.inr rfl)) (fss_one (fs_expr (fe_append (K := K) rfl (fe_var (pv 3)) (fe_popAt (K := K) rfl (fe_var (pv 2)) (fe_callO (K := K) rfl et (okd__law_roll T) (hr.mono (by first | decide | omega)) (by rfl) (fa_cons (fe_var (pv 0)) (fa_cons (fe_callB (kk_len (K := K) rfl) ec_len (by rfl) T.len (by decide +kernel) (fa_cons (fe_var (pv 2)) fa_nil)) fa_nil))) (fun _ _ a b => pe_bm PySem.F.plainAttrs_list PySem.F.slot_list_pop PySem.F.type_list_pop mt_popAt a b)) (fun _ _ a b => pe_bm PySem.F.plainAttrs_list PySem.F.slot_list_append PySem.F.type_list_append mt_append a b))))) (fss_one (fs_ret (fe_var (pv 3)))))), fun ds Qd Ed nr h => ?_⟩)
  · obtain ⟨l, rfl, _⟩ := h
    rfl
  · obtain ⟨l, rfl, hl, q⟩ := h
    rw [sd__law_mixed]
    walk_at "dgo"
    refine ⟨by omega, _, rfl, by omega, by omega, ?_⟩
    rw [Int.toNat_natCast]
    refine loop_inv (fun k ρ h => ∃ (L F : List D) (o4 : Option D), ρ = [some .dice, some (.lst l), some (.ref 0), some (.ref 1), o4] ∧ h = [.lst L, .lst F] ∧ (F ++ L).Perm l ∧ L.length + k = l.length)
      (fun _ _ _ _ _ => trivial) ⟨l, [], _, rfl, rfl, by simp, by omega⟩ ?_ ?_
    · rintro k d ρ h N hi ⟨L, F, o4, rfl, rfl, hp, hz⟩ kN
      have hk := (intsD_at hi).1
      have hL : 0 < L.length := by omega
      have hF : F.length + L.length = l.length := by rw [← List.length_append]; exact hp.length_eq
      walk_at "dgo"
      refine ⟨⟨_, rfl⟩, ⟨_, rfl⟩, L, rfl, rfl, L.length, rfl, by omega, by omega, fun r h0 h1 => ?_⟩
      obtain ⟨j, rfl⟩ := Int.eq_ofNat_of_zero_le h0
      have hj : j < L.length := by omega
      refine ⟨j, L, L[j], rfl, by omega, rfl, List.getElem?_eq_getElem hj, F, rfl, by omega, kN _ _ ⟨L.eraseIdx j, F ++ [L[j]], _, rfl, rfl, ?_, ?_⟩⟩
      · have e : (L[j] :: L.eraseIdx j).Perm L := L2.erase_perm L j _ (List.getElem?_eq_getElem hj)
        refine List.Perm.trans ?_ hp
        rw [List.append_assoc]
        exact List.Perm.append_left F e
      · rw [List.length_eraseIdx_of_lt hj]; omega
    · rintro ρ h ⟨L, F, o4, rfl, rfl, hp, hz⟩
      walk_at "dgo"
      rw [intsD_len] at hz
      have hL : L = [] := List.length_eq_zero_iff.mp (by omega)
      subst hL
      rw [List.append_nil] at hp
      have nl : noRefs l = true := by
        rw [noRefs, noRefs, noRef, noRefs] at nr
        simpa [noRef] using nr
      exact fz_r rfl (nrs_perm hp nl) (q F hp)
end
end LW

end

section
set_option maxHeartbeats 4000000
/-! G4: classes of mates, drawn switches, drawn webs. -/
namespace LW
open PySem PySem.Spec PyProof.Rows L2 KG KT DL KW
local macro_rules | `(tactic| walk_at "dgo") => `(tactic| try simp only [d_var, d_c, d_op, d_nil, d_cons, d_star, d_call, d_tup, d_lst, d_new, DL.d_len, d_listN, d_test, d_tru, d_if, d_now, d_and, d_or, d_not, d_andV, d_orV, d_notV, d_part, d_nopart, d_sl, d_rev, d_revS, d_neg, d_fn, d_fnR, d_app, d_pass, d_seq, d_ret, d_retN, d_brk, d_cont, d_drop, d_set, d_asg, d_nm, d_ifS, d_aug, d_par, d_par3, d_for, d_it, d_rng1, d_lc, d_chain, d_whileN, d_callV, d_lam, d_fnC, d_fnN, d_head, gListN_l, gListN_t, d_fn0, d_mulN, d_subS, d_ext, d_popAt, d_dgetK, d_dgetT, d_newT, d_newK, d_updT, d_dictT, d_pr, d_listRng, d_sortSet, d_rng2, d_enumL, d_enumT, d_enumS, gListS_s, gMin_i, gMax_i, d_gcons, d_gnil, d_gtp, gReprB_b, gLen_scr, d_zip, DL.at0, DL.at1, DL.at2, dif_t, dif_f, difs_t, difs_f, way_t, way_f,
  gAdd_i, gAdd_s, gAdd_t, gAdd_l, gSub_i, gMod_i, gFdiv_i, gMul_i, gEq_i, gEq_s, gEq_b, gNe_i, gNe_s, gNe_b, gLt_i, gIs_n, gIs_b, gIsNot_n, gIsNot_b, gIx_s, gIx_t, gIx_l, gSl_s, gSl_t, gSl_l, gLen_s, gLen_t, gLen_l, gTupOf_l, gTupOf_t, gListOf_l, gListOf_t, gIsi_tt, gRepr_b, xb, xi, xs2, xp2, xp3, xref, tru_b', fz_s, fz_i, fz_b, fz_n, DL.isNon, fnEnds, wipeD, asS, asL, noRefs, noRef,
  List.set_cons_zero, List.set_cons_succ, List.getElem?_cons_zero, List.getElem?_cons_succ, List.map_cons, List.map_nil, List.append_nil, List.nil_append, List.cons_append, List.length_cons, List.length_nil, Nat.zero_add, true_and, and_true, Bool.and_true, Bool.true_and, Bool.not_true, Bool.not_false, decide_true, decide_false, Option.some.injEq, exists_eq_left'])
local macro_rules | `(tactic| walk_at "dbr") => `(tactic| first | refine way_p ?_ ?_ | refine difs_p ?_ ?_ | refine difs_n ?_ ?_ | refine dif_p ?_ ?_ | refine dif_n ?_ ?_ | refine difs_b ?_ ?_ | refine dif_b ?_ ?_)

-- @CELL _law_switch_classes found
section
variable {P : Program} {w : World} {K : PySem.W.Frag} {mg : Str → Option Value} {base : Heap} {tb : List (Addr × Str)}
def clsD (cs : List (List Nat × List Nat)) : List D := cs.map fun c => .tup [.lst (nD c.1), .lst (nD c.2)]
theorem nrs_clsD (cs : List (List Nat × List Nat)) : noRefs (clsD cs) = true := nrs_mem.mpr fun d hd => by
  obtain ⟨x, _, rfl⟩ := List.mem_map.mp hd
  simp [noRef, noRefs, nrs_nD]
theorem mates_len {R : Rows} {o t : Nat} (W : Web R) : (mates R o t).length ≤ 256 := by
  have ro := W.row_len o
  have rt := W.row_len t
  have : ∀ l : List Nat, (l.flatMap fun p => ((row R t).filter fun m => !(common R p m).isEmpty).map fun m => (p, m)).length ≤ 16 * l.length := fun l => by
    induction l with
    | nil => simp
    | cons x l ih =>
      rw [List.flatMap_cons, List.length_append, List.length_map, List.length_cons]
      have := List.length_filter_le (fun m => !(common R x m).isEmpty) (row R t)
      omega
  have h := this (row R o)
  unfold mates
  omega
theorem theirs_D {P : List (Nat × Nat)} {S : List Nat} : List.map (fun d => match d with | D.tup [_, y] => y | d => d) (List.filter (fun d => match d with | D.tup [.int a, _] => decide (a.toNat ∈ S) | _ => false) (prsD P)) = nD (theirsOf P S) := by
  unfold prsD nD theirsOf
  rw [List.filter_map, List.map_map, List.map_map]
  simp [Function.comp_def]
theorem mine_D {P : List (Nat × Nat)} {T : List Nat} : List.map (fun d => match d with | D.tup [x, _] => x | d => d) (List.filter (fun d => match d with | D.tup [_, .int b] => decide (b.toNat ∈ T) | _ => false) (prsD P)) = nD ((P.filter fun x => decide (x.2 ∈ T)).map (·.1)) := by
  unfold prsD nD
  rw [List.filter_map, List.map_map, List.map_map]
  simp [Function.comp_def]
theorem notin_D {l M : List Nat} : List.map id (List.filter (fun d => match d with | D.int m => decide (m.toNat ∉ M) | _ => false) (nD l)) = nD (l.filter fun p => decide (p ∉ M)) := by
  unfold nD
  rw [List.map_id, List.filter_map]
  simp [Function.comp_def]
theorem in_D {l M : List Nat} : List.map id (List.filter (fun d => match d with | D.int m => decide (m.toNat ∈ M) | _ => false) (nD l)) = nD (l.filter fun p => decide (p ∈ M)) := by
  unfold nD
  rw [List.map_id, List.filter_map]
  simp [Function.comp_def]
abbrev sl__law_switch_classes : List Str := ["rows", "one", "other", "pairs", "left", "found", "turn", "mine", "theirs", "again", "place", "mate"]
theorem sc__law_switch_classes : FnScope sl__law_switch_classes ["rows", "one", "other"] (defScope s__law_switch_classes) := ⟨rfl, rfl, rfl, by decide +kernel, rfl, by decide +kernel, by decide +kernel⟩
theorem st__law_switch_classes (v0 : V) (v1 : V) (v2 : V) : L2.start sl__law_switch_classes [v0, v1, v2] = [some v0, some v1, some v2, none, none, none, none, none, none, none, none, none] := rfl
theorem sd__law_switch_classes (v0 : D) (v1 : D) (v2 : D) : startD sl__law_switch_classes [v0, v1, v2] = [some v0, some v1, some v2, none, none, none, none, none, none, none, none, none] := rfl
def d__law_switch_classes : DSp := fun ds Q _ => ∃ (R : Rows) (o t : Nat), ds = [.lst (rowsD R), .int (o : Nat), .int (t : Nat)] ∧ Web R ∧ o < R.length ∧ t < R.length ∧ ∀ cs : List (List Nat × List Nat), (∀ c ∈ cs, GoodC R o t c.1 c.2) → cs.length ≤ 16 → Q (.lst (clsD cs))
theorem okd__law_switch_classes (T : Top K mg) : FnOk P w K mg base CX0 2 T._law_switch_classes.f T._law_switch_classes.fd ["rows", "one", "other"] (spD K tb d__law_switch_classes) := by
  refine okD T._law_switch_classes.F sc__law_switch_classes (fun ds Qd Ed h => ?_) (fun dd et cdv A outer s H E hr => ⟨_, (fss_cons (fs_par3 (i := 3) (j := 4) (l := 5) (by rfl) sc__law_switch_classes.nd rfl rfl rfl (by decide) (by decide) (by decide) rfl rfl rfl (fa_cons (fe_callO (K := K) rfl et (okd__law_mates T) (hr.mono (by first | decide | omega)) (by rfl) (fa_cons (fe_var (pv 0)) (fa_cons (fe_var (pv 1)) (fa_cons (fe_var (pv 2)) fa_nil)))) (fa_cons (fe_callTy (kk_listOf (K := K) rfl) ec_listOf (by rfl) T.list (by decide +kernel) (fa_cons (fe_ix (kk_ix (K := K) rfl) er_ix (fe_var (pv 0)) (fe_var (pv 1))) fa_nil)) (fa_cons (fe_cell (fn_lst fa_nil)) fa_nil))) rfl) (fss_cons (fs_for PassesOwn.never (by rfl) (fi_range1 (by rfl) T.range (fa_cons (fe_callB (kk_len (K := K) rfl) ec_len (by rfl) T.len (by decide +kernel) (fa_cons (fe_ix (kk_ix (K := K) rfl) er_ix (fe_var (pv 0)) (fe_var (pv 1))) fa_nil)) fa_nil)) (fg_name (i := 6) sc__law_switch_classes.nd rfl (by first | exact Or.inl rfl | exact Or.inr rfl)) (fss_cons (fs_if (ft_cmp (kk_eq (K := K) rfl hr) er_eq (fe_var (pv 4)) (fe_lst fa_nil) (nomark _)) (fss_one fs_brk) fss_nil) (fss_cons (fs_asg (fe_tup (fa_cons (fe_lst (fa_cons (fe_ix (kk_ix (K := K) rfl) er_ix (fe_var (pv 4)) fe_int) fa_nil)) (fa_cons (fe_lst fa_nil) fa_nil))) (fg_tup (K := K) (n := 2) rfl (by rfl) (fgs_cons (fg_name (i := 7) sc__law_switch_classes.nd rfl (by first | exact Or.inl rfl | exact Or.inr rfl)) (fgs_cons (fg_name (i := 8) sc__law_switch_classes.nd rfl (by first | exact Or.inl rfl | exact Or.inr rfl)) fgs_nil)))) (fss_cons (fs_for PassesOwn.never (by rfl) (fi_range1 (by rfl) T.range (fa_cons (fe_op (kk_mul (K := K) rfl) er_mul fe_int (fe_callB (kk_len (K := K) rfl) ec_len (by rfl) T.len (by decide +kernel) (fa_cons (fe_ix (kk_ix (K := K) rfl) er_ix (fe_var (pv 0)) (fe_var (pv 1))) fa_nil))) fa_nil)) (fg_name (i := 9) sc__law_switch_classes.nd rfl (by first | exact Or.inl rfl | exact Or.inr rfl)) (fss_cons (fs_set (i := 8) sc__law_switch_classes.nd rfl (by first | exact Or.inl rfl | exact Or.inr rfl) (fe_sortSet (K := K) rfl (by rfl) (by rfl) T.sorted (by rfl) T.set (fa_cons (fe_lc (own := [("place", 10), ("mate", 11)]) (fun _ _ => rfl) (by rfl) sc__law_switch_classes.nd (fi_seq (K := K) rfl (fe_var (pv 3))) (blkOk_by (own := [("place", 10), ("mate", 11)]) (N := sl__law_switch_classes) (sc := defScope s__law_switch_classes) (by decide +kernel)) (wn_tup (wns_cons mn_name (mns_cons mn_name mns_nil) (wn_name (by decide)) (wns_cons mn_name mns_nil (wn_name (by decide)) wns_nil))) (fun _ _ _ _ _ => (fg_tup (K := K) (n := 2) rfl (by rfl) (fgs_cons (fg_name (i := 10) sc__law_switch_classes.nd rfl (by first | exact Or.inl rfl | exact Or.inr rfl)) (fgs_cons (fg_name (i := 11) sc__law_switch_classes.nd rfl (by first | exact Or.inl rfl | exact Or.inr rfl)) fgs_nil)))) (fun _ _ _ _ _ => (fts_one (ft_cmp (kk_in (K := K) rfl hr) er_in2 (fe_var (pv 10)) (fe_var (pv 7)) (by rfl)))) (fun _ _ _ _ _ => (fe_var (pv 11))) (by intro _; rfl) s) fa_nil))) (fss_one (fs_set (i := 7) sc__law_switch_classes.nd rfl (by first | exact Or.inl rfl | exact Or.inr rfl) (fe_sortSet (K := K) rfl (by rfl) (by rfl) T.sorted (by rfl) T.set (fa_cons (fe_op (kk_add (K := K) rfl) er_add (fe_lc (own := [("place", 10), ("mate", 11)]) (fun _ _ => rfl) (by rfl) sc__law_switch_classes.nd (fi_seq (K := K) rfl (fe_var (pv 3))) (blkOk_by (own := [("place", 10), ("mate", 11)]) (N := sl__law_switch_classes) (sc := defScope s__law_switch_classes) (by decide +kernel)) (wn_tup (wns_cons mn_name (mns_cons mn_name mns_nil) (wn_name (by decide)) (wns_cons mn_name mns_nil (wn_name (by decide)) wns_nil))) (fun _ _ _ _ _ => (fg_tup (K := K) (n := 2) rfl (by rfl) (fgs_cons (fg_name (i := 10) sc__law_switch_classes.nd rfl (by first | exact Or.inl rfl | exact Or.inr rfl)) (fgs_cons (fg_name (i := 11) sc__law_switch_classes.nd rfl (by first | exact Or.inl rfl | exact Or.inr rfl)) fgs_nil)))) (fun _ _ _ _ _ => (fts_one (ft_cmp (kk_in (K := K) rfl hr) er_in2 (fe_var (pv 11)) (fe_var (pv 8)) (by rfl)))) (fun _ _ _ _ _ => (fe_var (pv 10))) (by intro _; rfl) s) (fe_var (pv 7))) fa_nil)))))) (fss_cons (fs_setLc (i := 4) (own := [("place", 10)]) (fun _ _ => rfl) (by rfl) sc__law_switch_classes.nd rfl rfl (sw_true rfl rfl rfl (by decide +kernel)) (fi_seq (K := K) rfl (fe_var (pv 4))) (blkOk_by (own := [("place", 10)]) (N := sl__law_switch_classes) (sc := defScope s__law_switch_classes) (by decide +kernel)) (wn_name (by decide)) (fun _ _ _ _ _ => (fg_name (i := 10) sc__law_switch_classes.nd rfl (by first | exact Or.inl rfl | exact Or.inr rfl))) (fun _ _ _ _ _ => (fts_one (ft_cmp (kk_notin (K := K) rfl hr) er_notin2 (fe_var (pv 10)) (fe_var (pv 7)) (by rfl)))) (fun _ _ _ _ _ => (fe_var (pv 10))) (by intro _; rfl) s) (fss_one (fs_if (ft_cmp (kk_eq (K := K) rfl hr) er_eq (fe_lc (own := [("place", 10)]) (fun _ _ => rfl) (by rfl) sc__law_switch_classes.nd (fi_seq (K := K) rfl (fe_op (kk_add (K := K) rfl) er_add (fe_var (pv 7)) (fe_var (pv 8)))) (blkOk_by (own := [("place", 10)]) (N := sl__law_switch_classes) (sc := defScope s__law_switch_classes) (by decide +kernel)) (wn_name (by decide)) (fun _ _ _ _ _ => (fg_name (i := 10) sc__law_switch_classes.nd rfl (by first | exact Or.inl rfl | exact Or.inr rfl))) (fun _ _ _ _ _ => (fts_one (ft_cmp (kk_in (K := K) rfl hr) er_in2 (fe_var (pv 10)) (fe_tup (fa_cons (fe_var (pv 1)) (fa_cons (fe_var (pv 2)) fa_nil))) (by rfl)))) (fun _ _ _ _ _ => (fe_var (pv 10))) (by intro _; rfl) s) (fe_lst fa_nil) (nomark _)) (fss_one (fs_expr (fe_append (K := K) rfl (fe_var (pv 5)) (fe_tup (fa_cons (fe_var (pv 7)) (fa_cons (fe_var (pv 8)) fa_nil))) (fun _ _ a b => pe_bm PySem.F.plainAttrs_list PySem.F.slot_list_append PySem.F.type_list_append mt_append a b)))) fss_nil))))))) (fss_one (fs_ret (fe_var (pv 5)))))), fun ds Qd Ed nr h => ?_⟩)
  · obtain ⟨R, o, t, rfl, _⟩ := h
    rfl
  · obtain ⟨R, o, t, rfl, W, ho, ht, q⟩ := h
    rw [sd__law_switch_classes]
    walk_at "dgo"
    have wl := W.len
    have ro := W.row_len o
    have rt := W.row_len t
    refine ⟨nrs_rowsD R, R, o, t, rfl, W, ho, ht, ?_⟩
    walk_at "dgo"
    refine ⟨_, at_nat (rowsD_at ho), ?_⟩
    walk_at "dgo"
    have hP : ∀ p m, (p, m) ∈ mates R o t → p ∈ row R o ∧ m ∈ row R t := fun p m h => ⟨(mates_mem.mp h).1, (mates_mem.mp h).2.1⟩
    have hPl := mates_len (o := o) (t := t) W
    have small : ∀ a x, x ∈ row R a → x < 16 := fun a x hx => by have := (W.lone.one.lt a x hx).2; omega
    refine ⟨by omega, _, at_nat (rowsD_at ho), ?_⟩
    walk_at "dgo"
    refine ⟨_, rfl, by rw [nD_len]; omega, by rw [nD_len]; omega, ?_⟩
    rw [nD_len, Int.toNat_natCast]
    refine loop_inv (fun k ρ h => ∃ (L : List Nat) (cs : List (List Nat × List Nat)) (o6 o7 o8 o9 o10 o11 : Option D), ρ = [some (.lst (rowsD R)), some (.int (o : Nat)), some (.int (t : Nat)), some (.lst (prsD (mates R o t))), some (.lst (nD L)), some (.ref 0), o6, o7, o8, o9, o10, o11] ∧ h = [.lst (clsD cs)] ∧ (∀ x ∈ L, x ∈ row R o) ∧ L.length ≤ 16 ∧ (∀ c ∈ cs, GoodC R o t c.1 c.2) ∧ cs.length ≤ k)
      (fun _ _ _ _ _ => trivial) ⟨row R o, [], _, _, _, _, _, _, rfl, rfl, fun _ h => h, ro, by simp, by simp⟩ ?_ ?_
    · rintro k d ρ h N hi ⟨L, cs, o6, o7, o8, o9, o10, o11, rfl, rfl, hL, hLl, hcs, hcl⟩ kN
      walk_at "dgo"
      refine ⟨by decide, gEq_nilN ?_⟩
      cases L with
      | nil =>
        walk_at "dgo"
        rw [show ([] : List Nat).isEmpty = true from rfl]
        walk_at "dgo"
        have hk : k < (row R o).length := (intsD_at hi).1
        exact fz_r rfl (nrs_clsD cs) (q cs hcs (by omega))
      | cons x L =>
        rw [show (x :: L).isEmpty = false from rfl]
        walk_at "dgo"
        have hx := hL x (List.mem_cons_self ..)
        rw [show nD (x :: L) = .int (x : Nat) :: nD L from rfl]
        walk_at "dgo"
        refine ⟨by decide, by decide, by decide, _, rfl, rfl, _, _, rfl, _, _, rfl, rfl, _, at_nat (rowsD_at ho), ?_⟩
        walk_at "dgo"
        refine ⟨.inr (.inl (by omega)), _, rfl, by rw [nD_len]; omega, by rw [nD_len]; omega, ?_⟩
        rw [nD_len, show (2 * (((row R o).length : Nat) : Int)).toNat = 2 * (row R o).length by omega]
        refine loop_inv (fun j ρ h => ∃ (M T : List Nat) (o9 o10 o11 : Option D), ρ = [some (.lst (rowsD R)), some (.int (o : Nat)), some (.int (t : Nat)), some (.lst (prsD (mates R o t))), some (.lst (nD (x :: L))), some (.ref 0), some d, some (.lst (nD M)), some (.lst (nD T)), o9, o10, o11] ∧ h = [.lst (clsD cs)] ∧ Cls (mates R o t) (row R o) (row R t) j M T)
          (fun _ _ _ _ _ => trivial) ⟨[x], [], _, _, _, rfl, rfl, Cls.start hx⟩ ?_ ?_
        · rintro j e ρ h N2 hj ⟨M, T, o9, o10, o11, rfl, rfl, hc⟩ kN2
          have ml : M.length ≤ 16 := by have := len_le (asc_nd hc.asc) hc.sub; omega
          walk_at "dgo"
          refine ⟨_, rfl, ?_⟩
          refine lc_flt (fun d => match d with | D.tup [.int a, _] => decide (a.toNat ∈ M) | _ => false) (fun d => match d with | D.tup [_, y] => y | d => d) trivial (by unfold prsD; rw [List.length_map]; omega) ?_ ?_
          · intro y hy kk k0 q1 q2
            obtain ⟨⟨a, b⟩, hab, rfl⟩ := List.mem_map.mp hy
            simp only [Int.toNat_natCast] at q1 q2
            walk_at "dgo"
            refine ⟨_, rfl, rfl, _, _, rfl, _, _, rfl, rfl, ?_⟩
            walk_at "dgo"
            refine gIn2_l ⟨_, rfl, ?_⟩
            by_cases e : a ∈ M
            · rw [decide_eq_true e, if_pos rfl]
              walk_at "dgo"
              exact q1 (decide_eq_true e)
            · rw [decide_eq_false e, if_neg Bool.false_ne_true]
              exact q2 (decide_eq_false e)
          rw [theirs_D]
          have tl : (theirsOf (mates R o t) M).length ≤ 256 := by
            unfold theirsOf
            rw [List.length_map]
            exact Nat.le_trans (List.length_filter_le _ _) hPl
          refine gSortSet_n (by omega) (fun m hm => ?_) fun T' hT1 hT2 => ?_
          · obtain ⟨p, _, hpm⟩ := theirs_mem.mp hm
            have := small t m (hP p m hpm).2
            omega
          have tl' : T'.length ≤ 16 := by
            have := len_le (l2 := row R t) (asc_nd hT1) fun m hm => by
              obtain ⟨p, _, hpm⟩ := theirs_mem.mp ((hT2 m).mp hm)
              exact (hP p m hpm).2
            omega
          walk_at "dgo"
          refine ⟨_, rfl, ?_⟩
          refine lc_flt (fun d => match d with | D.tup [_, .int b] => decide (b.toNat ∈ T') | _ => false) (fun d => match d with | D.tup [x, _] => x | d => d) trivial (by unfold prsD; rw [List.length_map]; omega) ?_ ?_
          · intro y hy kk k0 q1 q2
            obtain ⟨⟨a, b⟩, hab, rfl⟩ := List.mem_map.mp hy
            simp only [Int.toNat_natCast] at q1 q2
            walk_at "dgo"
            refine ⟨_, rfl, rfl, _, _, rfl, _, _, rfl, rfl, ?_⟩
            walk_at "dgo"
            refine gIn2_l ⟨_, rfl, ?_⟩
            by_cases e : b ∈ T'
            · rw [decide_eq_true e, if_pos rfl]
              walk_at "dgo"
              exact q1 (decide_eq_true e)
            · rw [decide_eq_false e, if_neg Bool.false_ne_true]
              exact q2 (decide_eq_false e)
          rw [mine_D]
          walk_at "dgo"
          have fl := List.length_filter_le (fun x : Nat × Nat => decide (x.2 ∈ T')) (mates R o t)
          rw [nD_app, show (List.map (fun x => x.fst) (List.filter (fun x : Nat × Nat => decide (x.snd ∈ T')) (mates R o t)) ++ M) = mineOf (mates R o t) M T' from rfl]
          have mol : (mineOf (mates R o t) M T').length ≤ 300 := by
            unfold mineOf
            rw [List.length_append, List.length_map]
            omega
          refine ⟨by rw [nD_len, nD_len, List.length_map]; omega, gSortSet_n (by omega) (fun p hp => ?_) fun M' hM1 hM2 => ?_⟩
          · rcases mine_mem.mp hp with h | ⟨m, _, h⟩
            · have := small o p (hc.sub p h); omega
            · have := small o p (hP p m h).1; omega
          exact kN2 _ _ ⟨M', T', _, _, _, rfl, rfl, hc.next hP hT1 hT2 hM1 hM2⟩
        · rintro ρ h ⟨M, T, o9, o10, o11, rfl, rfl, hc⟩
          rw [intsD_len] at hc
          have ml : M.length ≤ 16 := by have := len_le (asc_nd hc.asc) hc.sub; omega
          have tl : T.length ≤ 16 := by have := len_le (asc_nd hc.ascT) hc.subT; omega
          have dn := hc.done (fun z => by rw [z] at hx; cases hx)
          walk_at "dgo"
          refine ⟨_, rfl, ?_⟩
          refine lc_flt (fun d => match d with | .int m => decide (m.toNat ∉ M) | _ => false) id trivial (by rw [nD_len]; omega) ?_ ?_
          · intro y hy kk k0 q1 q2
            obtain ⟨m, hm, rfl⟩ := List.mem_map.mp hy
            simp only [Int.toNat_natCast] at q1 q2
            walk_at "dgo"
            refine gNotIn2_l ⟨_, rfl, ?_⟩
            by_cases e : m ∈ M
            · rw [decide_eq_true e, Bool.not_true, if_neg Bool.false_ne_true]
              exact q2 (decide_eq_false fun z => z e)
            · rw [decide_eq_false e, Bool.not_false, if_pos rfl]
              walk_at "dgo"
              exact q1 (decide_eq_true e)
          rw [notin_D]
          walk_at "dgo"
          rw [nD_app]
          refine ⟨by rw [nD_len, nD_len]; omega, _, rfl, ?_⟩
          refine lc_flt (fun d => match d with | .int m => decide (m.toNat ∈ [o, t]) | _ => false) id trivial (by rw [nD_len, List.length_append]; omega) ?_ ?_
          · intro y hy kk k0 q1 q2
            obtain ⟨m, hm, rfl⟩ := List.mem_map.mp hy
            simp only [Int.toNat_natCast] at q1 q2
            walk_at "dgo"
            refine ⟨by decide, ?_⟩
            rw [show [D.int (o : Nat), D.int (t : Nat)] = nD [o, t] from rfl]
            refine gIn2_t ⟨_, rfl, ?_⟩
            by_cases e : m ∈ [o, t]
            · rw [decide_eq_true e, if_pos rfl]
              walk_at "dgo"
              exact q1 (decide_eq_true e)
            · rw [decide_eq_false e, if_neg Bool.false_ne_true]
              exact q2 (decide_eq_false e)
          rw [in_D]
          have sub : ∀ y ∈ (x :: L).filter (fun p => decide (p ∉ M)), y ∈ row R o := fun y hy => hL y (List.mem_filter.mp hy).1
          have subl : ((x :: L).filter fun p => decide (p ∉ M)).length ≤ 16 := Nat.le_trans (List.length_filter_le _ _) hLl
          refine ⟨by decide, gEq_nilN ?_⟩
          cases hb : ((M ++ T).filter fun p => decide (p ∈ [o, t])).isEmpty with
          | true =>
            walk_at "dgo"
            have emp := List.isEmpty_iff.mp hb
            have nm : ∀ y, y ∈ M ++ T → y ≠ o ∧ y ≠ t := fun y hy => by
              have := List.filter_eq_nil_iff.mp emp y hy
              simpa using this
            have good : GoodC R o t M T := ⟨hc.asc, hc.ascT, hc.sub, hc.subT, ⟨fun z => (nm o (List.mem_append_left _ z)).1 rfl, fun z => (nm t (List.mem_append_left _ z)).2 rfl, fun z => (nm o (List.mem_append_right _ z)).1 rfl, fun z => (nm t (List.mem_append_right _ z)).2 rfl⟩, dn⟩
            refine ⟨⟨_, rfl⟩, by decide, _, rfl, ?_, kN _ _ ⟨_, cs ++ [(M, T)], _, _, _, _, _, _, rfl, ?_, sub, subl, fun c hc' => ?_, ?_⟩⟩
            · unfold clsD; rw [List.length_map]
              have hk : k < (row R o).length := (intsD_at hi).1
              omega
            · unfold clsD; rw [List.map_append]; rfl
            · rcases List.mem_append.mp hc' with z | z
              · exact hcs c z
              · rw [List.mem_singleton.mp z]; exact good
            · rw [List.length_append, List.length_singleton]; omega
          | false =>
            walk_at "dgo"
            exact kN _ _ ⟨_, cs, _, _, _, _, _, _, rfl, rfl, sub, subl, hcs, by omega⟩
    · rintro ρ h ⟨L, cs, o6, o7, o8, o9, o10, o11, rfl, rfl, hL, hLl, hcs, hcl⟩
      walk_at "dgo"
      rw [intsD_len] at hcl
      exact fz_r rfl (nrs_clsD cs) (q cs hcs (by omega))
end
end LW

end

section
set_option maxHeartbeats 4000000
/-! G5: drawn switches, drawn webs. -/
namespace LW
open PySem PySem.Spec PyProof.Rows L2 KG KT DL KW
local macro_rules | `(tactic| walk_at "dgo") => `(tactic| try simp only [d_var, d_c, d_op, d_nil, d_cons, d_star, d_call, d_tup, d_lst, d_new, DL.d_len, d_listN, d_test, d_tru, d_if, d_now, d_and, d_or, d_not, d_andV, d_orV, d_notV, d_part, d_nopart, d_sl, d_rev, d_revS, d_neg, d_fn, d_fnR, d_app, d_pass, d_seq, d_ret, d_retN, d_brk, d_cont, d_drop, d_set, d_asg, d_nm, d_ifS, d_aug, d_par, d_par3, d_for, d_it, d_rng1, d_lc, d_chain, d_whileN, d_callV, d_lam, d_fnC, d_fnN, d_head, gListN_l, gListN_t, d_fn0, d_mulN, d_subS, d_ext, d_popAt, d_dgetK, d_dgetT, d_newT, d_newK, d_updT, d_dictT, d_pr, d_listRng, d_sortSet, d_rng2, d_enumL, d_enumT, d_enumS, gListS_s, gMin_i, gMax_i, d_gcons, d_gnil, d_gtp, gReprB_b, gLen_scr, d_zip, DL.at0, DL.at1, DL.at2, dif_t, dif_f, difs_t, difs_f, way_t, way_f,
  gAdd_i, gAdd_s, gAdd_t, gAdd_l, gSub_i, gMod_i, gFdiv_i, gMul_i, gEq_i, gEq_s, gEq_b, gNe_i, gNe_s, gNe_b, gLt_i, gIs_n, gIs_b, gIsNot_n, gIsNot_b, gIx_s, gIx_t, gIx_l, gSl_s, gSl_t, gSl_l, gLen_s, gLen_t, gLen_l, gTupOf_l, gTupOf_t, gListOf_l, gListOf_t, gIsi_tt, gRepr_b, xb, xi, xs2, xp2, xp3, xref, tru_b', fz_s, fz_i, fz_b, fz_n, DL.isNon, fnEnds, wipeD, asS, asL, noRefs, noRef,
  List.set_cons_zero, List.set_cons_succ, List.getElem?_cons_zero, List.getElem?_cons_succ, List.map_cons, List.map_nil, List.append_nil, List.nil_append, List.cons_append, List.length_cons, List.length_nil, Nat.zero_add, true_and, and_true, Bool.and_true, Bool.true_and, Bool.not_true, Bool.not_false, decide_true, decide_false, Option.some.injEq, exists_eq_left'])
local macro_rules | `(tactic| walk_at "dbr") => `(tactic| first | refine way_p ?_ ?_ | refine difs_p ?_ ?_ | refine difs_n ?_ ?_ | refine dif_p ?_ ?_ | refine dif_n ?_ ?_ | refine difs_b ?_ ?_ | refine dif_b ?_ ?_)

section
variable {P : Program} {w : World} {K : PySem.W.Frag} {mg : Str → Option Value} {base : Heap} {tb : List (Addr × Str)}
def clsP (cs : List (List Nat × List Nat)) : List PyData := cs.map fun c => .tuple [.list (pz (c.1.map fun n : Nat => (n : Int))), .list (pz (c.2.map fun n : Nat => (n : Int)))]
theorem pyDs_cls : ∀ cs : List (List Nat × List Nat), pyDs (clsD cs) = some (clsP cs)
  | [] => by simp [clsD, clsP, pyDs]
  | c :: cs => by
    show pyDs (.tup [.lst (nD c.1), .lst (nD c.2)] :: clsD cs) = _
    rw [pyDs, pyDs_cls cs, pyD, pyDs, pyDs, pyDs, pyD, pyD, pyDs_n, pyDs_n]
    rfl
theorem lay_cls : ∀ cs : List (List Nat × List Nat), PyData.canLayAll0 (clsP cs) = true ∧ PyData.depthAll (clsP cs) ≤ 2
  | [] => by simp [clsP, PyData.canLayAll0, PyData.depthAll]
  | c :: cs => by
    obtain ⟨h1, h2⟩ := lay_cls cs
    obtain ⟨a1, a2⟩ := pz_lay (c.1.map fun n : Nat => (n : Int))
    obtain ⟨b1, b2⟩ := pz_lay (c.2.map fun n : Nat => (n : Int))
    show PyData.canLayAll0 (.tuple [.list (pz (c.1.map fun n : Nat => (n : Int))), .list (pz (c.2.map fun n : Nat => (n : Int)))] :: clsP cs) = true ∧ PyData.depthAll (.tuple [.list (pz (c.1.map fun n : Nat => (n : Int))), .list (pz (c.2.map fun n : Nat => (n : Int)))] :: clsP cs) ≤ 2
    simp only [PyData.canLayAll0, PyData.canLay0, PyData.depthAll, PyData.depth, h1, a1, b1, a2, b2]
    simp
    omega
theorem gNe_cls {cs : List (List Nat × List Nat)} {h : List Cell} {Q : D → List Cell → Prop} (q : Q (.bl (!cs.isEmpty)) h) : gNe (.lst (clsD cs)) (.lst []) h Q := gNe_nil (pyDs_cls cs) (shaped_seq (lay_cls cs).1 (lay_cls cs).2 (by decide)).1 (by unfold clsD; rw [List.isEmpty_map]; exact q)
abbrev sl__law_some_switches : List Str := ["dice", "rows", "turns", "turn", "columns", "one", "twins", "place", "other", "classes", "mine", "theirs"]
theorem sc__law_some_switches : FnScope sl__law_some_switches ["dice", "rows", "turns"] (defScope s__law_some_switches) := ⟨rfl, rfl, rfl, by decide +kernel, rfl, by decide +kernel, by decide +kernel⟩
theorem st__law_some_switches (v0 : V) (v1 : V) (v2 : V) : L2.start sl__law_some_switches [v0, v1, v2] = [some v0, some v1, some v2, none, none, none, none, none, none, none, none, none] := rfl
theorem sd__law_some_switches (v0 : D) (v1 : D) (v2 : D) : startD sl__law_some_switches [v0, v1, v2] = [some v0, some v1, some v2, none, none, none, none, none, none, none, none, none] := rfl
def d__law_some_switches : DSp := fun ds Q _ => ∃ (R : Rows) (k : Nat), ds = [.dice, .lst (rowsD R), .int (k : Nat)] ∧ Web R ∧ 0 < R.length ∧ k ≤ 1000 ∧ ∀ R', Web R' → R'.length = R.length → Q (.lst (rowsD R'))
theorem okd__law_some_switches (T : Top K mg) : FnOk P w K mg base CX0 3 T._law_some_switches.f T._law_some_switches.fd ["dice", "rows", "turns"] (spD K tb d__law_some_switches) := by
  refine okD T._law_some_switches.F sc__law_some_switches (fun ds Qd Ed h => ?_) (fun dd et cdv A outer s H E hr => ⟨_, (fss_cons (fs_for PassesOwn.never (by rfl) (fi_range1 (by rfl) T.range (fa_cons (fe_var (pv 2)) fa_nil)) (fg_name (i := 3) sc__law_some_switches.nd rfl (by first | exact Or.inl rfl | exact Or.inr rfl)) (fss_cons (fs_asg (fe_tup (fa_cons (fe_callO (K := K) rfl et (okd__law_columns T) (hr.mono (by first | decide | omega)) (by rfl) (fa_cons (fe_var (pv 1)) fa_nil)) (fa_cons (fe_callO (K := K) rfl et (okd__law_roll T) (hr.mono (by first | decide | omega)) (by rfl) (fa_cons (fe_var (pv 0)) (fa_cons (fe_callB (kk_len (K := K) rfl) ec_len (by rfl) T.len (by decide +kernel) (fa_cons (fe_var (pv 1)) fa_nil)) fa_nil))) fa_nil))) (fg_tup (K := K) (n := 2) rfl (by rfl) (fgs_cons (fg_name (i := 4) sc__law_some_switches.nd rfl (by first | exact Or.inl rfl | exact Or.inr rfl)) (fgs_cons (fg_name (i := 5) sc__law_some_switches.nd rfl (by first | exact Or.inl rfl | exact Or.inr rfl)) fgs_nil)))) (fss_cons (fs_setLc (i := 6) (own := [("place", 7)]) (fun _ _ => rfl) (by rfl) sc__law_some_switches.nd rfl rfl (sw_true rfl rfl rfl (by decide +kernel)) (fi_range1 (by rfl) T.range (fa_cons (fe_callB (kk_len (K := K) rfl) ec_len (by rfl) T.len (by decide +kernel) (fa_cons (fe_var (pv 1)) fa_nil)) fa_nil)) (blkOk_by (own := [("place", 7)]) (N := sl__law_some_switches) (sc := defScope s__law_some_switches) (by decide +kernel)) (wn_name (by decide)) (fun _ _ _ _ _ => (fg_name (i := 7) sc__law_some_switches.nd rfl (by first | exact Or.inl rfl | exact Or.inr rfl))) (fun _ _ _ _ _ => (fts_one (fw_and (ft_cmp (kk_ne (K := K) rfl hr) er_ne (fe_var (pv 7)) (fe_var (pv 5)) (nomark _)) (fw_and1 (ft_cmp (kk_eq (K := K) rfl hr) er_eq (fe_ix (kk_ix (K := K) rfl) er_ix (fe_var (pv 4)) (fe_var (pv 7))) (fe_ix (kk_ix (K := K) rfl) er_ix (fe_var (pv 4)) (fe_var (pv 5))) (nomark _)))).toFT)) (fun _ _ _ _ _ => (fe_var (pv 7))) (by intro _; rfl) s) (fss_one (fs_if (ft_cmp (kk_ne (K := K) rfl hr) er_ne (fe_var (pv 6)) (fe_lst fa_nil) (nomark _)) (fss_cons (fs_set (i := 8) sc__law_some_switches.nd rfl (by first | exact Or.inl rfl | exact Or.inr rfl) (fe_callO (K := K) rfl et (okd__law_pick T) (hr.mono (by first | decide | omega)) (by rfl) (fa_cons (fe_var (pv 0)) (fa_cons (fe_var (pv 6)) fa_nil)))) (fss_cons (fs_set (i := 9) sc__law_some_switches.nd rfl (by first | exact Or.inl rfl | exact Or.inr rfl) (fe_callO (K := K) rfl et (okd__law_switch_classes T) (hr.mono (by first | decide | omega)) (by rfl) (fa_cons (fe_var (pv 1)) (fa_cons (fe_var (pv 5)) (fa_cons (fe_var (pv 8)) fa_nil))))) (fss_one (fs_if (ft_cmp (kk_ne (K := K) rfl hr) er_ne (fe_var (pv 9)) (fe_lst fa_nil) (nomark _)) (fss_cons (fs_asg (fe_callO (K := K) rfl et (okd__law_pick T) (hr.mono (by first | decide | omega)) (by rfl) (fa_cons (fe_var (pv 0)) (fa_cons (fe_var (pv 9)) fa_nil))) (fg_tup (K := K) (n := 2) rfl (by rfl) (fgs_cons (fg_name (i := 10) sc__law_some_switches.nd rfl (by first | exact Or.inl rfl | exact Or.inr rfl)) (fgs_cons (fg_name (i := 11) sc__law_some_switches.nd rfl (by first | exact Or.inl rfl | exact Or.inr rfl)) fgs_nil)))) (fss_one (fs_set (i := 1) sc__law_some_switches.nd rfl (by first | exact Or.inl rfl | exact Or.inr rfl) (fe_callO (K := K) rfl et (okd__law_switched T) (hr.mono (by first | decide | omega)) (by rfl) (fa_cons (fe_var (pv 1)) (fa_cons (fe_var (pv 5)) (fa_cons (fe_var (pv 8)) (fa_cons (fe_var (pv 10)) (fa_cons (fe_var (pv 11)) fa_nil))))))))) fss_nil)))) fss_nil))))) (fss_one (fs_ret (fe_var (pv 1))))), fun ds Qd Ed nr h => ?_⟩)
  · obtain ⟨R, k, rfl, _⟩ := h
    rfl
  · obtain ⟨R, k, rfl, W, h0, hk, q⟩ := h
    rw [sd__law_some_switches]
    walk_at "dgo"
    have wl := W.len
    refine ⟨_, rfl, by omega, by omega, ?_⟩
    refine loop_inv (fun i ρ h => ∃ (R' : Rows) (o3 o4 o5 o6 o7 o8 o9 o10 o11 : Option D), ρ = [some .dice, some (.lst (rowsD R')), some (.int (k : Nat)), o3, o4, o5, o6, o7, o8, o9, o10, o11] ∧ Web R' ∧ R'.length = R.length)
      (fun _ _ _ _ _ => trivial) ⟨R, _, _, _, _, _, _, _, _, _, rfl, W, rfl⟩ ?_ ?_
    · rintro i d ρ h N hi ⟨R', o3, o4, o5, o6, o7, o8, o9, o10, o11, rfl, W', hl⟩ kN
      walk_at "dgo"
      have wl' := W'.len
      refine ⟨nrs_rowsD _, R', rfl, by omega, W'.lt, fun r hr => Nat.le_trans (W'.rlen r hr) (by decide), fun cs hcl hcs => ?_⟩
      refine ⟨(R'.length : Nat), by rw [rowsD_len], by omega, by omega, fun r r0 r1 => ?_⟩
      obtain ⟨one, rfl⟩ := Int.eq_ofNat_of_zero_le r0
      have h1 : one < R'.length := by omega
      refine ⟨by decide, _, rfl, rfl, _, _, rfl, _, _, rfl, rfl, _, by rw [rowsD_len], by omega, by omega, ?_⟩
      rw [Int.toNat_natCast]
      refine lc_flt (fun d => match d with | .int m => decide (m.toNat ≠ one) && decide (row cs m.toNat = row cs one) | _ => false) id trivial (by rw [intsD_len]; omega) ?_ ?_
      · intro x hx kk k0 q1 q2
        obtain ⟨m, hm, rfl⟩ := intsD_mem hx
        rw [Int.zero_add] at q1 q2 ⊢
        simp only [Int.toNat_natCast] at q1 q2
        walk_at "dgo"
        by_cases e : m = one
        · refine dif_ff (by rw [decide_eq_true (by omega)]; rfl) ?_
          walk_at "dgo"
          exact q2 (by simp [e])
        · refine dif_tt (by rw [decide_eq_false (by omega)]; rfl) ?_
          walk_at "dgo"
          refine ⟨_, at_nat (rowsD_at (by omega)), _, at_nat (rowsD_at (by omega)), gEq_tn ⟨_, rfl, ?_⟩⟩
          by_cases e2 : row cs m = row cs one
          · rw [decide_eq_true e2, if_pos rfl]
            walk_at "dgo"
            exact q1 (by simp [e, e2])
          · rw [decide_eq_false e2, if_neg Bool.false_ne_true]
            exact q2 (by simp [e2])
      · have e : List.map id (List.filter (fun d => match d with | D.int m => decide (m.toNat ≠ one) && decide (row cs m.toNat = row cs one) | _ => false) (intsD 0 R'.length)) = nD ((List.range R'.length).filter fun m => decide (m ≠ one) && decide (row cs m = row cs one)) := by
          rw [intsD_n]
          unfold nD
          rw [List.map_id, List.filter_map]
          simp [Function.comp_def]
        rw [e]
        refine ⟨by decide, gNe_nilN ⟨_, rfl, ?_⟩⟩
        cases hb : ((List.range R'.length).filter fun m => decide (m ≠ one) && decide (row cs m = row cs one)).isEmpty with
        | true =>
          rw [Bool.not_true]
          walk_at "dgo"
          exact kN _ _ ⟨R', _, _, _, _, _, _, _, _, _, rfl, W', hl⟩
        | false =>
          rw [Bool.not_false]
          walk_at "dgo"
          have ne : nD ((List.range R'.length).filter fun m => decide (m ≠ one) && decide (row cs m = row cs one)) ≠ [] := fun z => by
            unfold nD at z
            rw [List.map_eq_nil_iff] at z
            rw [z] at hb
            cases hb
          have ll : ((List.range R'.length).filter fun m => decide (m ≠ one) && decide (row cs m = row cs one)).length ≤ 16 := by
            have := List.length_filter_le (fun m => decide (m ≠ one) && decide (row cs m = row cs one)) (List.range R'.length)
            rw [List.length_range] at this
            omega
          refine ⟨nrs_nD _, .inr ⟨_, rfl, ne, by rw [nD_len]; omega, fun x hx => ?_⟩⟩
          obtain ⟨t, ht, rfl⟩ := List.mem_map.mp hx
          obtain ⟨ht1, ht2⟩ := List.mem_filter.mp ht
          simp only [Bool.and_eq_true, decide_eq_true_eq] at ht2
          have htl := List.mem_range.mp ht1
          have col : ∀ p, one ∈ row R' p ↔ t ∈ row R' p := fun p => by rw [← hcs, ← hcs, ht2.2]
          walk_at "dgo"
          refine ⟨nrs_rowsD _, R', one, t, rfl, W', h1, htl, fun cc hcc hcc2 => ?_⟩
          walk_at "dgo"
          refine ⟨by decide, gNe_cls ?_⟩
          cases hb2 : cc.isEmpty with
          | true =>
            walk_at "dgo"
            exact kN _ _ ⟨R', _, _, _, _, _, _, _, _, _, rfl, W', hl⟩
          | false =>
            walk_at "dgo"
            have ne2 : clsD cc ≠ [] := fun z => by
              unfold clsD at z
              rw [List.map_eq_nil_iff] at z
              rw [z] at hb2
              cases hb2
            refine ⟨nrs_clsD _, .inr ⟨_, rfl, ne2, by unfold clsD; rw [List.length_map]; omega, fun x hx => ?_⟩⟩
            obtain ⟨⟨M, T⟩, hc, rfl⟩ := List.mem_map.mp hx
            refine ⟨_, rfl, rfl, _, _, rfl, _, _, rfl, rfl, ?_⟩
            walk_at "dgo"
            refine ⟨by rw [nrs_rowsD, nrs_nD, nrs_nD]; rfl, R', one, t, M, T, rfl, W', fun z => ht2.1 z.symm, h1, htl, col, hcc _ hc, fun R2 W2 hl2 => ?_⟩
            walk_at "dgo"
            exact kN _ _ ⟨R2, _, _, _, _, _, _, _, _, _, rfl, W2, by omega⟩
    · rintro ρ h ⟨R', o3, o4, o5, o6, o7, o8, o9, o10, o11, rfl, W', hl⟩
      walk_at "dgo"
      exact fz_l (nrs_rowsD _) (q R' W' hl)
theorem perm_nD {ks : List Nat} {l' : List D} (p : l'.Perm (nD ks)) : ∃ nm : List Nat, l' = nD nm ∧ nm.Perm ks := by
  refine ⟨l'.map fun d => match d with | .int i => i.toNat | _ => 0, ?_, ?_⟩
  · unfold nD
    rw [List.map_map]
    refine ((List.map_congr_left fun d hd => ?_).trans (List.map_id _)).symm
    obtain ⟨n, _, rfl⟩ := List.mem_map.mp (p.mem_iff.mp hd)
    simp
  · have := p.map fun d => match d with | D.int i => i.toNat | _ => 0
    unfold nD at this
    rw [List.map_map] at this
    simpa [Function.comp_def] using this
abbrev sl__law_named : List Str := ["dice", "rows"]
theorem sc__law_named : FnScope sl__law_named ["dice", "rows"] (defScope s__law_named) := ⟨rfl, rfl, rfl, by decide +kernel, rfl, by decide +kernel, by decide +kernel⟩
theorem st__law_named (v0 : V) (v1 : V) : L2.start sl__law_named [v0, v1] = [some v0, some v1] := rfl
theorem sd__law_named (v0 : D) (v1 : D) : startD sl__law_named [v0, v1] = [some v0, some v1] := rfl
def d__law_named : DSp := fun ds Q _ => ∃ (R : Rows), ds = [.dice, .lst (rowsD R)] ∧ Web R ∧ ∀ R', Web R' → R'.length = R.length → Q (.lst (rowsD R'))
theorem okd__law_named (T : Top K mg) : FnOk P w K mg base CX0 3 T._law_named.f T._law_named.fd ["dice", "rows"] (spD K tb d__law_named) := by
  refine okD T._law_named.F sc__law_named (fun ds Qd Ed h => ?_) (fun dd et cdv A outer s H E hr => ⟨_, (fss_one (fs_ret (fe_callO (K := K) rfl et (okd__law_renamed T) (hr.mono (by first | decide | omega)) (by rfl) (fa_cons (fe_var (pv 1)) (fa_cons (fe_callO (K := K) rfl et (okd__law_mixed T) (hr.mono (by first | decide | omega)) (by rfl) (fa_cons (fe_var (pv 0)) (fa_cons (fe_listRng (by rfl) (by rfl) T.list (by rfl) T.range (fe_callB (kk_len (K := K) rfl) ec_len (by rfl) T.len (by decide +kernel) (fa_cons (fe_var (pv 1)) fa_nil))) fa_nil))) fa_nil))))), fun ds Qd Ed nr h => ?_⟩)
  · obtain ⟨R, rfl, _⟩ := h
    rfl
  · obtain ⟨R, rfl, W, q⟩ := h
    rw [sd__law_named]
    walk_at "dgo"
    have wl := W.len
    refine ⟨R.length, by rw [rowsD_len], by omega, by rw [intsD_n]; exact nrs_nD _, _, rfl, by rw [intsD_len]; omega, fun l' p => ?_⟩
    rw [intsD_n] at p
    obtain ⟨nm, rfl, pp⟩ := perm_nD p
    refine ⟨by rw [nrs_rowsD, noRef, nrs_nD]; rfl, R, nm, rfl, W, pp, fun R' W' hl => ?_⟩
    exact fz_l (nrs_rowsD _) (q R' W' hl)
abbrev sl__law_two : List Str := ["dice", "way"]
theorem sc__law_two : FnScope sl__law_two ["dice"] (defScope s__law_two) := ⟨rfl, rfl, rfl, by decide +kernel, rfl, by decide +kernel, by decide +kernel⟩
theorem st__law_two (v0 : V) : L2.start sl__law_two [v0] = [some v0, none] := rfl
theorem sd__law_two (v0 : D) : startD sl__law_two [v0] = [some v0, none] := rfl
def d__law_two : DSp := fun ds Q _ => ds = [.dice] ∧ ∀ R, Web R → 0 < R.length → Q (.lst (rowsD R))
theorem web_word {d : Nat} (h1 : 2 ≤ d) (h2 : d ≤ 4) : Web (wordRows d) := by
  have : ∀ d : Fin 5, 2 ≤ d.val → loneB (wordRows d.val) = true ∧ (wordRows d.val).length ≤ 16 := by decide +kernel
  obtain ⟨a, b⟩ := this ⟨d, by omega⟩ h1
  exact ⟨lone_of a, b⟩
theorem web_nine : Web nine := ⟨lone_of (by decide +kernel), by decide⟩
theorem okd__law_two (T : Top K mg) : FnOk P w K mg base CX0 4 T._law_two.f T._law_two.fd ["dice"] (spD K tb d__law_two) := by
  refine okD T._law_two.F sc__law_two (fun ds Qd Ed h => ?_) (fun dd et cdv A outer s H E hr => ⟨_, (fss_cons (fs_set (i := 1) sc__law_two.nd rfl (by first | exact Or.inl rfl | exact Or.inr rfl) (fe_callO (K := K) rfl et (okd__law_roll T) (hr.mono (by first | decide | omega)) (by rfl) (fa_cons (fe_var (pv 0)) (fa_cons fe_int fa_nil)))) (fss_cons (fs_if (ft_cmp (kk_eq (K := K) rfl hr) er_eq (fe_var (pv 1)) fe_int (nomark _)) (fss_one (fs_ret (fe_callO (K := K) rfl et (okd__law_named T) (hr.mono (by first | decide | omega)) (by rfl) (fa_cons (fe_var (pv 0)) (fa_cons (fe_callO (K := K) rfl et (okd__law_word_rows T) (hr.mono (by first | decide | omega)) (by rfl) (fa_cons fe_int (fa_cons fe_int fa_nil))) fa_nil))))) fss_nil) (fss_cons (fs_if (ft_cmp (kk_eq (K := K) rfl hr) er_eq (fe_var (pv 1)) fe_int (nomark _)) (fss_one (fs_ret (fe_callO (K := K) rfl et (okd__law_named T) (hr.mono (by first | decide | omega)) (by rfl) (fa_cons (fe_var (pv 0)) (fa_cons (fe_callO0 (K := K) rfl et (okd__law_nine T) (hr.mono (by first | decide | omega)) (by rfl)) fa_nil))))) fss_nil) (fss_cons (fs_if (ft_cmp op_kLt (er_int0 fun _ _ _ _ _ => .bl _) (fe_var (pv 1)) fe_int (nomark _)) (fss_one (fs_ret (fe_callO (K := K) rfl et (okd__law_named T) (hr.mono (by first | decide | omega)) (by rfl) (fa_cons (fe_var (pv 0)) (fa_cons (fe_callO (K := K) rfl et (okd__law_some_switches T) (hr.mono (by first | decide | omega)) (by rfl) (fa_cons (fe_var (pv 0)) (fa_cons (fe_callO (K := K) rfl et (okd__law_word_rows T) (hr.mono (by first | decide | omega)) (by rfl) (fa_cons fe_int (fa_cons fe_int fa_nil))) (fa_cons (fe_op (kk_add (K := K) rfl) er_add fe_int (fe_callO (K := K) rfl et (okd__law_roll T) (hr.mono (by first | decide | omega)) (by rfl) (fa_cons (fe_var (pv 0)) (fa_cons fe_int fa_nil)))) fa_nil)))) fa_nil))))) fss_nil) (fss_cons (fs_if (ft_cmp (kk_eq (K := K) rfl hr) er_eq (fe_var (pv 1)) fe_int (nomark _)) (fss_one (fs_ret (fe_callO (K := K) rfl et (okd__law_some_switches T) (hr.mono (by first | decide | omega)) (by rfl) (fa_cons (fe_var (pv 0)) (fa_cons (fe_callO (K := K) rfl et (okd__law_word_rows T) (hr.mono (by first | decide | omega)) (by rfl) (fa_cons fe_int (fa_cons fe_int fa_nil))) (fa_cons (fe_callO (K := K) rfl et (okd__law_roll T) (hr.mono (by first | decide | omega)) (by rfl) (fa_cons (fe_var (pv 0)) (fa_cons fe_int fa_nil))) fa_nil)))))) fss_nil) (fss_one (fs_ret (fe_callO (K := K) rfl et (okd__law_word_rows T) (hr.mono (by first | decide | omega)) (by rfl) (fa_cons (fe_op (kk_add (K := K) rfl) er_add fe_int (fe_callO (K := K) rfl et (okd__law_roll T) (hr.mono (by first | decide | omega)) (by rfl) (fa_cons (fe_var (pv 0)) (fa_cons fe_int fa_nil)))) (fa_cons fe_int fa_nil)))))))))), fun ds Qd Ed nr h => ?_⟩)
  · obtain ⟨rfl, _⟩ := h
    rfl
  · obtain ⟨rfl, q⟩ := h
    rw [sd__law_two]
    walk_at "dgo"
    have w2 := web_word (d := 2) (by decide) (by decide)
    have w3 := web_word (d := 3) (by decide) (by decide)
    have w4 := web_word (d := 4) (by decide) (by decide)
    refine ⟨6, rfl, by decide, by decide, fun r r0 r1 => ?_⟩
    walk_at "dgo"
    refine difs_p (fun _ => ?_) fun _ => ?_
    · walk_at "dgo"
      refine ⟨2, rfl, by decide, by decide, ?_⟩
      walk_at "dgo"
      refine ⟨nrs_rowsD _, wordRows 2, rfl, w2, fun R W hl => ?_⟩
      exact fz_l (nrs_rowsD _) (q R W (by rw [hl]; decide))
    walk_at "dgo"
    refine difs_p (fun _ => ?_) fun _ => ?_
    · walk_at "dgo"
      refine ⟨rfl, nrs_rowsD _, nine, rfl, web_nine, fun R W hl => ?_⟩
      exact fz_l (nrs_rowsD _) (q R W (by rw [hl]; decide))
    walk_at "dgo"
    refine difs_p (fun _ => ?_) fun _ => ?_
    · walk_at "dgo"
      refine ⟨3, rfl, by decide, by decide, 4, rfl, by decide, by decide, fun k k0 k1 => ?_⟩
      obtain ⟨k', rfl⟩ := Int.eq_ofNat_of_zero_le k0
      walk_at "dgo"
      refine ⟨nrs_rowsD _, wordRows 3, 1 + k', by simp, w3, by decide, by omega, fun R1 W1 hl1 => ?_⟩
      walk_at "dgo"
      refine ⟨nrs_rowsD _, R1, rfl, W1, fun R W hl => ?_⟩
      exact fz_l (nrs_rowsD _) (q R W (by rw [hl, hl1]; decide))
    walk_at "dgo"
    refine difs_p (fun _ => ?_) fun _ => ?_
    · walk_at "dgo"
      refine ⟨4, rfl, by decide, by decide, 5, rfl, by decide, by decide, fun k k0 k1 => ?_⟩
      obtain ⟨k', rfl⟩ := Int.eq_ofNat_of_zero_le k0
      walk_at "dgo"
      refine ⟨nrs_rowsD _, wordRows 4, k', rfl, w4, by decide, by omega, fun R W hl => ?_⟩
      exact fz_l (nrs_rowsD _) (q R W (by rw [hl]; decide))
    walk_at "dgo"
    refine ⟨2, rfl, by decide, by decide, fun k k0 k1 => ?_⟩
    obtain ⟨k', rfl⟩ := Int.eq_ofNat_of_zero_le k0
    walk_at "dgo"
    refine ⟨2 + k', by simp, by omega, by omega, ?_⟩
    have w5 := web_word (d := 2 + k') (by omega) (by omega)
    exact fz_l (nrs_rowsD _) (q _ w5 (by unfold wordRows; rw [List.length_map, List.length_range]; exact Nat.pow_pos (by omega)))
end
end LW

end

section
set_option maxHeartbeats 4000000
/-! G6: drawn forms; places between them, ties. -/
namespace LW
open PySem PySem.Spec PyProof.Rows L2 KG KT DL KW
local macro_rules | `(tactic| walk_at "dgo") => `(tactic| try simp only [d_var, d_c, d_op, d_nil, d_cons, d_star, d_call, d_tup, d_lst, d_new, DL.d_len, d_listN, d_test, d_tru, d_if, d_now, d_and, d_or, d_not, d_andV, d_orV, d_notV, d_part, d_nopart, d_sl, d_rev, d_revS, d_neg, d_fn, d_fnR, d_app, d_pass, d_seq, d_ret, d_retN, d_brk, d_cont, d_drop, d_set, d_asg, d_nm, d_ifS, d_aug, d_par, d_par3, d_for, d_it, d_rng1, d_lc, d_chain, d_whileN, d_callV, d_lam, d_fnC, d_fnN, d_head, gListN_l, gListN_t, d_fn0, d_mulN, d_subS, d_ext, d_popAt, d_dgetK, d_dgetT, d_newT, d_newK, d_updT, d_dictT, d_pr, d_listRng, d_sortSet, d_rng2, d_enumL, d_enumT, d_enumS, gListS_s, gMin_i, gMax_i, d_gcons, d_gnil, d_gtp, gReprB_b, gLen_scr, d_zip, DL.at0, DL.at1, DL.at2, dif_t, dif_f, difs_t, difs_f, way_t, way_f,
  gAdd_i, gAdd_s, gAdd_t, gAdd_l, gSub_i, gMod_i, gFdiv_i, gMul_i, gEq_i, gEq_s, gEq_b, gNe_i, gNe_s, gNe_b, gLt_i, gIs_n, gIs_b, gIsNot_n, gIsNot_b, gIx_s, gIx_t, gIx_l, gSl_s, gSl_t, gSl_l, gLen_s, gLen_t, gLen_l, gTupOf_l, gTupOf_t, gListOf_l, gListOf_t, gIsi_tt, gRepr_b, xb, xi, xs2, xp2, xp3, xref, tru_b', fz_s, fz_i, fz_b, fz_n, DL.isNon, fnEnds, wipeD, asS, asL, noRefs, noRef,
  List.set_cons_zero, List.set_cons_succ, List.getElem?_cons_zero, List.getElem?_cons_succ, List.map_cons, List.map_nil, List.append_nil, List.nil_append, List.cons_append, List.length_cons, List.length_nil, Nat.zero_add, true_and, and_true, Bool.and_true, Bool.true_and, Bool.not_true, Bool.not_false, decide_true, decide_false, Option.some.injEq, exists_eq_left'])
local macro_rules | `(tactic| walk_at "dbr") => `(tactic| first | refine way_p ?_ ?_ | refine difs_p ?_ ?_ | refine difs_n ?_ ?_ | refine dif_p ?_ ?_ | refine dif_n ?_ ?_ | refine difs_b ?_ ?_ | refine dif_b ?_ ?_)

-- @FACT _law_grown_term okg__law_grown_term T 5
section
variable {P : Program} {w : World} {K : PySem.W.Frag} {mg : Str → Option Value} {base : Heap} {tb : List (Addr × Str)}
/-- the letters of a term -/
def lvs : Tm → List Nat
  | .lf c => [c]
  | .nd a b => lvs a ++ lvs b
theorem lvs_red {t u : Tm} {r : Nat} (h : (r, u) ∈ red t) : ∀ c ∈ lvs u, c ∈ lvs t := by
  unfold red at h
  rcases List.mem_append.mp h with h | h
  · obtain ⟨x, y, z, rfl, _, rfl⟩ := red1_mem.mp h
    intro c hc
    simp [lvs, hc]
  · rcases List.mem_append.mp h with h | h
    · obtain ⟨x, y, z, rfl, _, rfl⟩ := red2_mem.mp h
      intro c hc
      simp only [lvs, List.mem_append] at hc ⊢
      exact hc.elim .inl fun h => .inr (.inl (.inr h))
    · obtain ⟨x, y, z, rfl, _, rfl⟩ := red3_mem.mp h
      intro c hc
      simp only [lvs, List.mem_append] at hc ⊢
      exact hc.elim (fun h => .inl (.inr (.inl h))) .inr
theorem lvs_nf : ∀ (t : Tm), ∀ c ∈ lvs (nf t), c ∈ lvs t
  | .lf _ => fun _ h => h
  | .nd a b => fun c hc => by
    have h1 := lvs_nf a
    have h2 := lvs_nf b
    have h3 : c ∈ lvs (.nd (nf a) (nf b)) := by
      have hm : c ∈ lvs (mul (nf a) (nf b)) := hc
      unfold mul at hm
      split at hm
      · exact hm
      · rename_i r u l e
        exact lvs_red (r := r) (by rw [e]; exact List.mem_cons_self ..) c hm
    simp only [lvs, List.mem_append] at h3 ⊢
    exact h3.imp (h1 c) (h2 c)
theorem sd__law_grown_term (v0 : D) (v1 : D) (v2 : D) : startD sl__law_grown_term [v0, v1, v2] = [some v0, some v1, some v2, none] := rfl
def d__law_grown (m : Nat) : DSp := fun ds Q _ => ∃ (l : List Nat) (n : Nat), ds = [.dice, .str l, .int (n : Nat)] ∧ 1 ≤ n ∧ n ≤ m ∧ m ≤ 1000 ∧ l ≠ [] ∧ l.length ≤ 1000 ∧ (∀ c ∈ l, isL c = true) ∧ ∀ t : Tm, ok t = true → sz t = n → (∀ c ∈ lvs t, c ∈ l) → Q (eD t)
theorem okg__law_grown_term (T : Top K mg) : ∀ m : Nat, FnOk P w K mg base CX0 (m + 3) T._law_grown_term.f T._law_grown_term.fd ["dice", "letters", "size"] (spD K tb (d__law_grown m)) := by
  intro m
  induction m with
  | zero =>
    refine ⟨fun vs H Q E h => ?_, fun A outer s H args us vs Q E _ _ _ _ h => ?_⟩ <;> obtain ⟨dd, ex, ds, Qd, Ed, _, _, _, _, ⟨l, n, _, h1, h2, _⟩, _⟩ := h <;> omega
  | succ m ih =>
    refine okD T._law_grown_term.F sc__law_grown_term (fun ds Qd Ed h => ?_) (fun dd et cdv A outer s H E hr => ⟨_, (fss_cons (fs_if (ft_cmp (kk_eq (K := K) rfl hr) er_eq (fe_var (pv 2)) fe_int (nomark _)) (fss_one (fs_ret (fe_callO (K := K) rfl et (okd__law_pick T) (hr.mono (by first | decide | omega)) (by rfl) (fa_cons (fe_var (pv 0)) (fa_cons (fe_var (pv 1)) fa_nil))))) fss_nil) (fss_cons (fs_set (i := 3) sc__law_grown_term.nd rfl (by first | exact Or.inl rfl | exact Or.inr rfl) (fe_op (kk_add (K := K) rfl) er_add fe_int (fe_callO (K := K) rfl et (okd__law_roll T) (hr.mono (by first | decide | omega)) (by rfl) (fa_cons (fe_var (pv 0)) (fa_cons (fe_op op_kSub er_sub (fe_var (pv 2)) fe_int) fa_nil))))) (fss_one (fs_ret (fe_op (kk_add (K := K) rfl) er_add (fe_op (kk_add (K := K) rfl) er_add (fe_S [42] (by decide)) (fe_callO (K := K) rfl et ih (hr.mono (by first | decide | omega)) (by rfl) (fa_cons (fe_var (pv 0)) (fa_cons (fe_var (pv 1)) (fa_cons (fe_var (pv 3)) fa_nil))))) (fe_callO (K := K) rfl et ih (hr.mono (by first | decide | omega)) (by rfl) (fa_cons (fe_var (pv 0)) (fa_cons (fe_var (pv 1)) (fa_cons (fe_op op_kSub er_sub (fe_var (pv 2)) (fe_var (pv 3))) fa_nil))))))))), fun ds Qd Ed nr h => ?_⟩)
    · obtain ⟨l, n, rfl, _⟩ := h
      rfl
    · obtain ⟨l, n, rfl, h1, hm, hm2, hn, hl, hL, q⟩ := h
      rw [sd__law_grown_term]
      walk_at "dgo"
      refine difs_p (fun e => ?_) fun e => ?_
      · walk_at "dgo"
        refine .inl ⟨l, rfl, hn, by omega, fun c hc => ?_⟩
        walk_at "dgo"
        exact q (.lf c) (hL c hc) (by show 1 = n; omega) fun d hd => by rw [List.mem_singleton.mp hd]; exact hc
      · walk_at "dgo"
        refine ⟨_, rfl, by omega, by omega, fun r r0 r1 => ?_⟩
        obtain ⟨r', rfl⟩ := Int.eq_ofNat_of_zero_le r0
        walk_at "dgo"
        refine ⟨l, 1 + r', by simp, by omega, by omega, by omega, hn, hl, hL, fun a ha hza hla => ?_⟩
        have l1 := enc_len a
        walk_at "dgo"
        refine ⟨by omega, l, n - (1 + r'), by congr 3; congr 1; omega, by omega, by omega, by omega, hn, hl, hL, fun b hb hzb hlb => ?_⟩
        have l2 := enc_len b
        walk_at "dgo"
        refine ⟨by omega, ?_⟩
        exact q (.nd a b) (ok_nd.mpr ⟨ha, hb⟩) (by show sz a + sz b = n; omega) fun c hc => (List.mem_append.mp hc).elim (hla c) (hlb c)
abbrev sl__law_drawn_form : List Str := ["dice", "letters"]
theorem sc__law_drawn_form : FnScope sl__law_drawn_form ["dice", "letters"] (defScope s__law_drawn_form) := ⟨rfl, rfl, rfl, by decide +kernel, rfl, by decide +kernel, by decide +kernel⟩
theorem st__law_drawn_form (v0 : V) (v1 : V) : L2.start sl__law_drawn_form [v0, v1] = [some v0, some v1] := rfl
theorem sd__law_drawn_form (v0 : D) (v1 : D) : startD sl__law_drawn_form [v0, v1] = [some v0, some v1] := rfl
/-- a form with these letters -/
structure Frm (l : List Nat) (t : Tm) : Prop where
  ok : ok t = true
  fm : steps t = []
  sz : sz t ≤ 5
  lv : ∀ c ∈ lvs t, c ∈ l
def Ltrs (l : List Nat) : Prop := l ≠ [] ∧ l.length ≤ 1000 ∧ ∀ c ∈ l, isL c = true
def d__law_drawn_form : DSp := fun ds Q _ => ∃ l : List Nat, ds = [.dice, .str l] ∧ Ltrs l ∧ ∀ t, Frm l t → Q (eD t)
theorem okd__law_drawn_form (T : Top K mg) : FnOk P w K mg base CX0 9 T._law_drawn_form.f T._law_drawn_form.fd ["dice", "letters"] (spD K tb d__law_drawn_form) := by
  refine okD T._law_drawn_form.F sc__law_drawn_form (fun ds Qd Ed h => ?_) (fun dd et cdv A outer s H E hr => ⟨_, (fss_one (fs_ret (fe_ix (kk_ix (K := K) rfl) er_ix (fe_callO (K := K) rfl et (okd__law_down T) (hr.mono (by first | decide | omega)) (by rfl) (fa_cons (fe_var (pv 0)) (fa_cons (fe_callO (K := K) rfl et (okg__law_grown_term T 5) (hr.mono (by first | decide | omega)) (by rfl) (fa_cons (fe_var (pv 0)) (fa_cons (fe_var (pv 1)) (fa_cons (fe_op (kk_add (K := K) rfl) er_add fe_int (fe_callO (K := K) rfl et (okd__law_roll T) (hr.mono (by first | decide | omega)) (by rfl) (fa_cons (fe_var (pv 0)) (fa_cons fe_int fa_nil)))) fa_nil)))) fa_nil))) (fe_neg fe_int)))), fun ds Qd Ed nr h => ?_⟩)
  · obtain ⟨l, rfl, _⟩ := h
    rfl
  · obtain ⟨l, rfl, hl, q⟩ := h
    rw [sd__law_drawn_form]
    walk_at "dgo"
    refine ⟨_, rfl, by decide, by decide, fun r r0 r1 => ?_⟩
    obtain ⟨r', rfl⟩ := Int.eq_ofNat_of_zero_le r0
    walk_at "dgo"
    refine ⟨l, 1 + r', by simp, by omega, by omega, by omega, hl.1, hl.2.1, hl.2.2, fun t ht hz hlt => ?_⟩
    refine ⟨nr_str, t, rfl, ht, by omega, fun ts z hd e => ?_⟩
    walk_at "dgo"
    refine ⟨eD z, at_neg (by rw [List.length_map, List.getElem?_map, hd.last]; rfl), ?_⟩
    walk_at "dgo"
    have ez := hd.form e
    refine q z ⟨hd.okz, e, ?_, fun c hc => hlt c (lvs_nf t c (ez ▸ hc))⟩
    have := sz_nf t
    rw [ez]
    omega
abbrev sl__law_is_tied : List Str := ["dice", "one", "other", "inner"]
theorem sc__law_is_tied : FnScope sl__law_is_tied ["dice", "one", "other"] (defScope s__law_is_tied) := ⟨rfl, rfl, rfl, by decide +kernel, rfl, by decide +kernel, by decide +kernel⟩
theorem st__law_is_tied (v0 : V) (v1 : V) (v2 : V) : L2.start sl__law_is_tied [v0, v1, v2] = [some v0, some v1, some v2, none] := rfl
theorem sd__law_is_tied (v0 : D) (v1 : D) (v2 : D) : startD sl__law_is_tied [v0, v1, v2] = [some v0, some v1, some v2, none] := rfl
def d__law_is_tied : DSp := fun ds Q _ => ∃ t u : Tm, ds = [.dice, eD t, eD u] ∧ ok t = true ∧ ok u = true ∧ sz t + 2 * sz u ≤ 100 ∧ Q (.bl (tied t u))
theorem okd__law_is_tied (T : Top K mg) : FnOk P w K mg base CX0 6 T._law_is_tied.f T._law_is_tied.fd ["dice", "one", "other"] (spD K tb d__law_is_tied) := by
  refine okD T._law_is_tied.F sc__law_is_tied (fun ds Qd Ed h => ?_) (fun dd et cdv A outer s H E hr => ⟨_, (fss_cons (fs_set (i := 3) sc__law_is_tied.nd rfl (by first | exact Or.inl rfl | exact Or.inr rfl) (fe_ix (kk_ix (K := K) rfl) er_ix (fe_callO (K := K) rfl et (okd__law_down T) (hr.mono (by first | decide | omega)) (by rfl) (fa_cons (fe_var (pv 0)) (fa_cons (fe_op (kk_add (K := K) rfl) er_add (fe_op (kk_add (K := K) rfl) er_add (fe_S [42] (by decide)) (fe_var (pv 2))) (fe_var (pv 2))) fa_nil))) (fe_neg fe_int))) (fss_one (fs_ret (fe_cmp (kk_eq (K := K) rfl hr) er_eq (fe_ix (kk_ix (K := K) rfl) er_ix (fe_callO (K := K) rfl et (okd__law_down T) (hr.mono (by first | decide | omega)) (by rfl) (fa_cons (fe_var (pv 0)) (fa_cons (fe_op (kk_add (K := K) rfl) er_add (fe_op (kk_add (K := K) rfl) er_add (fe_S [42] (by decide)) (fe_var (pv 1))) (fe_var (pv 3))) fa_nil))) (fe_neg fe_int)) (fe_var (pv 2)) (nomark _))))), fun ds Qd Ed nr h => ?_⟩)
  · obtain ⟨t, u, rfl, _⟩ := h
    rfl
  · obtain ⟨t, u, rfl, ht, hu, hz, q⟩ := h
    rw [sd__law_is_tied]
    have l1 := enc_len t
    have l2 := enc_len u
    have o1 := ok_nd.mpr ⟨hu, hu⟩
    walk_at "dgo"
    refine ⟨by omega, by omega, .nd u u, rfl, o1, ?_, fun ts z hd e => ?_⟩
    · show sz u + sz u ≤ 100; omega
    walk_at "dgo"
    refine ⟨eD z, at_neg (by rw [List.length_map, List.getElem?_map, hd.last]; rfl), ?_⟩
    have ez := hd.form e
    have h1 := sz_nf (.nd u u)
    have e1 : sz (.nd u u) = sz u + sz u := rfl
    have l3 := enc_len z
    have e3 : sz (.nd t z) = sz t + sz z := rfl
    walk_at "dgo"
    rw [← ez] at h1
    refine ⟨by omega, by omega, .nd t z, rfl, ok_nd.mpr ⟨ht, hd.okz⟩, by omega, fun us y hd2 e2 => ?_⟩
    walk_at "dgo"
    refine ⟨eD y, at_neg (by rw [List.length_map, List.getElem?_map, hd2.last]; rfl), ?_⟩
    walk_at "dgo"
    rw [eq_enc hd2.okz hu, hd2.form e2, ez]
    exact q
end
end LW

end

section
set_option maxHeartbeats 4000000
/-! G7: places between forms are told. -/
namespace LW
open PySem PySem.Spec PyProof.Rows L2 KG KT DL KW
local macro_rules | `(tactic| walk_at "dgo") => `(tactic| try simp only [d_var, d_c, d_op, d_nil, d_cons, d_star, d_call, d_tup, d_lst, d_new, DL.d_len, d_listN, d_test, d_tru, d_if, d_now, d_and, d_or, d_not, d_andV, d_orV, d_notV, d_part, d_nopart, d_sl, d_rev, d_revS, d_neg, d_fn, d_fnR, d_app, d_pass, d_seq, d_ret, d_retN, d_brk, d_cont, d_drop, d_set, d_asg, d_nm, d_ifS, d_aug, d_par, d_par3, d_for, d_it, d_rng1, d_lc, d_chain, d_whileN, d_callV, d_lam, d_fnC, d_fnN, d_head, gListN_l, gListN_t, d_fn0, d_mulN, d_subS, d_ext, d_popAt, d_dgetK, d_dgetT, d_newT, d_newK, d_updT, d_dictT, d_pr, d_listRng, d_sortSet, d_rng2, d_enumL, d_enumT, d_enumS, gListS_s, gMin_i, gMax_i, d_gcons, d_gnil, d_gtp, gReprB_b, gLen_scr, d_zip, DL.at0, DL.at1, DL.at2, dif_t, dif_f, difs_t, difs_f, way_t, way_f,
  gAdd_i, gAdd_s, gAdd_t, gAdd_l, gSub_i, gMod_i, gFdiv_i, gMul_i, gEq_i, gEq_s, gEq_b, gNe_i, gNe_s, gNe_b, gLt_i, gIs_n, gIs_b, gIsNot_n, gIsNot_b, gIx_s, gIx_t, gIx_l, gSl_s, gSl_t, gSl_l, gLen_s, gLen_t, gLen_l, gTupOf_l, gTupOf_t, gListOf_l, gListOf_t, gIsi_tt, gRepr_b, xb, xi, xs2, xp2, xp3, xref, tru_b', fz_s, fz_i, fz_b, fz_n, DL.isNon, fnEnds, wipeD, asS, asL, noRefs, noRef,
  List.set_cons_zero, List.set_cons_succ, List.getElem?_cons_zero, List.getElem?_cons_succ, List.map_cons, List.map_nil, List.append_nil, List.nil_append, List.cons_append, List.length_cons, List.length_nil, Nat.zero_add, true_and, and_true, Bool.and_true, Bool.true_and, Bool.not_true, Bool.not_false, decide_true, decide_false, Option.some.injEq, exists_eq_left'])
local macro_rules | `(tactic| walk_at "dbr") => `(tactic| first | refine way_p ?_ ?_ | refine difs_p ?_ ?_ | refine difs_n ?_ ?_ | refine dif_p ?_ ?_ | refine dif_n ?_ ?_ | refine difs_b ?_ ?_ | refine dif_b ?_ ?_)

section
variable {P : Program} {w : World} {K : PySem.W.Frag} {mg : Str → Option Value} {base : Heap} {tb : List (Addr × Str)}
theorem nf_nd {x y : Tm} (hx : isNf x = true) (hy : isNf y = true) : nf (.nd x y) = mul x y := by
  show mul (nf x) (nf y) = _
  rw [nf_id hx, nf_id hy]
theorem tied_eq {x y : Tm} (hx : isNf x = true) (hy : isNf y = true) : tied x y = decide (mul x (mul y y) = y) := by
  unfold tied
  have h1 : nf (.nd y y) = mul y y := nf_nd hy hy
  rw [h1, nf_nd hx (mul_nf hy hy)]
theorem tied_left {x y : Tm} (hx : isNf x = true) (hy : isNf y = true) : tied x (mul x y) = true := by
  have hm := mul_nf hx hy
  rw [tied_eq hx hm]
  exact decide_eq_true (central2 hx hy hm)
theorem tied_right {x y : Tm} (hx : isNf x = true) (hy : isNf y = true) : tied (mul x y) y = true := by
  rw [tied_eq (mul_nf hx hy) hy]
  exact decide_eq_true (central hx hy hy)
theorem tied_mid {x y f : Tm} (hx : isNf x = true) (hy : isNf y = true) (hf : isNf f = true) (h1 : tied x f = true) (h2 : tied f y = true) : f = mul x y := by
  rw [tied_eq hx hf] at h1
  rw [tied_eq hf hy] at h2
  have e1 := of_decide_eq_true h1
  have e2 := of_decide_eq_true h2
  have k := central2 hx (mul_nf hf hf) (mul_nf hy hy)
  rw [e1, e2] at k
  exact k.symm
abbrev sl__law_right : List Str := ["dice", "letters", "small", "one", "other", "middle", "form", "turn", "told"]
theorem sc__law_right : FnScope sl__law_right ["dice", "letters", "small"] (defScope s__law_right) := ⟨rfl, rfl, rfl, by decide +kernel, rfl, by decide +kernel, by decide +kernel⟩
theorem st__law_right (v0 : V) (v1 : V) (v2 : V) : L2.start sl__law_right [v0, v1, v2] = [some v0, some v1, some v2, none, none, none, none, none, none] := rfl
theorem sd__law_right (v0 : D) (v1 : D) (v2 : D) : startD sl__law_right [v0, v1, v2] = [some v0, some v1, some v2, none, none, none, none, none, none] := rfl
def d__law_right : DSp := fun ds Q _ => ∃ (l : List Nat) (sm : List Tm), ds = [.dice, .str l, .lst (eDs sm)] ∧ Ltrs l ∧ sm.length ≤ 100 ∧ (∀ s ∈ sm, ok s = true ∧ steps s = [] ∧ sz s ≤ 5) ∧ Q (.bl true)
theorem okd__law_right (T : Top K mg) : FnOk P w K mg base CX0 24 T._law_right.f T._law_right.fd ["dice", "letters", "small"] (spD K tb d__law_right) := by
  refine okD T._law_right.F sc__law_right (fun ds Qd Ed h => ?_) (fun dd et cdv A outer s H E hr => ⟨_, (fss_cons (fs_par (i := 3) (j := 4) (by rfl) sc__law_right.nd rfl rfl (by decide) rfl rfl (fa_cons (fe_callO (K := K) rfl et (okd__law_drawn_form T) (hr.mono (by first | decide | omega)) (by rfl) (fa_cons (fe_var (pv 0)) (fa_cons (fe_var (pv 1)) fa_nil))) (fa_cons (fe_callO (K := K) rfl et (okd__law_drawn_form T) (hr.mono (by first | decide | omega)) (by rfl) (fa_cons (fe_var (pv 0)) (fa_cons (fe_var (pv 1)) fa_nil))) fa_nil)) rfl) (fss_cons (fs_set (i := 5) sc__law_right.nd rfl (by first | exact Or.inl rfl | exact Or.inr rfl) (fe_callO (K := K) rfl et (okd_between_forms T) (hr.mono (by first | decide | omega)) (by rfl) (fa_cons (fe_var (pv 3)) (fa_cons (fe_var (pv 4)) fa_nil)))) (fss_cons (fs_if (ft_cmp (kk_ne (K := K) rfl hr) er_ne (fe_var (pv 5)) (fe_ix (kk_ix (K := K) rfl) er_ix (fe_callO (K := K) rfl et (okd__law_down T) (hr.mono (by first | decide | omega)) (by rfl) (fa_cons (fe_var (pv 0)) (fa_cons (fe_op (kk_add (K := K) rfl) er_add (fe_op (kk_add (K := K) rfl) er_add (fe_S [42] (by decide)) (fe_var (pv 3))) (fe_var (pv 4))) fa_nil))) (fe_neg fe_int)) (nomark _)) (fss_one (fs_ret fe_bl)) fss_nil) (fss_cons (fs_if (fw_or (ft_cmp op_kNotN er_isnot (fe_callO (K := K) rfl et (okd_is_tied_form T) (hr.mono (by first | decide | omega)) (by rfl) (fa_cons (fe_var (pv 3)) (fa_cons (fe_var (pv 5)) fa_nil))) fe_bl (nomark _)) (fw_or1 (ft_cmp op_kNotN er_isnot (fe_callO (K := K) rfl et (okd_is_tied_form T) (hr.mono (by first | decide | omega)) (by rfl) (fa_cons (fe_var (pv 5)) (fa_cons (fe_var (pv 4)) fa_nil))) fe_bl (nomark _)))).toFT (fss_one (fs_ret fe_bl)) fss_nil) (fss_cons (fs_for PassesOwn.never (by rfl) (fi_seq (K := K) rfl (fe_op (kk_add (K := K) rfl) er_add (fe_var (pv 2)) (fe_lc (own := [("turn", 7)]) (fun _ _ => rfl) (by rfl) sc__law_right.nd (fi_range1 (by rfl) T.range (fa_cons fe_int fa_nil)) (blkOk_by (own := [("turn", 7)]) (N := sl__law_right) (sc := defScope s__law_right) (by decide +kernel)) (wn_name (by decide)) (fun _ _ _ _ _ => (fg_name (i := 7) sc__law_right.nd rfl (by first | exact Or.inl rfl | exact Or.inr rfl))) (fun _ _ _ _ _ => fts_nil) (fun _ _ _ _ _ => (fe_callO (K := K) rfl et (okd__law_drawn_form T) (hr.mono (by first | decide | omega)) (by rfl) (fa_cons (fe_var (pv 0)) (fa_cons (fe_var (pv 1)) fa_nil)))) (by intro _; rfl) s))) (fg_name (i := 6) sc__law_right.nd rfl (by first | exact Or.inl rfl | exact Or.inr rfl)) (fss_cons (fs_set (i := 8) sc__law_right.nd rfl (by first | exact Or.inl rfl | exact Or.inr rfl) (fe_lst (fa_cons (fe_callO (K := K) rfl et (okd_is_tied_form T) (hr.mono (by first | decide | omega)) (by rfl) (fa_cons (fe_var (pv 3)) (fa_cons (fe_var (pv 6)) fa_nil))) (fa_cons (fe_callO (K := K) rfl et (okd_is_tied_form T) (hr.mono (by first | decide | omega)) (by rfl) (fa_cons (fe_var (pv 6)) (fa_cons (fe_var (pv 4)) fa_nil))) fa_nil)))) (fss_cons (fs_if (ft_cmp (kk_ne (K := K) rfl hr) er_ne (fe_var (pv 8)) (fe_lst (fa_cons (fe_callO (K := K) rfl et (okd__law_is_tied T) (hr.mono (by first | decide | omega)) (by rfl) (fa_cons (fe_var (pv 0)) (fa_cons (fe_var (pv 3)) (fa_cons (fe_var (pv 6)) fa_nil)))) (fa_cons (fe_callO (K := K) rfl et (okd__law_is_tied T) (hr.mono (by first | decide | omega)) (by rfl) (fa_cons (fe_var (pv 0)) (fa_cons (fe_var (pv 6)) (fa_cons (fe_var (pv 4)) fa_nil)))) fa_nil))) (nomark _)) (fss_one (fs_ret fe_bl)) fss_nil) (fss_one (fs_if (fw_and (ft_cmp (kk_eq (K := K) rfl hr) er_eq (fe_var (pv 8)) (fe_lst (fa_cons fe_bl (fa_cons fe_bl fa_nil))) (nomark _)) (fw_and1 (ft_cmp (kk_ne (K := K) rfl hr) er_ne (fe_var (pv 6)) (fe_var (pv 5)) (nomark _)))).toFT (fss_one (fs_ret fe_bl)) fss_nil))))) (fss_one (fs_ret fe_bl))))))), fun ds Qd Ed nr h => ?_⟩)
  · obtain ⟨l, sm, rfl, _⟩ := h
    rfl
  · obtain ⟨l, sm, rfl, hl, hsl, hsm, q⟩ := h
    rw [sd__law_right]
    walk_at "dgo"
    refine ⟨l, rfl, hl, fun x fx => ⟨l, rfl, hl, fun y fy => ?_⟩⟩
    have zx := fx.sz
    have zy := fy.sz
    have nx := steps_nil.mp fx.fm
    have ny := steps_nil.mp fy.fm
    have lx := enc_len x
    have ly := enc_len y
    have o1 := ok_nd.mpr ⟨fx.ok, fy.ok⟩
    have e1 : sz (.nd x y) = sz x + sz y := rfl
    have z1 := sz_nf (.nd x y)
    have om := ok_nf o1
    have nm : isNf (nf (.nd x y)) = true := nf_nf _
    have em := nf_nd nx ny
    have sm0 : steps (nf (.nd x y)) = [] := steps_nil.mpr nm
    walk_at "dgo"
    refine ⟨x, y, rfl, fx.ok, fy.ok, by omega, fx.fm, fy.fm, ?_⟩
    walk_at "dgo"
    refine ⟨by omega, by omega, .nd x y, rfl, o1, by omega, fun ts z hd e => ?_⟩
    walk_at "dgo"
    refine ⟨eD z, at_neg (by rw [List.length_map, List.getElem?_map, hd.last]; rfl), ?_⟩
    walk_at "dgo"
    rw [hd.form e]
    refine difs_ff (by rw [decide_eq_true rfl]; rfl) ?_
    walk_at "dgo"
    refine ⟨x, _, rfl, fx.ok, om, by omega, fx.fm, sm0, ?_⟩
    rw [em, tied_left nx ny]
    walk_at "dgo"
    rw [em] at om sm0 z1
    refine ⟨_, y, rfl, om, fy.ok, by omega, sm0, fy.fm, ?_⟩
    rw [tied_right nx ny]
    walk_at "dgo"
    refine ⟨_, rfl, by decide, by decide, ?_⟩
    refine lc_inv (fun i acc h => ∃ fs : List Tm, acc = eDs fs ∧ fs.length = i ∧ ∀ s ∈ fs, ok s = true ∧ steps s = [] ∧ sz s ≤ 5) (fun _ _ _ _ _ => trivial) ⟨[], rfl, rfl, by simp⟩ ?_ ?_
    · rintro i d acc h N hi ⟨fs, rfl, hfl, hfs⟩ k
      have hi3 := (intsD_at hi).1
      walk_at "dgo"
      refine ⟨l, rfl, hl, fun z fz => ⟨by rw [List.length_map, hfl]; omega, k _ _ ⟨fs ++ [z], by simp [eDs], by simp [hfl], fun s hs => ?_⟩⟩⟩
      rcases List.mem_append.mp hs with h | h
      · exact hfs s h
      · rw [List.mem_singleton.mp h]; exact ⟨fz.ok, fz.fm, fz.sz⟩
    · rintro acc h ⟨fs, rfl, hfl, hfs⟩
      rw [intsD_len] at hfl
      walk_at "dgo"
      refine ⟨by rw [List.length_map, List.length_map, hfl]; omega, _, rfl, ?_⟩
      have all : ∀ s ∈ sm ++ fs, ok s = true ∧ steps s = [] ∧ sz s ≤ 5 := fun s hs => (List.mem_append.mp hs).elim (hsm s) (hfs s)
      rw [show eDs sm ++ eDs fs = eDs (sm ++ fs) by simp [eDs]]
      refine loop_inv (fun i ρ h => ∃ o6 o7 o8, ρ = [some .dice, some (.str l), some (.lst (eDs sm)), some (eD x), some (eD y), some (eD (mul x y)), o6, o7, o8]) (fun _ _ _ _ _ => trivial) ⟨_, _, _, rfl⟩ ?_ ?_
      · rintro i d ρ h N hi ⟨o6, o7, o8, rfl⟩ kN
        obtain ⟨f, hf, rfl⟩ := List.mem_map.mp (List.mem_of_getElem? hi)
        obtain ⟨of, sf, zf⟩ := all f hf
        have nf' := steps_nil.mp sf
        walk_at "dgo"
        refine ⟨x, f, rfl, fx.ok, of, by omega, fx.fm, sf, ?_⟩
        walk_at "dgo"
        refine ⟨f, y, rfl, of, fy.ok, by omega, sf, fy.fm, by decide, ?_⟩
        walk_at "dgo"
        refine ⟨x, f, rfl, fx.ok, of, by omega, ?_⟩
        walk_at "dgo"
        refine ⟨f, y, rfl, of, fy.ok, by omega, by decide, ?_⟩
        refine gNe_bb ⟨_, rfl, difs_ff (by simp) ?_⟩
        walk_at "dgo"
        refine ⟨by decide, gEq_bb ⟨_, rfl, ?_⟩⟩
        by_cases hh : tied x f = true ∧ tied f y = true
        · refine dif_tt (by simp [hh.1, hh.2]) ?_
          walk_at "dgo"
          rw [tied_mid nx ny nf' hh.1 hh.2]
          refine difs_ff (by simp) ?_
          walk_at "dgo"
          exact kN _ _ ⟨_, _, _, rfl⟩
        · refine dif_ff (by
            cases h1 : tied x f with
            | false => simp
            | true =>
              cases h2 : tied f y with
              | false => simp
              | true => exact absurd ⟨h1, h2⟩ hh) ?_
          walk_at "dgo"
          exact kN _ _ ⟨_, _, _, rfl⟩
      · rintro ρ h ⟨o6, o7, o8, rfl⟩
        walk_at "dgo"
        exact q
end
end LW

end

section
set_option maxHeartbeats 4000000
/-! G8: terms' values in lone webs. -/
namespace LW
open PySem PySem.Spec PyProof.Rows L2 KG KT DL KW
local macro_rules | `(tactic| walk_at "dgo") => `(tactic| try simp only [d_var, d_c, d_op, d_nil, d_cons, d_star, d_call, d_tup, d_lst, d_new, DL.d_len, d_listN, d_test, d_tru, d_if, d_now, d_and, d_or, d_not, d_andV, d_orV, d_notV, d_part, d_nopart, d_sl, d_rev, d_revS, d_neg, d_fn, d_fnR, d_app, d_pass, d_seq, d_ret, d_retN, d_brk, d_cont, d_drop, d_set, d_asg, d_nm, d_ifS, d_aug, d_par, d_par3, d_for, d_it, d_rng1, d_lc, d_chain, d_whileN, d_callV, d_lam, d_fnC, d_fnN, d_head, gListN_l, gListN_t, d_fn0, d_mulN, d_subS, d_ext, d_popAt, d_dgetK, d_dgetT, d_newT, d_newK, d_updT, d_dictT, d_pr, d_listRng, d_sortSet, d_rng2, d_enumL, d_enumT, d_enumS, gListS_s, gMin_i, gMax_i, d_gcons, d_gnil, d_gtp, gReprB_b, gLen_scr, d_zip, DL.at0, DL.at1, DL.at2, dif_t, dif_f, difs_t, difs_f, way_t, way_f,
  gAdd_i, gAdd_s, gAdd_t, gAdd_l, gSub_i, gMod_i, gFdiv_i, gMul_i, gEq_i, gEq_s, gEq_b, gNe_i, gNe_s, gNe_b, gLt_i, gIs_n, gIs_b, gIsNot_n, gIsNot_b, gIx_s, gIx_t, gIx_l, gSl_s, gSl_t, gSl_l, gLen_s, gLen_t, gLen_l, gTupOf_l, gTupOf_t, gListOf_l, gListOf_t, gIsi_tt, gRepr_b, xb, xi, xs2, xp2, xp3, xref, tru_b', fz_s, fz_i, fz_b, fz_n, DL.isNon, fnEnds, wipeD, asS, asL, noRefs, noRef,
  List.set_cons_zero, List.set_cons_succ, List.getElem?_cons_zero, List.getElem?_cons_succ, List.map_cons, List.map_nil, List.append_nil, List.nil_append, List.cons_append, List.length_cons, List.length_nil, Nat.zero_add, true_and, and_true, Bool.and_true, Bool.true_and, Bool.not_true, Bool.not_false, decide_true, decide_false, Option.some.injEq, exists_eq_left'])
local macro_rules | `(tactic| walk_at "dbr") => `(tactic| first | refine way_p ?_ ?_ | refine difs_p ?_ ?_ | refine difs_n ?_ ?_ | refine dif_p ?_ ?_ | refine dif_n ?_ ?_ | refine difs_b ?_ ?_ | refine dif_b ?_ ?_)

-- @CELL _law_table found
-- @DICT _law_table T {}
-- @DICT _law_table T dict([((one, other), place) for other in rows[place]])
-- @DICT _law_worth T table
-- @DICT _law_worth K values
section
variable {P : Program} {w : World} {K : PySem.W.Frag} {mg : Str → Option Value} {base : Heap} {tb : List (Addr × Str)}
abbrev kk (a b : Nat) : List L2.Key := [.inl (a : Nat), .inl (b : Nat)]
/-- the table of a web -/
def Tab (R : Rows) (l : List (List L2.Key × D)) : Prop := ∀ a c, a < R.length → c < R.length → valD l (kk a c) = some (.int (mid R a c : Nat))
theorem hash_kk {P : Program} {w : World} (c : Nat) : hashT P w (kk 0 c) = hash0 c := hash_n
theorem hash_row {P : Program} {w : World} (l : List Nat) : l.map (fun c => hashT P w (kk 0 c)) = l.map hash0 := List.map_congr_left fun c _ => hash_kk c
theorem hash_row2 {P : Program} {w : World} (l : List Nat) (p : Nat) : ((l.map fun c => (kk 0 c, D.int (p : Nat))).map fun kv => hashT P w kv.1) = l.map hash0 := by
  rw [List.map_map]
  exact hash_row l
theorem hash_nd {l : List Nat} (n : l.Nodup) (h : ∀ x ∈ l, x < 16) : (l.map hash0).Nodup := by
  rw [List.nodup_iff_pairwise_ne, List.pairwise_map]
  refine (List.nodup_iff_pairwise_ne.mp n).imp_of_mem ?_
  intro a b ha hb ne e
  exact ne (hash0_inj (h a ha) (h b hb) e)
theorem upd_ok {P : Program} {w : World} {R : Rows} {l : List (List L2.Key × D)} {k p : Nat} (W : Web R) (h : 0 < k → l ≠ []) : l ≠ [] ∨ (((row R p).map fun c => (kk k c, D.int (p : Nat))).map fun kv => hashT P w kv.1).Nodup := by
  by_cases e : k = 0
  · right
    subst e
    have wl := W.len
    rw [hash_row2]
    exact hash_nd (asc_nd (W.lone.row_asc p)) fun x hx => by have := (W.lone.one.lt p x hx).2; omega
  · exact .inl (h (by omega))
abbrev sl__law_table : List Str := ["rows", "found", "one", "row", "place", "other"]
theorem sc__law_table : FnScope sl__law_table ["rows"] (defScope s__law_table) := ⟨rfl, rfl, rfl, by decide +kernel, rfl, by decide +kernel, by decide +kernel⟩
theorem st__law_table (v0 : V) : L2.start sl__law_table [v0] = [some v0, none, none, none, none, none] := rfl
theorem sd__law_table (v0 : D) : startD sl__law_table [v0] = [some v0, none, none, none, none, none] := rfl
def d__law_table : DSp := fun ds Q _ => ∃ R : Rows, ds = [.lst (rowsD R)] ∧ Web R ∧ ∀ l, Tab R l → noRefT l = true → noDiT l = true → Q (.dit l)
theorem okd__law_table (T : Top K mg) : FnOk P w K mg base CX0 2 T._law_table.f T._law_table.fd ["rows"] (spD K tb d__law_table) := by
  refine okD T._law_table.F sc__law_table (fun ds Qd Ed h => ?_) (fun dd et cdv A outer s H E hr => ⟨_, (fss_cons (fs_set (i := 1) sc__law_table.nd rfl (by first | exact Or.inl rfl | exact Or.inr rfl) fe_newT) (fss_cons (fs_for PassesOwn.never (by rfl) (fi_enumL (K := K) rfl (by rfl) T.enumerate (fa_cons (fe_var (pv 0)) fa_nil)) (fg_tup (K := K) (n := 2) rfl (by rfl) (fgs_cons (fg_name (i := 2) sc__law_table.nd rfl (by first | exact Or.inl rfl | exact Or.inr rfl)) (fgs_cons (fg_name (i := 3) sc__law_table.nd rfl (by first | exact Or.inl rfl | exact Or.inr rfl)) fgs_nil))) (fss_one (fs_for PassesOwn.never (by rfl) (fi_seq (K := K) rfl (fe_var (pv 3))) (fg_name (i := 4) sc__law_table.nd rfl (by first | exact Or.inl rfl | exact Or.inr rfl)) (fss_one (fs_expr (fe_updT (K := K) rfl (fe_var (pv 1)) (fe_dictLcT (own := [("other", 5)]) (fun _ _ => rfl) (K := K) rfl (by rfl) hr (by rfl) T.dict sc__law_table.nd (fi_seq (K := K) rfl (fe_ix (kk_ix (K := K) rfl) er_ix (fe_var (pv 0)) (fe_var (pv 4)))) (blkOk_by (own := [("other", 5)]) (N := sl__law_table) (sc := defScope s__law_table) (by decide +kernel)) (wn_name (by decide)) (fun _ _ _ _ _ => (fg_name (i := 5) sc__law_table.nd rfl (by first | exact Or.inl rfl | exact Or.inr rfl))) (fun _ _ _ _ _ => fts_nil) (fun _ _ _ _ _ => (fa_cons (fe_var (pv 2)) (fa_cons (fe_var (pv 5)) fa_nil))) (fun _ _ _ _ _ => (fe_var (pv 4))) (fun _ _ _ _ _ => rfl) (fun _ _ _ _ _ => rfl) (by intro _; rfl) s) (fun _ _ a b => pe_bm PySem.F.plainAttrs_dict PySem.F.slot_dict_update PySem.F.type_dict_update (mt_updTr hr) a b))))))) (fss_one (fs_ret (fe_var (pv 1)))))), fun ds Qd Ed nr h => ?_⟩)
  · obtain ⟨R, rfl, _⟩ := h
    rfl
  · obtain ⟨R, rfl, W, q⟩ := h
    rw [sd__law_table]
    walk_at "dgo"
    have wl := W.len
    refine ⟨_, _, rfl, rfl, ?_⟩
    refine loop_inv (fun k ρ h => ∃ (l : List (List L2.Key × D)) (o2 o3 o4 o5 : Option D), ρ = [some (.lst (rowsD R)), some (.ref 0), o2, o3, o4, o5] ∧ h = [.dit l] ∧ (∀ a c, a < k → a < R.length → c < R.length → valD l (kk a c) = some (.int (mid R a c : Nat))) ∧ (∀ x ∈ l, ∃ i : Int, x.2 = .int i) ∧ l.length ≤ 256 * k)
      (fun _ _ _ _ _ => trivial) ⟨[], _, _, _, _, rfl, rfl, fun a c h => by omega, by simp, by simp⟩ ?_ ?_
    · rintro k d ρ h N hi ⟨l, o2, o3, o4, o5, rfl, rfl, hv, hn, hz⟩ kN
      obtain ⟨x, ex, rfl⟩ := enumD_at hi
      have hk : k < R.length := by
        have := (List.getElem?_eq_some_iff.mp ex).1
        rwa [rowsD_len] at this
      rw [rowsD_at hk] at ex
      cases ex
      have rk := W.row_len k
      walk_at "dgo"
      refine ⟨_, rfl, rfl, _, _, rfl, _, _, rfl, rfl, ?_⟩
      walk_at "dgo"
      refine ⟨_, rfl, ?_⟩
      refine loop_inv (fun j ρ h => ∃ (l : List (List L2.Key × D)) (o4 o5 : Option D), ρ = [some (.lst (rowsD R)), some (.ref 0), some (.int (k : Nat)), some (.tup (nD (row R k))), o4, o5] ∧ h = [.dit l] ∧ (∀ a c, a < k → a < R.length → c < R.length → valD l (kk a c) = some (.int (mid R a c : Nat))) ∧ (∀ p c, p ∈ (row R k).take j → c ∈ row R p → valD l (kk k c) = some (.int (mid R k c : Nat))) ∧ (∀ x ∈ l, ∃ i : Int, x.2 = .int i) ∧ l.length ≤ 256 * k + 16 * j)
        (fun _ _ _ _ _ => trivial) ⟨l, _, _, rfl, rfl, hv, by simp, hn, by omega⟩ ?_ ?_
      · rintro j d ρ h N2 hj ⟨l, o4, o5, rfl, rfl, hv, hv2, hn, hz⟩ kN2
        obtain ⟨p, ep, rfl⟩ := nD_at' hj
        have hjl : j < (row R k).length := (List.getElem?_eq_some_iff.mp ep).1
        have hpm : p ∈ row R k := List.mem_of_getElem? ep
        have hpl := (W.lone.one.lt k p hpm).2
        have rp := W.row_len p
        walk_at "dgo"
        refine ⟨⟨_, rfl⟩, _, at_nat (rowsD_at hpl), _, rfl, ?_⟩
        refine lc_map (fun d => .tup [.tup [.int (k : Nat), d], .int (p : Nat)]) trivial (by rw [nD_len]; omega) ?_ ?_
        · intro y hy kk' q'
          obtain ⟨c, hc, rfl⟩ := List.mem_map.mp hy
          walk_at "dgo"
          exact ⟨_, _, rfl, q'⟩
        · have ek : prK (List.map (fun d => D.tup [.tup [.int (k : Nat), d], .int (p : Nat)]) (nD (row R p))) = some ((row R p).map fun c => (kk k c, D.int (p : Nat))) := by
            unfold nD
            induction row R p with
            | nil => rfl
            | cons c cs ih =>
              rw [List.map_cons, List.map_cons, prK, ih]
              rfl
          have keys : (((row R p).map fun c => (kk k c, D.int (p : Nat))).map (·.1)).Nodup := by
            rw [List.map_map, List.nodup_iff_pairwise_ne, List.pairwise_map]
            refine (List.nodup_iff_pairwise_ne.mp (asc_nd (W.lone.row_asc p))).imp ?_
            intro a b ne e
            simp only [Function.comp] at e
            injection e with _ e
            injection e with e _
            injection e with e
            omega
          refine ⟨_, ek, ?_⟩
          rw [mergeD_nil keys]
          refine ⟨l, _, rfl, rfl, ?_, by rw [List.length_map]; omega, kN2 _ _ ⟨mergeD l ((row R p).map fun c => (kk k c, D.int (p : Nat))), _, _, rfl, rfl, fun a c h1 h2 h3 => ?_, fun p' c h1 h2 => ?_, fun x hx => ?_, ?_⟩⟩
          · exact upd_ok W (fun hk0 z => by
              have := hv 0 0 (by omega) (by omega) (by omega)
              rw [z] at this
              cases this)
          · rw [valD_merge' (d := .non) fun d' hd => ?_]
            · exact hv a c h1 h2 h3
            · obtain ⟨c', _, e⟩ := List.mem_map.mp hd
              injection e with e _
              injection e with e _
              injection e with e
              omega
          · by_cases hc : c ∈ row R p
            · rw [W.lone.mid_eq hpm hc]
              refine valD_merge (fun d' hd => ?_) (.inr ⟨_, List.mem_map.mpr ⟨c, hc, rfl⟩⟩)
              obtain ⟨c', _, e⟩ := List.mem_map.mp hd
              injection e with _ e
              exact e.symm
            · rw [valD_merge' (d := .non) fun d' hd => ?_]
              · rw [List.take_add_one, ep] at h1
                rcases List.mem_append.mp h1 with h1 | h1
                · exact hv2 p' c h1 h2
                · have : p' = p := by simpa using h1
                  exact absurd (this ▸ h2) hc
              · obtain ⟨c', hc', e⟩ := List.mem_map.mp hd
                injection e with e _
                injection e with _ e
                injection e with e _
                injection e with e
                have : c' = c := by omega
                exact hc (this ▸ hc')
          · rcases mem_mergeD hx with h | h
            · exact hn x h
            · obtain ⟨c, _, rfl⟩ := List.mem_map.mp h
              exact ⟨_, rfl⟩
          · have := length_mergeD ((row R p).map fun c => (kk k c, D.int (p : Nat))) l
            rw [List.length_map] at this
            omega
      · rintro ρ h ⟨l, o4, o5, rfl, rfl, hv, hv2, hn, hz⟩
        rw [nD_len] at hv2 hz
        rw [List.take_length] at hv2
        refine kN _ _ ⟨l, _, _, _, _, rfl, rfl, fun a c h1 h2 h3 => ?_, hn, by omega⟩
        by_cases e : a = k
        · subst e
          have := W.lone.mid hk h3
          exact hv2 _ c this.1 this.2
        · exact hv a c (by omega) h2 h3
    · rintro ρ h ⟨l, o2, o3, o4, o5, rfl, rfl, hv, hn, hz⟩
      rw [enumD_len, rowsD_len] at hv
      walk_at "dgo"
      have n1 : noRefT l = true := nrT_mem.mpr fun x hx => by obtain ⟨i, e⟩ := hn x hx; rw [e]; simp [noRef]
      have n2 : noDiT l = true := by
        clear hv hz q n1
        induction l with
        | nil => simp [noDiT]
        | cons x l ih =>
          rw [noDiT, ih fun y hy => hn y (List.mem_cons_of_mem _ hy)]
          obtain ⟨i, e⟩ := hn x (List.mem_cons_self ..)
          rw [e]
          simp [noDi]
      exact fz_rT rfl n1 (q l (fun a c h1 h2 => hv a c h1 h1 h2) n1 n2)
/-! ### both sides of a product -/
def d__law_sides : DSp := fun ds Q _ => ∃ a b : Tm, ds = [eD (.nd a b)] ∧ ok (.nd a b) = true ∧ sz (.nd a b) ≤ 1000 ∧ Q (.tup [eD a, eD b])
theorem okd__law_sides (T : Top K mg) : FnOk P w K mg base CX0 2 T._law_sides.f T._law_sides.fd ["term"] (spD K tb d__law_sides) := (ok__law_sides T).imp fun vs H Q E h => by
  obtain ⟨dd, ex, ds, Qd, Ed, et, R, r, n, ⟨a, b, rfl, ht, hz, q⟩, hq, _⟩ := h
  obtain ⟨v, rfl, r'⟩ := DL.rvs1 r
  obtain rfl := rv_of_str r'
  refine ⟨a, b, rfl, ht, by have := enc_len (.nd a b); omega, fun p H2 e2 hp => ?_⟩
  obtain ⟨R2, g2⟩ := R.ofEx e2
  exact hq _ H2 _ R2 g2 (rv_tupAt R2 hp (.cons (.str _) (.cons (.str _) .nil))) q
/-- the values of some letters -/
def Vls (R : Rows) (v : Nat → Nat) (L : List Nat) (l : List (L2.Key × D)) : Prop := (∀ c, v c < R.length) ∧ ∀ c ∈ L, valD l (.inr ⟨#[c]⟩) = some (.int (v c : Nat))
abbrev sl__law_worth : List Str := ["table", "term", "values", "left", "right"]
theorem sc__law_worth : FnScope sl__law_worth ["table", "term", "values"] (defScope s__law_worth) := ⟨rfl, rfl, rfl, by decide +kernel, rfl, by decide +kernel, by decide +kernel⟩
theorem st__law_worth (v0 : V) (v1 : V) (v2 : V) : L2.start sl__law_worth [v0, v1, v2] = [some v0, some v1, some v2, none, none] := rfl
theorem sd__law_worth (v0 : D) (v1 : D) (v2 : D) : startD sl__law_worth [v0, v1, v2] = [some v0, some v1, some v2, none, none] := rfl
def d__law_worth (m : Nat) : DSp := fun ds Q _ => ∃ (R : Rows) (l : List (List L2.Key × D)) (t : Tm) (v : Nat → Nat) (L : List Nat) (vl : List (L2.Key × D)), ds = [.dit l, eD t, .dic vl] ∧ Web R ∧ Tab R l ∧ noRefT l = true ∧ noRefK vl = true ∧ Vls R v L vl ∧ ok t = true ∧ sz t ≤ m ∧ m ≤ 500 ∧ (∀ c ∈ lvs t, c ∈ L) ∧ Q (.int (val R v t : Nat))
theorem okd__law_worth (T : Top K mg) : ∀ m : Nat, FnOk P w K mg base CX0 (m + 3) T._law_worth.f T._law_worth.fd ["table", "term", "values"] (spD K tb (d__law_worth m)) := by
  intro m
  induction m with
  | zero =>
    refine ⟨fun vs H Q E h => ?_, fun A outer s H args us vs Q E _ _ _ _ h => ?_⟩ <;> obtain ⟨dd, ex, ds, Qd, Ed, _, _, _, _, ⟨R, l, t, v, L, vl, _, _, _, _, _, _, _, h2, _⟩, _⟩ := h <;> have := sz_pos t <;> omega
  | succ m ih =>
    refine okD T._law_worth.F sc__law_worth (fun ds Qd Ed h => ?_) (fun dd et cdv A outer s H E hr => ⟨_, (fss_cons (fs_if (ft_cmp (kk_ne (K := K) rfl hr) er_ne (fe_ix (kk_ix (K := K) rfl) er_ix (fe_var (pv 1)) fe_int) (fe_S [42] (by decide)) (nomark _)) (fss_one (fs_ret (fe_dgetK hr (fe_var (pv 2)) (fe_var (pv 1))))) fss_nil) (fss_cons (fs_asg (fe_callO (K := K) rfl et (okd__law_sides T) (hr.mono (by first | decide | omega)) (by rfl) (fa_cons (fe_var (pv 1)) fa_nil)) (fg_tup (K := K) (n := 2) rfl (by rfl) (fgs_cons (fg_name (i := 3) sc__law_worth.nd rfl (by first | exact Or.inl rfl | exact Or.inr rfl)) (fgs_cons (fg_name (i := 4) sc__law_worth.nd rfl (by first | exact Or.inl rfl | exact Or.inr rfl)) fgs_nil)))) (fss_one (fs_ret (fe_dgetT hr (fe_var (pv 0)) (fa_cons (fe_callO (K := K) rfl et ih (hr.mono (by first | decide | omega)) (by rfl) (fa_cons (fe_var (pv 0)) (fa_cons (fe_var (pv 3)) (fa_cons (fe_var (pv 2)) fa_nil)))) (fa_cons (fe_callO (K := K) rfl et ih (hr.mono (by first | decide | omega)) (by rfl) (fa_cons (fe_var (pv 0)) (fa_cons (fe_var (pv 4)) (fa_cons (fe_var (pv 2)) fa_nil)))) fa_nil))))))), fun ds Qd Ed nr h => ?_⟩)
    · obtain ⟨R, l, t, v, L, vl, rfl, _⟩ := h
      rfl
    · obtain ⟨R, l, t, v, L, vl, rfl, W, hT, nT, nK, hV, ht, hm, hm2, hL, q⟩ := h
      rw [sd__law_worth]
      walk_at "dgo"
      cases t with
      | lf c =>
        refine ⟨by show 1 ≤ 1000000; decide, c, rfl, ?_⟩
        have hc : isL c = true := ht
        have hc2 := isL_ne hc
        refine difs_tt (by rw [decide_eq_false fun z => hc2 (by injection z)]; rfl) ?_
        walk_at "dgo"
        refine ⟨_, .inr ⟨#[c]⟩, _, rfl, rfl, hV.2 c (hL c (List.mem_singleton.mpr rfl)), ?_⟩
        exact fz_nr (by simp [noRef]) q
      | nd a b =>
        obtain ⟨ha, hb⟩ := ok_nd.mp ht
        have hl := enc_len (.nd a b)
        have e0 : sz (.nd a b) = sz a + sz b := rfl
        have pa := sz_pos a
        have pb := sz_pos b
        refine ⟨by omega, 42, atD0, ?_⟩
        refine difs_ff (by rw [decide_eq_true rfl]; rfl) ?_
        walk_at "dgo"
        refine ⟨a, b, rfl, ht, by omega, ?_⟩
        walk_at "dgo"
        refine ⟨_, rfl, rfl, _, _, rfl, _, _, rfl, rfl, ?_⟩
        walk_at "dgo"
        refine ⟨by rw [nT, nK]; rfl, R, l, a, v, L, vl, rfl, W, hT, nT, nK, hV, ha, by omega, by omega, fun c hc => hL c (List.mem_append_left _ hc), ?_⟩
        walk_at "dgo"
        refine ⟨by rw [nT, nK]; rfl, R, l, b, v, L, vl, rfl, W, hT, nT, nK, hV, hb, by omega, by omega, fun c hc => hL c (List.mem_append_right _ hc), ?_⟩
        walk_at "dgo"
        refine ⟨l, _, _, _, rfl, rfl, hT _ _ (val_lt W.lone hV.1 a) (val_lt W.lone hV.1 b), ?_⟩
        exact fz_nr (by simp [noRef]) q
abbrev sl__law_drawn_values : List Str := ["dice", "letters", "total", "letter"]
theorem sc__law_drawn_values : FnScope sl__law_drawn_values ["dice", "letters", "total"] (defScope s__law_drawn_values) := ⟨rfl, rfl, rfl, by decide +kernel, rfl, by decide +kernel, by decide +kernel⟩
theorem st__law_drawn_values (v0 : V) (v1 : V) (v2 : V) : L2.start sl__law_drawn_values [v0, v1, v2] = [some v0, some v1, some v2, none] := rfl
theorem sd__law_drawn_values (v0 : D) (v1 : D) (v2 : D) : startD sl__law_drawn_values [v0, v1, v2] = [some v0, some v1, some v2, none] := rfl
def d__law_drawn_values : DSp := fun ds Q _ => ∃ (L : List Nat) (n : Nat), ds = [.dice, .lst (signs L), .int (n : Nat)] ∧ 0 < n ∧ n ≤ 1000 ∧ L.length ≤ 100 ∧ ∀ (v : Nat → Nat) vl, (∀ c, v c < n) → (∀ c ∈ L, valD vl (.inr ⟨#[c]⟩) = some (.int (v c : Nat))) → noRefK vl = true → noDiK vl = true → Q (.dic vl)
theorem okd__law_drawn_values (T : Top K mg) : FnOk P w K mg base CX0 2 T._law_drawn_values.f T._law_drawn_values.fd ["dice", "letters", "total"] (spD K tb d__law_drawn_values) := by
  refine okD T._law_drawn_values.F sc__law_drawn_values (fun ds Qd Ed h => ?_) (fun dd et cdv A outer s H E hr => ⟨_, (fss_one (fs_ret (fe_callTy (kk_dictK (K := K) rfl (by rfl)) ec_dictK (by rfl) T.dict (by decide +kernel) (fa_cons (fe_lc (own := [("letter", 3)]) (fun _ _ => rfl) (by rfl) sc__law_drawn_values.nd (fi_seq (K := K) rfl (fe_var (pv 1))) (blkOk_by (own := [("letter", 3)]) (N := sl__law_drawn_values) (sc := defScope s__law_drawn_values) (by decide +kernel)) (wn_name (by decide)) (fun _ _ _ _ _ => (fg_name (i := 3) sc__law_drawn_values.nd rfl (by first | exact Or.inl rfl | exact Or.inr rfl))) (fun _ _ _ _ _ => fts_nil) (fun _ _ _ _ _ => (fe_tup (fa_cons (fe_var (pv 3)) (fa_cons (fe_callO (K := K) rfl et (okd__law_roll T) (hr.mono (by first | decide | omega)) (by rfl) (fa_cons (fe_var (pv 0)) (fa_cons (fe_var (pv 2)) fa_nil))) fa_nil)))) (by intro _; rfl) s) fa_nil)))), fun ds Qd Ed nr h => ?_⟩)
  · obtain ⟨L, n, rfl, _⟩ := h
    rfl
  · obtain ⟨L, n, rfl, h0, h1, hL, q⟩ := h
    rw [sd__law_drawn_values]
    walk_at "dgo"
    refine ⟨_, rfl, ?_⟩
    refine lc_inv (fun i acc h => ∃ (vs : List (L2.Key × D)) (v : Nat → Nat), acc = vs.map (fun kv => D.tup [kD kv.1, kv.2]) ∧ h = [] ∧ vs.length = i ∧ (∀ x ∈ vs, ∃ (c j : Nat), x = (.inr ⟨#[c]⟩, .int (j : Nat)) ∧ j < n) ∧ ∀ c ∈ L.take i, ∃ j : Nat, ((.inr ⟨#[c]⟩ : L2.Key), D.int (j : Nat)) ∈ vs)
      (fun _ _ _ _ _ => trivial) ⟨[], fun _ => 0, rfl, rfl, rfl, by simp, by simp⟩ ?_ ?_
    · rintro i d acc h N hi ⟨vs, v, rfl, rfl, hl, hx, hc⟩ k
      obtain ⟨c, ec, rfl⟩ : ∃ c, L[i]? = some c ∧ d = .str [c] := by
        unfold DL.signs at hi
        rw [List.getElem?_map] at hi
        obtain ⟨c, e, rfl⟩ := Option.map_eq_some_iff.mp hi
        exact ⟨c, e, rfl⟩
      have hiL : i < L.length := (List.getElem?_eq_some_iff.mp ec).1
      walk_at "dgo"
      refine ⟨_, rfl, by omega, by omega, fun r r0 r1 => ⟨by decide, by rw [List.length_map, hl]; omega, ?_⟩⟩
      obtain ⟨r', rfl⟩ := Int.eq_ofNat_of_zero_le r0
      refine k _ _ ⟨vs ++ [(.inr ⟨#[c]⟩, .int (r' : Nat))], v, by rw [List.map_append]; rfl, rfl, by simp [hl], fun x hm => ?_, fun c' hc' => ?_⟩
      · rcases List.mem_append.mp hm with h | h
        · exact hx x h
        · exact ⟨c, r', List.mem_singleton.mp h, by omega⟩
      · rw [List.take_add_one, ec] at hc'
        rcases List.mem_append.mp hc' with h | h
        · obtain ⟨j, hj⟩ := hc c' h
          exact ⟨j, List.mem_append_left _ hj⟩
        · have : c' = c := by simpa using h
          subst this
          exact ⟨r', List.mem_append_right _ (List.mem_singleton.mpr rfl)⟩
    · rintro acc h ⟨vs, v, rfl, rfl, hl, hx, hc⟩
      have ls : (DL.signs L).length = L.length := by unfold DL.signs; rw [List.length_map]
      rw [ls, List.take_length] at hc
      have all : ∀ x ∈ mergeD ([] : List (L2.Key × D)) vs, ∃ (c j : Nat), x = (.inr ⟨#[c]⟩, .int (j : Nat)) ∧ j < n := fun x hm => (mem_mergeD hm).elim (fun h => nomatch h) (hx x)
      -- what stands at a letter
      have at' : ∀ c, valD (mergeD ([] : List (L2.Key × D)) vs) (.inr ⟨#[c]⟩) = none ∨ ∃ j : Nat, j < n ∧ valD (mergeD ([] : List (L2.Key × D)) vs) (.inr ⟨#[c]⟩) = some (.int (j : Nat)) := fun c => by
        unfold valD
        cases e : (mergeD ([] : List (L2.Key × D)) vs).find? fun kv => decide (kv.1 = .inr ⟨#[c]⟩) with
        | none => exact .inl rfl
        | some x =>
          obtain ⟨c', j, rfl, hj⟩ := all x (List.mem_of_find?_eq_some e)
          exact .inr ⟨j, hj, rfl⟩
      have there : ∀ c ∈ L, valD (mergeD ([] : List (L2.Key × D)) vs) (.inr ⟨#[c]⟩) ≠ none := fun c hm => by
        obtain ⟨j, hj⟩ := hc c hm
        have key : ∀ (more l : List (L2.Key × D)), (valD l (.inr ⟨#[c]⟩) ≠ none ∨ ((.inr ⟨#[c]⟩ : L2.Key), D.int (j : Nat)) ∈ more) → valD (mergeD l more) (.inr ⟨#[c]⟩) ≠ none := fun more => by
          induction more with
          | nil => intro l h; rcases h with h | h; exact h; cases h
          | cons p more ih =>
            intro l h
            refine ih (putD l p.1 p.2) ?_
            rcases h with h | h
            · left
              rw [valD_put]
              split
              · exact fun z => nomatch z
              · exact h
            · rcases List.mem_cons.mp h with e | h
              · left
                rw [valD_put, if_pos (by rw [← e])]
                exact fun z => nomatch z
              · exact .inr h
        exact key vs [] (.inr hj)
      refine ⟨_, _, rfl, rfl, ?_⟩
      have n1 : noRefK (mergeD ([] : List (L2.Key × D)) vs) = true := nrK_mem.mpr fun x hm => by obtain ⟨c, j, rfl, _⟩ := all x hm; simp [noRef]
      have n2 : ∀ l : List (L2.Key × D), (∀ x ∈ l, ∃ (c j : Nat), x = (.inr ⟨#[c]⟩, .int (j : Nat)) ∧ j < n) → noDiK l = true := fun l => by
        induction l with
        | nil => intro _; simp [noDiK]
        | cons x l ih =>
          intro h
          rw [noDiK, ih fun y hy => h y (List.mem_cons_of_mem _ hy)]
          obtain ⟨c, j, rfl, _⟩ := h x (List.mem_cons_self ..)
          simp [noDi]
      refine fz_dic n1 (q (fun c => match valD (mergeD ([] : List (L2.Key × D)) vs) (.inr ⟨#[c]⟩) with | some (.int j) => j.toNat | _ => 0) _ (fun c => ?_) (fun c hm => ?_) n1 (n2 _ all))
      · rcases at' c with e | ⟨j, hj, e⟩
        · rw [e]; exact h0
        · rw [e]; simpa using hj
      · rcases at' c with e | ⟨j, hj, e⟩
        · exact absurd e (there c hm)
        · rw [e]; simp
end
end LW

end

section
set_option maxHeartbeats 8000000
/-! G9: values of tied forms; the law. -/
namespace LW
open PySem PySem.Spec PyProof.Rows L2 KG KT DL KW
local macro_rules | `(tactic| walk_at "dgo") => `(tactic| try simp only [d_var, d_c, d_op, d_nil, d_cons, d_star, d_call, d_tup, d_lst, d_new, DL.d_len, d_listN, d_test, d_tru, d_if, d_now, d_and, d_or, d_not, d_andV, d_orV, d_notV, d_part, d_nopart, d_sl, d_rev, d_revS, d_neg, d_fn, d_fnR, d_app, d_pass, d_seq, d_ret, d_retN, d_brk, d_cont, d_drop, d_set, d_asg, d_nm, d_ifS, d_aug, d_par, d_par3, d_for, d_it, d_rng1, d_lc, d_chain, d_whileN, d_callV, d_lam, d_fnC, d_fnN, d_head, gListN_l, gListN_t, d_fn0, d_mulN, d_subS, d_ext, d_popAt, d_dgetK, d_dgetT, d_newT, d_newK, d_updT, d_dictT, d_pr, d_listRng, d_sortSet, d_rng2, d_enumL, d_enumT, d_enumS, gListS_s, gMin_i, gMax_i, d_gcons, d_gnil, d_gtp, gReprB_b, gLen_scr, d_zip, DL.at0, DL.at1, DL.at2, dif_t, dif_f, difs_t, difs_f, way_t, way_f,
  gAdd_i, gAdd_s, gAdd_t, gAdd_l, gSub_i, gMod_i, gFdiv_i, gMul_i, gEq_i, gEq_s, gEq_b, gNe_i, gNe_s, gNe_b, gLt_i, gIs_n, gIs_b, gIsNot_n, gIsNot_b, gIx_s, gIx_t, gIx_l, gSl_s, gSl_t, gSl_l, gLen_s, gLen_t, gLen_l, gTupOf_l, gTupOf_t, gListOf_l, gListOf_t, gIsi_tt, gRepr_b, xb, xi, xs2, xp2, xp3, xref, tru_b', fz_s, fz_i, fz_b, fz_n, DL.isNon, fnEnds, wipeD, asS, asL, noRefs, noRef,
  List.set_cons_zero, List.set_cons_succ, List.getElem?_cons_zero, List.getElem?_cons_succ, List.map_cons, List.map_nil, List.append_nil, List.nil_append, List.cons_append, List.length_cons, List.length_nil, Nat.zero_add, true_and, and_true, Bool.and_true, Bool.true_and, Bool.not_true, Bool.not_false, decide_true, decide_false, Option.some.injEq, exists_eq_left'])
local macro_rules | `(tactic| walk_at "dbr") => `(tactic| first | refine way_p ?_ ?_ | refine difs_p ?_ ?_ | refine difs_n ?_ ?_ | refine dif_p ?_ ?_ | refine dif_n ?_ ?_ | refine difs_b ?_ ?_ | refine dif_b ?_ ?_)

-- @FACT _law_worth okd__law_worth T 10
-- @STR _law_values_right list(letters)
-- @STR law list(letters)
-- @CELL law dice
-- @DICEC law dice
section
variable {P : Program} {w : World} {K : PySem.W.Frag} {mg : Str → Option Value} {base : Heap} {tb : List (Addr × Str)}
abbrev sl__law_values_right : List Str := ["dice", "rows", "letters", "table", "values", "one", "other", "middle", "places", "form"]
theorem sc__law_values_right : FnScope sl__law_values_right ["dice", "rows", "letters"] (defScope s__law_values_right) := ⟨rfl, rfl, rfl, by decide +kernel, rfl, by decide +kernel, by decide +kernel⟩
theorem st__law_values_right (v0 : V) (v1 : V) (v2 : V) : L2.start sl__law_values_right [v0, v1, v2] = [some v0, some v1, some v2, none, none, none, none, none, none, none] := rfl
theorem sd__law_values_right (v0 : D) (v1 : D) (v2 : D) : startD sl__law_values_right [v0, v1, v2] = [some v0, some v1, some v2, none, none, none, none, none, none, none] := rfl
def d__law_values_right : DSp := fun ds Q _ => ∃ (R : Rows) (l : List Nat), ds = [.dice, .lst (rowsD R), .str l] ∧ Web R ∧ 0 < R.length ∧ Ltrs l ∧ l.length ≤ 100 ∧ Q (.bl true)
theorem okd__law_values_right (T : Top K mg) : FnOk P w K mg base CX0 24 T._law_values_right.f T._law_values_right.fd ["dice", "rows", "letters"] (spD K tb d__law_values_right) := by
  refine okD T._law_values_right.F sc__law_values_right (fun ds Qd Ed h => ?_) (fun dd et cdv A outer s H E hr => ⟨_, (fss_cons (fs_asg (fe_tup (fa_cons (fe_callO (K := K) rfl et (okd__law_table T) (hr.mono (by first | decide | omega)) (by rfl) (fa_cons (fe_var (pv 1)) fa_nil)) (fa_cons (fe_callO (K := K) rfl et (okd__law_drawn_values T) (hr.mono (by first | decide | omega)) (by rfl) (fa_cons (fe_var (pv 0)) (fa_cons (fe_callTy (cr_listS (by rfl)) ec_listS (by rfl) T.list (by decide +kernel) (fa_cons (fe_var (pv 2)) fa_nil)) (fa_cons (fe_callB (kk_len (K := K) rfl) ec_len (by rfl) T.len (by decide +kernel) (fa_cons (fe_var (pv 1)) fa_nil)) fa_nil)))) fa_nil))) (fg_tup (K := K) (n := 2) rfl (by rfl) (fgs_cons (fg_name (i := 3) sc__law_values_right.nd rfl (by first | exact Or.inl rfl | exact Or.inr rfl)) (fgs_cons (fg_name (i := 4) sc__law_values_right.nd rfl (by first | exact Or.inl rfl | exact Or.inr rfl)) fgs_nil)))) (fss_cons (fs_par (i := 5) (j := 6) (by rfl) sc__law_values_right.nd rfl rfl (by decide) rfl rfl (fa_cons (fe_callO (K := K) rfl et (okd__law_drawn_form T) (hr.mono (by first | decide | omega)) (by rfl) (fa_cons (fe_var (pv 0)) (fa_cons (fe_var (pv 2)) fa_nil))) (fa_cons (fe_callO (K := K) rfl et (okd__law_drawn_form T) (hr.mono (by first | decide | omega)) (by rfl) (fa_cons (fe_var (pv 0)) (fa_cons (fe_var (pv 2)) fa_nil))) fa_nil)) rfl) (fss_cons (fs_set (i := 7) sc__law_values_right.nd rfl (by first | exact Or.inl rfl | exact Or.inr rfl) (fe_callO (K := K) rfl et (okd_between_forms T) (hr.mono (by first | decide | omega)) (by rfl) (fa_cons (fe_var (pv 5)) (fa_cons (fe_var (pv 6)) fa_nil)))) (fss_cons (fs_setLc (i := 8) (own := [("form", 9)]) (fun _ _ => rfl) (by rfl) sc__law_values_right.nd rfl rfl (sw_true rfl rfl rfl (by decide +kernel)) (fi_seq (K := K) rfl (fe_tup (fa_cons (fe_var (pv 5)) (fa_cons (fe_var (pv 7)) (fa_cons (fe_var (pv 6)) fa_nil))))) (blkOk_by (own := [("form", 9)]) (N := sl__law_values_right) (sc := defScope s__law_values_right) (by decide +kernel)) (wn_name (by decide)) (fun _ _ _ _ _ => (fg_name (i := 9) sc__law_values_right.nd rfl (by first | exact Or.inl rfl | exact Or.inr rfl))) (fun _ _ _ _ _ => fts_nil) (fun _ _ _ _ _ => (fe_callO (K := K) rfl et (okd__law_worth T 10) (hr.mono (by first | decide | omega)) (by rfl) (fa_cons (fe_var (pv 3)) (fa_cons (fe_var (pv 9)) (fa_cons (fe_var (pv 4)) fa_nil))))) (by intro _; rfl) s) (fss_cons (fs_if (fw_or (ft_cmp (kk_notin (K := K) rfl hr) er_notin2 (fe_ix (kk_ix (K := K) rfl) er_ix (fe_var (pv 8)) fe_int) (fe_ix (kk_ix (K := K) rfl) er_ix (fe_var (pv 1)) (fe_ix (kk_ix (K := K) rfl) er_ix (fe_var (pv 8)) fe_int)) (by rfl)) (fw_or1 (ft_cmp (kk_notin (K := K) rfl hr) er_notin2 (fe_ix (kk_ix (K := K) rfl) er_ix (fe_var (pv 8)) fe_int) (fe_ix (kk_ix (K := K) rfl) er_ix (fe_var (pv 1)) (fe_ix (kk_ix (K := K) rfl) er_ix (fe_var (pv 8)) fe_int)) (by rfl)))).toFT (fss_one (fs_ret fe_bl)) fss_nil) (fss_one (fs_ret (fe_or (fe_not (fe_callO (K := K) rfl et (okd_is_tied_form T) (hr.mono (by first | decide | omega)) (by rfl) (fa_cons (fe_var (pv 5)) (fa_cons (fe_var (pv 6)) fa_nil)))) (fe_one (fe_cmp (kk_in (K := K) rfl hr) er_in2 (fe_ix (kk_ix (K := K) rfl) er_ix (fe_var (pv 8)) fe_int) (fe_ix (kk_ix (K := K) rfl) er_ix (fe_var (pv 1)) (fe_ix (kk_ix (K := K) rfl) er_ix (fe_var (pv 8)) fe_int)) (by rfl))))))))))), fun ds Qd Ed nr h => ?_⟩)
  · obtain ⟨R, l, rfl, _⟩ := h
    rfl
  · obtain ⟨R, l, rfl, W, h0, hl, hl2, q⟩ := h
    rw [sd__law_values_right]
    walk_at "dgo"
    have nsg : noRefs (DL.signs l) = true := nrs_mem.mpr fun d hd => by
      obtain ⟨c, _, rfl⟩ := List.mem_map.mp hd
      exact nr_str
    refine ⟨nrs_rowsD R, R, rfl, W, fun tl hT nT nDt => ⟨by omega, nsg, l, R.length, by rw [rowsD_len], h0, by have := W.len; omega, hl2, fun v vl hv hv2 nK nDk => ⟨by decide, _, rfl, rfl, _, _, rfl, _, _, rfl, rfl, ?_⟩⟩⟩
    refine ⟨l, rfl, hl, fun x fx => ⟨l, rfl, hl, fun y fy => ⟨rfl, ?_⟩⟩⟩
    have zx := fx.sz
    have zy := fy.sz
    have nx := steps_nil.mp fx.fm
    have ny := steps_nil.mp fy.fm
    have e1 : sz (.nd x y) = sz x + sz y := rfl
    have z1 := sz_nf (.nd x y)
    have om := ok_nf (ok_nd.mpr ⟨fx.ok, fy.ok⟩)
    have lm : ∀ c ∈ lvs (nf (.nd x y)), c ∈ l := fun c hc => (List.mem_append.mp (lvs_nf _ c hc)).elim (fx.lv c) (fy.lv c)
    have vm : val R v (nf (.nd x y)) = mid R (val R v x) (val R v y) := val_nf W.lone hv _
    have lx := val_lt W.lone hv x
    have ly := val_lt W.lone hv y
    have md := W.lone.mid lx ly
    have lmv := W.lone.mid_lt lx ly
    have VV : Vls R v l vl := ⟨hv, hv2⟩
    refine ⟨x, y, rfl, fx.ok, fy.ok, by omega, fx.fm, fy.fm, by decide, _, rfl, ?_⟩
    rw [DL.lcgo_cons]
    refine ⟨trivial, ?_⟩
    walk_at "dgo"
    rw [if_pos trivial]
    walk_at "dgo"
    refine ⟨by rw [nT, nK]; rfl, R, tl, x, v, l, vl, rfl, W, hT, nT, nK, VV, fx.ok, by omega, by decide, fx.lv, by decide, ?_⟩
    rw [DL.lcgo_cons]
    refine ⟨trivial, ?_⟩
    walk_at "dgo"
    rw [if_pos trivial]
    walk_at "dgo"
    refine ⟨by rw [nT, nK]; rfl, R, tl, _, v, l, vl, rfl, W, hT, nT, nK, VV, om, by omega, by decide, lm, by decide, ?_⟩
    rw [DL.lcgo_cons]
    refine ⟨trivial, ?_⟩
    walk_at "dgo"
    rw [if_pos trivial]
    walk_at "dgo"
    refine ⟨by rw [nT, nK]; rfl, R, tl, y, v, l, vl, rfl, W, hT, nT, nK, VV, fy.ok, by omega, by decide, fy.lv, by decide, ?_⟩
    rw [DL.lcgo_nil]
    refine ⟨trivial, ?_⟩
    walk_at "dgo"
    rw [vm]
    refine ⟨_, at_nat (rowsD_at lx), gNotIn2_t ⟨_, rfl, ?_⟩⟩
    refine dif_ff (by rw [decide_eq_true (show mid R (val R v x) (val R v y) ∈ row R (val R v x) from md.1)]; rfl) ?_
    walk_at "dgo"
    refine ⟨_, at_nat (rowsD_at lmv), gNotIn2_t ⟨_, rfl, ?_⟩⟩
    refine difs_ff (by rw [decide_eq_true (show val R v y ∈ row R (mid R (val R v x) (val R v y)) from md.2)]; rfl) ?_
    walk_at "dgo"
    refine ⟨x, y, rfl, fx.ok, fy.ok, by omega, fx.fm, fy.fm, ?_⟩
    cases ht : tied x y with
    | false =>
      walk_at "dgo"
      exact q
    | true =>
      walk_at "dgo"
      refine ⟨_, at_nat (rowsD_at lx), gIn2_t ?_⟩
      rw [tied_eq nx ny] at ht
      have ey := of_decide_eq_true ht
      have : val R v y = mid R (val R v x) (mid R (val R v y) (val R v y)) := by
        have h1 := val_mul W.lone hv x (mul y y)
        have h2 := val_mul W.lone hv y y
        rw [ey] at h1
        exact h1.trans (congrArg (mid R (val R v x)) h2)
      have mem : val R v y ∈ row R (val R v x) := by
        rw [this]
        exact (W.lone.mid lx (W.lone.mid_lt ly ly)).1
      rw [decide_eq_true mem]
      exact fz_nr (by simp [noRef]) q
abbrev sl_law : List Str := ["script", "spot", "dice", "letters", "small", "one", "turn", "told"]
theorem sc_law : FnScope sl_law ["script"] (defScope s_law) := ⟨rfl, rfl, rfl, by decide +kernel, rfl, by decide +kernel, by decide +kernel⟩
theorem st_law (v0 : V) : L2.start sl_law [v0] = [some v0, none, none, none, none, none, none, none] := rfl
theorem sd_law (v0 : D) : startD sl_law [v0] = [some v0, none, none, none, none, none, none, none] := rfl
theorem nds_eDs : ∀ l : List Tm, noDis (eDs l) = true
  | [] => rfl
  | t :: l => by
    show (noDi (eD t) && noDis (eDs l)) = true
    rw [nds_eDs l]
    rfl
theorem gEq_samel {l : List D} {a : PyData} {h : List Cell} {Q : D → List Cell → Prop} (e : pyD (.lst l) = some a) (sh : SeqAt.shaped a = true) (ev : PyData.eqv a a = true) (q : Q (.bl true) h) : gEq (.lst l) (.lst l) h Q := by
  show (isO (.lst l) || isO (.lst l)) = true ∧ ∃ a b, pyC h (.lst l) = some a ∧ pyC h (.lst l) = some b ∧ _
  refine ⟨rfl, a, a, e, e, sh, sh, ?_⟩
  show Q (.bl (PyData.eqv a a)) h
  rw [ev]
  exact q
theorem ok_law (T : Top K mg) : FnOk P w K mg base CX0 26 T.law.f T.law.fd ["script"] (spLawD K []) := by
  refine okLaw T.law.F sc_law (fun dd ed et cdv A outer s H E hr => ⟨_, (fss_cons (fs_for PassesOwn.never (by rfl) (fi_range1 (by rfl) T.range (fa_cons (fe_callB (call_kMax (by rfl)) ec_max (by rfl) T.max (by decide +kernel) (fa_cons fe_int (fa_cons (fe_callB (call_kMin (by rfl)) ec_min (by rfl) T.min (by decide +kernel) (fa_cons fe_int (fa_cons (fe_callB (kk_len (K := K) rfl) ec_len (by rfl) T.len (by decide +kernel) (fa_cons (fe_var (pv 0)) fa_nil)) fa_nil))) fa_nil))) fa_nil)) (fg_name (i := 1) sc_law.nd rfl (by first | exact Or.inl rfl | exact Or.inr rfl)) (fss_cons (fs_set (i := 2) sc_law.nd rfl (by first | exact Or.inl rfl | exact Or.inr rfl) (fe_cell (fn_call et (okn__law_dice T) (hr.mono (by first | decide | omega)) (by rfl) (fa_cons (fe_var (pv 0)) (fa_cons (fe_var (pv 1)) fa_nil))))) (fss_cons (fs_set (i := 3) sc_law.nd rfl (by first | exact Or.inl rfl | exact Or.inr rfl) (fe_callC ed et (okd__law_pick T) (hr.mono (by first | decide | omega)) (by rfl) (fa_cons (fe_var (pv 2)) (fa_cons (fe_lst (fa_cons (fe_S [97] (by decide)) (fa_cons (fe_S [97, 98] (by decide)) (fa_cons (fe_S [97, 98, 99] (by decide)) fa_nil)))) fa_nil)))) (fss_cons (fs_set (i := 4) sc_law.nd rfl (by first | exact Or.inl rfl | exact Or.inr rfl) (fe_op (kk_add (K := K) rfl) er_add (fe_callTy (cr_listS (by rfl)) ec_listS (by rfl) T.list (by decide +kernel) (fa_cons (fe_var (pv 3)) fa_nil)) (fe_lc (own := [("one", 5)]) (fun _ _ => rfl) (by rfl) sc_law.nd (fi_seq (K := K) rfl (fe_var (pv 3))) (blkOk_by (own := [("one", 5)]) (N := sl_law) (sc := defScope s_law) (by decide +kernel)) (wn_name (by decide)) (fun _ _ _ _ _ => (fg_name (i := 5) sc_law.nd rfl (by first | exact Or.inl rfl | exact Or.inr rfl))) (fun _ _ _ _ _ => fts_nil) (fun _ _ _ _ _ => (fe_op (kk_add (K := K) rfl) er_add (fe_op (kk_add (K := K) rfl) er_add (fe_S [42] (by decide)) (fe_var (pv 5))) (fe_ix (kk_ix (K := K) rfl) er_ix (fe_var (pv 3)) fe_int))) (by intro _; rfl) s))) (fss_one (fs_for PassesOwn.never (by rfl) (fi_range1 (by rfl) T.range (fa_cons fe_int fa_nil)) (fg_name (i := 6) sc_law.nd rfl (by first | exact Or.inl rfl | exact Or.inr rfl)) (fss_one (fs_if (fw_or (ft_not (ft_tru (K := K) rfl (fe_callC ed et (okd__law_right T) (hr.mono (by first | decide | omega)) (by rfl) (fa_cons (fe_var (pv 2)) (fa_cons (fe_var (pv 3)) (fa_cons (fe_var (pv 4)) fa_nil)))))) (fw_or1 (ft_not (ft_tru (K := K) rfl (fe_callC ed et (okd__law_values_right T) (hr.mono (by first | decide | omega)) (by rfl) (fa_cons (fe_var (pv 2)) (fa_cons (fe_callC ed et (okd__law_two T) (hr.mono (by first | decide | omega)) (by rfl) (fa_cons (fe_var (pv 2)) fa_nil)) (fa_cons (fe_var (pv 3)) fa_nil)))))))).toFT (fss_one (fs_ret fe_bl)) fss_nil)))))))) (fss_cons (fs_set (i := 7) sc_law.nd rfl (by first | exact Or.inl rfl | exact Or.inr rfl) (fe_lst (fa_cons (fe_callO (K := K) rfl et (okd_between_forms T) (hr.mono (by first | decide | omega)) (by rfl) (fa_cons (fe_S [42, 97, 98] (by decide)) (fa_cons (fe_S [42, 98, 99] (by decide)) fa_nil))) (fa_cons (fe_callO (K := K) rfl et (okd_is_tied_form T) (hr.mono (by first | decide | omega)) (by rfl) (fa_cons (fe_S [97] (by decide)) (fa_cons (fe_S [42, 97, 98] (by decide)) fa_nil))) (fa_cons (fe_callO (K := K) rfl et (okd_is_tied_form T) (hr.mono (by first | decide | omega)) (by rfl) (fa_cons (fe_S [42, 97, 98] (by decide)) (fa_cons (fe_S [98] (by decide)) fa_nil))) (fa_cons (fe_callO (K := K) rfl et (okd_is_tied_form T) (hr.mono (by first | decide | omega)) (by rfl) (fa_cons (fe_S [97] (by decide)) (fa_cons (fe_S [98] (by decide)) fa_nil))) fa_nil)))))) (fss_one (fs_ret (fe_and (fe_cmp (kk_eq (K := K) rfl hr) er_eq (fe_var (pv 7)) (fe_lst (fa_cons (fe_S [98] (by decide)) (fa_cons fe_bl (fa_cons fe_bl (fa_cons fe_bl fa_nil))))) (nomark _)) (fe_one (fe_cmp (kk_eq (K := K) rfl hr) er_eq (fe_callO (K := K) rfl et (okd_form_of T) (hr.mono (by first | decide | omega)) (by rfl) (fa_cons (fe_S [42, 97, 42, 98, 98] (by decide)) fa_nil)) (fe_S [42, 97, 42, 98, 98] (by decide)) (nomark _)))))))), fun ns => ?_⟩)
  rw [sd_law]
  walk_at "dgo"
  have hj : ∀ k : Int, 0 ≤ k → ∃ j : Nat, j ≤ 3 ∧ (if (if k < 3 then k else 3) > 1 then (if k < 3 then k else 3) else 1) = (j : Int) := fun k hk => by
    split <;> split <;> first | exact ⟨k.toNat, by omega, by omega⟩ | exact ⟨3, by omega, by omega⟩ | exact ⟨1, by omega, by omega⟩
  obtain ⟨j, hj3, ej⟩ := hj ns.length (by omega)
  rw [ej]
  refine ⟨_, rfl, by omega, by omega, ?_⟩
  refine loop_inv (fun i ρ h => ∃ o1 o2 o3 o4 o5 o6 o7, ρ = [some (.scr ns), o1, o2, o3, o4, o5, o6, o7]) (fun _ _ _ _ _ => trivial) ⟨_, _, _, _, _, _, _, rfl⟩ ?_ ?_
  · rintro i d ρ h N hi ⟨o1, o2, o3, o4, o5, o6, o7, rfl⟩ kN
    obtain ⟨hi', rfl⟩ := intsD_at hi
    walk_at "dgo"
    rw [Int.zero_add]
    refine ⟨ns, i, rfl, by omega, fun a b c => ?_⟩
    try dsimp only
    have dc : Dice h.length (h ++ [.lst [.int a, .int b, .int c]]) := ⟨a, b, c, by rw [List.getElem?_append_right (Nat.le_refl _)]; simp⟩
    generalize h ++ [Cell.lst [.int a, .int b, .int c]] = h1 at dc ⊢
    generalize h.length = n at dc ⊢
    walk_at "dgo"
    refine ⟨by decide, ?_⟩
    obtain ⟨a, b, c, e⟩ := dc
    refine ⟨n, a, b, c, _, rfl, e, rfl, rfl, .inr ⟨_, rfl, by simp, by simp, fun x hx => ?_⟩⟩
    obtain ⟨L, rfl, hL, hL2, hL3, hL4⟩ : ∃ L : List Nat, x = .str L ∧ Ltrs L ∧ L.length ≤ 3 ∧ L[0]? = some 97 ∧ ∀ c ∈ L, c = 97 ∨ c = 98 ∨ c = 99 := by
      rcases List.mem_cons.mp hx with e | hx
      · exact ⟨_, e, ⟨by simp, by simp, by decide⟩, by simp, rfl, by decide⟩
      · rcases List.mem_cons.mp hx with e | hx
        · exact ⟨_, e, ⟨by simp, by simp, by decide⟩, by simp, rfl, by decide⟩
        · rcases List.mem_cons.mp hx with e | hx
          · exact ⟨_, e, ⟨by simp, by simp, by decide⟩, by simp, rfl, by decide⟩
          · cases hx
    refine ⟨by simp [noDi], fun a1 b1 c1 => ?_⟩
    try dsimp only
    have dc := Dice.set ⟨a, b, c, e⟩ a1 b1 c1
    clear e
    generalize h1.set n (.lst [.int a1, .int b1, .int c1]) = h at dc ⊢
    refine gListS_s.mpr ⟨by omega, _, rfl, ?_⟩
    refine lc_map (fun d => match d with | .str [c] => eD (.nd (.lf c) (.lf 97)) | d => d) trivial (by rw [DL.signs, List.length_map]; omega) (fun d hd Kn kn => ?_) ?_
    · obtain ⟨c, hc, rfl⟩ := List.mem_map.mp hd
      walk_at "dgo"
      exact ⟨by decide, by omega, 97, at_nat hL3, by decide, kn⟩
    have es : List.map (fun d => match d with | D.str [c] => eD ((KT.T.lf c).nd (KT.T.lf 97)) | d => d) (DL.signs L) = eDs (L.map fun c => KT.T.nd (.lf c) (.lf 97)) := by
      rw [DL.signs, eDs, List.map_map, List.map_map]
      rfl
    rw [es, show DL.signs L = eDs (L.map KT.T.lf) by rw [DL.signs, eDs, List.map_map]; rfl]
    refine gAdd_l.mpr ⟨by rw [eDs, eDs, List.length_map, List.length_map, List.length_map, List.length_map]; omega, ?_⟩
    rw [show ∀ a b : List Tm, eDs a ++ eDs b = eDs (a ++ b) from fun a b => (List.map_append ..).symm]
    have hsm : ∀ s ∈ L.map KT.T.lf ++ L.map (fun c => KT.T.nd (.lf c) (.lf 97)), ok s = true ∧ steps s = [] ∧ sz s ≤ 5 := fun s hs => by
      rcases List.mem_append.mp hs with hs | hs
      · obtain ⟨c, hc, rfl⟩ := List.mem_map.mp hs
        rcases hL4 c hc with rfl | rfl | rfl <;> decide
      · obtain ⟨c, hc, rfl⟩ := List.mem_map.mp hs
        rcases hL4 c hc with rfl | rfl | rfl <;> decide
    have hsz : (L.map KT.T.lf ++ L.map (fun c => KT.T.nd (.lf c) (.lf 97))).length ≤ 100 := by rw [List.length_append, List.length_map, List.length_map]; omega
    generalize L.map KT.T.lf ++ L.map (fun c => KT.T.nd (.lf c) (.lf 97)) = sm at hsm hsz ⊢
    refine ⟨_, rfl, by decide, by decide, ?_⟩
    refine loop_inv (fun i ρ h => Dice n h ∧ ∃ o1 o5 o6 o7, ρ = [some (.scr ns), o1, some (.ref n), some (.str L), some (.lst (eDs sm)), o5, o6, o7]) (fun _ _ _ _ _ => trivial) ⟨dc, _, _, _, _, rfl⟩ ?_ ?_
    · rintro i d ρ h N2 hi ⟨dc, o1, o5, o6, o7, rfl⟩ kN2
      walk_at "dgo"
      obtain ⟨a, b, c, e⟩ := dc
      refine ⟨n, a, b, c, _, rfl, e, by simp [noRefs, noRef, nrs_eDs], by simp [noDis, noDi, nds_eDs], L, sm, rfl, hL, hsz, hsm, by simp [noDi], fun a2 b2 c2 => ?_⟩
      try dsimp only
      have dc := Dice.set ⟨a, b, c, e⟩ a2 b2 c2
      clear e
      generalize h.set n (.lst [.int a2, .int b2, .int c2]) = h at dc ⊢
      walk_at "dgo"
      obtain ⟨a, b, c, e⟩ := dc
      refine ⟨n, a, b, c, _, rfl, e, rfl, rfl, rfl, fun R W h0 => ⟨by simp [noDi, nds_rowsD], fun a3 b3 c3 => ?_⟩⟩
      try dsimp only
      have dc := Dice.set ⟨a, b, c, e⟩ a3 b3 c3
      clear e
      generalize h.set n (.lst [.int a3, .int b3, .int c3]) = h at dc ⊢
      walk_at "dgo"
      obtain ⟨a, b, c, e⟩ := dc
      refine ⟨n, a, b, c, _, rfl, e, by simp [noRefs, noRef, nrs_rowsD], by simp [noDis, noDi, nds_rowsD], R, L, rfl, W, h0, hL, by omega, by simp [noDi], fun a4 b4 c4 => ?_⟩
      try dsimp only
      have dc := Dice.set ⟨a, b, c, e⟩ a4 b4 c4
      clear e
      generalize h.set n (.lst [.int a4, .int b4, .int c4]) = h at dc ⊢
      walk_at "dgo"
      exact kN2 _ _ ⟨dc, _, _, _, _, rfl⟩
    · rintro ρ h ⟨dc, o1, o5, o6, o7, rfl⟩
      exact kN _ _ ⟨_, _, _, _, _, _, _, rfl⟩
  · rintro ρ h ⟨o1, o2, o3, o4, o5, o6, o7, rfl⟩
    walk_at "dgo"
    refine ⟨.nd (.lf 97) (.lf 98), .nd (.lf 98) (.lf 99), rfl, by decide, by decide, by decide, by decide, by decide, ?_⟩
    rw [show nf (.nd (.nd (.lf 97) (.lf 98)) (.nd (.lf 98) (.lf 99))) = .lf 98 by decide]
    refine ⟨.lf 97, .nd (.lf 97) (.lf 98), rfl, by decide, by decide, by decide, by decide, by decide, ?_⟩
    rw [show tied (.lf 97) (.nd (.lf 97) (.lf 98)) = true by decide]
    refine ⟨.nd (.lf 97) (.lf 98), .lf 98, rfl, by decide, by decide, by decide, by decide, by decide, ?_⟩
    rw [show tied (.nd (.lf 97) (.lf 98)) (.lf 98) = true by decide]
    refine ⟨.lf 97, .lf 98, rfl, by decide, by decide, by decide, by decide, by decide, ?_⟩
    rw [show tied (.lf 97) (.lf 98) = false by decide]
    refine ⟨by decide, by decide, ?_⟩
    refine gEq_samel (a := .list [.str ⟨#[98]⟩, .bool true, .bool true, .bool false]) ?_ (by decide +kernel) (by decide +kernel) ?_
    · show pyD (.lst [.str [98], .bl true, .bl true, .bl false]) = _
      simp [pyD, pyDs]
    walk_at "dgo"
    refine ⟨.nd (.lf 97) (.nd (.lf 98) (.lf 98)), rfl, by decide, by decide, ?_⟩
    rw [show nf (.nd (.lf 97) (.nd (.lf 98) (.lf 98))) = .nd (.lf 97) (.nd (.lf 98) (.lf 98)) by decide]
    walk_at "dgo"
    rw [decide_eq_true (show enc (.nd (.lf 97) (.nd (.lf 98) (.lf 98))) = [42, 97, 42, 98, 98] from rfl)]
end
end LW

end

section
set_option maxHeartbeats 8000000
namespace LW
open PySem PySem.Spec PyProof.Rows L2 KG KT

def mkDf {K : PySem.W.Frag} {mg : Str → Option Value} {h : Heap} {x : Str} {st : Stmt} {ps : List Str} {f : Addr} {od an : Option Addr} {sl : Array (Option Value)} {oc kV dc pm cd ct : Value} (X : K.In h) (G : h.Ns mainGlobals mg)
    (a : PySem.W.nsIn K mainGlobals x = some (some (.ref f))) (l : K.lookup f = some ⟨oc, od, .func (PySem.W.fnOf x x (defArgs st) (defBody st) (defScope st) .none kV dc pm an cd ct), sl⟩) (c : PySem.W.codeIn K cd x = true) (k : PySem.W.keepIn K (.ref f) = true)
    (b : ∀ (kV doc pm : Value) (an : Option Addr) (cdv ct : Value) (us : List Value), us.length = ps.length → bindArgs (PySem.W.fnOf x x (defArgs st) (defBody st) (defScope st) .none kV doc pm an cdv ct) ⟨us, []⟩ = pure (ps.zip us)) : Df K mg x st ps :=
  { f := f, fd := _, F := fun_mk l c k, g := PySem.W.mg_of X G a, b := (fun_mk (st := st) l c k).binds b }
theorem relS {l : List Nat} {z : Str} {t : Tok} (h : z.cps.toList = l) : RelV (S l) (.str z t) := ⟨t, by rw [← h]⟩
theorem mkTup {K : PySem.W.Frag} {a : Addr} {xs : List V} {od : Option Addr} {its : Array Value} {n : Nat} {sl : Array (Option Value)} (l : K.lookup a = some ⟨.type "tuple", od, .seq its n, sl⟩) (hz : its.size ≤ sizeLine) (v : Vals xs its.toList) : KTup K a xs := ⟨_, its, n, l, rfl, rfl, hz, v⟩
theorem fin {K : PySem.W.Frag} {h : Heap} {mg : Str → Option Value} {fa : Addr} {l : PySem.W.OpenLaw} {w : World} (X : K.In h) (G : h.Ns mainGlobals mg) (hfa : mg "law" = some (.ref fa))
    {k_LETTERS : Tok}
    {k_MAX_LETTERS : Tok}
    {k_STAR : Tok}
    {R r1 r2 r3 : Addr} {oR o1 o2 o3 : Option Addr} {nR n1 n2 n3 : Nat} {sR s1 s2 s3 : Array (Option Value)} {y11 y12 y21 y22 y31 y32 : Tok}
    {f_is_letter : Addr} {od_is_letter an_is_letter : Option Addr} {sl_is_letter : Array (Option Value)} {oc_is_letter kV_is_letter dc_is_letter pm_is_letter cd_is_letter ct_is_letter : Value}
    {f_is_term : Addr} {od_is_term an_is_term : Option Addr} {sl_is_term : Array (Option Value)} {oc_is_term kV_is_term dc_is_term pm_is_term cd_is_term ct_is_term : Value}
    {f_require_term : Addr} {od_require_term an_require_term : Option Addr} {sl_require_term : Array (Option Value)} {oc_require_term kV_require_term dc_require_term pm_require_term cd_require_term ct_require_term : Value}
    {f_size_in : Addr} {od_size_in an_size_in : Option Addr} {sl_size_in : Array (Option Value)} {oc_size_in kV_size_in dc_size_in pm_size_in cd_size_in ct_size_in : Value}
    {f_end_of : Addr} {od_end_of an_end_of : Option Addr} {sl_end_of : Array (Option Value)} {oc_end_of kV_end_of dc_end_of pm_end_of cd_end_of ct_end_of : Value}
    {f_part_in : Addr} {od_part_in an_part_in : Option Addr} {sl_part_in : Array (Option Value)} {oc_part_in kV_part_in dc_part_in pm_part_in cd_part_in ct_part_in : Value}
    {f_put_in : Addr} {od_put_in an_put_in : Option Addr} {sl_put_in : Array (Option Value)} {oc_put_in kV_put_in dc_put_in pm_put_in cd_put_in ct_put_in : Value}
    {f_substituted_in : Addr} {od_substituted_in an_substituted_in : Option Addr} {sl_substituted_in : Array (Option Value)} {oc_substituted_in kV_substituted_in dc_substituted_in pm_substituted_in cd_substituted_in ct_substituted_in : Value}
    {f_match_in : Addr} {od_match_in an_match_in : Option Addr} {sl_match_in : Array (Option Value)} {oc_match_in kV_match_in dc_match_in pm_match_in cd_match_in ct_match_in : Value}
    {f_each_step : Addr} {od_each_step an_each_step : Option Addr} {sl_each_step : Array (Option Value)} {oc_each_step kV_each_step dc_each_step pm_each_step cd_each_step ct_each_step : Value}
    {f_first_step : Addr} {od_first_step an_first_step : Option Addr} {sl_first_step : Array (Option Value)} {oc_first_step kV_first_step dc_first_step pm_first_step cd_first_step ct_first_step : Value}
    {f_has_step : Addr} {od_has_step an_has_step : Option Addr} {sl_has_step : Array (Option Value)} {oc_has_step kV_has_step dc_has_step pm_has_step cd_has_step ct_has_step : Value}
    {f_chain_from : Addr} {od_chain_from an_chain_from : Option Addr} {sl_chain_from : Array (Option Value)} {oc_chain_from kV_chain_from dc_chain_from pm_chain_from cd_chain_from ct_chain_from : Value}
    {f_form_in : Addr} {od_form_in an_form_in : Option Addr} {sl_form_in : Array (Option Value)} {oc_form_in kV_form_in dc_form_in pm_form_in cd_form_in ct_form_in : Value}
    {f_form_of : Addr} {od_form_of an_form_of : Option Addr} {sl_form_of : Array (Option Value)} {oc_form_of kV_form_of dc_form_of pm_form_of cd_form_of ct_form_of : Value}
    {f_require_terms : Addr} {od_require_terms an_require_terms : Option Addr} {sl_require_terms : Array (Option Value)} {oc_require_terms kV_require_terms dc_require_terms pm_require_terms cd_require_terms ct_require_terms : Value}
    {f_require_forms : Addr} {od_require_forms an_require_forms : Option Addr} {sl_require_forms : Array (Option Value)} {oc_require_forms kV_require_forms dc_require_forms pm_require_forms cd_require_forms ct_require_forms : Value}
    {f_require_room : Addr} {od_require_room an_require_room : Option Addr} {sl_require_room : Array (Option Value)} {oc_require_room kV_require_room dc_require_room pm_require_room cd_require_room ct_require_room : Value}
    {f_between_forms : Addr} {od_between_forms an_between_forms : Option Addr} {sl_between_forms : Array (Option Value)} {oc_between_forms kV_between_forms dc_between_forms pm_between_forms cd_between_forms ct_between_forms : Value}
    {f_is_tied_form : Addr} {od_is_tied_form an_is_tied_form : Option Addr} {sl_is_tied_form : Array (Option Value)} {oc_is_tied_form kV_is_tied_form dc_is_tied_form pm_is_tied_form cd_is_tied_form ct_is_tied_form : Value}
    {f__law_dice : Addr} {od__law_dice an__law_dice : Option Addr} {sl__law_dice : Array (Option Value)} {oc__law_dice kV__law_dice dc__law_dice pm__law_dice cd__law_dice ct__law_dice : Value}
    {f__law_roll : Addr} {od__law_roll an__law_roll : Option Addr} {sl__law_roll : Array (Option Value)} {oc__law_roll kV__law_roll dc__law_roll pm__law_roll cd__law_roll ct__law_roll : Value}
    {f__law_pick : Addr} {od__law_pick an__law_pick : Option Addr} {sl__law_pick : Array (Option Value)} {oc__law_pick kV__law_pick dc__law_pick pm__law_pick cd__law_pick ct__law_pick : Value}
    {f__law_mixed : Addr} {od__law_mixed an__law_mixed : Option Addr} {sl__law_mixed : Array (Option Value)} {oc__law_mixed kV__law_mixed dc__law_mixed pm__law_mixed cd__law_mixed ct__law_mixed : Value}
    {f__law_power : Addr} {od__law_power an__law_power : Option Addr} {sl__law_power : Array (Option Value)} {oc__law_power kV__law_power dc__law_power pm__law_power cd__law_power ct__law_power : Value}
    {f__law_word_rows : Addr} {od__law_word_rows an__law_word_rows : Option Addr} {sl__law_word_rows : Array (Option Value)} {oc__law_word_rows kV__law_word_rows dc__law_word_rows pm__law_word_rows cd__law_word_rows ct__law_word_rows : Value}
    {f__law_nine : Addr} {od__law_nine an__law_nine : Option Addr} {sl__law_nine : Array (Option Value)} {oc__law_nine kV__law_nine dc__law_nine pm__law_nine cd__law_nine ct__law_nine : Value}
    {f__law_columns : Addr} {od__law_columns an__law_columns : Option Addr} {sl__law_columns : Array (Option Value)} {oc__law_columns kV__law_columns dc__law_columns pm__law_columns cd__law_columns ct__law_columns : Value}
    {f__law_renamed : Addr} {od__law_renamed an__law_renamed : Option Addr} {sl__law_renamed : Array (Option Value)} {oc__law_renamed kV__law_renamed dc__law_renamed pm__law_renamed cd__law_renamed ct__law_renamed : Value}
    {f__law_mates : Addr} {od__law_mates an__law_mates : Option Addr} {sl__law_mates : Array (Option Value)} {oc__law_mates kV__law_mates dc__law_mates pm__law_mates cd__law_mates ct__law_mates : Value}
    {f__law_switch_classes : Addr} {od__law_switch_classes an__law_switch_classes : Option Addr} {sl__law_switch_classes : Array (Option Value)} {oc__law_switch_classes kV__law_switch_classes dc__law_switch_classes pm__law_switch_classes cd__law_switch_classes ct__law_switch_classes : Value}
    {f__law_switched : Addr} {od__law_switched an__law_switched : Option Addr} {sl__law_switched : Array (Option Value)} {oc__law_switched kV__law_switched dc__law_switched pm__law_switched cd__law_switched ct__law_switched : Value}
    {f__law_some_switches : Addr} {od__law_some_switches an__law_some_switches : Option Addr} {sl__law_some_switches : Array (Option Value)} {oc__law_some_switches kV__law_some_switches dc__law_some_switches pm__law_some_switches cd__law_some_switches ct__law_some_switches : Value}
    {f__law_named : Addr} {od__law_named an__law_named : Option Addr} {sl__law_named : Array (Option Value)} {oc__law_named kV__law_named dc__law_named pm__law_named cd__law_named ct__law_named : Value}
    {f__law_two : Addr} {od__law_two an__law_two : Option Addr} {sl__law_two : Array (Option Value)} {oc__law_two kV__law_two dc__law_two pm__law_two cd__law_two ct__law_two : Value}
    {f__law_grown_term : Addr} {od__law_grown_term an__law_grown_term : Option Addr} {sl__law_grown_term : Array (Option Value)} {oc__law_grown_term kV__law_grown_term dc__law_grown_term pm__law_grown_term cd__law_grown_term ct__law_grown_term : Value}
    {f__law_part_of : Addr} {od__law_part_of an__law_part_of : Option Addr} {sl__law_part_of : Array (Option Value)} {oc__law_part_of kV__law_part_of dc__law_part_of pm__law_part_of cd__law_part_of ct__law_part_of : Value}
    {f__law_sides : Addr} {od__law_sides an__law_sides : Option Addr} {sl__law_sides : Array (Option Value)} {oc__law_sides kV__law_sides dc__law_sides pm__law_sides cd__law_sides ct__law_sides : Value}
    {f__law_rule_results : Addr} {od__law_rule_results an__law_rule_results : Option Addr} {sl__law_rule_results : Array (Option Value)} {oc__law_rule_results kV__law_rule_results dc__law_rule_results pm__law_rule_results cd__law_rule_results ct__law_rule_results : Value}
    {f__law_steps : Addr} {od__law_steps an__law_steps : Option Addr} {sl__law_steps : Array (Option Value)} {oc__law_steps kV__law_steps dc__law_steps pm__law_steps cd__law_steps ct__law_steps : Value}
    {f__law_down : Addr} {od__law_down an__law_down : Option Addr} {sl__law_down : Array (Option Value)} {oc__law_down kV__law_down dc__law_down pm__law_down cd__law_down ct__law_down : Value}
    {f__law_table : Addr} {od__law_table an__law_table : Option Addr} {sl__law_table : Array (Option Value)} {oc__law_table kV__law_table dc__law_table pm__law_table cd__law_table ct__law_table : Value}
    {f__law_worth : Addr} {od__law_worth an__law_worth : Option Addr} {sl__law_worth : Array (Option Value)} {oc__law_worth kV__law_worth dc__law_worth pm__law_worth cd__law_worth ct__law_worth : Value}
    {f__law_drawn_values : Addr} {od__law_drawn_values an__law_drawn_values : Option Addr} {sl__law_drawn_values : Array (Option Value)} {oc__law_drawn_values kV__law_drawn_values dc__law_drawn_values pm__law_drawn_values cd__law_drawn_values ct__law_drawn_values : Value}
    {f__law_drawn_form : Addr} {od__law_drawn_form an__law_drawn_form : Option Addr} {sl__law_drawn_form : Array (Option Value)} {oc__law_drawn_form kV__law_drawn_form dc__law_drawn_form pm__law_drawn_form cd__law_drawn_form ct__law_drawn_form : Value}
    {f__law_is_tied : Addr} {od__law_is_tied an__law_is_tied : Option Addr} {sl__law_is_tied : Array (Option Value)} {oc__law_is_tied kV__law_is_tied dc__law_is_tied pm__law_is_tied cd__law_is_tied ct__law_is_tied : Value}
    {f__law_right : Addr} {od__law_right an__law_right : Option Addr} {sl__law_right : Array (Option Value)} {oc__law_right kV__law_right dc__law_right pm__law_right cd__law_right ct__law_right : Value}
    {f__law_values_right : Addr} {od__law_values_right an__law_values_right : Option Addr} {sl__law_values_right : Array (Option Value)} {oc__law_values_right kV__law_values_right dc__law_values_right pm__law_values_right cd__law_values_right ct__law_values_right : Value}
    {f_law : Addr} {od_law an_law : Option Addr} {sl_law : Array (Option Value)} {oc_law kV_law dc_law pm_law cd_law ct_law : Value}
    (z_abs : PySem.W.nsIn K mainGlobals "abs" = some none)
    (z_dict : PySem.W.nsIn K mainGlobals "dict" = some none)
    (z_enumerate : PySem.W.nsIn K mainGlobals "enumerate" = some none)
    (z_int : PySem.W.nsIn K mainGlobals "int" = some none)
    (z_isinstance : PySem.W.nsIn K mainGlobals "isinstance" = some none)
    (z_len : PySem.W.nsIn K mainGlobals "len" = some none)
    (z_list : PySem.W.nsIn K mainGlobals "list" = some none)
    (z_max : PySem.W.nsIn K mainGlobals "max" = some none)
    (z_min : PySem.W.nsIn K mainGlobals "min" = some none)
    (z_range : PySem.W.nsIn K mainGlobals "range" = some none)
    (z_set : PySem.W.nsIn K mainGlobals "set" = some none)
    (z_sorted : PySem.W.nsIn K mainGlobals "sorted" = some none)
    (z_str : PySem.W.nsIn K mainGlobals "str" = some none)
    (z_tuple : PySem.W.nsIn K mainGlobals "tuple" = some none)
    (v_LETTERS : PySem.W.nsIn K mainGlobals "LETTERS" = some (some (.str "abcdefghijklmnopqrstuvwxyz" k_LETTERS)))
    (v_MAX_LETTERS : PySem.W.nsIn K mainGlobals "MAX_LETTERS" = some (some (.int 200 k_MAX_LETTERS)))
    (v_STAR : PySem.W.nsIn K mainGlobals "STAR" = some (some (.str "*" k_STAR)))
    (aR : PySem.W.nsIn K mainGlobals "RULES" = some (some (.ref R))) (lR : K.lookup R = some ⟨.type "tuple", oR, .seq #[.ref r1, .ref r2, .ref r3] nR, sR⟩)
    (l1 : K.lookup r1 = some ⟨.type "tuple", o1, .seq #[.str "**xy*yz" y11, .str "y" y12] n1, s1⟩) (l2 : K.lookup r2 = some ⟨.type "tuple", o2, .seq #[.str "*x**xyz" y21, .str "*xy" y22] n2, s2⟩) (l3 : K.lookup r3 = some ⟨.type "tuple", o3, .seq #[.str "**x*yzz" y31, .str "*yz" y32] n3, s3⟩)
    (a_is_letter : PySem.W.nsIn K mainGlobals "is_letter" = some (some (.ref f_is_letter)))
    (l_is_letter : K.lookup f_is_letter = some ⟨oc_is_letter, od_is_letter, .func (PySem.W.fnOf "is_letter" "is_letter" (defArgs s_is_letter) (defBody s_is_letter) (defScope s_is_letter) .none kV_is_letter dc_is_letter pm_is_letter an_is_letter cd_is_letter ct_is_letter), sl_is_letter⟩)
    (c_is_letter : PySem.W.codeIn K cd_is_letter "is_letter" = true) (k_is_letter : PySem.W.keepIn K (.ref f_is_letter) = true)
    (a_is_term : PySem.W.nsIn K mainGlobals "is_term" = some (some (.ref f_is_term)))
    (l_is_term : K.lookup f_is_term = some ⟨oc_is_term, od_is_term, .func (PySem.W.fnOf "is_term" "is_term" (defArgs s_is_term) (defBody s_is_term) (defScope s_is_term) .none kV_is_term dc_is_term pm_is_term an_is_term cd_is_term ct_is_term), sl_is_term⟩)
    (c_is_term : PySem.W.codeIn K cd_is_term "is_term" = true) (k_is_term : PySem.W.keepIn K (.ref f_is_term) = true)
    (a_require_term : PySem.W.nsIn K mainGlobals "require_term" = some (some (.ref f_require_term)))
    (l_require_term : K.lookup f_require_term = some ⟨oc_require_term, od_require_term, .func (PySem.W.fnOf "require_term" "require_term" (defArgs s_require_term) (defBody s_require_term) (defScope s_require_term) .none kV_require_term dc_require_term pm_require_term an_require_term cd_require_term ct_require_term), sl_require_term⟩)
    (c_require_term : PySem.W.codeIn K cd_require_term "require_term" = true) (k_require_term : PySem.W.keepIn K (.ref f_require_term) = true)
    (a_size_in : PySem.W.nsIn K mainGlobals "size_in" = some (some (.ref f_size_in)))
    (l_size_in : K.lookup f_size_in = some ⟨oc_size_in, od_size_in, .func (PySem.W.fnOf "size_in" "size_in" (defArgs s_size_in) (defBody s_size_in) (defScope s_size_in) .none kV_size_in dc_size_in pm_size_in an_size_in cd_size_in ct_size_in), sl_size_in⟩)
    (c_size_in : PySem.W.codeIn K cd_size_in "size_in" = true) (k_size_in : PySem.W.keepIn K (.ref f_size_in) = true)
    (a_end_of : PySem.W.nsIn K mainGlobals "end_of" = some (some (.ref f_end_of)))
    (l_end_of : K.lookup f_end_of = some ⟨oc_end_of, od_end_of, .func (PySem.W.fnOf "end_of" "end_of" (defArgs s_end_of) (defBody s_end_of) (defScope s_end_of) .none kV_end_of dc_end_of pm_end_of an_end_of cd_end_of ct_end_of), sl_end_of⟩)
    (c_end_of : PySem.W.codeIn K cd_end_of "end_of" = true) (k_end_of : PySem.W.keepIn K (.ref f_end_of) = true)
    (a_part_in : PySem.W.nsIn K mainGlobals "part_in" = some (some (.ref f_part_in)))
    (l_part_in : K.lookup f_part_in = some ⟨oc_part_in, od_part_in, .func (PySem.W.fnOf "part_in" "part_in" (defArgs s_part_in) (defBody s_part_in) (defScope s_part_in) .none kV_part_in dc_part_in pm_part_in an_part_in cd_part_in ct_part_in), sl_part_in⟩)
    (c_part_in : PySem.W.codeIn K cd_part_in "part_in" = true) (k_part_in : PySem.W.keepIn K (.ref f_part_in) = true)
    (a_put_in : PySem.W.nsIn K mainGlobals "put_in" = some (some (.ref f_put_in)))
    (l_put_in : K.lookup f_put_in = some ⟨oc_put_in, od_put_in, .func (PySem.W.fnOf "put_in" "put_in" (defArgs s_put_in) (defBody s_put_in) (defScope s_put_in) .none kV_put_in dc_put_in pm_put_in an_put_in cd_put_in ct_put_in), sl_put_in⟩)
    (c_put_in : PySem.W.codeIn K cd_put_in "put_in" = true) (k_put_in : PySem.W.keepIn K (.ref f_put_in) = true)
    (a_substituted_in : PySem.W.nsIn K mainGlobals "substituted_in" = some (some (.ref f_substituted_in)))
    (l_substituted_in : K.lookup f_substituted_in = some ⟨oc_substituted_in, od_substituted_in, .func (PySem.W.fnOf "substituted_in" "substituted_in" (defArgs s_substituted_in) (defBody s_substituted_in) (defScope s_substituted_in) .none kV_substituted_in dc_substituted_in pm_substituted_in an_substituted_in cd_substituted_in ct_substituted_in), sl_substituted_in⟩)
    (c_substituted_in : PySem.W.codeIn K cd_substituted_in "substituted_in" = true) (k_substituted_in : PySem.W.keepIn K (.ref f_substituted_in) = true)
    (a_match_in : PySem.W.nsIn K mainGlobals "match_in" = some (some (.ref f_match_in)))
    (l_match_in : K.lookup f_match_in = some ⟨oc_match_in, od_match_in, .func (PySem.W.fnOf "match_in" "match_in" (defArgs s_match_in) (defBody s_match_in) (defScope s_match_in) .none kV_match_in dc_match_in pm_match_in an_match_in cd_match_in ct_match_in), sl_match_in⟩)
    (c_match_in : PySem.W.codeIn K cd_match_in "match_in" = true) (k_match_in : PySem.W.keepIn K (.ref f_match_in) = true)
    (a_each_step : PySem.W.nsIn K mainGlobals "each_step" = some (some (.ref f_each_step)))
    (l_each_step : K.lookup f_each_step = some ⟨oc_each_step, od_each_step, .func (PySem.W.fnOf "each_step" "each_step" (defArgs s_each_step) (defBody s_each_step) (defScope s_each_step) .none kV_each_step dc_each_step pm_each_step an_each_step cd_each_step ct_each_step), sl_each_step⟩)
    (c_each_step : PySem.W.codeIn K cd_each_step "each_step" = true) (k_each_step : PySem.W.keepIn K (.ref f_each_step) = true)
    (a_first_step : PySem.W.nsIn K mainGlobals "first_step" = some (some (.ref f_first_step)))
    (l_first_step : K.lookup f_first_step = some ⟨oc_first_step, od_first_step, .func (PySem.W.fnOf "first_step" "first_step" (defArgs s_first_step) (defBody s_first_step) (defScope s_first_step) .none kV_first_step dc_first_step pm_first_step an_first_step cd_first_step ct_first_step), sl_first_step⟩)
    (c_first_step : PySem.W.codeIn K cd_first_step "first_step" = true) (k_first_step : PySem.W.keepIn K (.ref f_first_step) = true)
    (a_has_step : PySem.W.nsIn K mainGlobals "has_step" = some (some (.ref f_has_step)))
    (l_has_step : K.lookup f_has_step = some ⟨oc_has_step, od_has_step, .func (PySem.W.fnOf "has_step" "has_step" (defArgs s_has_step) (defBody s_has_step) (defScope s_has_step) .none kV_has_step dc_has_step pm_has_step an_has_step cd_has_step ct_has_step), sl_has_step⟩)
    (c_has_step : PySem.W.codeIn K cd_has_step "has_step" = true) (k_has_step : PySem.W.keepIn K (.ref f_has_step) = true)
    (a_chain_from : PySem.W.nsIn K mainGlobals "chain_from" = some (some (.ref f_chain_from)))
    (l_chain_from : K.lookup f_chain_from = some ⟨oc_chain_from, od_chain_from, .func (PySem.W.fnOf "chain_from" "chain_from" (defArgs s_chain_from) (defBody s_chain_from) (defScope s_chain_from) .none kV_chain_from dc_chain_from pm_chain_from an_chain_from cd_chain_from ct_chain_from), sl_chain_from⟩)
    (c_chain_from : PySem.W.codeIn K cd_chain_from "chain_from" = true) (k_chain_from : PySem.W.keepIn K (.ref f_chain_from) = true)
    (a_form_in : PySem.W.nsIn K mainGlobals "form_in" = some (some (.ref f_form_in)))
    (l_form_in : K.lookup f_form_in = some ⟨oc_form_in, od_form_in, .func (PySem.W.fnOf "form_in" "form_in" (defArgs s_form_in) (defBody s_form_in) (defScope s_form_in) .none kV_form_in dc_form_in pm_form_in an_form_in cd_form_in ct_form_in), sl_form_in⟩)
    (c_form_in : PySem.W.codeIn K cd_form_in "form_in" = true) (k_form_in : PySem.W.keepIn K (.ref f_form_in) = true)
    (a_form_of : PySem.W.nsIn K mainGlobals "form_of" = some (some (.ref f_form_of)))
    (l_form_of : K.lookup f_form_of = some ⟨oc_form_of, od_form_of, .func (PySem.W.fnOf "form_of" "form_of" (defArgs s_form_of) (defBody s_form_of) (defScope s_form_of) .none kV_form_of dc_form_of pm_form_of an_form_of cd_form_of ct_form_of), sl_form_of⟩)
    (c_form_of : PySem.W.codeIn K cd_form_of "form_of" = true) (k_form_of : PySem.W.keepIn K (.ref f_form_of) = true)
    (a_require_terms : PySem.W.nsIn K mainGlobals "require_terms" = some (some (.ref f_require_terms)))
    (l_require_terms : K.lookup f_require_terms = some ⟨oc_require_terms, od_require_terms, .func (PySem.W.fnOf "require_terms" "require_terms" (defArgs s_require_terms) (defBody s_require_terms) (defScope s_require_terms) .none kV_require_terms dc_require_terms pm_require_terms an_require_terms cd_require_terms ct_require_terms), sl_require_terms⟩)
    (c_require_terms : PySem.W.codeIn K cd_require_terms "require_terms" = true) (k_require_terms : PySem.W.keepIn K (.ref f_require_terms) = true)
    (a_require_forms : PySem.W.nsIn K mainGlobals "require_forms" = some (some (.ref f_require_forms)))
    (l_require_forms : K.lookup f_require_forms = some ⟨oc_require_forms, od_require_forms, .func (PySem.W.fnOf "require_forms" "require_forms" (defArgs s_require_forms) (defBody s_require_forms) (defScope s_require_forms) .none kV_require_forms dc_require_forms pm_require_forms an_require_forms cd_require_forms ct_require_forms), sl_require_forms⟩)
    (c_require_forms : PySem.W.codeIn K cd_require_forms "require_forms" = true) (k_require_forms : PySem.W.keepIn K (.ref f_require_forms) = true)
    (a_require_room : PySem.W.nsIn K mainGlobals "require_room" = some (some (.ref f_require_room)))
    (l_require_room : K.lookup f_require_room = some ⟨oc_require_room, od_require_room, .func (PySem.W.fnOf "require_room" "require_room" (defArgs s_require_room) (defBody s_require_room) (defScope s_require_room) .none kV_require_room dc_require_room pm_require_room an_require_room cd_require_room ct_require_room), sl_require_room⟩)
    (c_require_room : PySem.W.codeIn K cd_require_room "require_room" = true) (k_require_room : PySem.W.keepIn K (.ref f_require_room) = true)
    (a_between_forms : PySem.W.nsIn K mainGlobals "between_forms" = some (some (.ref f_between_forms)))
    (l_between_forms : K.lookup f_between_forms = some ⟨oc_between_forms, od_between_forms, .func (PySem.W.fnOf "between_forms" "between_forms" (defArgs s_between_forms) (defBody s_between_forms) (defScope s_between_forms) .none kV_between_forms dc_between_forms pm_between_forms an_between_forms cd_between_forms ct_between_forms), sl_between_forms⟩)
    (c_between_forms : PySem.W.codeIn K cd_between_forms "between_forms" = true) (k_between_forms : PySem.W.keepIn K (.ref f_between_forms) = true)
    (a_is_tied_form : PySem.W.nsIn K mainGlobals "is_tied_form" = some (some (.ref f_is_tied_form)))
    (l_is_tied_form : K.lookup f_is_tied_form = some ⟨oc_is_tied_form, od_is_tied_form, .func (PySem.W.fnOf "is_tied_form" "is_tied_form" (defArgs s_is_tied_form) (defBody s_is_tied_form) (defScope s_is_tied_form) .none kV_is_tied_form dc_is_tied_form pm_is_tied_form an_is_tied_form cd_is_tied_form ct_is_tied_form), sl_is_tied_form⟩)
    (c_is_tied_form : PySem.W.codeIn K cd_is_tied_form "is_tied_form" = true) (k_is_tied_form : PySem.W.keepIn K (.ref f_is_tied_form) = true)
    (a__law_dice : PySem.W.nsIn K mainGlobals "_law_dice" = some (some (.ref f__law_dice)))
    (l__law_dice : K.lookup f__law_dice = some ⟨oc__law_dice, od__law_dice, .func (PySem.W.fnOf "_law_dice" "_law_dice" (defArgs s__law_dice) (defBody s__law_dice) (defScope s__law_dice) .none kV__law_dice dc__law_dice pm__law_dice an__law_dice cd__law_dice ct__law_dice), sl__law_dice⟩)
    (c__law_dice : PySem.W.codeIn K cd__law_dice "_law_dice" = true) (k__law_dice : PySem.W.keepIn K (.ref f__law_dice) = true)
    (a__law_roll : PySem.W.nsIn K mainGlobals "_law_roll" = some (some (.ref f__law_roll)))
    (l__law_roll : K.lookup f__law_roll = some ⟨oc__law_roll, od__law_roll, .func (PySem.W.fnOf "_law_roll" "_law_roll" (defArgs s__law_roll) (defBody s__law_roll) (defScope s__law_roll) .none kV__law_roll dc__law_roll pm__law_roll an__law_roll cd__law_roll ct__law_roll), sl__law_roll⟩)
    (c__law_roll : PySem.W.codeIn K cd__law_roll "_law_roll" = true) (k__law_roll : PySem.W.keepIn K (.ref f__law_roll) = true)
    (a__law_pick : PySem.W.nsIn K mainGlobals "_law_pick" = some (some (.ref f__law_pick)))
    (l__law_pick : K.lookup f__law_pick = some ⟨oc__law_pick, od__law_pick, .func (PySem.W.fnOf "_law_pick" "_law_pick" (defArgs s__law_pick) (defBody s__law_pick) (defScope s__law_pick) .none kV__law_pick dc__law_pick pm__law_pick an__law_pick cd__law_pick ct__law_pick), sl__law_pick⟩)
    (c__law_pick : PySem.W.codeIn K cd__law_pick "_law_pick" = true) (k__law_pick : PySem.W.keepIn K (.ref f__law_pick) = true)
    (a__law_mixed : PySem.W.nsIn K mainGlobals "_law_mixed" = some (some (.ref f__law_mixed)))
    (l__law_mixed : K.lookup f__law_mixed = some ⟨oc__law_mixed, od__law_mixed, .func (PySem.W.fnOf "_law_mixed" "_law_mixed" (defArgs s__law_mixed) (defBody s__law_mixed) (defScope s__law_mixed) .none kV__law_mixed dc__law_mixed pm__law_mixed an__law_mixed cd__law_mixed ct__law_mixed), sl__law_mixed⟩)
    (c__law_mixed : PySem.W.codeIn K cd__law_mixed "_law_mixed" = true) (k__law_mixed : PySem.W.keepIn K (.ref f__law_mixed) = true)
    (a__law_power : PySem.W.nsIn K mainGlobals "_law_power" = some (some (.ref f__law_power)))
    (l__law_power : K.lookup f__law_power = some ⟨oc__law_power, od__law_power, .func (PySem.W.fnOf "_law_power" "_law_power" (defArgs s__law_power) (defBody s__law_power) (defScope s__law_power) .none kV__law_power dc__law_power pm__law_power an__law_power cd__law_power ct__law_power), sl__law_power⟩)
    (c__law_power : PySem.W.codeIn K cd__law_power "_law_power" = true) (k__law_power : PySem.W.keepIn K (.ref f__law_power) = true)
    (a__law_word_rows : PySem.W.nsIn K mainGlobals "_law_word_rows" = some (some (.ref f__law_word_rows)))
    (l__law_word_rows : K.lookup f__law_word_rows = some ⟨oc__law_word_rows, od__law_word_rows, .func (PySem.W.fnOf "_law_word_rows" "_law_word_rows" (defArgs s__law_word_rows) (defBody s__law_word_rows) (defScope s__law_word_rows) .none kV__law_word_rows dc__law_word_rows pm__law_word_rows an__law_word_rows cd__law_word_rows ct__law_word_rows), sl__law_word_rows⟩)
    (c__law_word_rows : PySem.W.codeIn K cd__law_word_rows "_law_word_rows" = true) (k__law_word_rows : PySem.W.keepIn K (.ref f__law_word_rows) = true)
    (a__law_nine : PySem.W.nsIn K mainGlobals "_law_nine" = some (some (.ref f__law_nine)))
    (l__law_nine : K.lookup f__law_nine = some ⟨oc__law_nine, od__law_nine, .func (PySem.W.fnOf "_law_nine" "_law_nine" (defArgs s__law_nine) (defBody s__law_nine) (defScope s__law_nine) .none kV__law_nine dc__law_nine pm__law_nine an__law_nine cd__law_nine ct__law_nine), sl__law_nine⟩)
    (c__law_nine : PySem.W.codeIn K cd__law_nine "_law_nine" = true) (k__law_nine : PySem.W.keepIn K (.ref f__law_nine) = true)
    (a__law_columns : PySem.W.nsIn K mainGlobals "_law_columns" = some (some (.ref f__law_columns)))
    (l__law_columns : K.lookup f__law_columns = some ⟨oc__law_columns, od__law_columns, .func (PySem.W.fnOf "_law_columns" "_law_columns" (defArgs s__law_columns) (defBody s__law_columns) (defScope s__law_columns) .none kV__law_columns dc__law_columns pm__law_columns an__law_columns cd__law_columns ct__law_columns), sl__law_columns⟩)
    (c__law_columns : PySem.W.codeIn K cd__law_columns "_law_columns" = true) (k__law_columns : PySem.W.keepIn K (.ref f__law_columns) = true)
    (a__law_renamed : PySem.W.nsIn K mainGlobals "_law_renamed" = some (some (.ref f__law_renamed)))
    (l__law_renamed : K.lookup f__law_renamed = some ⟨oc__law_renamed, od__law_renamed, .func (PySem.W.fnOf "_law_renamed" "_law_renamed" (defArgs s__law_renamed) (defBody s__law_renamed) (defScope s__law_renamed) .none kV__law_renamed dc__law_renamed pm__law_renamed an__law_renamed cd__law_renamed ct__law_renamed), sl__law_renamed⟩)
    (c__law_renamed : PySem.W.codeIn K cd__law_renamed "_law_renamed" = true) (k__law_renamed : PySem.W.keepIn K (.ref f__law_renamed) = true)
    (a__law_mates : PySem.W.nsIn K mainGlobals "_law_mates" = some (some (.ref f__law_mates)))
    (l__law_mates : K.lookup f__law_mates = some ⟨oc__law_mates, od__law_mates, .func (PySem.W.fnOf "_law_mates" "_law_mates" (defArgs s__law_mates) (defBody s__law_mates) (defScope s__law_mates) .none kV__law_mates dc__law_mates pm__law_mates an__law_mates cd__law_mates ct__law_mates), sl__law_mates⟩)
    (c__law_mates : PySem.W.codeIn K cd__law_mates "_law_mates" = true) (k__law_mates : PySem.W.keepIn K (.ref f__law_mates) = true)
    (a__law_switch_classes : PySem.W.nsIn K mainGlobals "_law_switch_classes" = some (some (.ref f__law_switch_classes)))
    (l__law_switch_classes : K.lookup f__law_switch_classes = some ⟨oc__law_switch_classes, od__law_switch_classes, .func (PySem.W.fnOf "_law_switch_classes" "_law_switch_classes" (defArgs s__law_switch_classes) (defBody s__law_switch_classes) (defScope s__law_switch_classes) .none kV__law_switch_classes dc__law_switch_classes pm__law_switch_classes an__law_switch_classes cd__law_switch_classes ct__law_switch_classes), sl__law_switch_classes⟩)
    (c__law_switch_classes : PySem.W.codeIn K cd__law_switch_classes "_law_switch_classes" = true) (k__law_switch_classes : PySem.W.keepIn K (.ref f__law_switch_classes) = true)
    (a__law_switched : PySem.W.nsIn K mainGlobals "_law_switched" = some (some (.ref f__law_switched)))
    (l__law_switched : K.lookup f__law_switched = some ⟨oc__law_switched, od__law_switched, .func (PySem.W.fnOf "_law_switched" "_law_switched" (defArgs s__law_switched) (defBody s__law_switched) (defScope s__law_switched) .none kV__law_switched dc__law_switched pm__law_switched an__law_switched cd__law_switched ct__law_switched), sl__law_switched⟩)
    (c__law_switched : PySem.W.codeIn K cd__law_switched "_law_switched" = true) (k__law_switched : PySem.W.keepIn K (.ref f__law_switched) = true)
    (a__law_some_switches : PySem.W.nsIn K mainGlobals "_law_some_switches" = some (some (.ref f__law_some_switches)))
    (l__law_some_switches : K.lookup f__law_some_switches = some ⟨oc__law_some_switches, od__law_some_switches, .func (PySem.W.fnOf "_law_some_switches" "_law_some_switches" (defArgs s__law_some_switches) (defBody s__law_some_switches) (defScope s__law_some_switches) .none kV__law_some_switches dc__law_some_switches pm__law_some_switches an__law_some_switches cd__law_some_switches ct__law_some_switches), sl__law_some_switches⟩)
    (c__law_some_switches : PySem.W.codeIn K cd__law_some_switches "_law_some_switches" = true) (k__law_some_switches : PySem.W.keepIn K (.ref f__law_some_switches) = true)
    (a__law_named : PySem.W.nsIn K mainGlobals "_law_named" = some (some (.ref f__law_named)))
    (l__law_named : K.lookup f__law_named = some ⟨oc__law_named, od__law_named, .func (PySem.W.fnOf "_law_named" "_law_named" (defArgs s__law_named) (defBody s__law_named) (defScope s__law_named) .none kV__law_named dc__law_named pm__law_named an__law_named cd__law_named ct__law_named), sl__law_named⟩)
    (c__law_named : PySem.W.codeIn K cd__law_named "_law_named" = true) (k__law_named : PySem.W.keepIn K (.ref f__law_named) = true)
    (a__law_two : PySem.W.nsIn K mainGlobals "_law_two" = some (some (.ref f__law_two)))
    (l__law_two : K.lookup f__law_two = some ⟨oc__law_two, od__law_two, .func (PySem.W.fnOf "_law_two" "_law_two" (defArgs s__law_two) (defBody s__law_two) (defScope s__law_two) .none kV__law_two dc__law_two pm__law_two an__law_two cd__law_two ct__law_two), sl__law_two⟩)
    (c__law_two : PySem.W.codeIn K cd__law_two "_law_two" = true) (k__law_two : PySem.W.keepIn K (.ref f__law_two) = true)
    (a__law_grown_term : PySem.W.nsIn K mainGlobals "_law_grown_term" = some (some (.ref f__law_grown_term)))
    (l__law_grown_term : K.lookup f__law_grown_term = some ⟨oc__law_grown_term, od__law_grown_term, .func (PySem.W.fnOf "_law_grown_term" "_law_grown_term" (defArgs s__law_grown_term) (defBody s__law_grown_term) (defScope s__law_grown_term) .none kV__law_grown_term dc__law_grown_term pm__law_grown_term an__law_grown_term cd__law_grown_term ct__law_grown_term), sl__law_grown_term⟩)
    (c__law_grown_term : PySem.W.codeIn K cd__law_grown_term "_law_grown_term" = true) (k__law_grown_term : PySem.W.keepIn K (.ref f__law_grown_term) = true)
    (a__law_part_of : PySem.W.nsIn K mainGlobals "_law_part_of" = some (some (.ref f__law_part_of)))
    (l__law_part_of : K.lookup f__law_part_of = some ⟨oc__law_part_of, od__law_part_of, .func (PySem.W.fnOf "_law_part_of" "_law_part_of" (defArgs s__law_part_of) (defBody s__law_part_of) (defScope s__law_part_of) .none kV__law_part_of dc__law_part_of pm__law_part_of an__law_part_of cd__law_part_of ct__law_part_of), sl__law_part_of⟩)
    (c__law_part_of : PySem.W.codeIn K cd__law_part_of "_law_part_of" = true) (k__law_part_of : PySem.W.keepIn K (.ref f__law_part_of) = true)
    (a__law_sides : PySem.W.nsIn K mainGlobals "_law_sides" = some (some (.ref f__law_sides)))
    (l__law_sides : K.lookup f__law_sides = some ⟨oc__law_sides, od__law_sides, .func (PySem.W.fnOf "_law_sides" "_law_sides" (defArgs s__law_sides) (defBody s__law_sides) (defScope s__law_sides) .none kV__law_sides dc__law_sides pm__law_sides an__law_sides cd__law_sides ct__law_sides), sl__law_sides⟩)
    (c__law_sides : PySem.W.codeIn K cd__law_sides "_law_sides" = true) (k__law_sides : PySem.W.keepIn K (.ref f__law_sides) = true)
    (a__law_rule_results : PySem.W.nsIn K mainGlobals "_law_rule_results" = some (some (.ref f__law_rule_results)))
    (l__law_rule_results : K.lookup f__law_rule_results = some ⟨oc__law_rule_results, od__law_rule_results, .func (PySem.W.fnOf "_law_rule_results" "_law_rule_results" (defArgs s__law_rule_results) (defBody s__law_rule_results) (defScope s__law_rule_results) .none kV__law_rule_results dc__law_rule_results pm__law_rule_results an__law_rule_results cd__law_rule_results ct__law_rule_results), sl__law_rule_results⟩)
    (c__law_rule_results : PySem.W.codeIn K cd__law_rule_results "_law_rule_results" = true) (k__law_rule_results : PySem.W.keepIn K (.ref f__law_rule_results) = true)
    (a__law_steps : PySem.W.nsIn K mainGlobals "_law_steps" = some (some (.ref f__law_steps)))
    (l__law_steps : K.lookup f__law_steps = some ⟨oc__law_steps, od__law_steps, .func (PySem.W.fnOf "_law_steps" "_law_steps" (defArgs s__law_steps) (defBody s__law_steps) (defScope s__law_steps) .none kV__law_steps dc__law_steps pm__law_steps an__law_steps cd__law_steps ct__law_steps), sl__law_steps⟩)
    (c__law_steps : PySem.W.codeIn K cd__law_steps "_law_steps" = true) (k__law_steps : PySem.W.keepIn K (.ref f__law_steps) = true)
    (a__law_down : PySem.W.nsIn K mainGlobals "_law_down" = some (some (.ref f__law_down)))
    (l__law_down : K.lookup f__law_down = some ⟨oc__law_down, od__law_down, .func (PySem.W.fnOf "_law_down" "_law_down" (defArgs s__law_down) (defBody s__law_down) (defScope s__law_down) .none kV__law_down dc__law_down pm__law_down an__law_down cd__law_down ct__law_down), sl__law_down⟩)
    (c__law_down : PySem.W.codeIn K cd__law_down "_law_down" = true) (k__law_down : PySem.W.keepIn K (.ref f__law_down) = true)
    (a__law_table : PySem.W.nsIn K mainGlobals "_law_table" = some (some (.ref f__law_table)))
    (l__law_table : K.lookup f__law_table = some ⟨oc__law_table, od__law_table, .func (PySem.W.fnOf "_law_table" "_law_table" (defArgs s__law_table) (defBody s__law_table) (defScope s__law_table) .none kV__law_table dc__law_table pm__law_table an__law_table cd__law_table ct__law_table), sl__law_table⟩)
    (c__law_table : PySem.W.codeIn K cd__law_table "_law_table" = true) (k__law_table : PySem.W.keepIn K (.ref f__law_table) = true)
    (a__law_worth : PySem.W.nsIn K mainGlobals "_law_worth" = some (some (.ref f__law_worth)))
    (l__law_worth : K.lookup f__law_worth = some ⟨oc__law_worth, od__law_worth, .func (PySem.W.fnOf "_law_worth" "_law_worth" (defArgs s__law_worth) (defBody s__law_worth) (defScope s__law_worth) .none kV__law_worth dc__law_worth pm__law_worth an__law_worth cd__law_worth ct__law_worth), sl__law_worth⟩)
    (c__law_worth : PySem.W.codeIn K cd__law_worth "_law_worth" = true) (k__law_worth : PySem.W.keepIn K (.ref f__law_worth) = true)
    (a__law_drawn_values : PySem.W.nsIn K mainGlobals "_law_drawn_values" = some (some (.ref f__law_drawn_values)))
    (l__law_drawn_values : K.lookup f__law_drawn_values = some ⟨oc__law_drawn_values, od__law_drawn_values, .func (PySem.W.fnOf "_law_drawn_values" "_law_drawn_values" (defArgs s__law_drawn_values) (defBody s__law_drawn_values) (defScope s__law_drawn_values) .none kV__law_drawn_values dc__law_drawn_values pm__law_drawn_values an__law_drawn_values cd__law_drawn_values ct__law_drawn_values), sl__law_drawn_values⟩)
    (c__law_drawn_values : PySem.W.codeIn K cd__law_drawn_values "_law_drawn_values" = true) (k__law_drawn_values : PySem.W.keepIn K (.ref f__law_drawn_values) = true)
    (a__law_drawn_form : PySem.W.nsIn K mainGlobals "_law_drawn_form" = some (some (.ref f__law_drawn_form)))
    (l__law_drawn_form : K.lookup f__law_drawn_form = some ⟨oc__law_drawn_form, od__law_drawn_form, .func (PySem.W.fnOf "_law_drawn_form" "_law_drawn_form" (defArgs s__law_drawn_form) (defBody s__law_drawn_form) (defScope s__law_drawn_form) .none kV__law_drawn_form dc__law_drawn_form pm__law_drawn_form an__law_drawn_form cd__law_drawn_form ct__law_drawn_form), sl__law_drawn_form⟩)
    (c__law_drawn_form : PySem.W.codeIn K cd__law_drawn_form "_law_drawn_form" = true) (k__law_drawn_form : PySem.W.keepIn K (.ref f__law_drawn_form) = true)
    (a__law_is_tied : PySem.W.nsIn K mainGlobals "_law_is_tied" = some (some (.ref f__law_is_tied)))
    (l__law_is_tied : K.lookup f__law_is_tied = some ⟨oc__law_is_tied, od__law_is_tied, .func (PySem.W.fnOf "_law_is_tied" "_law_is_tied" (defArgs s__law_is_tied) (defBody s__law_is_tied) (defScope s__law_is_tied) .none kV__law_is_tied dc__law_is_tied pm__law_is_tied an__law_is_tied cd__law_is_tied ct__law_is_tied), sl__law_is_tied⟩)
    (c__law_is_tied : PySem.W.codeIn K cd__law_is_tied "_law_is_tied" = true) (k__law_is_tied : PySem.W.keepIn K (.ref f__law_is_tied) = true)
    (a__law_right : PySem.W.nsIn K mainGlobals "_law_right" = some (some (.ref f__law_right)))
    (l__law_right : K.lookup f__law_right = some ⟨oc__law_right, od__law_right, .func (PySem.W.fnOf "_law_right" "_law_right" (defArgs s__law_right) (defBody s__law_right) (defScope s__law_right) .none kV__law_right dc__law_right pm__law_right an__law_right cd__law_right ct__law_right), sl__law_right⟩)
    (c__law_right : PySem.W.codeIn K cd__law_right "_law_right" = true) (k__law_right : PySem.W.keepIn K (.ref f__law_right) = true)
    (a__law_values_right : PySem.W.nsIn K mainGlobals "_law_values_right" = some (some (.ref f__law_values_right)))
    (l__law_values_right : K.lookup f__law_values_right = some ⟨oc__law_values_right, od__law_values_right, .func (PySem.W.fnOf "_law_values_right" "_law_values_right" (defArgs s__law_values_right) (defBody s__law_values_right) (defScope s__law_values_right) .none kV__law_values_right dc__law_values_right pm__law_values_right an__law_values_right cd__law_values_right ct__law_values_right), sl__law_values_right⟩)
    (c__law_values_right : PySem.W.codeIn K cd__law_values_right "_law_values_right" = true) (k__law_values_right : PySem.W.keepIn K (.ref f__law_values_right) = true)
    (a_law : PySem.W.nsIn K mainGlobals "law" = some (some (.ref f_law)))
    (l_law : K.lookup f_law = some ⟨oc_law, od_law, .func (PySem.W.fnOf "law" "law" (defArgs s_law) (defBody s_law) (defScope s_law) .none kV_law dc_law pm_law an_law cd_law ct_law), sl_law⟩)
    (c_law : PySem.W.codeIn K cd_law "law" = true) (k_law : PySem.W.keepIn K (.ref f_law) = true)
    : LamX.LawAtS l w K CX0 26 63 "script" mg fa h := by
  have T : Top K mg :=
    { abs := PySem.W.mg_none_of X G z_abs,
      dict := PySem.W.mg_none_of X G z_dict,
      enumerate := PySem.W.mg_none_of X G z_enumerate,
      int := PySem.W.mg_none_of X G z_int,
      isinstance := PySem.W.mg_none_of X G z_isinstance,
      len := PySem.W.mg_none_of X G z_len,
      list := PySem.W.mg_none_of X G z_list,
      max := PySem.W.mg_none_of X G z_max,
      min := PySem.W.mg_none_of X G z_min,
      range := PySem.W.mg_none_of X G z_range,
      set := PySem.W.mg_none_of X G z_set,
      sorted := PySem.W.mg_none_of X G z_sorted,
      str := PySem.W.mg_none_of X G z_str,
      tuple := PySem.W.mg_none_of X G z_tuple,
      LETTERS := ⟨_, PySem.W.mg_of X G v_LETTERS⟩,
      MAX_LETTERS := ⟨_, PySem.W.mg_of X G v_MAX_LETTERS⟩,
      STAR := ⟨_, PySem.W.mg_of X G v_STAR⟩,
      RULESa := R, r1 := r1, r2 := r2, r3 := r3, RULES := PySem.W.mg_of X G aR, t0 := mkTup lR (by show 3 ≤ sizeLine; decide) (.cons rfl (.cons rfl (.cons rfl .nil))),
      t1 := mkTup l1 (by show 2 ≤ sizeLine; decide) (.cons (relS (by decide)) (.cons (relS (by decide)) .nil)), t2 := mkTup l2 (by show 2 ≤ sizeLine; decide) (.cons (relS (by decide)) (.cons (relS (by decide)) .nil)), t3 := mkTup l3 (by show 2 ≤ sizeLine; decide) (.cons (relS (by decide)) (.cons (relS (by decide)) .nil)),
      is_letter := mkDf X G a_is_letter l_is_letter c_is_letter k_is_letter (fun _ _ _ _ _ _ us hl => match us, hl with | [_], _ => rfl),
      is_term := mkDf X G a_is_term l_is_term c_is_term k_is_term (fun _ _ _ _ _ _ us hl => match us, hl with | [_], _ => rfl),
      require_term := mkDf X G a_require_term l_require_term c_require_term k_require_term (fun _ _ _ _ _ _ us hl => match us, hl with | [_], _ => rfl),
      size_in := mkDf X G a_size_in l_size_in c_size_in k_size_in (fun _ _ _ _ _ _ us hl => match us, hl with | [_], _ => rfl),
      end_of := mkDf X G a_end_of l_end_of c_end_of k_end_of (fun _ _ _ _ _ _ us hl => match us, hl with | [_, _], _ => rfl),
      part_in := mkDf X G a_part_in l_part_in c_part_in k_part_in (fun _ _ _ _ _ _ us hl => match us, hl with | [_, _], _ => rfl),
      put_in := mkDf X G a_put_in l_put_in c_put_in k_put_in (fun _ _ _ _ _ _ us hl => match us, hl with | [_, _, _], _ => rfl),
      substituted_in := mkDf X G a_substituted_in l_substituted_in c_substituted_in k_substituted_in (fun _ _ _ _ _ _ us hl => match us, hl with | [_, _], _ => rfl),
      match_in := mkDf X G a_match_in l_match_in c_match_in k_match_in (fun _ _ _ _ _ _ us hl => match us, hl with | [_, _], _ => rfl),
      each_step := mkDf X G a_each_step l_each_step c_each_step k_each_step (fun _ _ _ _ _ _ us hl => match us, hl with | [_], _ => rfl),
      first_step := mkDf X G a_first_step l_first_step c_first_step k_first_step (fun _ _ _ _ _ _ us hl => match us, hl with | [_], _ => rfl),
      has_step := mkDf X G a_has_step l_has_step c_has_step k_has_step (fun _ _ _ _ _ _ us hl => match us, hl with | [_], _ => rfl),
      chain_from := mkDf X G a_chain_from l_chain_from c_chain_from k_chain_from (fun _ _ _ _ _ _ us hl => match us, hl with | [_], _ => rfl),
      form_in := mkDf X G a_form_in l_form_in c_form_in k_form_in (fun _ _ _ _ _ _ us hl => match us, hl with | [_], _ => rfl),
      form_of := mkDf X G a_form_of l_form_of c_form_of k_form_of (fun _ _ _ _ _ _ us hl => match us, hl with | [_], _ => rfl),
      require_terms := mkDf X G a_require_terms l_require_terms c_require_terms k_require_terms (fun _ _ _ _ _ _ us hl => match us, hl with | [_, _], _ => rfl),
      require_forms := mkDf X G a_require_forms l_require_forms c_require_forms k_require_forms (fun _ _ _ _ _ _ us hl => match us, hl with | [_, _], _ => rfl),
      require_room := mkDf X G a_require_room l_require_room c_require_room k_require_room (fun _ _ _ _ _ _ us hl => match us, hl with | [_], _ => rfl),
      between_forms := mkDf X G a_between_forms l_between_forms c_between_forms k_between_forms (fun _ _ _ _ _ _ us hl => match us, hl with | [_, _], _ => rfl),
      is_tied_form := mkDf X G a_is_tied_form l_is_tied_form c_is_tied_form k_is_tied_form (fun _ _ _ _ _ _ us hl => match us, hl with | [_, _], _ => rfl),
      _law_dice := mkDf X G a__law_dice l__law_dice c__law_dice k__law_dice (fun _ _ _ _ _ _ us hl => match us, hl with | [_, _], _ => rfl),
      _law_roll := mkDf X G a__law_roll l__law_roll c__law_roll k__law_roll (fun _ _ _ _ _ _ us hl => match us, hl with | [_, _], _ => rfl),
      _law_pick := mkDf X G a__law_pick l__law_pick c__law_pick k__law_pick (fun _ _ _ _ _ _ us hl => match us, hl with | [_, _], _ => rfl),
      _law_mixed := mkDf X G a__law_mixed l__law_mixed c__law_mixed k__law_mixed (fun _ _ _ _ _ _ us hl => match us, hl with | [_, _], _ => rfl),
      _law_power := mkDf X G a__law_power l__law_power c__law_power k__law_power (fun _ _ _ _ _ _ us hl => match us, hl with | [_, _], _ => rfl),
      _law_word_rows := mkDf X G a__law_word_rows l__law_word_rows c__law_word_rows k__law_word_rows (fun _ _ _ _ _ _ us hl => match us, hl with | [_, _], _ => rfl),
      _law_nine := mkDf X G a__law_nine l__law_nine c__law_nine k__law_nine (fun _ _ _ _ _ _ us hl => match us, hl with | [], _ => rfl),
      _law_columns := mkDf X G a__law_columns l__law_columns c__law_columns k__law_columns (fun _ _ _ _ _ _ us hl => match us, hl with | [_], _ => rfl),
      _law_renamed := mkDf X G a__law_renamed l__law_renamed c__law_renamed k__law_renamed (fun _ _ _ _ _ _ us hl => match us, hl with | [_, _], _ => rfl),
      _law_mates := mkDf X G a__law_mates l__law_mates c__law_mates k__law_mates (fun _ _ _ _ _ _ us hl => match us, hl with | [_, _, _], _ => rfl),
      _law_switch_classes := mkDf X G a__law_switch_classes l__law_switch_classes c__law_switch_classes k__law_switch_classes (fun _ _ _ _ _ _ us hl => match us, hl with | [_, _, _], _ => rfl),
      _law_switched := mkDf X G a__law_switched l__law_switched c__law_switched k__law_switched (fun _ _ _ _ _ _ us hl => match us, hl with | [_, _, _, _, _], _ => rfl),
      _law_some_switches := mkDf X G a__law_some_switches l__law_some_switches c__law_some_switches k__law_some_switches (fun _ _ _ _ _ _ us hl => match us, hl with | [_, _, _], _ => rfl),
      _law_named := mkDf X G a__law_named l__law_named c__law_named k__law_named (fun _ _ _ _ _ _ us hl => match us, hl with | [_, _], _ => rfl),
      _law_two := mkDf X G a__law_two l__law_two c__law_two k__law_two (fun _ _ _ _ _ _ us hl => match us, hl with | [_], _ => rfl),
      _law_grown_term := mkDf X G a__law_grown_term l__law_grown_term c__law_grown_term k__law_grown_term (fun _ _ _ _ _ _ us hl => match us, hl with | [_, _, _], _ => rfl),
      _law_part_of := mkDf X G a__law_part_of l__law_part_of c__law_part_of k__law_part_of (fun _ _ _ _ _ _ us hl => match us, hl with | [_, _], _ => rfl),
      _law_sides := mkDf X G a__law_sides l__law_sides c__law_sides k__law_sides (fun _ _ _ _ _ _ us hl => match us, hl with | [_], _ => rfl),
      _law_rule_results := mkDf X G a__law_rule_results l__law_rule_results c__law_rule_results k__law_rule_results (fun _ _ _ _ _ _ us hl => match us, hl with | [_], _ => rfl),
      _law_steps := mkDf X G a__law_steps l__law_steps c__law_steps k__law_steps (fun _ _ _ _ _ _ us hl => match us, hl with | [_], _ => rfl),
      _law_down := mkDf X G a__law_down l__law_down c__law_down k__law_down (fun _ _ _ _ _ _ us hl => match us, hl with | [_, _], _ => rfl),
      _law_table := mkDf X G a__law_table l__law_table c__law_table k__law_table (fun _ _ _ _ _ _ us hl => match us, hl with | [_], _ => rfl),
      _law_worth := mkDf X G a__law_worth l__law_worth c__law_worth k__law_worth (fun _ _ _ _ _ _ us hl => match us, hl with | [_, _, _], _ => rfl),
      _law_drawn_values := mkDf X G a__law_drawn_values l__law_drawn_values c__law_drawn_values k__law_drawn_values (fun _ _ _ _ _ _ us hl => match us, hl with | [_, _, _], _ => rfl),
      _law_drawn_form := mkDf X G a__law_drawn_form l__law_drawn_form c__law_drawn_form k__law_drawn_form (fun _ _ _ _ _ _ us hl => match us, hl with | [_, _], _ => rfl),
      _law_is_tied := mkDf X G a__law_is_tied l__law_is_tied c__law_is_tied k__law_is_tied (fun _ _ _ _ _ _ us hl => match us, hl with | [_, _, _], _ => rfl),
      _law_right := mkDf X G a__law_right l__law_right c__law_right k__law_right (fun _ _ _ _ _ _ us hl => match us, hl with | [_, _, _], _ => rfl),
      _law_values_right := mkDf X G a__law_values_right l__law_values_right c__law_values_right k__law_values_right (fun _ _ _ _ _ _ us hl => match us, hl with | [_, _, _], _ => rfl),
      law := mkDf X G a_law l_law c_law k_law (fun _ _ _ _ _ _ us hl => match us, hl with | [_], _ => rfl) }
  have e := hfa.symm.trans T.law.g
  cases e
  obtain ⟨oc, od, kV, doc, pm, an, cdv, ct, osl, hfd, lk, hcd⟩ := T.law.F.ex
  exact DL.lawAt (cs := []) (qn := fun _ => "") (fun p hp => nomatch hp) (fun p hp => nomatch hp) (fun p hp => nomatch hp) (fun s u => by rw [hfd]; exact .of_eq rfl)
    fun base _ _ _ => ok_law T
theorem walk {l : PySem.W.OpenLaw} {q : Program} {loose : List Str} {XP : (Str → Option Value) → Heap → Prop} {YP : World → Heap → Prop} {d : DefRec} {K : Params → PySem.W.Frag} (hn : l.most = some 63) (hdf : d.params.defaults = [])
    (hY : ∀ (w : World) (h : Heap), YP w h → (K w.params).In h)
    (F : ∀ (w : World) (mg : Str → Option Value) (fa : Addr) (h : Heap), (K w.params).In h → h.Ns mainGlobals mg → mg d.name = some (.ref fa) → LamX.LawAtS l w (K w.params) CX0 26 63 "script" mg fa h) :
    PySem.W.WalkO q loose XP YP l.row.toRowW d [] (fun f vs => PySem.call f vs) := by
  refine Att.attach_callB hn hdf fun w s₀ s₁ mg mb fa o pm cd doc a vs ns G Y ho hd hcd hmg hobj hints hlen hbits hg => ?_
  have KX := hY w _ Y
  obtain ⟨fd, cs, sp, hT, nT, C, hb, hsp, hF⟩ := F w mg fa _ KX G.T.g hmg
  exact LamX.law_callTs KX G.T.g G.T.b G.T.builtins G.T.nolimit hg hT nT C G.T.bmain hobj hints (Nat.le_trans hlen (by decide)) ⟨rfl, by decide, by decide⟩ hF hb (fun H hH hS => hsp H a ns hlen hbits hH hS) fun H e s' z => z
end LW
open PySem PySem.W PyProof.Rows
set_option maxRecDepth 100000 in
set_option maxHeartbeats 0 in
theorem PySem.Challenge.cw_onebetween_k80_whole_endless_web_of_form_holds : PySem.Challenge.rw_onebetween_k80_whole_endless_web_of_form.Holds := by
  w_on; o_law; k_head; (case hw => w_witness2)
  k_fill
  refine LW.walk (l := PySem.Challenge.rw_onebetween_k80_whole_endless_web_of_form) rfl rfl (fun w h Y => PySem.W.kIn_of Y) ?F
  case F =>
    intro w mg fa h KX G hmg
    refine' LW.fin KX G hmg ?z_abs ?z_dict ?z_enumerate ?z_int ?z_isinstance ?z_len ?z_list ?z_max ?z_min ?z_range ?z_set ?z_sorted ?z_str ?z_tuple ?v_LETTERS ?v_MAX_LETTERS ?v_STAR ?aR ?lR ?l1 ?l2 ?l3 ?a_is_letter ?l_is_letter ?c_is_letter ?k_is_letter ?a_is_term ?l_is_term ?c_is_term ?k_is_term ?a_require_term ?l_require_term ?c_require_term ?k_require_term ?a_size_in ?l_size_in ?c_size_in ?k_size_in ?a_end_of ?l_end_of ?c_end_of ?k_end_of ?a_part_in ?l_part_in ?c_part_in ?k_part_in ?a_put_in ?l_put_in ?c_put_in ?k_put_in ?a_substituted_in ?l_substituted_in ?c_substituted_in ?k_substituted_in ?a_match_in ?l_match_in ?c_match_in ?k_match_in ?a_each_step ?l_each_step ?c_each_step ?k_each_step ?a_first_step ?l_first_step ?c_first_step ?k_first_step ?a_has_step ?l_has_step ?c_has_step ?k_has_step ?a_chain_from ?l_chain_from ?c_chain_from ?k_chain_from ?a_form_in ?l_form_in ?c_form_in ?k_form_in ?a_form_of ?l_form_of ?c_form_of ?k_form_of ?a_require_terms ?l_require_terms ?c_require_terms ?k_require_terms ?a_require_forms ?l_require_forms ?c_require_forms ?k_require_forms ?a_require_room ?l_require_room ?c_require_room ?k_require_room ?a_between_forms ?l_between_forms ?c_between_forms ?k_between_forms ?a_is_tied_form ?l_is_tied_form ?c_is_tied_form ?k_is_tied_form ?a__law_dice ?l__law_dice ?c__law_dice ?k__law_dice ?a__law_roll ?l__law_roll ?c__law_roll ?k__law_roll ?a__law_pick ?l__law_pick ?c__law_pick ?k__law_pick ?a__law_mixed ?l__law_mixed ?c__law_mixed ?k__law_mixed ?a__law_power ?l__law_power ?c__law_power ?k__law_power ?a__law_word_rows ?l__law_word_rows ?c__law_word_rows ?k__law_word_rows ?a__law_nine ?l__law_nine ?c__law_nine ?k__law_nine ?a__law_columns ?l__law_columns ?c__law_columns ?k__law_columns ?a__law_renamed ?l__law_renamed ?c__law_renamed ?k__law_renamed ?a__law_mates ?l__law_mates ?c__law_mates ?k__law_mates ?a__law_switch_classes ?l__law_switch_classes ?c__law_switch_classes ?k__law_switch_classes ?a__law_switched ?l__law_switched ?c__law_switched ?k__law_switched ?a__law_some_switches ?l__law_some_switches ?c__law_some_switches ?k__law_some_switches ?a__law_named ?l__law_named ?c__law_named ?k__law_named ?a__law_two ?l__law_two ?c__law_two ?k__law_two ?a__law_grown_term ?l__law_grown_term ?c__law_grown_term ?k__law_grown_term ?a__law_part_of ?l__law_part_of ?c__law_part_of ?k__law_part_of ?a__law_sides ?l__law_sides ?c__law_sides ?k__law_sides ?a__law_rule_results ?l__law_rule_results ?c__law_rule_results ?k__law_rule_results ?a__law_steps ?l__law_steps ?c__law_steps ?k__law_steps ?a__law_down ?l__law_down ?c__law_down ?k__law_down ?a__law_table ?l__law_table ?c__law_table ?k__law_table ?a__law_worth ?l__law_worth ?c__law_worth ?k__law_worth ?a__law_drawn_values ?l__law_drawn_values ?c__law_drawn_values ?k__law_drawn_values ?a__law_drawn_form ?l__law_drawn_form ?c__law_drawn_form ?k__law_drawn_form ?a__law_is_tied ?l__law_is_tied ?c__law_is_tied ?k__law_is_tied ?a__law_right ?l__law_right ?c__law_right ?k__law_right ?a__law_values_right ?l__law_values_right ?c__law_values_right ?k__law_values_right ?a_law ?l_law ?c_law ?k_law
    (case z_abs => k_is)
    (case z_dict => k_is)
    (case z_enumerate => k_is)
    (case z_int => k_is)
    (case z_isinstance => k_is)
    (case z_len => k_is)
    (case z_list => k_is)
    (case z_max => k_is)
    (case z_min => k_is)
    (case z_range => k_is)
    (case z_set => k_is)
    (case z_sorted => k_is)
    (case z_str => k_is)
    (case z_tuple => k_is)
    (case v_LETTERS => k_is)
    (case v_MAX_LETTERS => k_is)
    (case v_STAR => k_is)
    (case aR => k_is)
    (case lR => k_is)
    (case l1 => k_is)
    (case l2 => k_is)
    (case l3 => k_is)
    (case a_is_letter => k_is)
    (case l_is_letter => k_is)
    (case c_is_letter => k_is)
    (case k_is_letter => k_is)
    (case a_is_term => k_is)
    (case l_is_term => k_is)
    (case c_is_term => k_is)
    (case k_is_term => k_is)
    (case a_require_term => k_is)
    (case l_require_term => k_is)
    (case c_require_term => k_is)
    (case k_require_term => k_is)
    (case a_size_in => k_is)
    (case l_size_in => k_is)
    (case c_size_in => k_is)
    (case k_size_in => k_is)
    (case a_end_of => k_is)
    (case l_end_of => k_is)
    (case c_end_of => k_is)
    (case k_end_of => k_is)
    (case a_part_in => k_is)
    (case l_part_in => k_is)
    (case c_part_in => k_is)
    (case k_part_in => k_is)
    (case a_put_in => k_is)
    (case l_put_in => k_is)
    (case c_put_in => k_is)
    (case k_put_in => k_is)
    (case a_substituted_in => k_is)
    (case l_substituted_in => k_is)
    (case c_substituted_in => k_is)
    (case k_substituted_in => k_is)
    (case a_match_in => k_is)
    (case l_match_in => k_is)
    (case c_match_in => k_is)
    (case k_match_in => k_is)
    (case a_each_step => k_is)
    (case l_each_step => k_is)
    (case c_each_step => k_is)
    (case k_each_step => k_is)
    (case a_first_step => k_is)
    (case l_first_step => k_is)
    (case c_first_step => k_is)
    (case k_first_step => k_is)
    (case a_has_step => k_is)
    (case l_has_step => k_is)
    (case c_has_step => k_is)
    (case k_has_step => k_is)
    (case a_chain_from => k_is)
    (case l_chain_from => k_is)
    (case c_chain_from => k_is)
    (case k_chain_from => k_is)
    (case a_form_in => k_is)
    (case l_form_in => k_is)
    (case c_form_in => k_is)
    (case k_form_in => k_is)
    (case a_form_of => k_is)
    (case l_form_of => k_is)
    (case c_form_of => k_is)
    (case k_form_of => k_is)
    (case a_require_terms => k_is)
    (case l_require_terms => k_is)
    (case c_require_terms => k_is)
    (case k_require_terms => k_is)
    (case a_require_forms => k_is)
    (case l_require_forms => k_is)
    (case c_require_forms => k_is)
    (case k_require_forms => k_is)
    (case a_require_room => k_is)
    (case l_require_room => k_is)
    (case c_require_room => k_is)
    (case k_require_room => k_is)
    (case a_between_forms => k_is)
    (case l_between_forms => k_is)
    (case c_between_forms => k_is)
    (case k_between_forms => k_is)
    (case a_is_tied_form => k_is)
    (case l_is_tied_form => k_is)
    (case c_is_tied_form => k_is)
    (case k_is_tied_form => k_is)
    (case a__law_dice => k_is)
    (case l__law_dice => k_is)
    (case c__law_dice => k_is)
    (case k__law_dice => k_is)
    (case a__law_roll => k_is)
    (case l__law_roll => k_is)
    (case c__law_roll => k_is)
    (case k__law_roll => k_is)
    (case a__law_pick => k_is)
    (case l__law_pick => k_is)
    (case c__law_pick => k_is)
    (case k__law_pick => k_is)
    (case a__law_mixed => k_is)
    (case l__law_mixed => k_is)
    (case c__law_mixed => k_is)
    (case k__law_mixed => k_is)
    (case a__law_power => k_is)
    (case l__law_power => k_is)
    (case c__law_power => k_is)
    (case k__law_power => k_is)
    (case a__law_word_rows => k_is)
    (case l__law_word_rows => k_is)
    (case c__law_word_rows => k_is)
    (case k__law_word_rows => k_is)
    (case a__law_nine => k_is)
    (case l__law_nine => k_is)
    (case c__law_nine => k_is)
    (case k__law_nine => k_is)
    (case a__law_columns => k_is)
    (case l__law_columns => k_is)
    (case c__law_columns => k_is)
    (case k__law_columns => k_is)
    (case a__law_renamed => k_is)
    (case l__law_renamed => k_is)
    (case c__law_renamed => k_is)
    (case k__law_renamed => k_is)
    (case a__law_mates => k_is)
    (case l__law_mates => k_is)
    (case c__law_mates => k_is)
    (case k__law_mates => k_is)
    (case a__law_switch_classes => k_is)
    (case l__law_switch_classes => k_is)
    (case c__law_switch_classes => k_is)
    (case k__law_switch_classes => k_is)
    (case a__law_switched => k_is)
    (case l__law_switched => k_is)
    (case c__law_switched => k_is)
    (case k__law_switched => k_is)
    (case a__law_some_switches => k_is)
    (case l__law_some_switches => k_is)
    (case c__law_some_switches => k_is)
    (case k__law_some_switches => k_is)
    (case a__law_named => k_is)
    (case l__law_named => k_is)
    (case c__law_named => k_is)
    (case k__law_named => k_is)
    (case a__law_two => k_is)
    (case l__law_two => k_is)
    (case c__law_two => k_is)
    (case k__law_two => k_is)
    (case a__law_grown_term => k_is)
    (case l__law_grown_term => k_is)
    (case c__law_grown_term => k_is)
    (case k__law_grown_term => k_is)
    (case a__law_part_of => k_is)
    (case l__law_part_of => k_is)
    (case c__law_part_of => k_is)
    (case k__law_part_of => k_is)
    (case a__law_sides => k_is)
    (case l__law_sides => k_is)
    (case c__law_sides => k_is)
    (case k__law_sides => k_is)
    (case a__law_rule_results => k_is)
    (case l__law_rule_results => k_is)
    (case c__law_rule_results => k_is)
    (case k__law_rule_results => k_is)
    (case a__law_steps => k_is)
    (case l__law_steps => k_is)
    (case c__law_steps => k_is)
    (case k__law_steps => k_is)
    (case a__law_down => k_is)
    (case l__law_down => k_is)
    (case c__law_down => k_is)
    (case k__law_down => k_is)
    (case a__law_table => k_is)
    (case l__law_table => k_is)
    (case c__law_table => k_is)
    (case k__law_table => k_is)
    (case a__law_worth => k_is)
    (case l__law_worth => k_is)
    (case c__law_worth => k_is)
    (case k__law_worth => k_is)
    (case a__law_drawn_values => k_is)
    (case l__law_drawn_values => k_is)
    (case c__law_drawn_values => k_is)
    (case k__law_drawn_values => k_is)
    (case a__law_drawn_form => k_is)
    (case l__law_drawn_form => k_is)
    (case c__law_drawn_form => k_is)
    (case k__law_drawn_form => k_is)
    (case a__law_is_tied => k_is)
    (case l__law_is_tied => k_is)
    (case c__law_is_tied => k_is)
    (case k__law_is_tied => k_is)
    (case a__law_right => k_is)
    (case l__law_right => k_is)
    (case c__law_right => k_is)
    (case k__law_right => k_is)
    (case a__law_values_right => k_is)
    (case l__law_values_right => k_is)
    (case c__law_values_right => k_is)
    (case k__law_values_right => k_is)
    (case a_law => k_is)
    (case l_law => k_is)
    (case c_law => k_is)
    (case k_law => k_is)
#print axioms PySem.Challenge.cw_onebetween_k80_whole_endless_web_of_form_holds

end
