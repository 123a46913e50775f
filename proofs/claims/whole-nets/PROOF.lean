import PyProof.Rows.All
import Wide.All
import OpenK.AllK
import Wide.FinOn
import HandS.ForMost
import HandS.AnyAll
import HandS.GenList
import HandS.Star
import HandS.IsInst
import HandS.DictComp
import HandS.Deep
import HandS.Conv
import HandS.Zip
import KE.KDictDisplayH
import KE.GoesEnum
import KE.DataMinMax
import KE.SortCalls
import KE.KEqSeq
import HandS.SortOrd
import HandS.Style
import HandS.Flow
import HandS.TupAny
import HandS.EndOwn
import HandS.WordsExc
import PySem.Challenge.RW_firstthere_k21_whole_nets
import HandS.WordsDict
import HandS.WordsList
import HandS.SetFor
import HandS.Walk
set_option Elab.async false
set_option linter.all false
set_option maxRecDepth 100000
set_option maxHeartbeats 2000000
namespace NX
open PySem PySem.Spec PyProof.Rows L2

/-- the context of a generator expression's frame, begun at s with the abstract heap H -/
abbrev genCx (X : Cx) (A' : Around) (s : Shared) (H : Hp) (cenv : Env) (fp : List Addr) : Cx :=
  { X with A := A', s_0 := s, H_0 := H, env := cenv, outer := X.stack, stack := cenv :: X.stack, ex := fp, fn := fun _ => false, calm := true, pn := [], xe := fun _ _ => False }

/-- the scope of a generator expression: as a comprehension's block, without cells of its own -/
structure GScp (N : List Str) (sc scope : Scope) (own : List (Str × Nat)) : Prop where
  blk : BlkOk N sc scope own
  co : scope.isCoroutine = false
  cell : ∀ y ∈ scope.names, y.2 ≠ .cell
  dot : scope.names.lookup (".0" : Str) = some NameKind.local

section
variable {X : Cx} {pins : List (Addr × Obj)} {σ : L2.St} {H : Hp} {s : Shared}
/-- the generator's frame stands at C = the heap's end: its context holds -/
theorem gen_start {A' : Around} {scope : Scope} {own : List (Str × Nat)} {fp : List Addr} {code : Value} {h5 : Heap} {g5 : Array GenState} {t5 : Nat} {m5 : Str → Option Value}
    (I : Inv X pins σ H s) (ok : GScp X.N X.env.scope scope own) (hN : X.N.Nodup) (hfp : ∀ b ∈ fp, FpOk X pins H b ∧ b < s.heap.objs.size)
    (hA : A'.handled = none) (hF : A'.frames = some (genEnv scope (cloFrom X.env.cells scope.names []) s.heap.objs.size code builtinsNs X.env :: X.stack))
    (kp : ∀ b o, s.heap.get? b = some o → h5.get? b = some o) (hn5 : h5.Ns s.heap.objs.size m5) (hg5 : AllBare g5) :
    Inv (genCx X A' s H (genEnv scope (cloFrom X.env.cells scope.names []) s.heap.objs.size code builtinsNs X.env) fp) [] (wipe σ (own.map (·.2))) H { s with heap := h5, gens := g5, toks := t5 } := by
  have okb := ok.blk
  have hfree : ∀ y ∈ scope.names, y.2 = .free → ∃ c, X.env.cells.lookup y.1 = some c := fun y hy e => by
    rcases okb.free y hy e with k | k
    · exact I.ok.has _ (.inl k)
    · exact I.ok.has _ (.inr k)
  generalize hcenv : genEnv scope (cloFrom X.env.cells scope.names []) s.heap.objs.size code builtinsNs X.env = cenv at hF
  have hL : cenv.locals = s.heap.objs.size := by rw [← hcenv]; rfl
  have hcl : cenv.cells = cloFrom X.env.cells scope.names [] := by rw [← hcenv]; rfl
  have hsc : cenv.scope = scope := by rw [← hcenv]; rfl
  have hfr : cenv.frame = some cenv.locals := by rw [← hcenv]; rfl
  have cm : ∀ {y c}, (y, c) ∈ cloFrom X.env.cells scope.names [] → X.env.cells.lookup y = some c ∧ c < s.heap.objs.size := fun {y c} hm => by
    rcases cloFrom_mem hm with hm | ⟨h1, rfl⟩
    · cases hm
    · obtain ⟨c, hc⟩ := hfree _ h1 rfl
      rw [hc]
      obtain ⟨w, z⟩ := I.cell _ _ hc
      exact ⟨rfl, z.lt⟩
  have mem : ∀ {y c}, cenv.cells.lookup y = some c → X.env.cells.lookup y = some c ∧ c < s.heap.objs.size := fun {y c} e => by
    rw [hcl] at e
    exact cm (PySem.mem_of_lookup e)
  have look : ∀ {y}, scope.names.lookup y = some .free → ∃ c, cenv.cells.lookup y = some c ∧ X.env.cells.lookup y = some c := fun {y} hl => by
    have hy : (y, NameKind.free) ∈ scope.names := PySem.mem_of_lookup hl
    obtain ⟨c', e'⟩ := mem_lookup (cloFrom_has (cells := X.env.cells) (acc := []) hy)
    rw [← hcl] at e'
    exact ⟨c', e', (mem e').1⟩
  have okB : (genCx X A' s H cenv fp).Ok := by
    refine ⟨I.ok.mod, by show cenv.scope.kind = _; rw [hsc]; exact okb.kind, by show cenv.globals = _; rw [← hcenv]; exact I.ok.glob, by show cenv.builtins = _; rw [← hcenv]; rfl, by show s.heap.objs.size ≤ cenv.locals; rw [hL]; exact Nat.le_refl _,
      fun y z c e1 e2 => ?_, fun y hy => ?_, fun y c z e => ?_, fun _ => hA, hF, .inr ⟨rfl, hfr⟩, fun b hb => ⟨?_, fun y c e z => ?_⟩, I.bs, Nat.le_trans I.ok.bsz I.sz, fun b o e hb => ?_, fun b hb z => ?_, I.stack, I.stkFree⟩
    · exact I.ok.inj y z c (mem (show cenv.cells.lookup y = some c from e1)).1 (mem (show cenv.cells.lookup z = some c from e2)).1
    · show ∃ c, cenv.cells.lookup y = some c
      have hy : cenv.scope.names.lookup y = some .cell ∨ cenv.scope.names.lookup y = some .free := hy
      rw [hsc] at hy
      rcases hy with hy | hy
      · exact absurd rfl (ok.cell _ (PySem.mem_of_lookup hy))
      · obtain ⟨c, h1, _⟩ := look hy
        exact ⟨c, h1⟩
    · exact absurd (show false = true from z) Bool.false_ne_true
    · show b ≠ cenv.locals
      rw [hL]; exact Nat.ne_of_lt (hfp b hb).2
    · exact (hfp b hb).1.2.2.2.2.1 y c (mem (show cenv.cells.lookup y = some c from e)).1 z
    · rcases (hfp b hb).1.2.2.2.1 with z | z
      · exact I.ok.noex b o e z
      · exact absurd (Nat.lt_of_lt_of_le (Heap.lt_size e) (Nat.le_trans I.ok.bsz z)) (Nat.lt_irrefl _)
    · rcases List.mem_cons.mp (I.stkSub b z) with z | z
      · exact (hfp b hb).1.2.1 z
      · exact (hfp b hb).1.2.2.1 z
  refine ⟨okB, rfl, hg5, Un.kept kp, ⟨m5, by show h5.Ns cenv.locals m5; rw [hL]; exact hn5, fun i y av e1 e2 e3 => ?_⟩, fun y c e => ?_, ?_, fun y c e => ?_, fun p hp => ?_, I.hok.kept kp, by rw [wipe_length]; exact I.len⟩
  · obtain ⟨e2, hne⟩ := wipe_some e2
    have e3 : Vis scope y := by
      have e3' : Vis cenv.scope y := e3
      rw [hsc] at e3'
      exact e3'
    have hfr2 : scope.names.lookup y = some .free := by
      rcases e3 with e3 | e3 | e3
      · rcases okb.own _ (PySem.mem_of_lookup e3) (.inl rfl) with e' | e'
        · obtain ⟨p, hp, hpy⟩ := List.mem_map.mp e'
          have e4 := okb.ix p hp
          have : p.1 = y := hpy
          rw [this] at e4
          exact absurd (List.mem_map.mpr ⟨p, hp, nodup_ix hN e4 e1⟩) hne
        · exact absurd (List.mem_of_getElem? e1) e'
      · exact absurd rfl (ok.cell _ (PySem.mem_of_lookup e3))
      · exact e3
    obtain ⟨m, hn, hl⟩ := I.loc
    have hvis : Vis X.env.scope y := (okb.free _ (PySem.mem_of_lookup hfr2) rfl).elim (fun k => .inr (.inl k)) (fun k => .inr (.inr k))
    obtain ⟨w, r, q⟩ := hl i y av e1 e2 hvis
    obtain ⟨c, h1, h2⟩ := look hfr2
    refine ⟨w, r, .inr ⟨.inr ?_, c, h1, ?_⟩⟩
    · show cenv.scope.names.lookup y = some .free
      rw [hsc]; exact hfr2
    rcases q with ⟨k, _⟩ | ⟨_, c', e', z⟩
    · have k : X.env.scope.names.lookup y = some .local := k
      rcases okb.free _ (PySem.mem_of_lookup hfr2) rfl with k' | k' <;> rw [show X.env.scope.names.lookup y = _ from k'] at k <;> cases k
    · rw [h2] at e'; cases e'
      exact z.keeps kp
  · obtain ⟨h1, _⟩ := mem (show cenv.cells.lookup y = some c from e)
    obtain ⟨w, z⟩ := I.cell y c h1
    exact ⟨w, z.keeps kp⟩
  · show H cenv.locals = none
    rw [hL]; exact I.hok.fresh (Nat.le_refl _)
  · exact I.freeC y c (mem (show cenv.cells.lookup y = some c from e)).1
  · exact absurd (show p ∈ ([] : List (Addr × Obj)) ++ [] from hp) (by simp)
end
end NX
set_option Elab.async false
set_option linter.all false
set_option maxRecDepth 100000
set_option maxHeartbeats 2000000
namespace NX
open PySem PySem.Spec PyProof.Rows L2

/-- the generator rests: its own object and the consumer's cells CS stand apart from all that its frame knows -/
def Hold (G : Cx) (CS : List Addr) (a : Addr) (go : Obj) (σ : L2.St) (H : Hp) (s : Shared) : Prop :=
  Inv G ((a, go) :: pinsAt CS s.heap) σ H s ∧ ∀ b ∈ CS, ∃ o, s.heap.get? b = some o ∧ ∀ v, o.data ≠ .cell v

/-- what the consumer's cells must be apart from -/
structure CApart (G : Cx) (CS fp : List Addr) (a : Addr) : Prop where
  yng : ∀ b ∈ CS, G.s_0.heap.objs.size ≤ b
  loc : ∀ b ∈ CS, b ≠ G.env.locals
  cel : ∀ b ∈ CS, ∀ x c, G.env.cells.lookup x = some c → c ≠ b
  gen : ∀ b ∈ CS, b ≠ a
  itr : ∀ b ∈ CS, b ∉ fp
  gfp : a ∉ fp
  pn : G.pn = []

theorem pinsAt_same {CS : List Addr} {h h' : Heap} (e : ∀ b ∈ CS, ∃ o, h.get? b = some o) (k : ∀ b ∈ CS, ∀ o, h.get? b = some o → h'.get? b = some o) : pinsAt CS h' = pinsAt CS h := by
  unfold pinsAt
  induction CS with
  | nil => rfl
  | cons b r ih =>
    obtain ⟨o, ho⟩ := e b List.mem_cons_self
    rw [List.filterMap_cons, List.filterMap_cons, ho, k b List.mem_cons_self o ho]
    rw [ih (fun c hc => e c (List.mem_cons_of_mem _ hc)) (fun c hc => k c (List.mem_cons_of_mem _ hc))]

section
variable {G : Cx} {CS fp : List Addr} {a : Addr} {go : Obj} {σ : L2.St} {H : Hp} {s s' : Shared}
theorem Hold.gen (h : Hold G CS a go σ H s) : s.heap.get? a = some go := (h.1.pin (a, go) (List.mem_append_right _ List.mem_cons_self)).1
theorem Hold.free (h : Hold G CS a go σ H s) : ∀ b ∈ CS, H b = none ∧ b ∉ G.fs := fun b hb => by
  obtain ⟨o, ho, hd⟩ := h.2 b hb
  have q := h.1.pin (b, o) (List.mem_append_right _ (List.mem_cons_of_mem _ (mem_pinsAt hb ho)))
  exact ⟨q.2.1, q.2.2.2.1⟩
/-- within a run: the cells stand as they stood -/
theorem Hold.of_run {s₀ : Shared} {pl : List (Addr × Obj)} (I : Inv G (((a, go) :: pinsAt CS s₀.heap) ++ pl) σ H s) (h0 : ∀ b ∈ CS, ∃ o, s₀.heap.get? b = some o ∧ ∀ v, o.data ≠ .cell v) :
    Hold G CS a go σ H s ∧ ∀ b ∈ CS, ∀ o, s₀.heap.get? b = some o → s.heap.get? b = some o := by
  have J : Inv G ((a, go) :: pinsAt CS s₀.heap) σ H s := I.unpinned
  have k : ∀ b ∈ CS, ∀ o, s₀.heap.get? b = some o → s.heap.get? b = some o := fun b hb o ho =>
    (J.pin (b, o) (List.mem_append_right _ (List.mem_cons_of_mem _ (mem_pinsAt hb ho)))).1
  refine ⟨⟨?_, fun b hb => ?_⟩, k⟩
  · rw [pinsAt_same (fun b hb => let ⟨o, ho, _⟩ := h0 b hb; ⟨o, ho⟩) k]
    exact J
  · obtain ⟨o, ho, hd⟩ := h0 b hb
    exact ⟨o, k b hb o ho, hd⟩
/-- the consumer has moved: only its own cells have changed -/
theorem Hold.moved (h : Hold G CS a go σ H s) (A : CApart G CS fp a) (os : s'.os = s.os) (bare : AllBare s'.gens) (k : ∀ b o, b ∉ CS → s.heap.get? b = some o → s'.heap.get? b = some o)
    (hc : ∀ b ∈ CS, ∃ o, s'.heap.get? b = some o ∧ ∀ v, o.data ≠ .cell v) : Hold G CS a go σ H s' := by
  have fr := h.free
  have hol := h.2
  obtain ⟨I, _⟩ := h
  have I0 : Inv G [(a, go)] σ H s := I.pins_of fun p hp => I.pin p (List.mem_append_right _ (by rw [List.mem_singleton.mp hp]; exact List.mem_cons_self))
  have nt : ∀ b u, H b = some u → b ∉ CS := fun b u q hb => by rw [(fr b hb).1] at q; cases q
  have nL : G.env.locals ∉ CS := fun z => A.loc _ z rfl
  obtain ⟨hh, g, d, t, o⟩ := s'
  have ho : o = s.os := os
  subst ho
  have J : Inv G [(a, go)] σ H { s with heap := hh, gens := g, drawn := d, toks := t } := by
    refine I0.step (g' := g) (t' := t) (d' := d) (ch := CS) (fun b hb => ?_)
      (fun b ob _ _ hc q _ => k b ob hc q) (fun b ob _ _ hc q _ => ⟨ob.slots, k b ob hc q⟩) (fun _ _ _ _ n => n) (fun b ob hc q => ⟨ob, k b ob hc q⟩)
      (fun _ _ q => q) (fun _ _ _ q => q) (fun b ps q => ⟨#[], by rw [q]; simp⟩) (fun m hm => ?_) (fun b u q => ?_) bare
    · refine ⟨.inr (A.yng b hb), A.loc b hb, A.cel b hb, fun p hp => ?_⟩
      rw [A.pn, List.nil_append, List.mem_singleton] at hp
      rw [hp]
      exact fun z => A.gen b hb z.symm
    · obtain ⟨ob, es, ep, ho, r⟩ := hm
      exact ⟨ob, es, ep, k _ ob nL ho, r⟩
    · refine (I0.hok b u q).stay (fun c v hc y => k c v ?_ y) (fun _ y => y) fun _ _ y => y
      rcases hc with y | y
      · rw [y]; exact nt b u q
      · exact nt c _ y
  refine ⟨J.pins_of fun p hp => ?_, hc⟩
  rcases List.mem_cons.mp hp with hp | hp
  · rw [hp]
    exact J.pin (a, go) (List.mem_append_right _ List.mem_cons_self)
  · obtain ⟨hb, e⟩ := of_pinsAt hp
    obtain ⟨o2, e2, d2⟩ := hc p.1 hb
    have e' : hh.get? p.1 = some p.2 := e
    have e2' : hh.get? p.1 = some o2 := e2
    rw [e'] at e2'
    cases e2'
    exact ⟨e', (fr p.1 hb).1, A.loc p.1 hb, (fr p.1 hb).2, d2⟩
end

section
variable {α : Type} (G : Cx) (CS fp : List Addr) (a : Addr) (go : Obj) (σ0 : L2.St) (enc : α → Shared → Prop) (W : Nat → Nat → α → Hp → Prop) (Yc : Nat → Nat → α → V → Hp → Prop) (Fn : α → Hp → Prop)
/-- an item is handed out; how the consumer wakes the generator again -/
def GP : Protocol := fun n s₀ v s kap => ∃ (i m : Nat) (x : α) (y : V) (H : Hp), m ≤ n ∧ RelV y v ∧ enc x s ∧ Hold G CS a go σ0 H s ∧ (∀ b ∈ CS, ∀ o, s₀.heap.get? b = some o → s.heap.get? b = some o) ∧ Yc i m x y H ∧
  ∀ (s'' : Shared) (x' : α) (m' : Nat), m' < m → W (i + 1) m' x' H → enc x' s'' → s''.os = s.os → AllBare s''.gens → (∀ b o, b ∉ CS → s.heap.get? b = some o → s''.heap.get? b = some o) →
    (∀ b ∈ CS, ∃ o, s''.heap.get? b = some o ∧ ∀ v, o.data ≠ .cell v) → kap (.send .none) s''
/-- nothing is left -/
def GEnd (s₀ s : Shared) : Prop := ∃ (x : α) (H : Hp), enc x s ∧ Hold G CS a go σ0 H s ∧ (∀ b ∈ CS, ∀ o, s₀.heap.get? b = some o → s.heap.get? b = some o) ∧ Fn x H
end

section
variable {α : Type} {G : Cx} {CS fp : List Addr} {a it : Addr} {go : Obj} {σ0 : L2.St} {enc : α → Shared → Prop} {W : Nat → Nat → α → Hp → Prop} {Yc : Nat → Nat → α → V → Hp → Prop} {Fn : α → Hp → Prop}
variable {A : Around} {elt tg iter : Expr} {scope : Scope} {pos : Pos} {J : It} {tn : Nat → Heap → Prop} {g : TG} {te : TE} {vs : List Nat}
abbrev loopC (elt tg iter : Expr) (scope : Scope) (pos : Pos) (it : Addr) (cenv : Env) : Code := .compLoop (.GeneratorExp elt [⟨tg, iter, [], 0⟩] scope pos) 0 (.ref it) .none cenv
abbrev startC (elt tg iter : Expr) (scope : Scope) (pos : Pos) (it : Addr) (cenv : Env) : Code := .compStart (.GeneratorExp elt [⟨tg, iter, [], 0⟩] scope pos) 0 (.ref it) .none cenv

theorem seg_loop (hGA : A.over (loopC elt tg iter scope pos it G.env) [] = G.A) (hc : G.calm = true) (hxe : G.xe = fun _ _ => False) (hco : G.env.scope.isCoroutine = false) (Ap : CApart G CS fp a)
    (T : Turn G.prog G.w G.K tg J fp it tn) (hfe : ∀ b ∈ fp, b ∈ G.ex) (hg : PG G tg g) (he : PE G elt te)
    (henc : ∀ x s s', (∀ b ∈ CS, ∀ o, s.heap.get? b = some o → s'.heap.get? b = some o) → enc x s → enc x s')
    (turn : ∀ i m x H, W i m x H → (J.stop i H ∧ Fn x H) ∨ (J.go i H ∧ ∀ v H', J.yld i H v H' → g v σ0 H' fun σ2 H2 => wipe σ2 vs = σ0 ∧ te σ2 H2 fun y H3 => Yc i m x y H3)) :
    ∀ (N i m : Nat) (x : α) (H : Hp) (s₀ s : Shared), m < N → W i m x H → enc x s → Hold G CS a go σ0 H s → (∀ b ∈ CS, ∀ o, s₀.heap.get? b = some o → s.heap.get? b = some o) → tn i s.heap → (∀ b ∈ fp, H b = none) →
      Seg (model G.prog G.w) A (fun _ s₀ r s => r = .ok .next ∧ GEnd G CS a go σ0 enc Fn s₀ s) (GP G CS a go σ0 enc W Yc) N s₀ (loopC elt tg iter scope pos it G.env) ((model G.prog G.w).den (loopC elt tg iter scope pos it G.env)) [] s := by
  intro N
  induction N with
  | zero => intro i m x H s₀ s hm; exact absurd hm (Nat.not_lt_zero _)
  | succ N ih =>
    intro i m x H s₀ s hm hW hen hH hsame st fr
    have stat : ∀ {H' : Hp}, (∀ b ∈ fp, H' b = none) → ∀ b ∈ fp, FpOk G ((a, go) :: pinsAt CS s.heap) H' b := fun {H'} hn b hb =>
      ⟨hn b hb, (hH.1.ok.exf b (hfe b hb)).1, hH.1.ok.exfs b (hfe b hb), .inl (hfe b hb), fun y c e => (hH.1.ok.exf b (hfe b hb)).2 y c e, fun p hp => by
        rw [Ap.pn, List.nil_append] at hp
        rcases List.mem_cons.mp hp with hp | hp
        · rw [hp]; exact fun z => Ap.gfp (by rw [show a = b from z]; exact hb)
        · exact fun z => Ap.itr p.1 (of_pinsAt hp).1 (by rw [z]; exact hb)⟩
    have run : ∀ {pl : List (Addr × Obj)} {σ : L2.St} {H' : Hp} {s' : Shared}, Inv G (((a, go) :: pinsAt CS s.heap) ++ pl) σ H' s' → Hold G CS a go σ H' s' ∧ ∀ b ∈ CS, ∀ o, s.heap.get? b = some o → s'.heap.get? b = some o := fun I => Hold.of_run I hH.2
    have no : ∀ (e : Value) (s' : Shared), False → Seg (model G.prog G.w) A (fun _ s₀ r s => r = .ok .next ∧ GEnd G CS a go σ0 enc Fn s₀ s) (GP G CS a go σ0 enc W Yc) (N + 1) s₀ (loopC elt tg iter scope pos it G.env) (.raise e) [] s' := fun _ _ z => z.elim
    show Seg _ A _ _ _ s₀ _ ((compTurn (.GeneratorExp elt [⟨tg, iter, [], 0⟩] scope pos) 0 (.ref it) .none G.env).onRaise (leaving G.env)) [] s
    rw [compTurn_gen, Sem.onRaise_eq_wrap]
    refine seg_bind_wrap (wpAny_standAt ?_)
    rcases turn i m x H hW with ⟨stop, fin⟩ | ⟨gon, step⟩
    · refine seg_bind_wrap ?_
      rw [hGA]
      refine wpAny_mono (T.done G rfl rfl rfl hc i _ s σ0 H (fun _ _ => False) hH.1 (stat fr) st stop) (fun r s' hr => ?_) (fun _ _ z => z.elim)
      obtain ⟨rfl, I'⟩ := hr
      have I'' : Inv G (((a, go) :: pinsAt CS s.heap) ++ []) σ0 H s' := by rw [List.append_nil]; exact I'
      obtain ⟨h1, h2⟩ := run I''
      exact seg_end (.ok .next) ⟨rfl, x, H, henc x s s' h2 hen, h1, fun b hb o e => h2 b hb o (hsame b hb o e), fin⟩
    · refine seg_bind_wrap ?_
      rw [hGA]
      refine wpAny_mono (T.item G rfl rfl rfl hc i _ s σ0 H (fun _ _ => False) hH.1 (stat fr) st gon) (fun r s1 hr => ?_) (fun _ _ z => z.elim)
      obtain ⟨u, rfl, h1⟩ := hr
      refine seg_bind_wrap ?_
      rw [hGA]
      refine wpAny_mono h1 (fun _ s2 h2 => ?_) (fun _ _ z => z.elim)
      obtain ⟨v, H2, I2, r2, y2, st2, f2⟩ := h2
      have I2' := I2.pinned (stat f2) (T.obj _ _ st2)
      refine seg_bind_wrap ?_
      rw [hGA]
      refine wpAny_mono (hg.run _ s2 σ0 H2 v u _ I2' r2 (step v H2 y2)) (fun _ s3 h3 => ?_) (fun _ _ z => by rw [hxe] at z; exact z.elim)
      obtain ⟨σ3, H3, I3, hw3, q3⟩ := h3
      simp only [List.forIn_nil]
      refine seg_bind_wrap (wpAny_pure ?_)
      simp only [if_true]
      have hy : ∀ v, yieldOut G.env v = yieldValue v := fun v => by simp only [yieldOut, hco, Bool.false_eq_true, if_false]
      simp only [hy]
      rw [Sem.bind_eq_wrap', Sem.bind_eq_wrap', Sem.wrap_wrap, Sem.wrap_wrap]
      refine seg_wrap ?_
      rw [hGA]
      refine wpAny_mono (he.run _ s3 σ3 H3 _ I3 q3) (fun w s4 h4 => ?_) (fun _ _ z => by rw [hxe] at z; exact z.elim)
      obtain ⟨y, H4, I4, r4, q4⟩ := h4
      have pin4 : ∀ b ∈ fp, ∀ o, s2.heap.get? b = some o → s4.heap.get? b = some o ∧ H4 b = none := fun b hb o e =>
        let z := I4.pin (b, o) (List.mem_append_right _ (List.mem_append_right _ (mem_pinsAt hb e)))
        ⟨z.1, z.2.1⟩
      have hl : σ0.length = σ3.length := by rw [← hw3, wipe_length]
      have I5 := I4.weak hl (fun j v e => by rw [← hw3] at e; exact (wipe_some e).1)
      obtain ⟨h5, k5⟩ := run I5
      have fr4 : ∀ b ∈ fp, H4 b = none := fun b hb => by
        obtain ⟨o, e, _⟩ := T.obj _ _ st2 b hb
        exact (pin4 b hb o e).2
      have st4 : tn (i + 1) s4.heap := T.keep _ _ _ st2 fun b hb o e => (pin4 b hb o e).1
      refine seg_at (seg_yield rfl rfl rfl ⟨i, m, x, y, H4, Nat.le_of_lt_succ hm, r4, henc x s s4 k5 hen, h5, fun b hb o e => k5 b hb o (hsame b hb o e), q4, fun s'' x' m' hlt hW' he' os bare k cs => ?_⟩)
      refine seg_again rfl (ih (i + 1) m' x' H4 s'' s'' (Nat.lt_of_lt_of_le hlt (Nat.le_of_lt_succ hm)) hW' he' (h5.moved Ap os bare k cs) (fun _ _ _ e => e) (T.keep _ _ _ st4 fun b hb o e => k b o (fun z => Ap.itr b z hb) e) fr4)

theorem seg_start (hGA : A.over (loopC elt tg iter scope pos it G.env) [] = G.A) (hc : G.calm = true) (hxe : G.xe = fun _ _ => False) (hco : G.env.scope.isCoroutine = false) (Ap : CApart G CS fp a)
    (T : Turn G.prog G.w G.K tg J fp it tn) (hfe : ∀ b ∈ fp, b ∈ G.ex) (hg : PG G tg g) (he : PE G elt te)
    (henc : ∀ x s s', (∀ b ∈ CS, ∀ o, s.heap.get? b = some o → s'.heap.get? b = some o) → enc x s → enc x s')
    (turn : ∀ i m x H, W i m x H → (J.stop i H ∧ Fn x H) ∨ (J.go i H ∧ ∀ v H', J.yld i H v H' → g v σ0 H' fun σ2 H2 => wipe σ2 vs = σ0 ∧ te σ2 H2 fun y H3 => Yc i m x y H3))
    (N m : Nat) (x : α) (H : Hp) (s : Shared) (hm : m < N) (hW : W 0 m x H) (hen : enc x s) (hH : Hold G CS a go σ0 H s) (st : tn 0 s.heap) (fr : ∀ b ∈ fp, H b = none) :
      Seg (model G.prog G.w) A (fun _ s₀ r s => r = .ok .next ∧ GEnd G CS a go σ0 enc Fn s₀ s) (GP G CS a go σ0 enc W Yc) N s (startC elt tg iter scope pos it G.env) ((model G.prog G.w).den (startC elt tg iter scope pos it G.env)) [] s := by
  have loop := seg_loop (CS := CS) (a := a) (go := go) hGA hc hxe hco Ap T hfe hg he henc turn N 0 m x H s s hm hW hen hH (fun _ _ _ e => e) st fr
  show Seg _ A _ _ _ s _ ((compStart (.GeneratorExp elt [⟨tg, iter, [], 0⟩] scope pos) 0 (.ref it) .none G.env).onRaise (leaving G.env)) [] s
  unfold compStart
  rw [Sem.onRaise_eq_wrap]
  show Seg _ A _ _ _ s _ ((ask >>= _).wrap _ _ _ _) [] s
  refine seg_bind_wrap (wpAny_askSetting ?_)
  split
  · exact seg_again rfl loop
  · first
      | exact seg_bind_wrap (wpAny_rule (seg_bind_wrap (wpAny_standAt (seg_bind_wrap (T.self _ 0 s _ _ st (seg_again rfl loop))))))
      | (refine seg_bind_wrap (wpAny_rule ?_); show Seg _ A _ _ _ s _ ((standAt iter.pos >>= _).wrap _ _ _ _) [] s; exact seg_bind_wrap (wpAny_standAt (seg_bind_wrap (T.self _ 0 s _ _ st (seg_again rfl loop)))))
end
end NX
set_option Elab.async false
set_option linter.all false
set_option maxRecDepth 100000
set_option maxHeartbeats 4000000
namespace NX
open PySem PySem.Spec PyProof.Rows L2 GxR

section
variable {X : Cx} {pins : List (Addr × Obj)} {σ : L2.St} {H : Hp} {s : Shared}
/-- the code of a generator expression's making, up to its object -/
theorem gen_made {c P : Addr} {elt tg iter : Expr} {gpos : Pos} {scope : Scope} {own : List (Str × Nat)} {wi : TI} {k : Nat} {Q' : Value → Shared → Prop} {R : It → Hp → Prop}
    (hr : Room k X.A) (TB : TabB X.base X.mg c P) (hcode : X.env.code = .ref c) (S : GScp X.N X.env.scope scope own) (hi : PI X tg iter wi)
    (hs : ∀ v, genFold iter X.env v = pure v) (I : Inv X pins σ H s) (h : wi σ H fun J H1 => TabG H1 P ∧ ∀ H2, Tabbed P H1 H2 → R J H2)
    (hQ : ∀ (J : It) (H2 : Hp) (s4 : Shared) (it : Addr) (fp : List Addr) (tn : Nat → Heap → Prop) (code : Value) (tk : Nat) (h5 : Heap) (a : Addr) (go : Obj) (m5 : Str → Option Value),
      R J H2 → Inv X pins σ H2 s4 → Turn X.prog X.w X.K tg J fp it tn → tn 0 s4.heap → (∀ b ∈ fp, FpOk X pins H2 b ∧ b < s4.heap.objs.size) →
      (∀ b o, s4.heap.get? b = some o → h5.get? b = some o) → h5.Ns s4.heap.objs.size m5 → s4.heap.objs.size < a → h5.objs.size = a + 1 → h5.get? a = some go → (∀ h : Heap, h.get? a = some go → h.IsGen a s4.gens.size) → (∀ v, go.data ≠ .cell v) →
      Q' (.ref a) { s4 with gens := s4.gens.push (.fresh (startC elt tg iter scope gpos it (genEnv scope (cloFrom X.env.cells scope.names []) s4.heap.objs.size code builtinsNs X.env))), toks := tk, heap := h5 }) :
    wpAny (model X.prog X.w) X.A (eval (.GeneratorExp elt [⟨tg, iter, [], 0⟩] scope gpos) X.env) Q' X.xe s := by
  have hfree : ∀ y ∈ scope.names, y.2 = .free → ∃ c, X.env.cells.lookup y.1 = some c := fun y hy e => by
    rcases S.blk.free y hy e with k | k
    · exact I.ok.has _ (.inl k)
    · exact I.ok.has _ (.inr k)
  refine wpAny_GeneratorExp_make S.co (closure_ok hfree) S.cell S.dot S.blk.kind (by have := hr.dp; omega) ?_ hs
  refine thn (hi.run pins s σ H _ I h) fun xv s1 hx => thn hx fun itv s2 h2 => ?_
  obtain ⟨it, fp, tn, J, H2, e, I2, T, st2, f2, ⟨ps, hP, ht⟩, q⟩ := h2
  subst e
  have hPs : s2.heap.get? P = some { cls := .none, data := .fields ps } := I2.hok P _ hP
  have cd : PySem.W.CodeHd s2.heap c P := TB.code.keeps fun b u e => I2.bk b u e
  have fpP : ∀ b ∈ fp, b ≠ P := fun b hb z => by
    have := (f2 b hb).1
    rw [z, hP] at this; cases this
  have cont : ∀ (code : Value) (h3 : Heap) (tk : Nat) (ps' : Array Value), Heap.ExtBut P s2.heap h3 → s2.heap.objs.size ≤ h3.objs.size → h3.get? P = some { cls := .none, data := .fields ps' } → (∃ more, ps' = ps ++ more) → TriplesOk ps'.toList →
      wpAny (model X.prog X.w) X.A (builtinsFor X.env.globals X.env.builtins) (fun bi s₄ =>
        ∀ h', h'.Ns s₄.heap.objs.size (fun y => if y = ".0" then some (.ref it) else none) → Heap.SameBut s₄.heap.objs.size (s₄.heap.push { cls := .type "frame", data := .dict #[] }) h' →
          Q' (.ref h'.objs.size) { s₄ with
            gens := s₄.gens.push (.fresh (.compStart (.GeneratorExp elt [⟨tg, iter, [], 0⟩] scope gpos) 0 (.ref it) .none (genEnv scope (cloFrom X.env.cells scope.names []) s₄.heap.objs.size code bi X.env))),
            toks := s₄.toks + 1 + 1 + 1,
            heap := h'.push { cls := .type "generator", data := .fields #[.int s₄.gens.size 0, .str "<genexpr>" (s₄.toks + 1), .str (X.env.qual ++ "<genexpr>") (s₄.toks + 1 + 1)] } }) X.xe { s2 with heap := h3, toks := tk } := by
    intro code h3 tk ps' hx hsz hP3 hmore ht3
    obtain ⟨bm, ob, e1, e2, e3, e4, e5, e6, e7, e8⟩ := TB.bm
    have keep3 : ∀ b u, b ≠ P → s2.heap.get? b = some u → h3.get? b = some u := fun b u hb e => hx b u hb e
    obtain ⟨more, em⟩ := hmore
    have I3 : Inv X pins σ (upd H2 P (.tbl (ps ++ more))) { s2 with heap := h3, gens := s2.gens, drawn := s2.drawn, toks := tk } := inv_tab I2 hP keep3 (by rw [← em]; exact hP3) I2.bare
    refine wpAny_builtinsFor (m := X.mg) (by rw [I2.ok.glob]; exact ((I2.mod.glob.keeps I2.bk)).extBut hx TB.gP) e1 e2 (keep3 _ _ e4 (I2.bk _ _ e5)) e6 e7 e8 ?_
    intro h' hn' hs'
    have hsz' : h'.objs.size = h3.objs.size + 1 := by rw [hs'.1, Heap.size_push]
    have keep' : ∀ b o, h3.get? b = some o → h'.get? b = some o := fun b o e => hs'.extBut b o (Nat.ne_of_lt (Heap.lt_size e)) (Heap.get?_push_of_some _ e)
    refine hQ J (upd H2 P (.tbl (ps ++ more))) { s2 with heap := h3, toks := tk } it fp tn code _ _ h'.objs.size _ (fun y => if y = ".0" then some (.ref it) else none) (q _ ⟨⟨ps ++ more, upd_same, by rw [← em]; exact ht3⟩, fun b hb => upd_ne hb⟩) I3 T
      (T.keep _ _ _ st2 fun b hb o e => keep3 b o (fpP b hb) e) (fun b hb => ⟨⟨?_, (f2 b hb).2⟩, ?_⟩) (fun b o e => Heap.get?_push_of_some _ (keep' b o e)) (hn'.push _) ?_ (Heap.size_push ..) (Heap.get?_push_size _ rfl) (fun h hh => ⟨_, _, _, hh, rfl, rfl, rfl⟩) (fun v z => by cases z)
    · rw [upd_ne (fpP b hb)]; exact (f2 b hb).1
    · obtain ⟨o, e, _⟩ := T.obj _ _ st2 b hb
      exact Nat.lt_of_lt_of_le (Heap.lt_size e) hsz
    · show h3.objs.size < h'.objs.size
      rw [hsz']; exact Nat.lt_succ_self _
  refine ⟨I2.nolimit, ?_⟩
  cases hf : codeAmong gpos ps.toList with
  | none =>
    refine wpAny_genexprCodeX hcode (cd.code hPs ht) (cd.tab hPs) hf fun c' h' tk hx hge hlt hco' _ htab' _ => ?_
    obtain ⟨o1, vs, f1, tf, fl, tg, inF, tx, tt, op, _, _, _, _, _, _, _, _, _, htr, _⟩ := hco'
    exact cont _ h' tk _ hx (Nat.le_trans hge (Nat.le_of_lt hlt)) htab'.2 ⟨_, rfl⟩ htr
  | some cv =>
    refine wpAny_genexprCode_hit hcode (cd.code hPs ht) hf ?_
    exact cont cv s2.heap s2.toks ps (Heap.ExtBut.refl _ _) (Nat.le_refl _) hPs ⟨#[], by simp⟩ ht
end

/-! ### all(..) -/
section
variable {G : Cx} {fp : List Addr} {a gn : Addr} {go : Obj} {σ0 : L2.St} {W : Nat → Nat → Unit → Hp → Prop} {Q : VK} {A : Around}
abbrev encU : Unit → Shared → Prop := fun _ _ => True
def YAll (W : Nat → Nat → Unit → Hp → Prop) (Q : VK) : Nat → Nat → Unit → V → Hp → Prop := fun i m _ y H => ∃ b, y = V.bl b ∧ if b = true then ∃ m', m' < m ∧ W (i + 1) m' () H else Q (.bl false) H
/-- the end of the consumer's loop -/
def Left (G : Cx) (CS : List Addr) (a : Addr) (go : Obj) (σ0 : L2.St) (H : Hp) (s' : Shared) : Prop :=
  ∃ s1, Hold G CS a go σ0 H s1 ∧ s'.os = s1.os ∧ AllBare s'.gens ∧ ∀ b o, b ∉ CS → s1.heap.get? b = some o → s'.heap.get? b = some o
theorem all_loop (hh : A.handled = none) (hd : A.depth < recursionLimit) (hgo : ∀ h : Heap, h.get? a = some go → h.IsGen a gn) :
    ∀ (N : Nat) (s : Shared), s.heap.IsGen a gn → s.heap.NoLimit →
      (∃ gs, s.gens[gn]? = some gs ∧ gs.Goes (model G.prog G.w) A.in1.in1 (fun _ s₀ r s => r = .ok .next ∧ GEnd G [] a go σ0 encU (fun _ H => Q (.bl true) H) s₀ s) (GP G [] a go σ0 encU W (YAll W Q)) N (.send .none) (s.setGen gn .running)) →
      codeAny (model G.prog G.w) A (.builtin "all.loop" ⟨[.ref a], []⟩) (fun r s' => ∃ b H, r = .ok (.ret (.bool b)) ∧ Q (.bl b) H ∧ Left G [] a go σ0 H s') s := by
  intro N
  induction N with
  | zero =>
    intro s hg hl ⟨gs, hgs, hgoes⟩
    refine codeAny_builtin F.entry_all_loop ?_
    rw [Around.under_plainId F.plain_all_loop _]
    show wpAny _ A.in1 (pyNext (.ref a) >>= _) _ _ s
    refine wpAny_bind (wpAny_pyNext_genexpQ (A := A.in1) (P := fun _ s₀ s₁ => GEnd G [] a go σ0 encU (fun _ H => Q (.bl true) H) s₀ s₁) hh hl hd hg hgs hgoes (fun v s₁ gs' hb hv => ?_) (fun s₁ hp h' hk => ?_))
    · obtain ⟨i, m, x, y, H, hm, rv, _, hH, _, ⟨b, rfl, hy⟩, _⟩ := hv
      obtain rfl : v = Value.bool b := rv
      refine wpAny_bind (wpAny_holding (wpAny_truthy_bool ?_))
      refine wpAny_bind (wpAny_letGo ?_)
      cases b with
      | true =>
        obtain ⟨m', hlt, _⟩ := hy
        exact absurd hlt (by omega)
      | false =>
        simp only [Bool.false_eq_true, if_false]
        exact wpAny_bind (wpAny_rule (wpAny_pure ⟨false, H, rfl, hy, s₁, hH, rfl, allBare_setGen hH.1.bare hb, fun _ _ _ e => e⟩))
    · obtain ⟨x, H, _, hH, _, hq⟩ := hp
      refine wpAny_bind (wpAny_rule (wpAny_pure ?_))
      exact ⟨true, H, rfl, hq, s₁, hH, rfl, allBare_setGen hH.1.bare rfl, fun b o _ e => hk b o e⟩
  | succ N ih =>
    intro s hg hl ⟨gs, hgs, hgoes⟩
    have hgl : gn < s.gens.size := (Array.getElem?_eq_some_iff.mp hgs).1
    refine codeAny_builtin F.entry_all_loop ?_
    rw [Around.under_plainId F.plain_all_loop _]
    show wpAny _ A.in1 (pyNext (.ref a) >>= _) _ _ s
    refine wpAny_bind (GenW.wpAny_gsz (n := gn + 1) hgl (wpAny_pyNext_genexpQ (A := A.in1) (P := fun _ s₀ s₁ => GEnd G [] a go σ0 encU (fun _ H => Q (.bl true) H) s₀ s₁) hh hl hd hg hgs hgoes (fun v s₁ gs' hb hv => ?_) (fun s₁ hp h' hk => ?_)))
    · intro hsz
      obtain ⟨i, m, x, y, H, hm, rv, _, hH, _, ⟨b, rfl, hy⟩, hkap⟩ := hv
      obtain rfl : v = Value.bool b := rv
      refine wpAny_bind (wpAny_holding (wpAny_truthy_bool ?_))
      refine wpAny_bind (wpAny_letGo ?_)
      have hsz1 : gn < s₁.gens.size := by
        have q : (s₁.setGen gn gs').gens.size = s₁.gens.size := GenW.setGen_size _ _ _
        have hsz' : gn + 1 ≤ (s₁.setGen gn gs').gens.size := hsz
        rw [q] at hsz'
        exact hsz'
      cases b with
      | true =>
        obtain ⟨m', hlt, hW⟩ := hy
        simp only [if_true]
        refine wpAny_pure ⟨plainId_quiet F.plain_all_loop _, ?_⟩
        refine ih (s₁.setGen gn gs') (hgo _ hH.gen) hH.1.nolimit ⟨gs', setGen_at hsz1, ?_⟩
        exact hkap ((s₁.setGen gn gs').setGen gn .running) () m' hlt hW trivial rfl (allBare_setGen (allBare_setGen hH.1.bare hb) rfl) (fun _ _ _ e => e) (fun b hb => absurd hb (by simp))
      | false =>
        simp only [Bool.false_eq_true, if_false]
        exact wpAny_bind (wpAny_rule (wpAny_pure ⟨false, H, rfl, hy, s₁, hH, rfl, allBare_setGen hH.1.bare hb, fun _ _ _ e => e⟩))
    · intro hsz
      obtain ⟨x, H, _, hH, _, hq⟩ := hp
      refine wpAny_bind (wpAny_rule (wpAny_pure ?_))
      exact ⟨true, H, rfl, hq, s₁, hH, rfl, allBare_setGen hH.1.bare rfl, fun b o _ e => hk b o e⟩
end
end NX
set_option Elab.async false
set_option linter.all false
set_option maxRecDepth 100000
set_option maxHeartbeats 4000000
namespace NX
open PySem PySem.Spec PyProof.Rows L2 GxR

/-! ### sum(..) -/
section
variable {G : Cx} {fp : List Addr} {a gn S : Addr} {go : Obj} {σ0 : L2.St} {W : Nat → Nat → Int → Hp → Prop} {Q : VK} {A : Around}
abbrev sumObj (x : Int) (t : Tok) (c : Nat) : Obj := { cls := .type "list", dict := none, data := .seq #[.int x t] c, slots := #[] }
def encS (S : Addr) : Int → Shared → Prop := fun x s => ∃ t c, s.heap.get? S = some (sumObj x t c)
def YSum (W : Nat → Nat → Int → Hp → Prop) : Nat → Nat → Int → V → Hp → Prop := fun i m x y H => ∃ k : Int, y = V.int k ∧ InLong k ∧ InLong (x + k) ∧ ∃ m', m' < m ∧ W (i + 1) m' (x + k) H
theorem encS_inj {S : Addr} {x y : Int} {s : Shared} (h : encS S x s) (h' : encS S y s) : x = y := by
  obtain ⟨t, c, e⟩ := h
  obtain ⟨t', c', e'⟩ := h'
  rw [e] at e'
  have z := Option.some.inj e'
  have z2 : Data.seq #[Value.int x t] c = Data.seq #[Value.int y t'] c' := congrArg Obj.data z
  injection z2 with z3 _
  have z4 : [Value.int x t] = [Value.int y t'] := congrArg Array.toList z3
  injection z4 with z5 _
  injection z5
theorem sum_loop (hh : A.handled = none) (hd : A.depth < recursionLimit) (hgo : ∀ h : Heap, h.get? a = some go → h.IsGen a gn) :
    ∀ (N : Nat) (s : Shared) (x : Int), s.heap.IsGen a gn → s.heap.NoLimit → encS S x s →
      (∃ gs, s.gens[gn]? = some gs ∧ gs.Goes (model G.prog G.w) A.in1.in1 (fun _ s₀ r s => r = .ok .next ∧ GEnd G [S] a go σ0 (encS S) (fun x H => Q (.int x) H) s₀ s) (GP G [S] a go σ0 (encS S) W (YSum W)) N (.send .none) (s.setGen gn .running)) →
      codeAny (model G.prog G.w) A (.builtin "sum.loop" ⟨[.ref a, .ref S, rawInt 0, rawInt 0], []⟩) (fun r s' => ∃ x t H, r = .ok (.ret (.int x t)) ∧ Q (.int x) H ∧ Left G [S] a go σ0 H s') s := by
  intro N
  induction N with
  | zero =>
    intro s x hg hl ⟨tA, cA, hS⟩ ⟨gs, hgs, hgoes⟩
    refine codeAny_builtin F.entry_sum_loop ?_
    rw [Around.under_plainId F.plain_sum_loop _]
    show wpAny _ A.in1 (seqItems? (.ref S) >>= _) _ _ s
    refine wpAny_bind (wpAny_seqItems hS rfl ?_)
    show wpAny _ A.in1 (tryCatch (pyNext (.ref a)) _ >>= _) _ _ s
    refine wpAny_bind (wpAny_tryCatch (wpAny_pyNext_genexpQ (A := A.in1) (P := fun _ s₀ s₁ => GEnd G [S] a go σ0 (encS S) (fun x H => Q (.int x) H) s₀ s₁) hh hl hd hg hgs hgoes (fun v s₁ gs' hb hv => ?_) (fun s₁ hp h' hk => ?_)))
    · obtain ⟨i, m, x, y, H, hm, rv, _, hH, _, ⟨k, _, _, _, m', hlt, _⟩, _⟩ := hv
      exact absurd hlt (by omega)
    · obtain ⟨y, H, hy, hH, hsm, hq⟩ := hp
      have e := encS_inj hy ⟨tA, cA, hsm S List.mem_cons_self _ hS⟩
      subst e
      exact wpAny_pure ⟨_, tA, H, rfl, hq, s₁, hH, rfl, allBare_setGen hH.1.bare rfl, fun b o _ e => hk b o e⟩
  | succ N ih =>
    intro s x hg hl ⟨tA, cA, hS⟩ ⟨gs, hgs, hgoes⟩
    have hgl : gn < s.gens.size := (Array.getElem?_eq_some_iff.mp hgs).1
    refine codeAny_builtin F.entry_sum_loop ?_
    rw [Around.under_plainId F.plain_sum_loop _]
    show wpAny _ A.in1 (seqItems? (.ref S) >>= _) _ _ s
    refine wpAny_bind (wpAny_seqItems hS rfl ?_)
    show wpAny _ A.in1 (tryCatch (pyNext (.ref a)) _ >>= _) _ _ s
    refine wpAny_bind (wpAny_tryCatch (GenW.wpAny_gsz (n := gn + 1) hgl (wpAny_pyNext_genexpQ (A := A.in1) (P := fun _ s₀ s₁ => GEnd G [S] a go σ0 (encS S) (fun x H => Q (.int x) H) s₀ s₁) hh hl hd hg hgs hgoes (fun v s₁ gs' hb hv => ?_) (fun s₁ hp h' hk => ?_))))
    · intro hsz
      obtain ⟨i, m, x', y, H, hm, rv, hx', hH, hsm, ⟨k, rfl, f12, f34, m', hlt, hW⟩, hkap⟩ := hv
      obtain ⟨tk, rfl⟩ := rv
      have hS' : s₁.heap.get? S = some (sumObj x tA cA) := hsm S List.mem_cons_self _ hS
      have e := encS_inj hx' ⟨tA, cA, hS'⟩
      subst e
      have hsz1 : gn < s₁.gens.size := by
        have q : (s₁.setGen gn gs').gens.size = s₁.gens.size := GenW.setGen_size _ _ _
        have hsz' : gn + 1 ≤ (s₁.setGen gn gs').gens.size := hsz
        rw [q] at hsz'
        exact hsz'
      have hc : ((decide (-(2 ^ 63) ≤ k) && decide (k < 2 ^ 63)) && (decide (-(2 ^ 63) ≤ x' + k) && decide (x' + k < 2 ^ 63))) = true := by
        simp only [Bool.and_eq_true, decide_eq_true_eq]
        exact ⟨⟨f12.1, f12.2⟩, f34.1, f34.2⟩
      show wpAny _ A.in1 (if (_ : Bool) = true then (mkInt (x' + k) >>= _) else _) _ _ _
      split
      · refine wpAny_bind (wpAny_mkInt ?_)
        show wpAny _ A.in1 (updateSeq S (fun _ => #[.int (x' + k) s₁.toks]) >>= _) _ _ _
        refine wpAny_bind ?_
        have hS2 : ({ s₁.setGen gn gs' with toks := (s₁.setGen gn gs').toks + 1 } : Shared).heap.get? S = some (sumObj x' tA cA) := hS'
        refine wpAny_updateSeq hS2 rfl (wpAny_pure ⟨plainId_quiet F.plain_sum_loop _, ?_⟩)
        have up := Heap.get?_update_self (Obj.mapSeq (fun _ => #[Value.int (x' + k) s₁.toks])) hS' rfl
        have kp : ∀ b o, b ∉ [S] → s₁.heap.get? b = some o → (s₁.heap.update S (Obj.mapSeq (fun _ => #[Value.int (x' + k) s₁.toks]))).get? b = some o := fun b o hb e =>
          (Heap.get?_update_other _ _ (fun h : S = b => hb (by rw [h]; exact List.mem_cons_self))).trans e
        have aS : a ∉ [S] := fun z => by
          have e2 : a = S := List.mem_singleton.mp z
          obtain ⟨_, _, _, e3, e4, _⟩ := hgo _ hH.gen
          rw [e2, hS'] at e3
          cases e3
          exact absurd (Value.type.inj e4) (by decide)
        have cS : cStatics ∉ [S] := fun z => by
          have e2 : cStatics = S := List.mem_singleton.mp z
          obtain ⟨_, ⟨o, es, ep, e3, e4, _⟩, _⟩ := hH.1.nolimit
          rw [e2, hS'] at e3
          cases e3
          cases e4
        refine ih _ (x' + k) ?_ ?_ ⟨_, _, up⟩ ⟨gs', setGen_at hsz1, ?_⟩
        · exact hgo _ (kp a _ aS hH.gen)
        · obtain ⟨mc, hns, hnn⟩ := hH.1.nolimit
          exact ⟨mc, hns.at' fun o e => kp _ o cS e, hnn⟩
        · refine hkap _ (x' + k) m' hlt hW ⟨_, _, up⟩ rfl (allBare_setGen (s := { s₁.setGen gn gs' with heap := _, toks := _ }) (allBare_setGen hH.1.bare hb) rfl) kp (fun b hb => ?_)
          rw [List.mem_singleton.mp hb]
          exact ⟨_, up, fun v z => by cases z⟩
      · rename_i hneg
        exact absurd hc hneg
    · intro hsz
      obtain ⟨y, H, hy, hH, hsm, hq⟩ := hp
      have e := encS_inj hy ⟨tA, cA, hsm S List.mem_cons_self _ hS⟩
      subst e
      exact wpAny_pure ⟨_, tA, H, rfl, hq, s₁, hH, rfl, allBare_setGen hH.1.bare rfl, fun b o _ e => hk b o e⟩
end

/-! ### the generator's around -/
section
variable {A : Around} {elt tg iter : Expr} {scope : Scope} {pos : Pos} {it : Addr} {cenv : Env} {l : List Env} {k : Nat}
theorem gen_frames (h : A.frames = some l) : (A.over (loopC elt tg iter scope pos it cenv) []).frames = some (cenv :: l) := by
  show pushEnvs [cenv] A.frames = _
  rw [h]
  rfl
theorem gen_room (hr : Room (k + 1) A) : Room k (A.in1.in1.over (loopC elt tg iter scope pos it cenv) []) := by
  have d : (A.in1.in1.over (loopC elt tg iter scope pos it cenv) []).depth = A.depth + 1 := rfl
  have u : (A.in1.in1.over (loopC elt tg iter scope pos it cenv) []).units = A.units + 1 + 1 + 3 := rfl
  refine ⟨hr.hd, ?_, ?_⟩
  · rw [d]; have := hr.dp; omega
  · rw [u]; have := hr.un; omega
end

/-! ### the rules -/
section
variable {X : Cx} {pins : List (Addr × Obj)} {σ : L2.St} {H H' : Hp} {s s' : Shared}
/-- behind the consumer: the def's own context again -/
theorem inv_left {A' : Around} {cenv : Env} {CS fp : List Addr} {a : Addr} {go : Obj} {σ0 : L2.St} {s4 : Shared} {H2 : Hp} (I : Inv X pins σ H2 s4) (hf : ∀ b ∈ fp, FpOk X pins H2 b) (hC : ∀ b ∈ CS, s4.heap.objs.size ≤ b)
    (h : Left (genCx X A' s4 H2 cenv fp) CS a go σ0 H' s') : Inv X pins σ H' s' := by
  obtain ⟨s1, hH, os, bare, k⟩ := h
  have fr := hH.free
  obtain ⟨J, _⟩ := hH
  have old : ∀ b o, s4.heap.get? b = some o → b ∉ CS := fun b o e hb => Nat.lt_irrefl _ (Nat.lt_of_lt_of_le (Heap.lt_size e) (hC b hb))
  have bs := J.base
  have nt : ∀ b u, H' b = some u → b ∉ CS := fun b u q hb => by rw [(fr b hb).1] at q; cases q
  refine I.call' (ch := fp) (os.trans J.os) ⟨fun b o e n h1 h2 => k b o (old b o e) (bs.keep b o e n h1 h2), fun b o e n h1 h2 => ?_, bs.free, fun b o e h2 => ?_, bs.tups, bs.frzs, bs.tbls⟩ (fun b u q => ?_) bare
    (fun b hb => ⟨(hf b hb).2.2.2.1, (hf b hb).2.1, (hf b hb).2.2.2.2.1, (hf b hb).2.2.2.2.2⟩)
  · obtain ⟨sl, e1⟩ := bs.slot b o e n h1 h2
    exact ⟨sl, k b _ (old b o e) e1⟩
  · obtain ⟨o', e1⟩ := bs.there b o e h2
    exact ⟨o', k b _ (old b o e) e1⟩
  · refine (J.hok b u q).stay (fun c v hc y => k c v ?_ y) (fun _ y => y) fun _ _ y => y
    rcases hc with y | y
    · rw [y]; exact nt b u q
    · exact nt c _ y

abbrev gEnv (X : Cx) (scope : Scope) (s : Shared) (code : Value) : Env := genEnv scope (cloFrom X.env.cells scope.names []) s.heap.objs.size code builtinsNs X.env
def tAllG (P : Addr) (wi : TI) (g : TG) (te : TE) (vs : List Nat) : TE := fun σ H Q => wi σ H fun J H1 => TabG H1 P ∧ ∀ H2, Tabbed P H1 H2 → ∃ W : Nat → Nat → Hp → Prop, (∃ m, W 0 m H2) ∧
  ∀ i m H, W i m H → (J.stop i H ∧ Q (.bl true) H) ∨ (J.go i H ∧ ∀ v H', J.yld i H v H' → g v (wipe σ vs) H' fun σ2 H3 => wipe σ2 vs = wipe σ vs ∧ te σ2 H3 fun y H4 => ∃ b, y = V.bl b ∧ if b = true then ∃ m', m' < m ∧ W (i + 1) m' H4 else Q (.bl false) H4)
def tSumG (P : Addr) (wi : TI) (g : TG) (te : TE) (vs : List Nat) : TE := fun σ H Q => wi σ H fun J H1 => TabG H1 P ∧ ∀ H2, Tabbed P H1 H2 → ∃ W : Nat → Nat → Int → Hp → Prop, (∃ m, W 0 m 0 H2) ∧
  ∀ i m x H, W i m x H → (J.stop i H ∧ Q (.int x) H) ∨ (J.go i H ∧ ∀ v H', J.yld i H v H' → g v (wipe σ vs) H' fun σ2 H3 => wipe σ2 vs = wipe σ vs ∧ te σ2 H3 fun y H4 => ∃ k : Int, y = V.int k ∧ InLong k ∧ InLong (x + k) ∧ ∃ m', m' < m ∧ W (i + 1) m' (x + k) H4)

theorem pe_allG {c P : Addr} {elt tg iter : Expr} {p pos gpos : Pos} {scope : Scope} {own : List (Str × Nat)} {wi : TI} {g : TG} {te : TE} {k : Nat}
    (hr : Room (k + 1) X.A) (hg : Gl X "all") (hm : X.mg "all" = none) (TB : TabB X.base X.mg c P) (hcode : X.env.code = .ref c) (hN : X.N.Nodup) (S : GScp X.N X.env.scope scope own) (hi : PI X tg iter wi)
    (hpg : ∀ (A' : Around) (s : Shared) (H : Hp) (code : Value) (fp : List Addr), Room k A' → PG (genCx X A' s H (gEnv X scope s code) fp) tg g) (hpe : ∀ (A' : Around) (s : Shared) (H : Hp) (code : Value) (fp : List Addr), Room k A' → PE (genCx X A' s H (gEnv X scope s code) fp) elt te)
    (hs : ∀ v, genFold iter X.env v = pure v := by intro _; rfl)
    (he : starEach [.GeneratorExp elt [⟨tg, iter, [], 0⟩] scope gpos] X.env = (false, eval (.GeneratorExp elt [⟨tg, iter, [], 0⟩] scope gpos) X.env) :: starEach [] X.env := by rfl) :
    PE X (.Call (.Name "all" p) [.GeneratorExp elt [⟨tg, iter, [], 0⟩] scope gpos] [] pos) (tAllG P wi g te (own.map (·.2))) := by
  refine ⟨fun pins s σ H Q I h => ?_⟩
  have hb : bootBuiltins "all" = some (.builtin "all") := by decide +kernel
  refine wpAny_Call_Name_kw (ld_blt I hg hm hb ?_)
  refine PyProof.Rows.callWith_builtin1 ?_ he (by rfl)
  rw [he]
  show wpAny _ _ (spliced ((false, eval (.GeneratorExp elt [⟨tg, iter, [], 0⟩] scope gpos) X.env) :: backTo pos (starEach [] X.env))) _ _ s
  refine Calls.spliced_cons (gen_made hr TB hcode S hi hs I h fun J H2 s4 it fp tn code tk h5 a go m5 hR I4 T st4 f4 kp hn5 hla hsz hga hgo hnc => ?_)
  obtain ⟨W, ⟨m0, w0⟩, turn⟩ := hR
  refine Calls.spliced_nil ?_
  generalize hs5 : ({ s4 with gens := s4.gens.push (.fresh (startC elt tg iter scope gpos it (genEnv scope (cloFrom X.env.cells scope.names []) s4.heap.objs.size code builtinsNs X.env))), toks := tk, heap := h5 } : Shared) = s5
  have hh5 : s5.heap = h5 := by rw [← hs5]
  have hA : (X.A.in1.in1.over (loopC elt tg iter scope gpos it (gEnv X scope s4 code)) []).handled = none := hr.hd
  have hF := gen_frames (elt := elt) (tg := tg) (iter := iter) (scope := scope) (pos := gpos) (it := it) (cenv := gEnv X scope s4 code) (show X.A.in1.in1.frames = some X.stack from I4.ok.frames)
  have hR2 := gen_room (elt := elt) (tg := tg) (iter := iter) (scope := scope) (pos := gpos) (it := it) (cenv := gEnv X scope s4 code) hr
  have yng : ∀ b, s4.heap.objs.size ≤ b → b ∉ fp := fun b hb z => Nat.lt_irrefl _ (Nat.lt_of_lt_of_le (f4 b z).2 hb)
  have go5 : ∀ (g5 : Array GenState) (t5 : Nat), AllBare g5 → Hold (genCx X (X.A.in1.in1.over (loopC elt tg iter scope gpos it (gEnv X scope s4 code)) []) s4 H2 (gEnv X scope s4 code) fp) [] a go (wipe σ (own.map (·.2))) H2 { s4 with heap := h5, gens := g5, toks := t5 } := fun g5 t5 hb5 => by
    have J := gen_start (h5 := h5) (g5 := g5) (t5 := t5) (m5 := m5) (code := code) I4 S hN f4 hA hF kp hn5 hb5
    refine ⟨J.pins_of fun p hp => ?_, fun b hb => absurd hb (by simp)⟩
    have hp' : p = (a, go) := by simpa [pinsAt] using hp
    rw [hp']
    refine ⟨hga, I4.hok.fresh (Nat.le_of_lt hla), Nat.ne_of_gt hla, fun z => ?_, hnc⟩
    exact I4.nofs (Nat.le_of_lt hla) ((List.mem_cons.mp (I4.stkSub a z)).elim (fun e => absurd (e ▸ I4.lt) (Nat.not_lt_of_le (Nat.le_of_lt hla))) id)
  have hCA : CApart (genCx X (X.A.in1.in1.over (loopC elt tg iter scope gpos it (gEnv X scope s4 code)) []) s4 H2 (gEnv X scope s4 code) fp) [] fp a :=
    ⟨fun b hb => absurd hb (by simp), fun b hb => absurd hb (by simp), fun b hb => absurd hb (by simp), fun b hb => absurd hb (by simp), fun b hb => absurd hb (by simp), yng a (Nat.le_of_lt hla), rfl⟩
  have isg : s5.heap.IsGen a s4.gens.size := by rw [hh5]; exact hgo _ hga
  refine PySem.call_function_tree F.kind_all F.plain_all F.entry_all (F.args_all1 _) ?_
  unfold Builtin.«all»
  refine wpAny_bind (m := oneArg "all" _) (wpAny_pure ?_)
  refine wpAny_bind (wpAny_pyIter_gen isg ?_)
  refine wpAny_pure ⟨plainId_quiet F.plain_all_loop _, ?_⟩
  have sg : (.fresh (startC elt tg iter scope gpos it (gEnv X scope s4 code)) : GenState).bare = true := rfl
  have bare5 : AllBare s5.gens := by rw [← hs5]; exact I4.bare.push sg
  have hgs : s5.gens[s4.gens.size]? = some (.fresh (startC elt tg iter scope gpos it (gEnv X scope s4 code))) := by rw [← hs5]; exact Array.getElem?_push_size ..
  refine codeAny_mono (all_loop (G := genCx X (X.A.in1.in1.over (loopC elt tg iter scope gpos it (gEnv X scope s4 code)) []) s4 H2 (gEnv X scope s4 code) fp) (a := a) (gn := s4.gens.size) (go := go) (σ0 := wipe σ (own.map (·.2))) (W := fun i m _ H => W i m H) (Q := Q) (A := X.A)
    hr.hd hr.depth hgo (m0 + 1) s5 isg (by rw [hh5]; exact I4.nolimit.keeps kp) ⟨_, hgs, rfl, ?_⟩) fun r s' hq => ?_
  · have e5 : s5.setGen s4.gens.size .running = { s4 with heap := h5, gens := (s5.setGen s4.gens.size .running).gens, toks := tk } := by
      rw [← hs5]; rfl
    rw [e5]
    exact seg_start (G := genCx X (X.A.in1.in1.over (loopC elt tg iter scope gpos it (gEnv X scope s4 code)) []) s4 H2 (gEnv X scope s4 code) fp) (A := X.A.in1.in1) (CS := []) (enc := encU) (vs := own.map (·.2)) rfl rfl rfl S.co hCA T (fun _ hb => hb)
      (hpg _ s4 H2 code fp hR2) (hpe _ s4 H2 code fp hR2) (fun _ _ _ _ e => e)
      (fun i m _ H w => by
        rcases turn i m H w with ⟨q1, q2⟩ | ⟨q1, q2⟩
        · exact .inl ⟨q1, q2⟩
        · exact .inr ⟨q1, q2⟩)
      (m0 + 1) m0 () H2 _ (Nat.lt_succ_self _) w0 trivial (go5 _ _ (allBare_setGen bare5 rfl)) (T.keep _ _ _ st4 fun b _ o e => kp b o e) fun b hb => (f4 b hb).1.1
  · obtain ⟨b, H9, rfl, hq, hL⟩ := hq
    exact ⟨.bl b, H9, inv_left I4 (fun b hb => (f4 b hb).1) (fun b hb => absurd hb (by simp)) hL, rfl, hq⟩
end
end NX
set_option Elab.async false
set_option linter.all false
set_option maxRecDepth 100000
set_option maxHeartbeats 4000000
namespace NX
open PySem PySem.Spec PyProof.Rows L2 GxR
section
variable {X : Cx} {pins : List (Addr × Obj)} {σ : L2.St} {H H' : Hp} {s s' : Shared}
theorem pe_sumG {c P : Addr} {elt tg iter : Expr} {p pos gpos : Pos} {scope : Scope} {own : List (Str × Nat)} {wi : TI} {g : TG} {te : TE} {k : Nat}
    (hr : Room (k + 1) X.A) (hg : Gl X "sum") (hm : X.mg "sum" = none) (TB : TabB X.base X.mg c P) (hcode : X.env.code = .ref c) (hN : X.N.Nodup) (S : GScp X.N X.env.scope scope own) (hi : PI X tg iter wi)
    (hpg : ∀ (A' : Around) (s : Shared) (H : Hp) (code : Value) (fp : List Addr), Room k A' → PG (genCx X A' s H (gEnv X scope s code) fp) tg g) (hpe : ∀ (A' : Around) (s : Shared) (H : Hp) (code : Value) (fp : List Addr), Room k A' → PE (genCx X A' s H (gEnv X scope s code) fp) elt te)
    (hs : ∀ v, genFold iter X.env v = pure v := by intro _; rfl)
    (he : starEach [.GeneratorExp elt [⟨tg, iter, [], 0⟩] scope gpos] X.env = (false, eval (.GeneratorExp elt [⟨tg, iter, [], 0⟩] scope gpos) X.env) :: starEach [] X.env := by rfl) :
    PE X (.Call (.Name "sum" p) [.GeneratorExp elt [⟨tg, iter, [], 0⟩] scope gpos] [] pos) (tSumG P wi g te (own.map (·.2))) := by
  refine ⟨fun pins s σ H Q I h => ?_⟩
  have hb : bootBuiltins "sum" = some (.builtin "sum") := by decide +kernel
  refine wpAny_Call_Name_kw (ld_blt I hg hm hb ?_)
  refine PyProof.Rows.callWith_builtin1 ?_ he (by rfl)
  rw [he]
  show wpAny _ _ (spliced ((false, eval (.GeneratorExp elt [⟨tg, iter, [], 0⟩] scope gpos) X.env) :: backTo pos (starEach [] X.env))) _ _ s
  refine Calls.spliced_cons (gen_made hr TB hcode S hi hs I h fun J H2 s4 it fp tn code tk h5 a go m5 hR I4 T st4 f4 kp hn5 hla hsz hga hgo hnc => ?_)
  obtain ⟨W, ⟨m0, w0⟩, turn⟩ := hR
  refine Calls.spliced_nil ?_
  generalize hs5 : ({ s4 with gens := s4.gens.push (.fresh (startC elt tg iter scope gpos it (genEnv scope (cloFrom X.env.cells scope.names []) s4.heap.objs.size code builtinsNs X.env))), toks := tk, heap := h5 } : Shared) = s5
  have hh5 : s5.heap = h5 := by rw [← hs5]
  have hA : (X.A.in1.in1.over (loopC elt tg iter scope gpos it (gEnv X scope s4 code)) []).handled = none := hr.hd
  have hF := gen_frames (elt := elt) (tg := tg) (iter := iter) (scope := scope) (pos := gpos) (it := it) (cenv := gEnv X scope s4 code) (show X.A.in1.in1.frames = some X.stack from I4.ok.frames)
  have hR2 := gen_room (elt := elt) (tg := tg) (iter := iter) (scope := scope) (pos := gpos) (it := it) (cenv := gEnv X scope s4 code) hr
  have yng : ∀ b, s4.heap.objs.size ≤ b → b ∉ fp := fun b hb z => Nat.lt_irrefl _ (Nat.lt_of_lt_of_le (f4 b z).2 hb)
  have nofs : ∀ b, s4.heap.objs.size ≤ b → b ∉ frs X.stack := fun b hb z =>
    I4.nofs hb ((List.mem_cons.mp (I4.stkSub b z)).elim (fun e => absurd (e ▸ I4.lt) (Nat.not_lt_of_le hb)) id)
  -- the sum's own list at h5's end
  have alt : a < h5.objs.size := by rw [hsz]; exact Nat.lt_succ_self _
  have s4h5 : s4.heap.objs.size ≤ h5.objs.size := Nat.le_of_lt (Nat.lt_trans hla alt)
  have ndL : s4.heap.objs.size < h5.objs.size := Nat.lt_trans hla alt
  have go6 : ∀ (h6 : Heap) (g5 : Array GenState) (t5 : Nat), (∀ b o, h5.get? b = some o → h6.get? b = some o) → (∃ o, h6.get? h5.objs.size = some o ∧ ∀ v, o.data ≠ .cell v) → AllBare g5 →
      Hold (genCx X (X.A.in1.in1.over (loopC elt tg iter scope gpos it (gEnv X scope s4 code)) []) s4 H2 (gEnv X scope s4 code) fp) [h5.objs.size] a go (wipe σ (own.map (·.2))) H2 { s4 with heap := h6, gens := g5, toks := t5 } := fun h6 g5 t5 k6 hS hb5 => by
    have J := gen_start (h5 := h6) (g5 := g5) (t5 := t5) (m5 := m5) (code := code) I4 S hN f4 hA hF (fun b o e => k6 b o (kp b o e)) (hn5.keeps k6) hb5
    obtain ⟨oS, eS, dS⟩ := hS
    refine ⟨J.pins_of fun p hp => ?_, fun b hb => by rw [List.mem_singleton.mp hb]; exact ⟨oS, eS, dS⟩⟩
    have hp' : p = (a, go) ∨ p = (h5.objs.size, oS) := by
      have e7 : pinsAt [h5.objs.size] h6 = [(h5.objs.size, oS)] := by
        unfold pinsAt
        rw [List.filterMap_cons, eS]
        rfl
      have hp2 : p ∈ (a, go) :: pinsAt [h5.objs.size] h6 := hp
      rw [e7] at hp2
      simpa using hp2
    rcases hp' with e | e
    · rw [e]
      exact ⟨k6 a go hga, I4.hok.fresh (Nat.le_of_lt hla), Nat.ne_of_gt hla, nofs a (Nat.le_of_lt hla), hnc⟩
    · rw [e]
      exact ⟨eS, I4.hok.fresh s4h5, Nat.ne_of_gt ndL, nofs _ s4h5, dS⟩
  have hCA : CApart (genCx X (X.A.in1.in1.over (loopC elt tg iter scope gpos it (gEnv X scope s4 code)) []) s4 H2 (gEnv X scope s4 code) fp) [h5.objs.size] fp a := by
    refine ⟨fun b hb => ?_, fun b hb => ?_, fun b hb x c e z => ?_, fun b hb => ?_, fun b hb => ?_, yng a (Nat.le_of_lt hla), rfl⟩
    · rw [List.mem_singleton.mp hb]; exact s4h5
    · rw [List.mem_singleton.mp hb]; exact Nat.ne_of_gt ndL
    · have e' : (cloFrom X.env.cells scope.names []).lookup x = some c := e
      have b2 := List.mem_singleton.mp hb
      rcases cloFrom_mem (PySem.mem_of_lookup e') with hm' | ⟨h1, h2⟩
      · cases hm'
      · have hfr : ∃ c, X.env.cells.lookup x = some c := by
          rcases S.blk.free _ h1 rfl with k | k
          · exact I4.ok.has _ (.inl k)
          · exact I4.ok.has _ (.inr k)
        obtain ⟨c2, hc2⟩ := hfr
        rw [hc2] at h2
        obtain ⟨w', zc⟩ := I4.cell _ _ hc2
        have lt1 := zc.lt
        have e9 : c = c2 := h2
        rw [← e9, z, b2] at lt1
        exact absurd (Nat.lt_of_lt_of_le lt1 s4h5) (Nat.lt_irrefl _)
    · rw [List.mem_singleton.mp hb]; exact Nat.ne_of_gt alt
    · rw [List.mem_singleton.mp hb]; exact yng _ s4h5
  have isg : s5.heap.IsGen a s4.gens.size := by rw [hh5]; exact hgo _ hga
  have sg : (.fresh (startC elt tg iter scope gpos it (gEnv X scope s4 code)) : GenState).bare = true := rfl
  have bare5 : AllBare s5.gens := by rw [← hs5]; exact I4.bare.push sg
  have hgs : s5.gens[s4.gens.size]? = some (.fresh (startC elt tg iter scope gpos it (gEnv X scope s4 code))) := by rw [← hs5]; exact Array.getElem?_push_size ..
  refine PySem.call_function_tree F.kind_sum F.plain_sum F.entry_sum (F.args_sum1 _) ?_
  unfold Builtin.«sum»
  simp only [List.length_cons, List.length_nil]
  rw [if_neg (by decide)]
  refine wpAny_bind (wpAny_of_eq (show Builtin.Builtins.bindParams "sum" ["start"] 0 { } = pure [none] from rfl) ?_)
  refine wpAny_bind (wpAny_pyIter_gen isg ?_)
  refine wpAny_bind (wpAny_mkInt ?_)
  refine wpAny_bind (wpAny_pure ?_)
  simp only [List.forIn_cons, List.forIn_nil]
  refine wpAny_bind (wpAny_bind (wpAny_bind (wpAny_isInstance (T := "int") (b := false) (typeIs_int _ _ _) PySem.sub_int_str ?_)))
  simp only [Bool.false_eq_true, if_false]
  refine wpAny_pure (wpAny_bind (wpAny_bind (wpAny_isInstance (T := "int") (b := false) (typeIs_int _ _ _) PySem.sub_int_bytes ?_)))
  simp only [Bool.false_eq_true, if_false]
  refine wpAny_pure (wpAny_bind (wpAny_bind (wpAny_isInstance (T := "int") (b := false) (typeIs_int _ _ _) PySem.sub_int_bytearray ?_)))
  simp only [Bool.false_eq_true, if_false]
  refine wpAny_pure (wpAny_pure ?_)
  refine wpAny_bind (wpAny_newObj_type ?_)
  rw [← hh5] at go6 hCA
  have kp5 : ∀ b o, s4.heap.get? b = some o → s5.heap.get? b = some o := by rw [hh5]; exact kp
  have push5 : ∀ (o : Obj) (b : Addr) (ob : Obj), h5.get? b = some ob → (h5.push o).get? b = some ob := fun o b ob e => Heap.get?_push_of_some o e
  refine wpAny_pure ⟨plainId_quiet F.plain_sum_loop _, ?_⟩
  refine codeAny_mono (sum_loop (G := genCx X (X.A.in1.in1.over (loopC elt tg iter scope gpos it (gEnv X scope s4 code)) []) s4 H2 (gEnv X scope s4 code) fp) (a := a) (gn := s4.gens.size) (go := go) (S := s5.heap.objs.size) (σ0 := wipe σ (own.map (·.2))) (W := W) (Q := Q) (A := X.A)
    hr.hd hr.depth hgo (m0 + 1) _ 0 (isg.push _) ?_ ⟨_, _, Heap.get?_push_size _ rfl⟩ ⟨_, hgs, rfl, ?_⟩) fun r s' hq => ?_
  · refine (I4.nolimit.keeps (h' := s5.heap) (by rw [hh5]; exact kp)).push _
  · have e5 : ∀ (h6 : Heap) (t6 : Nat), ({ s5 with heap := h6, toks := t6 } : Shared).setGen s4.gens.size .running = { s4 with heap := h6, gens := (s5.setGen s4.gens.size .running).gens, toks := t6 } := fun h6 t6 => by
      rw [← hs5]; rfl
    rw [e5]
    refine seg_start (G := genCx X (X.A.in1.in1.over (loopC elt tg iter scope gpos it (gEnv X scope s4 code)) []) s4 H2 (gEnv X scope s4 code) fp) (A := X.A.in1.in1) (CS := [s5.heap.objs.size]) (enc := encS s5.heap.objs.size) (vs := own.map (·.2)) rfl rfl rfl S.co hCA T (fun _ hb => hb)
      (hpg _ s4 H2 code fp hR2) (hpe _ s4 H2 code fp hR2) (fun x s1 s2 hk ⟨t, c, e⟩ => ⟨t, c, hk _ List.mem_cons_self _ e⟩)
      (fun i m x H w => by
        rcases turn i m x H w with ⟨q1, q2⟩ | ⟨q1, q2⟩
        · exact .inl ⟨q1, q2⟩
        · exact .inr ⟨q1, q2⟩)
      (m0 + 1) m0 0 H2 _ (Nat.lt_succ_self _) w0 ⟨_, _, Heap.get?_push_size _ rfl⟩ ?_ (T.keep _ _ _ st4 fun b _ o e => Heap.get?_push_of_some _ (kp5 b o e)) fun b hb => (f4 b hb).1.1
    exact go6 _ _ _ (fun b o e => Heap.get?_push_of_some _ e) ⟨_, Heap.get?_push_size _ rfl, fun v z => by cases z⟩ (allBare_setGen bare5 rfl)
  · obtain ⟨x, t, H9, rfl, hq, hL⟩ := hq
    exact ⟨.int x, H9, inv_left I4 (fun b hb => (f4 b hb).1) (fun b hb => by rw [List.mem_singleton.mp hb, hh5]; exact s4h5) hL, ⟨t, rfl⟩, hq⟩
end
end NX
set_option Elab.async false
set_option linter.all false
set_option maxRecDepth 100000
set_option maxHeartbeats 2000000
namespace NX
open PySem PySem.Spec PyProof.Rows L2
section
variable {X : Cx}
/-! ### a dict display with one pair, its key a tuple -/
def bOneT (p : Addr) (Q : VK) (x y : V) (H2 : Hp) : Prop := H2 p = some (.dT []) ∧ ∃ b ks, x = V.ref b ∧ H2 b = some (.tup (ks.map kV)) ∧ Q (.ref p) (upd H2 p (.dT [(ks, y)]))
def tOneT (tk tv : TE) : TE := fun σ H Q => ∀ p, H p = none → tk σ (upd H p (.dT [])) fun x H1 => tv σ H1 fun y H2 => bOneT p Q x y H2
theorem pe_oneT {k v : Expr} {pos : Pos} {tk tv : TE} (hu : X.A.units + 1 < cLine) (hk : PE X k tk) (hv : PE X v tv) : PE X (.Dict [some k] [v] pos) (tOneT tk tv) := by
  refine ⟨fun pins s σ H Q I q => ?_⟩
  have hn := I.hok.fresh (Nat.le_refl s.heap.objs.size)
  have I1 := I.laid (a := s.heap.objs.size) (o := .dT []) (h' := s.heap.push { cls := .type "dict", data := .dict #[] }) (t' := s.toks) (fun _ _ q => Heap.get?_push_of_some _ q) (Nat.le_refl _) (dt_empty s.heap I.big)
  have hr := pps_cons (ks := []) (vs := []) (pos := pos) hk hv pps_nil
  have hlen : (pairTrees [some k] [v] X.env pos).length ≤ 15 := by show 1 ≤ 15; decide
  rw [arm_eval_Dict, show (evalEachOpt [some k] X.env).zip ((evalEach [v] X.env).map fun v => do let x ← v; standAt pos; pure x) = (pairTrees [some k] [v] X.env pos).map fun p => (some p.1, p.2) from rfl,
    dictDisplay_pairs (pairTrees [some k] [v] X.env pos) (by intro z; cases z) (by show 1 < 17; decide)]
  refine wpAny_bind (wpAny_standAt (wpAny_bind (wpAny_subDictH (knd := tupleKind (mixKind X.prog X.w)) (show X.A.units < cLine from by omega) hlen ?_)))
  refine thn (hr.run pins _ σ _ (fun ps H2 => match ps with | [(x, y)] => bOneT s.heap.objs.size Q x y H2 | _ => False) I1 (q _ hn)) fun ws s2 ⟨ps, H2, I2, rel, hq⟩ => ?_
  rcases rel with _ | @⟨a0, b0, as, bs, h, t⟩
  · exact hq.elim
  rcases t with _ | ⟨h', t'⟩
  · obtain ⟨x, y⟩ := a0
    obtain ⟨e, b, ks, ex, eb, q2⟩ := (show bOneT s.heap.objs.size Q x y H2 from hq)
    obtain ⟨w1, w2⟩ := b0
    obtain ⟨h1, h2⟩ := h
    subst ex
    obtain rfl : w1 = Value.ref b := h1
    obtain ⟨z, hd, xs, r, dd⟩ := dt_of I2.hok e
    cases r
    refine ⟨[(ks, b, w2)], ⟨rfl, rfl, key_of I2.hok eb, True.intro⟩, dd, fun h' tk dk hs => wpAny_pure ⟨.ref s.heap.objs.size, _, ?_, rfl, q2⟩⟩
    obtain ⟨o, es, epp, g1, g2, g3, g4, g5, g6⟩ := dk
    have he : ∃ q, h'.get? s.heap.objs.size = some q := ⟨o, g1⟩
    have hb : b ≠ s.heap.objs.size := fun z => by rw [z, e] at eb; cases eb
    exact d_write I2 (by rw [e]; exact True.intro) hs he ⟨by show 1 ≤ sizeLine; decide, hd, _, .cons ⟨rfl, (upd_ne hb).trans eb, h2⟩ .nil, o, es, epp, g1, g2, g3, g4, g6⟩
  · obtain ⟨x, y⟩ := a0
    exact hq.elim

/-! ### enumerate of a tuple -/
theorem meets_enumerate_newT (l : Addr) (items : Array Value) :
    Meets (Builtin.«enumerate.__new__» ⟨[.type "enumerate", .ref l], []⟩) (fun _ R s => s.heap.IsTuple l items ∧
      R (.ok (.ret (.ref (s.heap.push { cls := .type "tuple_iterator", data := .fields #[.ref l, .int 0 0] }).objs.size)))
        { s with heap := (s.heap.push { cls := .type "tuple_iterator", data := .fields #[.ref l, .int 0 0] }).push { cls := .type "enumerate", data := .fields #[.none, .bool false, .ref s.heap.objs.size, rawInt 0, .none, .none] } }) :=
  .of_wp fun prog w A R s h => by
    obtain ⟨hp, g, d, tk, os⟩ := s; obtain ⟨hl, h⟩ := h
    have hsub := sub_enumerate
    have q1 : ∀ {A' : Around} {E : Value → Shared → Prop} {Q : Value → Shared → Prop}, Q (.ref hp.objs.size) ⟨hp.push { cls := .type "tuple_iterator", data := .fields #[.ref l, .int 0 0] }, g, d, tk, os⟩ → wpAny (model prog w) A' (pyIter (.ref l)) Q E ⟨hp, g, d, tk, os⟩ :=
      fun q => wpAny_pyIter_tuple hl q
    wp_walk using q1
    refine wpAny_stack_any fun st => wpAny_pure ?_
    split
    · rename_i c _ _ _ _ _
      cases (c == Value.type "enumerate")
      · wp_walk using q1
        exact ⟨_, rfl, h⟩
      · wp_walk using q1
        exact ⟨_, rfl, h⟩
    · wp_walk using q1
      exact ⟨_, rfl, h⟩
theorem call_enumerate_tuple {prog : Program} {w : World} {A : Around} {E : Value → Shared → Prop} {s : Shared} {l : Addr} {items : Array Value} {Q : Value → Shared → Prop} (hL : s.heap.IsTuple l items)
    (h : ∀ h', IsEnum h' (s.heap.objs.size + 1) s.heap.objs.size 0 .none → h'.IsTupleIter s.heap.objs.size l 0 → h'.objs.size = s.heap.objs.size + 2 →
      (∀ b o, s.heap.get? b = some o → h'.get? b = some o) → Q (.ref (s.heap.objs.size + 1)) { s with heap := h' }) :
    wpAny (model prog w) A (call (.type "enumerate") [.ref l]) Q E s := by
  refine callType_new F.called_enumerate (by decide) (F.typeCall_enumerate_1 _) (F.newCall_enumerate_1 _) (fun obj => F.args_object_init_2 obj _) F.entry_enumerate_new
    (meets_enumerate_newT l items) ⟨hL, ?_⟩
  have hz : (s.heap.push { cls := .type "tuple_iterator", data := .fields #[.ref l, .int 0 0] }).objs.size = s.heap.objs.size + 1 := Heap.size_push ..
  show _ ∧ _
  rw [hz]
  have he : IsEnum ((s.heap.push { cls := .type "tuple_iterator", data := .fields #[.ref l, .int 0 0] }).push
      { cls := .type "enumerate", data := .fields #[.none, .bool false, .ref s.heap.objs.size, rawInt 0, .none, .none] }) (s.heap.objs.size + 1) s.heap.objs.size 0 .none := by
    have := Heap.get?_push_size (s.heap.push { cls := .type "tuple_iterator", data := .fields #[.ref l, .int 0 0] })
      (o := { cls := .type "enumerate", data := .fields #[.none, .bool false, .ref s.heap.objs.size, rawInt 0, .none, .none] }) rfl
    rw [hz] at this; exact this
  refine ⟨⟨_, he, rfl⟩, h _ he ⟨_, Heap.get?_push_of_some _ (Heap.get?_push_size _ rfl), rfl, rfl⟩ (by rw [Heap.size_push, hz]) fun b o x => Heap.get?_push_of_some _ (Heap.get?_push_of_some _ x)⟩

def IteT (K : PySem.W.Frag) (a : Addr) : It :=
  ⟨fun i H => ∃ (xs : List V) (x : V), SqT K H a xs ∧ xs[i]? = some x, fun i H v H' => ∃ T x, v = .ref T ∧ H T = none ∧ H' = upd H T (.tup [.int (i : Nat), x]) ∧ ∀ xs, SqT K H a xs → xs[i]? = some x, fun i H => ∃ xs : List V, SqT K H a xs ∧ xs.length = i⟩
theorem turn_enumT {P : Program} {w : World} {K : PySem.W.Frag} {elts : List Expr} {kk : Nat} {tpos : Pos} (a e it : Addr) (hne : e ≠ it) (hae : a ≠ e) (hai : a ≠ it) :
    Turn P w K (.Tuple elts kk tpos) (IteT K a) [e, it] e (fun i h => (∃ old, IsEnum h e it ((i : Nat) : Int) old) ∧ h.IsTupleIter it a i) where
  mem := by simp
  obj := fun i h st b hb => by
    obtain ⟨⟨old, he⟩, ⟨o, ho, hc, hd⟩⟩ := st
    have e' : b = e ∨ b = it := by simpa using hb
    rcases e' with z | z
    · rw [z]; exact ⟨_, he, fun v q => nomatch q⟩
    · rw [z]; exact ⟨o, ho, fun v q => by rw [hd] at q; cases q⟩
  keep := fun i h h' st k => let ⟨⟨old, he⟩, hi⟩ := st; ⟨⟨old, k e (by simp) _ he⟩, hi.at fun o q => k it (by simp) o q⟩
  item := by
    intro X hP hw hK hc i pins s σ H E I hf st hg
    subst hP hw hK
    obtain ⟨⟨old, he⟩, hit⟩ := st
    obtain ⟨xs, x, hq, hx⟩ := hg
    obtain ⟨its, rv, p, hz⟩ := I.tuple hq
    obtain ⟨u, hu, ru⟩ := rv.get hx
    have hel : e < s.heap.objs.size := Heap.lt_size he
    have hil : it < s.heap.objs.size := by obtain ⟨_, q, _⟩ := hit; exact Heap.lt_size q
    have hl : i < its.toArray.size := by
      have := (List.getElem?_eq_some_iff.mp hu).1
      simpa using this
    have p2 : s.heap.IsTuple a its.toArray := p
    refine wpAny_pyNext_enum_itemD (Draws.tuple (prog := X.prog) (w := X.w) (A := X.A.in1) (show X.A.in1.handled = none from I.ok.hd hc) it a hai its.toArray) he ⟨hit, p2⟩ hl hne (by simp [hne, Ne.symm hae]) fun x1 h' tk hP ho hit' hT hsz hk => ?_
    obtain rfl : x1 = u := by
      have h1 : its[i]? = some x1 := by simpa using hP
      rw [hu] at h1; exact (Option.some.inj h1).symm
    refine ⟨_, rfl, wpAny_letOwnedTupleGo_enum (s := { s with heap := h', toks := tk + 1 }) ho fun h'' he' sb => ?_⟩
    have hT2 : h''.get? s.heap.objs.size = some { cls := .type "tuple", data := .seq #[.int i tk, x1] } := (sb.2 _ (Nat.ne_of_gt hel)).trans hT
    have new : ObjOk X.prog X.w (upd H s.heap.objs.size (.tup [.int (i : Nat), x])) h'' s.heap.objs.size (.tup [.int (i : Nat), x]) :=
      ⟨by show 2 ≤ sizeLine; decide, [.int i tk, x1], .cons ⟨_, rfl⟩ (.cons ru .nil), ⟨_, hT2, rfl, _, rfl⟩⟩
    have I1 : Inv X pins σ (upd H s.heap.objs.size (.tup [.int (i : Nat), x])) { s with heap := h'', toks := tk + 1 } :=
      I.turnedNew (ch := [e, it]) (fun b ob hb q => (sb.2 b (fun z => hb (by simp [z]))).trans (hk b ob (fun z => hb (by simp [z])) (fun z => hb (by simp [z])) q)) hf (Nat.le_refl _) new
    refine ⟨.ref s.heap.objs.size, _, I1, rfl, ⟨_, x, rfl, I.hok.fresh (Nat.le_refl _), rfl, fun ys hy => by rw [I.tuple_inj hy hq]; exact hx⟩, ⟨⟨x1, ?_⟩, hit'.1.at fun o q => (sb.2 it (Ne.symm hne)).trans q⟩, fun b hb => ?_⟩
    · have e1 : ((i + 1 : Nat) : Int) = (i : Int) + 1 := by omega
      rw [e1]; exact he'
    · have hb' : b < s.heap.objs.size := by
        have e' : b = e ∨ b = it := by simpa using hb
        rcases e' with z | z
        · rw [z]; exact hel
        · rw [z]; exact hil
      rw [upd_ne (Nat.ne_of_lt hb')]
      exact (hf b hb).1
  done := by
    intro X hP hw hK hc i pins s σ H E I hf st hg
    subst hP hw hK
    obtain ⟨⟨old, he⟩, hit⟩ := st
    obtain ⟨xs, hq, hx⟩ := hg
    obtain ⟨its, rv, p, hz⟩ := I.tuple hq
    obtain ⟨f0, f1, f2, f3, f4, f5⟩ := hf it (by simp)
    have hl := rv.length
    have p2 : s.heap.IsTuple a its.toArray := p
    have ei : its.toArray.size = i := by simp; omega
    have hit2 : s.heap.IsTupleIter it a its.toArray.size := by rw [ei]; exact hit
    exact wpAny_pyNext_enum_endD (Draws.tuple (prog := X.prog) (w := X.w) (A := X.A.in1) (show X.A.in1.handled = none from I.ok.hd hc) it a hai its.toArray) he ⟨hit2, p2⟩ fun h' eb => ⟨rfl, I.turned (t' := s.toks) (fun b o hb q => eb b o hb q) f0 f1 f3 f4 f5⟩
  self := fun A i s Q E st h => let ⟨⟨_, he⟩, _⟩ := st; wpAny_pyIter_enum he h
def iEnumT (K : PySem.W.Frag) (ta : TA) : TI := fun σ H R => ta σ H fun vs H1 => ∃ a xs, vs = [.ref a] ∧ SqT K H1 a xs ∧ R (IteT K a) H1
theorem pi_enumT {e : Expr} {ta : TA} {p pos tpos : Pos} {elts : List Expr} {kk : Nat} (hg : Gl X "enumerate") (hm : X.mg "enumerate" = none) (ha : PA X [e] ta) (hs : starEach [e] X.env = [(false, eval e X.env)] := by rfl) :
    PI X (.Tuple elts kk tpos) (.Call (.Name "enumerate" p) [e] [] pos) (iEnumT X.K ta) := by
  refine ⟨fun pins s σ H R I h => ?_⟩
  refine Call_ (ld_blt I hg hm boot_enumerate (PyProof.Rows.callWith_type1 (thn (ha.run pos pins s σ H _ I h) fun us s1 ⟨vs, H1, I1, r1, q1⟩ => ?_) hs rfl))
  obtain ⟨a, xs, ex, hq, q⟩ := q1
  subst ex
  cases r1 with
  | cons r rr =>
    cases rr
    cases r
    obtain ⟨its, rv, p', hz⟩ := I1.tuple hq
    have p2 : s1.heap.IsTuple a its.toArray := p'
    have la : a < s1.heap.objs.size := by obtain ⟨_, q, _⟩ := id p'; exact Heap.lt_size q
    refine call_enumerate_tuple p2 fun h' he hit hsz hk => wpAny_pyIter_enum he ?_
    have I2 : Inv X pins σ H1 { s1 with heap := h' } := I1.kept (t' := s1.toks) hk
    refine ⟨s1.heap.objs.size + 1, [s1.heap.objs.size + 1, s1.heap.objs.size], _, _, H1, rfl, I2, turn_enumT a (s1.heap.objs.size + 1) s1.heap.objs.size (Nat.succ_ne_self _) (Nat.ne_of_lt (Nat.lt_succ_of_lt la)) (Nat.ne_of_lt la), ⟨⟨.none, he⟩, hit⟩, fun b hb => ?_, q⟩
    have e' : b = s1.heap.objs.size + 1 ∨ b = s1.heap.objs.size := by simpa using hb
    have hle : s1.heap.objs.size ≤ b := by
      rcases e' with z | z
      · rw [z]; exact Nat.le_add_right _ _
      · rw [z]; exact Nat.le_refl _
    exact I1.fpOk hle (I1.hok.fresh hle)

/-! ### zip of a tuple and a list -/
def ItzM (K : PySem.W.Frag) (a b : Addr) : It :=
  ⟨fun i H => ∃ (xs ys : List V) (x y : V), SqT K H a xs ∧ SqL K H b ys ∧ xs[i]? = some x ∧ ys[i]? = some y,
    fun i H v H' => ∃ T x y, v = .ref T ∧ H T = none ∧ H' = upd H T (.tup [x, y]) ∧ (∀ xs, SqT K H a xs → xs[i]? = some x) ∧ ∀ ys, SqL K H b ys → ys[i]? = some y,
    fun i H => ∃ xs ys : List V, SqT K H a xs ∧ SqL K H b ys ∧ xs.length = i ∧ ys.length = i⟩
theorem turn_zipM {P : Program} {w : World} {K : PySem.W.Frag} {elts : List Expr} {kk : Nat} {tpos : Pos} {a b z TI TO i1 i2 : Addr} (D : ZipSep2 z TI TO i1 i2 [i1, a] [i2, b]) (na : a ≠ i1) (nb : b ≠ i2) :
    Turn P w K (.Tuple elts kk tpos) (ItzM K a b) [z, TI, TO, i1, i2] z (fun i h => IsZip h z TI TO .none ∧ IsTupOf2 h TI (.ref i1) (.ref i2) ∧ (∃ x y, IsTupOf2 h TO x y) ∧ h.IsTupleIter i1 a i ∧ h.IsListIter i2 b i) where
  mem := by simp
  obj := fun i h st c hc => by
    obtain ⟨hz, hTI, ⟨x, y, hTO⟩, ⟨o1, e1, _, d1⟩, ⟨o2, e2, _, d2⟩⟩ := st
    have e' : c = z ∨ c = TI ∨ c = TO ∨ c = i1 ∨ c = i2 := by simpa using hc
    rcases e' with q | q | q | q | q
    · rw [q]; exact ⟨_, hz, fun v q => nomatch q⟩
    · rw [q]; exact ⟨_, hTI, fun v q => nomatch q⟩
    · rw [q]; exact ⟨_, hTO, fun v q => nomatch q⟩
    · rw [q]; exact ⟨o1, e1, fun v q => by rw [d1] at q; cases q⟩
    · rw [q]; exact ⟨o2, e2, fun v q => by rw [d2] at q; cases q⟩
  keep := fun i h h' st k => by
    obtain ⟨hz, hTI, ⟨x, y, hTO⟩, h1, h2⟩ := st
    exact ⟨k z (by simp) _ hz, k TI (by simp) _ hTI, ⟨x, y, k TO (by simp) _ hTO⟩, h1.at fun o q => k i1 (by simp) o q, h2.at fun o q => k i2 (by simp) o q⟩
  item := by
    intro X hP hw hK hc i pins s σ H E I hf st hg
    subst hP hw hK
    obtain ⟨hz, hTI, ⟨x0, y0, hTO⟩, h1, h2⟩ := st
    obtain ⟨xs, ys, x, y, hqx, hqy, hx, hy⟩ := hg
    obtain ⟨its, rv, p, _⟩ := I.tuple hqx
    obtain ⟨its2, rv2, p2, _⟩ := I.list hqy
    obtain ⟨u, hu, ru⟩ := rv.get hx
    obtain ⟨u2, hu2, ru2⟩ := rv2.get hy
    have p1 : s.heap.IsTuple a its.toArray := p
    have hzl : z < s.heap.objs.size := Heap.lt_size hz
    have l1 : i < its.toArray.size := by
      have := (List.getElem?_eq_some_iff.mp hu).1
      simpa using this
    have l2 : i < its2.toArray.size := by
      have := (List.getElem?_eq_some_iff.mp hu2).1
      simpa using this
    refine wpAny_pyNext_zipD2_item D (Draws.tuple (prog := X.prog) (w := X.w) (A := X.A.in1) (show X.A.in1.handled = none from I.ok.hd hc) i1 a na its.toArray) (Draws.list (prog := X.prog) (w := X.w) (A := X.A.in1) (show X.A.in1.handled = none from I.ok.hd hc) i2 b nb its2.toArray) hz hTI hTO ⟨h1, p1⟩ ⟨h2, p2.isList⟩ l1 l2 fun x1 x2 h' tk hP1 hP2 z' TO' h1' h2' hT hsz hk => ?_
    obtain rfl : x1 = u := by
      have h1 : its[i]? = some x1 := by simpa using hP1
      rw [hu] at h1; exact (Option.some.inj h1).symm
    obtain rfl : x2 = u2 := by
      have h1 : its2[i]? = some x2 := by simpa using hP2
      rw [hu2] at h1; exact (Option.some.inj h1).symm
    refine ⟨_, rfl, wpAny_letOwnedTupleGo_zip (s := { s with heap := h', toks := tk }) z' fun h'' z'' sb => ?_⟩
    have hT2 : h''.get? s.heap.objs.size = some { cls := .type "tuple", data := .seq #[x1, x2] } := (sb.2 _ (Nat.ne_of_gt hzl)).trans hT
    have new : ObjOk X.prog X.w (upd H s.heap.objs.size (.tup [x, y])) h'' s.heap.objs.size (.tup [x, y]) :=
      ⟨by show 2 ≤ sizeLine; decide, [x1, x2], .cons ru (.cons ru2 .nil), ⟨_, hT2, rfl, _, rfl⟩⟩
    have I1 : Inv X pins σ (upd H s.heap.objs.size (.tup [x, y])) { s with heap := h'', toks := tk } :=
      I.turnedNew (t' := tk) (ch := [z, TI, TO, i1, i2]) (fun c o hb q => (sb.2 c (fun q' => hb (by simp [q']))).trans (hk c o (fun q' => hb (by simp [q'])) (fun q' => hb (by simp [q'])) (fun q' => hb (by simp [q'])) (fun q' => hb (by simp [q'])) q)) hf (Nat.le_refl _) new
    refine ⟨.ref s.heap.objs.size, _, I1, rfl, ⟨_, x, y, rfl, I.hok.fresh (Nat.le_refl _), rfl, fun l hl => by rw [I.tuple_inj hl hqx]; exact hx, fun l hl => by rw [I.list_inj hl hqy]; exact hy⟩, ⟨z'', ?_, ⟨x1, x2, ?_⟩, ?_, ?_⟩, fun c hcm => ?_⟩
    · exact (sb.2 _ D.TIz).trans (hk _ _ D.TIz D.TITO D.TIi1 D.TIi2 hTI)
    · exact (sb.2 _ D.TOz).trans TO'
    · exact h1'.1.at fun o q => (sb.2 _ D.zi1.symm).trans q
    · exact h2'.1.at fun o q => (sb.2 _ D.zi2.symm).trans q
    · have hlt : c < s.heap.objs.size := by
        have e' : c = z ∨ c = TI ∨ c = TO ∨ c = i1 ∨ c = i2 := by simpa using hcm
        rcases e' with q | q | q | q | q
        · rw [q]; exact hzl
        · rw [q]; exact Heap.lt_size hTI
        · rw [q]; exact Heap.lt_size hTO
        · rw [q]; obtain ⟨_, e1, _⟩ := h1; exact Heap.lt_size e1
        · rw [q]; obtain ⟨_, e2, _⟩ := h2; exact Heap.lt_size e2
      rw [upd_ne (Nat.ne_of_lt hlt)]
      exact (hf c hcm).1
  done := by
    intro X hP hw hK hc i pins s σ H E I hf st hg
    subst hP hw hK
    obtain ⟨hz, hTI, ⟨x0, y0, hTO⟩, h1, h2⟩ := st
    obtain ⟨xs, ys, hqx, hqy, g1, g2⟩ := hg
    obtain ⟨its, rv, p, _⟩ := I.tuple hqx
    obtain ⟨its2, rv2, p2, _⟩ := I.list hqy
    have p1 : s.heap.IsTuple a its.toArray := p
    have l1 := rv.length
    have l2 := rv2.length
    have e1 : its.toArray.size = i := by simp; omega
    have e2 : its2.toArray.size = i := by simp; omega
    exact wpAny_pyNext_zipD2_end D (Draws.tuple (prog := X.prog) (w := X.w) (A := X.A.in1) (show X.A.in1.handled = none from I.ok.hd hc) i1 a na its.toArray) (Draws.list (prog := X.prog) (w := X.w) (A := X.A.in1) (show X.A.in1.handled = none from I.ok.hd hc) i2 b nb its2.toArray) hz hTI hTO ⟨h1, p1⟩ ⟨h2, p2.isList⟩ (by omega) (by omega) (.inl e1.symm) fun h' tk hk => ⟨rfl, I.turnedL (t' := tk) (ch := [z, TI, TO, i1, i2]) (fun c o hb q =>
      hk c o (fun q' => hb (by simp [q'])) (fun q' => hb (by simp [q'])) (fun q' => hb (by simp [q'])) (fun q' => hb (by simp [q'])) q) hf⟩
  self := fun A i s Q E st h => wpAny_pyIter_zip st.1 h
def iZipM (K : PySem.W.Frag) (ta : TA) : TI := fun σ H R => ta σ H fun vs H1 => ∃ a b xs ys, vs = [.ref a, .ref b] ∧ SqT K H1 a xs ∧ SqL K H1 b ys ∧ R (ItzM K a b) H1
theorem pi_zipM {e e2 : Expr} {ta : TA} {p pos tpos : Pos} {elts : List Expr} {kk : Nat} (hg : Gl X "zip") (hm : X.mg "zip" = none) (ha : PA X [e, e2] ta)
    (hs : starEach [e, e2] X.env = (false, eval e X.env) :: starEach [e2] X.env := by rfl) (hpl : (backTo pos (starEach [e2] X.env)).any (·.1) = false := by rfl) :
    PI X (.Tuple elts kk tpos) (.Call (.Name "zip" p) [e, e2] [] pos) (iZipM X.K ta) := by
  refine ⟨fun pins s σ H R I h => ?_⟩
  refine Call_ (ld_blt I hg hm PyProof.Rows.boot_zip (PyProof.Rows.callWith_type1 (thn (ha.run pos pins s σ H _ I h) fun us s1 ⟨vs, H1, I1, r1, q1⟩ => ?_) hs hpl))
  obtain ⟨a, b, xs, ys, ex, hqx, hqy, q⟩ := q1
  subst ex
  cases r1 with
  | cons r rr =>
    cases rr with
    | cons r' rr =>
      cases rr
      cases r
      cases r'
      obtain ⟨its, rv, p1, _⟩ := I1.tuple hqx
      obtain ⟨its2, rv2, p2, _⟩ := I1.list hqy
      have pt : s1.heap.IsTuple a its.toArray := p1
      have la : a < s1.heap.objs.size := by obtain ⟨_, q, _⟩ := id p1; exact Heap.lt_size q
      have lb : b < s1.heap.objs.size := p2.lt
      refine zip_begins2 (begins_tuple a its.toArray) (begins_list b its2.toArray) pt p2.isList fun h' hz hTI hTO g1 g2 hsz hk => wpAny_pyIter_zip hz ?_
      have I2 : Inv X pins σ H1 { s1 with heap := h' } := I1.kept (t' := s1.toks) hk
      have D := zip_sep2 (N := s1.heap.objs.size) (fp1 := [a]) (fp2 := [b]) (fun c hc => by rw [List.mem_singleton.mp hc]; exact la) (fun c hc => by rw [List.mem_singleton.mp hc]; exact lb)
      refine ⟨s1.heap.objs.size + 4, [s1.heap.objs.size + 4, s1.heap.objs.size + 2, s1.heap.objs.size + 3, s1.heap.objs.size, s1.heap.objs.size + 1], _, _, H1, rfl, I2, turn_zipM D (Nat.ne_of_lt la) (Nat.ne_of_lt (Nat.lt_succ_of_lt lb)), ⟨hz, hTI, ⟨_, _, hTO⟩, ⟨_, g1, rfl, rfl⟩, ⟨_, g2, rfl, rfl⟩⟩, fun c hcm => ?_, q⟩
      have e' : c = s1.heap.objs.size + 4 ∨ c = s1.heap.objs.size + 2 ∨ c = s1.heap.objs.size + 3 ∨ c = s1.heap.objs.size ∨ c = s1.heap.objs.size + 1 := by simpa using hcm
      have hle : s1.heap.objs.size ≤ c := by
        rcases e' with z | z | z | z | z
        · rw [z]; exact Nat.le_add_right _ _
        · rw [z]; exact Nat.le_add_right _ _
        · rw [z]; exact Nat.le_add_right _ _
        · rw [z]; exact Nat.le_refl _
        · rw [z]; exact Nat.le_add_right _ _
      exact I1.fpOk hle (I1.hok.fresh hle)
end
end NX
set_option Elab.async false
set_option linter.all false
set_option maxRecDepth 100000
set_option maxHeartbeats 2000000
namespace NX
open PySem PySem.Spec PyProof.Rows L2 PySem.W PySem.SeqAt
/-! ### (int, tuple of ints) -/
def vI (l : List Int) : List V := l.map V.int
def dI (l : List Int) : List PyData := l.map PyData.int
def dP (c : Int) (l : List Int) : PyData := .tuple [.int c, .tuple (dI l)]
/-- x is a pair (c, tuple of the ints l) -/
def TP (H : Hp) (x : V) (c : Int) (l : List Int) : Prop := ∃ a b, x = V.ref a ∧ H a = some (.tup [.int c, .ref b]) ∧ H b = some (.tup (vI l))
theorem dpAll_ints {K : PySem.W.Frag} {H : Hp} : ∀ l : List Int, DpAll K H (vI l) (dI l)
  | [] => .nil
  | x :: l => .cons (.int x) (dpAll_ints l)
theorem TP.dp {K : PySem.W.Frag} {H : Hp} {x : V} {c : Int} {l : List Int} (h : TP H x c l) : Dp K H x (dP c l) := by
  obtain ⟨a, b, rfl, h1, h2⟩ := h
  exact .tup (SqT.of h1) (.cons (.int c) (.cons (.tup (SqT.of h2) (dpAll_ints l)) .nil))
theorem alikeAll_ints : ∀ l m : List Int, alikeAll (dI l) (dI m) = true
  | [], [] => by simp [dI, alikeAll]
  | [], _ :: _ => by simp [dI, alikeAll]
  | _ :: _, [] => by simp [dI, alikeAll]
  | x :: l, y :: m => by
    have := alikeAll_ints l m
    simp only [dI, List.map_cons, alikeAll, alike, Bool.true_and] at this ⊢
    exact this
theorem alike_dP (c c' : Int) (l m : List Int) : alike (dP c l) (dP c' m) = true := by
  unfold dP
  simp [alike, alikeAll, alikeAll_ints]
theorem depth_dI (l : List Int) : PyData.depthAll (dI l) = 0 := ke_depthAll l
theorem depth_dP (c : Int) (l : List Int) : (dP c l).depth = 2 := by
  unfold dP
  simp [PyData.depth, PyData.depthAll, depth_dI]
theorem lt_dP_fst {c c' : Int} {l m : List Int} (h : c ≠ c') : dataLt (dP c l) (dP c' m) = decide (c < c') := by
  unfold dP
  rw [dataLt_tuple, dataLt_all_no (by simp [alike]) (by simpa [PyData.eqv] using h), dataLt_int]
theorem lt_dP_yes {c c' : Int} {l m : List Int} (h : dataLt (dP c l) (dP c' m) = true) : c ≤ c' := by
  by_cases e : c = c'
  · omega
  · rw [lt_dP_fst e] at h
    have := of_decide_eq_true h
    omega
theorem lt_dP_no {c c' : Int} {l m : List Int} (h : dataLt (dP c l) (dP c' m) = false) : c' ≤ c := by
  by_cases e : c = c'
  · omega
  · rw [lt_dP_fst e] at h
    have := of_decide_eq_false h
    omega
theorem dP_some (c : Int) (l : List Int) : dP c l ≠ .none := by intro z; cases z
section
variable {X : Cx}
/-- part < other, both pairs: by their vI, if these differ -/
def rLtP : R2 := fun x y H Q => ∃ c c' l l', TP H x c l ∧ TP H y c' l' ∧ ∀ k : Bool, (k = true → c ≤ c') → (k = false → c' ≤ c) → Q (.bl k) H
theorem op_ltP (hu : X.A.units + 64 < cLine) : OpR X (compareOp .Lt) rLtP := by
  intro pins s σ H x y v u Q I rx ry h
  obtain ⟨c, c', l, l', hx, hy, q⟩ := h
  obtain ⟨as, r1⟩ := Dp.reads I _ x v hx.dp rx
  obtain ⟨bs, r2⟩ := Dp.reads I _ y u hy.dp ry
  refine PySem.W.lt_data r1 r2 (alike_dP _ _ _ _) (dP_some _ _) (by rw [depth_dP, depth_dP]; omega) ⟨.bl _, H, I, rfl, q _ lt_dP_yes lt_dP_no⟩

/-! ### max of a list of such pairs -/
theorem argBest_ge {f : Nat → Int} {bt : Nat → Nat → Bool} (h1 : ∀ i j, bt i j = true → f j ≤ f i) (h2 : ∀ i j, bt i j = false → f i ≤ f j) : ∀ k, argBest bt k ≤ k ∧ ∀ i ≤ k, f i ≤ f (argBest bt k)
  | 0 => ⟨Nat.le_refl _, fun i hi => by rw [Nat.le_zero.mp hi]; exact Int.le_refl _⟩
  | k + 1 => by
    obtain ⟨i1, i2⟩ := argBest_ge h1 h2 k
    by_cases hb : bt (k + 1) (argBest bt k) = true
    · have ea : argBest bt (k + 1) = k + 1 := if_pos hb
      rw [ea]
      refine ⟨Nat.le_refl _, fun i hi => ?_⟩
      rcases Nat.lt_or_ge i (k + 1) with z | z
      · exact Int.le_trans (i2 i (by omega)) (h1 _ _ hb)
      · rw [show i = k + 1 by omega]; exact Int.le_refl _
    · have ea : argBest bt (k + 1) = argBest bt k := if_neg hb
      rw [ea]
      refine ⟨Nat.le_succ_of_le i1, fun i hi => ?_⟩
      rcases Nat.lt_or_ge i (k + 1) with z | z
      · exact i2 i (by omega)
      · rw [show i = k + 1 by omega]; exact h2 _ _ (by simpa using hb)
def rMaxP (K : PySem.W.Frag) : List V → Hp → VK → Prop := fun vs H Q => ∃ (a : Addr) (xs : List V) (f : Nat → Int) (g : Nat → List Int), vs = [V.ref a] ∧ SqL K H a xs ∧ 0 < xs.length ∧ (∀ i x, xs[i]? = some x → TP H x (f i) (g i)) ∧
  ∀ i x, xs[i]? = some x → (∀ j, j < xs.length → f j ≤ f i) → Q x H
theorem cr_maxP (hu : X.A.units + 64 < cLine) (hc : X.calm = true) : CallR X (.builtin "max") (rMaxP X.K) := by
  intro pins s σ H vs us Q I r h
  obtain ⟨a, xs, f, g, rfl, hs, hne, hx, q⟩ := h
  obtain ⟨its, rv, hl, hz⟩ := I.list hs
  rw [Vals.ref1 r]
  have hlen := rv.length
  have hat : ∀ (i : Nat) (v : Value), its.toArray[i]? = some v → ∃ x as, xs[i]? = some x ∧ RelV x v ∧ Reads s.heap v (dP (f i) (g i)) as := fun i v hv => by
    have hv' : its[i]? = some v := by simpa using hv
    have hi : i < xs.length := by rw [hlen]; exact (List.getElem?_eq_some_iff.mp hv').1
    obtain ⟨u, hu1, ru⟩ := rv.get (List.getElem?_eq_getElem hi)
    rw [hv'] at hu1
    cases hu1
    obtain ⟨as, r1⟩ := Dp.reads I _ _ v (hx i _ (List.getElem?_eq_getElem hi)).dp ru
    exact ⟨_, as, List.getElem?_eq_getElem hi, ru, r1⟩
  refine call_max_walkH (iter_listW (A := X.A.in1) (show X.A.in1.handled = none from I.ok.hd hc) hl.isList fun s₂ e W st hfp hw hk => ?_)
  have hcmp : CmpIn X.prog X.w X.A.in1 .Gt s.heap (fun i v => its.toArray[i]? = some v) (fun i j => dataLt (dP (f j) (g j)) (dP (f i) (g i))) := fun i j vi vj s' Q' E' hkk hi hj hq => by
    obtain ⟨_, as1, _, _, r1⟩ := hat i vi hi
    obtain ⟨_, as2, _, _, r2⟩ := hat j vj hj
    exact rcGt_alike _ _ X.A.in1 s' vi vj _ _ (reads_keeps hkk r1) (reads_keeps hkk r2) (alike_dP _ _ _ _) (dP_some _ _) (by rw [depth_dP, depth_dP]; show X.A.units + 1 + _ < _; omega) X.prog X.w E' Q' hq
  refine ⟨_, _, _, _, _, _, _, s.heap, _, rfl, W, st, hfp, by simp; omega, hw, hk, hcmp, fun v s' hP m => ?_⟩
  obtain ⟨h', tk, rfl, hk'⟩ := moved_old e rfl m
  obtain ⟨x, _, ex, rx, _⟩ := hat _ v hP
  have ba := argBest_ge (f := f) (bt := fun i j => dataLt (dP (f j) (g j)) (dP (f i) (g i))) (fun i j e => lt_dP_yes e) (fun i j e => lt_dP_no e) (its.toArray.size - 1)
  have es : its.toArray.size = xs.length := by simp; omega
  exact ⟨x, H, I.kept hk', rx, q _ x ex fun j hj => ba.2 j (by omega)⟩

/-! ### sorted of tuples of ints, the first of which is empty -/
theorem kind_one {M : Model} {A : Around} {E : Value → Shared → Prop} {s : Shared} {v₁ : Value} {rest : List Value} {Q : SortKind → Shared → Prop} (h0 : ∃ l o n, v₁ = .ref l ∧ s.heap.get? l = some o ∧ o.data = .seq #[] n)
    (hT : ∀ v ∈ v₁ :: rest, ∃ l o xs n, v = .ref l ∧ s.heap.get? l = some o ∧ o.cls = .type "tuple" ∧ o.data = .seq xs n) (h : Q oneType' s) : wpAny M A (keyKind' (v₁ :: rest).toArray) Q E s := by
  have hl : ∀ v ∈ v₁ :: rest, Looks M s.heap (typeOf v) (.type "tuple") := fun v hv => by
    obtain ⟨l, o, xs, n, rfl, ho, hc, hd⟩ := hT v hv
    show Looks M s.heap (typeOf (Value.ref l)) (Value.type "tuple")
    exact hc ▸ (Looks.ld ho).andThen .now
  have firsts : ∀ (l : List Value) (Q : List (Option Value) → Shared → Prop), (∀ v ∈ l, ∃ a o xs n, v = .ref a ∧ s.heap.get? a = some o ∧ o.cls = .type "tuple" ∧ o.data = .seq xs n) → (∀ fs, Q fs s) → wpAny M A (l.mapM firstOfTuple') Q E s := by
    intro l
    induction l with
    | nil => intro Q _ hq; rw [List.mapM_nil]; exact wpAny_pure (hq _)
    | cons v l ih =>
      intro Q hh hq
      rw [List.mapM_cons]
      obtain ⟨a, o, xs, n, rfl, ho, hc, hd⟩ := hh v List.mem_cons_self
      have hlk : Looks M s.heap (typeOf (.ref a)) (.type "tuple") := hc ▸ (Looks.ld ho).andThen .now
      refine wpAny_bind ?_
      rw [kas_first_eq]
      refine wpAny_bind (hlk.here ?_)
      rw [if_neg (by decide)]
      refine wpAny_bind (listItems_at ho hd ?_)
      exact wpAny_pure (wpAny_bind (ih _ (fun w hw => hh w (List.mem_cons_of_mem _ hw)) fun fs => wpAny_pure (hq _)))
  rw [keyKind'_eq, List.mapM_toArray, map_eq_pure_bind, List.mapM_cons]
  obtain ⟨l, o, n, rfl, ho, hd⟩ := h0
  refine wpAny_bind (wpAny_bind (wpAny_bind ?_))
  rw [kas_first_eq]
  refine wpAny_bind ((hl _ List.mem_cons_self).here ?_)
  rw [if_neg (by decide)]
  refine wpAny_bind (listItems_at ho hd ?_)
  refine wpAny_pure (wpAny_bind (firsts rest _ (fun v hv => hT v (List.mem_cons_of_mem _ hv)) fun fs => wpAny_pure (wpAny_pure ?_)))
  rw [if_neg (by simp), if_neg (by simp)]
  rw [oneTypeOnly'_eq, List.mapM_toArray, map_eq_pure_bind]
  refine wpAny_bind (wpAny_bind (wpAny_bind (kas_mapM (r := Value.type "tuple") _ (fun v hv Q' hq => (hl v hv).here hq) (wpAny_pure ?_))))
  have hall : ((List.map (fun _ => Value.type "tuple") (Value.ref l :: rest)).toArray.all fun x => x == Value.type "tuple") = true := by
    simp only [List.all_toArray, List.all_map, List.all_eq_true]
    intro _ _
    rfl
  have h0 : (List.map (fun _ => Value.type "tuple") (Value.ref l :: rest)).toArray[0]? = some (Value.type "tuple") := by simp
  rw [h0]
  simp only [hall, if_true]
  exact wpAny_pure (wpAny_pure h)
theorem oneLt_tup {prog : Program} {w : World} {A : Around} {E : Value → Shared → Prop} {s : Shared} {xs ys : List Int} {a b : Value} {as bs : List Addr} {Q : Bool → Shared → Prop} (ra : Reads s.heap a (.tuple (dI xs)) as) (rb : Reads s.heap b (.tuple (dI ys)) bs)
    (hu : A.units + 2 < cLine) (hq : Q (dataLt (.tuple (dI xs)) (.tuple (dI ys))) s) : wpAny (model prog w) A (oneLt' true a b) Q E s := by
  have hal := alikeAll_ints xs ys
  cases ra with
  | @tuple l o vs n _ as₁ h1 h2 h3 h4 =>
    cases rb with
    | @tuple l' o' vs' n' _ bs₁ k1 k2 k3 k4 =>
      have n1 : vs.size = (dI xs).length := by simpa using SeqAt.ReadsAll.length _ _ _ h4
      have n2 : vs'.size = (dI ys).length := by simpa using SeqAt.ReadsAll.length _ _ _ k4
      rw [dataLt_tuple, ← firstLt_toks _ _ hal, ← n1, ← n2] at hq
      rw [oneLt'_eq]
      simp only [if_true]
      refine wpAny_bind (wpAny_cRoomFor (by omega) ?_)
      obtain ⟨cls, dd, data, sl⟩ := o
      obtain ⟨cls2, dd2, data2, sl2⟩ := o'
      simp only at h2 h3 k2 k3
      subst h2 h3 k2 k3
      have hd0 : A.in1.units + min (PyData.depthAll (dI xs)) (PyData.depthAll (dI ys)) < cLine := by
        rw [depth_dI, depth_dI]; show A.units + 1 + _ < _; omega
      refine wpAny_bind (wpAny_callSpecialIfBound?_slot (T := "tuple") ⟨_, h1, rfl⟩ F.slot_tuple_lt (call_meets F.slot_tuple_lt ⟨_, h1, rfl⟩ F.entry_tuple_lt (F.args_tuple_lt_2 _ _) (tuple_ltAt l l' vs vs' n n' dd dd2 sl sl2 (pairEq (dI xs) (dI ys)) (fun j => dataLt ((dI xs).getD j .none) ((dI ys).getD j .none))) ⟨h1, k1, fun j j1 j2 => ?_, fun j j1 j2 hj => ?_, ?_⟩))
      · have := eqAt_alikeAll (dI xs) (dI ys) A.in1 s vs.toList vs'.toList _ _ h4 k4 hal hd0 j (by simpa using j1) (by simpa using j2)
        simpa using this
      · have := rcLt_alikeAll (dI xs) (dI ys) A.in1 s vs.toList vs'.toList _ _ h4 k4 hal hd0 j (by simpa using j1) (by simpa using j2) hj
        simpa using this
      · exact wpAny_truthy_bool hq
/-- sorted(xs), xs tuples of ints, the first one empty: a new list of the same tuples -/
def rSortT (K : PySem.W.Frag) : List V → Hp → VK → Prop := fun vs H Q => ∃ (a : Addr) (x : V) (xs : List V) (k : V → List Int), vs = [V.ref a] ∧ SqL K H a (x :: xs) ∧ k x = [] ∧ (∀ y ∈ x :: xs, ∃ t, y = V.ref t ∧ H t = some (.tup (vI (k y)))) ∧
  ∀ ys p, ys.Perm (x :: xs) → H p = none → Q (.ref p) (upd H p (.lst ys))
theorem cr_sortT (hu : X.A.units + 64 < cLine) : CallR X (.builtin "sorted") (rSortT X.K) := by
  intro pins s σ H vs us Q I r h
  obtain ⟨a, x, xs, k, rfl, hs, hk0, hx, q⟩ := h
  obtain ⟨its, rv, hl, hz⟩ := I.list hs
  rw [Vals.ref1 r]
  have hlen := rv.length
  have tupAt : ∀ y ∈ x :: xs, ∀ v, RelV y v → ∃ as, Reads s.heap v (.tuple (dI (k y))) as := fun y hy v ry => by
    obtain ⟨t, rfl, ht⟩ := hx y hy
    exact Dp.reads I _ _ v (.tup (SqT.of ht) (dpAll_ints _)) ry
  obtain ⟨e1, e2⟩ := refs_back rv fun y m => by
    obtain ⟨t, e, _⟩ := hx y m
    exact ⟨t, e⟩
  obtain ⟨v₁, vr, rfl⟩ : ∃ v₁ vr, its = v₁ :: vr := by
    cases rv with
    | cons _ _ => exact ⟨_, _, rfl⟩
  have each : EachIs (fun v d => ∃ as, Reads s.heap v d as) (v₁ :: vr) ((x :: xs).map fun y => PyData.tuple (dI (k y))) := by
    have : ∀ (ys : List V) (ws : List Value), Vals ys ws → (∀ y ∈ ys, y ∈ x :: xs) → EachIs (fun v d => ∃ as, Reads s.heap v d as) ws (ys.map fun y => PyData.tuple (dI (k y))) := by
      intro ys ws rr
      induction rr with
      | nil => intro _; exact .nil
      | cons r1 _ ih => intro hm; exact .cons (tupAt _ (hm _ List.mem_cons_self) _ r1) (ih fun y hy => hm y (List.mem_cons_of_mem _ hy))
    exact this _ _ rv fun _ h => h
  have hal : AllAlike ((x :: xs).map fun y => PyData.tuple (dI (k y))) := fun d hd d' hd' => by
    obtain ⟨y, _, rfl⟩ := List.mem_map.mp hd
    obtain ⟨y', _, rfl⟩ := List.mem_map.mp hd'
    simp [alike, alikeAll_ints]
  refine sorted_vals (κ := dataKind (sortingHeap (copyHeap s.heap (v₁ :: vr)) (s.heap.objs.size + 1) (v₁ :: vr)) ((x :: xs).map fun y => PyData.tuple (dI (k y)))) hl.isList ?_ (by rw [← hlen]; exact hz) ?_
  · have kp : ∀ b o, s.heap.get? b = some o → (sortingHeap (copyHeap s.heap (v₁ :: vr)) (s.heap.objs.size + 1) (v₁ :: vr)).get? b = some o := fun b o e =>
      sortingHeap_old (Nat.ne_of_lt (Nat.lt_succ_of_lt (Heap.lt_size e))) (copyHeap_old e)
    have each2 : EachIs (fun v d => ∃ as, Reads (sortingHeap (copyHeap s.heap (v₁ :: vr)) (s.heap.objs.size + 1) (v₁ :: vr)) v d as) (v₁ :: vr) ((x :: xs).map fun y => PyData.tuple (dI (k y))) :=
      each.mono fun v d ⟨as, h⟩ => ⟨as, reads_keeps kp h⟩
    refine ⟨fun v hv => ?_, oneType', ?_, fun _ E Q hq => ?_⟩
    · obtain ⟨d, hd, as, r⟩ := each2.left v hv
      exact ⟨_, dataKind_some hal hd r⟩
    · intro E y z c b Q ha hb hq
      obtain ⟨d, as, hd, ra, rfl⟩ := dataKind_inv ha
      obtain ⟨d', as', hd', rb, rfl⟩ := dataKind_inv hb
      rw [keyLt'_oneType]
      obtain ⟨y1, _, rfl⟩ := List.mem_map.mp hd
      obtain ⟨y2, _, rfl⟩ := List.mem_map.mp hd'
      exact oneLt_tup ra rb (by show X.A.units + 1 + 1 + 2 < _; omega) hq
    · have looksT : ∀ v ∈ v₁ :: vr, ∃ l o xs n, v = .ref l ∧ (sortingHeap (copyHeap s.heap (v₁ :: vr)) (s.heap.objs.size + 1) (v₁ :: vr)).get? l = some o ∧ o.cls = .type "tuple" ∧ o.data = .seq xs n := fun v hv => by
        obtain ⟨d, hd, as, r⟩ := each2.left v hv
        obtain ⟨y1, _, rfl⟩ := List.mem_map.mp hd
        cases r with
        | tuple h1 h2 h3 h4 => exact ⟨_, _, _, _, rfl, h1, h2, h3⟩
      refine kind_one ?_ looksT hq
      have r0 : RelV x v₁ := by cases rv with | cons r _ => exact r
      obtain ⟨as, r1⟩ := tupAt x List.mem_cons_self v₁ r0
      rw [hk0] at r1
      cases r1 with
      | @tuple l o vs n _ _ h1 h2 h3 h4 =>
        have e0 : vs = #[] := by
          have := SeqAt.ReadsAll.length _ _ _ h4
          simp [dI] at this
          exact this
        subst e0
        exact ⟨_, _, _, rfl, kp _ _ h1, h3⟩
  · have pm : (sortVals (dataKind (sortingHeap (copyHeap s.heap (v₁ :: vr)) (s.heap.objs.size + 1) (v₁ :: vr)) ((x :: xs).map fun y => PyData.tuple (dI (k y)))) false (v₁ :: vr) (v₁ :: vr)).Perm (v₁ :: vr) := by
      unfold sortVals
      have h1 := (List.mergeSort_perm ((v₁ :: vr).zip (v₁ :: vr)) (sortLe (dataKind (sortingHeap (copyHeap s.heap (v₁ :: vr)) (s.heap.objs.size + 1) (v₁ :: vr)) ((x :: xs).map fun y => PyData.tuple (dI (k y)))).toKeyOrd false fun p : Keyed => keyD (dataKind (sortingHeap (copyHeap s.heap (v₁ :: vr)) (s.heap.objs.size + 1) (v₁ :: vr)) ((x :: xs).map fun y => PyData.tuple (dI (k y)))) p.1)).map Prod.snd
      rw [List.map_snd_zip (Nat.le_refl _)] at h1
      exact h1
    generalize sortVals (dataKind (sortingHeap (copyHeap s.heap (v₁ :: vr)) (s.heap.objs.size + 1) (v₁ :: vr)) ((x :: xs).map fun y => PyData.tuple (dI (k y)))) false (v₁ :: vr) (v₁ :: vr) = out at pm
    have h3 : ∀ u ∈ out, ∃ a, u = Value.ref a := fun u hu => e2 u (pm.mem_iff.mp hu)
    obtain ⟨n, hn⟩ := sortedAll_at s.heap (v₁ :: vr) out.toArray
    have hb : (out.map backV).Perm (x :: xs) := by
      rw [e1]; exact pm.map backV
    refine ⟨.ref (s.heap.objs.size + 1), upd H (s.heap.objs.size + 1) (.lst (out.map backV)), I.laid (t' := s.toks) (fun b o e => sortedAll_old e) (Nat.le_succ _) ⟨?_, out, n, vals_back h3, hn⟩, rfl, q _ _ hb (I.hok.fresh (Nat.le_succ _))⟩
    rw [hb.length_eq]
    exact hz
end
end NX
set_option Elab.async false
set_option linter.all false
set_option maxRecDepth 100000
set_option maxHeartbeats 2000000
namespace G6
open PySem PySem.Spec PyProof.Rows L2 NX GxR
/-! ### the text -/
def topS (i : Nat) : Stmt := PySem.Challenge.pw_firstthere_k21_whole_nets.main.body.getD i (.Pass ⟨0, 0, 0, 0⟩)
abbrev s_is_in : Stmt := topS 8
theorem c_is_in : FnScope ["value", "least", "most"] ["value", "least", "most"] (defScope s_is_in) := ⟨rfl, rfl, rfl, by decide +kernel, rfl, by decide +kernel, by decide +kernel⟩
abbrev s_are_deputies : Stmt := topS 9
theorem c_are_deputies : FnScope ["value", "person", "one"] ["value"] (defScope s_are_deputies) := ⟨rfl, rfl, rfl, by decide +kernel, rfl, by decide +kernel, by decide +kernel⟩
abbrev s_need_deputies : Stmt := topS 10
theorem c_need_deputies : FnScope ["deputies"] ["deputies"] (defScope s_need_deputies) := ⟨rfl, rfl, rfl, by decide +kernel, rfl, by decide +kernel, by decide +kernel⟩
abbrev s_is_lot : Stmt := topS 11
theorem c_is_lot : FnScope ["size", "value", "one", "k"] ["size", "value"] (defScope s_is_lot) := ⟨rfl, rfl, rfl, by decide +kernel, rfl, by decide +kernel, by decide +kernel⟩
abbrev s_chain_of : Stmt := topS 12
theorem c_chain_of : FnScope ["deputies", "person", "found", "here"] ["deputies", "person"] (defScope s_chain_of) := ⟨rfl, rfl, rfl, by decide +kernel, rfl, by decide +kernel, by decide +kernel⟩
abbrev s_holder_of : Stmt := topS 13
theorem c_holder_of : FnScope ["deputies", "gone", "person", "one"] ["deputies", "gone", "person"] (defScope s_holder_of) := ⟨rfl, rfl, rfl, by decide +kernel, rfl, by decide +kernel, by decide +kernel⟩
abbrev s_all_holders : Stmt := topS 14
theorem c_all_holders : FnScope ["deputies", "gone", "person"] ["deputies", "gone"] (defScope s_all_holders) := ⟨rfl, rfl, rfl, by decide +kernel, rfl, by decide +kernel, by decide +kernel⟩
abbrev s_all_lots : Stmt := topS 15
theorem c_all_lots : FnScope ["size", "found", "person", "lot"] ["size"] (defScope s_all_lots) := ⟨rfl, rfl, rfl, by decide +kernel, rfl, by decide +kernel, by decide +kernel⟩
abbrev s_need_costs : Stmt := topS 18
theorem c_need_costs : FnScope ["deputies", "costs", "one"] ["deputies", "costs"] (defScope s_need_costs) := ⟨rfl, rfl, rfl, by decide +kernel, rfl, by decide +kernel, by decide +kernel⟩
abbrev s_cost_of : Stmt := topS 19
theorem c_cost_of : FnScope ["costs", "lot", "person"] ["costs", "lot"] (defScope s_cost_of) := ⟨rfl, rfl, rfl, by decide +kernel, rfl, by decide +kernel, by decide +kernel⟩
abbrev s_is_order : Stmt := topS 21
theorem c_is_order : FnScope ["size", "value", "one"] ["size", "value"] (defScope s_is_order) := ⟨rfl, rfl, rfl, by decide +kernel, rfl, by decide +kernel, by decide +kernel⟩
abbrev s_need_table : Stmt := topS 24
theorem c_need_table : FnScope ["size", "table", "line", "one"] ["size", "table"] (defScope s_need_table) := ⟨rfl, rfl, rfl, by decide +kernel, rfl, by decide +kernel, by decide +kernel⟩
abbrev s_need_valued : Stmt := topS 25
theorem c_need_valued : FnScope ["deputies", "table"] ["deputies", "table"] (defScope s_need_valued) := ⟨rfl, rfl, rfl, by decide +kernel, rfl, by decide +kernel, by decide +kernel⟩
abbrev s_worth_of : Stmt := topS 26
theorem c_worth_of : FnScope ["deputies", "table", "gone", "line", "there"] ["deputies", "table", "gone"] (defScope s_worth_of) := ⟨rfl, rfl, rfl, by decide +kernel, rfl, by decide +kernel, by decide +kernel⟩
abbrev s_price_of : Stmt := topS 28
theorem c_price_of : FnScope ["deputies", "costs", "gone", "person"] ["deputies", "costs", "gone", "person"] (defScope s_price_of) := ⟨rfl, rfl, rfl, by decide +kernel, rfl, by decide +kernel, by decide +kernel⟩
abbrev s_total_of : Stmt := topS 29
theorem c_total_of : FnScope ["deputies", "costs", "order", "at", "person"] ["deputies", "costs", "order"] (defScope s_total_of) := ⟨rfl, rfl, rfl, by decide +kernel, rfl, by decide +kernel, by decide +kernel⟩
abbrev s_order_cost : Stmt := topS 30
theorem c_order_cost : FnScope ["deputies", "costs", "order"] ["deputies", "costs", "order"] (defScope s_order_cost) := ⟨rfl, rfl, rfl, by decide +kernel, rfl, by decide +kernel, by decide +kernel⟩
abbrev s_cheapest_row : Stmt := topS 31
theorem c_cheapest_row : FnScope ["deputies", "costs", "size", "found", "turn", "more", "gone", "total", "row", "person", "lot", "part"] ["deputies", "costs"] (defScope s_cheapest_row) := ⟨rfl, rfl, rfl, by decide +kernel, rfl, by decide +kernel, by decide +kernel⟩
abbrev s_cheap_order : Stmt := topS 32
theorem c_cheap_order : FnScope ["deputies", "costs"] ["deputies", "costs"] (defScope s_cheap_order) := ⟨rfl, rfl, rfl, by decide +kernel, rfl, by decide +kernel, by decide +kernel⟩
abbrev s_shows_cheap_order : Stmt := topS 33
theorem c_shows_cheap_order : FnScope ["deputies", "costs", "value", "best", "size"] ["deputies", "costs", "value"] (defScope s_shows_cheap_order) := ⟨rfl, rfl, rfl, by decide +kernel, rfl, by decide +kernel, by decide +kernel⟩
abbrev s_need_net : Stmt := topS 34
theorem c_need_net : FnScope ["deputies", "table", "costs"] ["deputies", "table", "costs"] (defScope s_need_net) := ⟨rfl, rfl, rfl, by decide +kernel, rfl, by decide +kernel, by decide +kernel⟩
abbrev s_net_of : Stmt := topS 35
theorem c_net_of : FnScope ["deputies", "table", "costs", "lot"] ["deputies", "table", "costs", "lot"] (defScope s_net_of) := ⟨rfl, rfl, rfl, by decide +kernel, rfl, by decide +kernel, by decide +kernel⟩
abbrev s_best_of : Stmt := topS 36
theorem c_best_of : FnScope ["deputies", "table", "costs", "lot"] ["deputies", "table", "costs"] (defScope s_best_of) := ⟨rfl, rfl, rfl, by decide +kernel, rfl, by decide +kernel, by decide +kernel⟩
abbrev s_best_lot : Stmt := topS 37
theorem c_best_lot : FnScope ["deputies", "table", "costs"] ["deputies", "table", "costs"] (defScope s_best_lot) := ⟨rfl, rfl, rfl, by decide +kernel, rfl, by decide +kernel, by decide +kernel⟩
abbrev s_shows_best_lot : Stmt := topS 38
theorem c_shows_best_lot : FnScope ["deputies", "table", "costs", "value", "best"] ["deputies", "table", "costs", "value"] (defScope s_shows_best_lot) := ⟨rfl, rfl, rfl, by decide +kernel, rfl, by decide +kernel, by decide +kernel⟩
abbrev s_l_taken : Stmt := topS 40
theorem c_l_taken : FnScope ["_law_row", "_law_many", "_law_found", "_law_cell"] ["_law_row", "_law_many"] (defScope s_l_taken) := ⟨rfl, rfl, rfl, by decide +kernel, rfl, by decide +kernel, by decide +kernel⟩
abbrev s_l_pick : Stmt := topS 41
theorem c_l_pick : FnScope ["_law_row", "_law_things"] ["_law_row", "_law_things"] (defScope s_l_pick) := ⟨rfl, rfl, rfl, by decide +kernel, rfl, by decide +kernel, by decide +kernel⟩
abbrev s_l_alike : Stmt := topS 42
theorem c_l_alike : FnScope ["_law_found", "_law_due", "_law_k"] ["_law_found", "_law_due"] (defScope s_l_alike) := ⟨rfl, rfl, rfl, by decide +kernel, rfl, by decide +kernel, by decide +kernel⟩
abbrev s_l_deputies : Stmt := topS 43
theorem c_l_deputies : FnScope ["_law_row", "_law_size", "_law_found", "_law_person", "_law_one"] ["_law_row", "_law_size"] (defScope s_l_deputies) := ⟨rfl, rfl, rfl, by decide +kernel, rfl, by decide +kernel, by decide +kernel⟩
abbrev s_l_holder : Stmt := topS 46
theorem c_l_holder : FnScope ["_law_deputies_here", "_law_gone", "_law_person", "_law_here", "_law_seen", "_law_turn"] ["_law_deputies_here", "_law_gone", "_law_person"] (defScope s_l_holder) := ⟨rfl, rfl, rfl, by decide +kernel, rfl, by decide +kernel, by decide +kernel⟩
abbrev s_l_holders : Stmt := topS 47
theorem c_l_holders : FnScope ["_law_deputies_here", "_law_gone", "_law_k"] ["_law_deputies_here", "_law_gone"] (defScope s_l_holders) := ⟨rfl, rfl, rfl, by decide +kernel, rfl, by decide +kernel, by decide +kernel⟩
abbrev s_l_lots : Stmt := topS 48
theorem c_l_lots : FnScope ["_law_size", "_law_found", "_law_person", "_law_lot_here"] ["_law_size"] (defScope s_l_lots) := ⟨rfl, rfl, rfl, by decide +kernel, rfl, by decide +kernel, by decide +kernel⟩
abbrev s_l_orders : Stmt := topS 49
theorem c_l_orders : FnScope ["_law_some", "_law_found", "_law_k", "_law_rest"] ["_law_some"] (defScope s_l_orders) := ⟨rfl, rfl, rfl, by decide +kernel, rfl, by decide +kernel, by decide +kernel⟩
abbrev s_l_order : Stmt := topS 50
theorem c_l_order : FnScope ["_law_row", "_law_size", "_law_found", "_law_left", "_law_turn", "_law_one", "_law_k"] ["_law_row", "_law_size"] (defScope s_l_order) := ⟨rfl, rfl, rfl, by decide +kernel, rfl, by decide +kernel, by decide +kernel⟩
abbrev s_l_handed : Stmt := topS 51
theorem c_l_handed : FnScope ["_law_deputies_here", "_law_order_here", "_law_person", "_law_found", "_law_k", "_law_there"] ["_law_deputies_here", "_law_order_here", "_law_person"] (defScope s_l_handed) := ⟨rfl, rfl, rfl, by decide +kernel, rfl, by decide +kernel, by decide +kernel⟩
abbrev s_l_cost : Stmt := topS 52
theorem c_l_cost : FnScope ["_law_deputies_here", "_law_costs", "_law_order_here", "_law_total", "_law_k", "_law_some", "_law_one"] ["_law_deputies_here", "_law_costs", "_law_order_here"] (defScope s_l_cost) := ⟨rfl, rfl, rfl, by decide +kernel, rfl, by decide +kernel, by decide +kernel⟩
abbrev s_law : Stmt := topS 53
theorem c_law : FnScope ["_law_script", "_law_row", "_law_size", "_law_deputies_here", "_law_costs", "_law_order_here", "_law_table", "_law_part", "_law_every", "_law_sums", "_law_best", "_law_found", "_law_value", "_law_due", "_law_lots_here", "_law_nets", "_law_lot_here", "_law_held", "_law_k", "_law_person", "_law_one"] ["_law_script"] (defScope s_law) := ⟨rfl, rfl, rfl, by decide +kernel, rfl, by decide +kernel, by decide +kernel⟩
/-- a def whose code object stands at c -/
structure FunC (K : PySem.W.Frag) (x qual : Str) (st : Stmt) (f : Addr) (fd : FuncData) (c : Addr) : Prop where
  ex : ∃ (oc : Value) (od : Option Addr) (kV doc pm : Value) (an : Option Addr) (ct : Value) (osl : Array (Option Value)),
    fd = PySem.W.fnOf x qual (defArgs st) (defBody st) (defScope st) .none kV doc pm an (.ref c) ct ∧ K.lookup f = some ⟨oc, od, .func fd, osl⟩ ∧ PySem.W.codeIn K (.ref c) qual = true
  kp : PySem.W.keepIn K (.ref f) = true
theorem FunC.plain {K : PySem.W.Frag} {x qual : Str} {st : Stmt} {f : Addr} {fd : FuncData} {c : Addr} (F : FunC K x qual st f fd c) : Fun K x qual st f fd := by
  obtain ⟨oc, od, kV, doc, pm, an, ct, osl, h1, h2, h3⟩ := F.ex
  exact ⟨⟨oc, od, kV, doc, pm, an, .ref c, ct, osl, h1, h2, h3⟩, F.kp⟩
theorem FunC.ok {P : Program} {w : World} {K : PySem.W.Frag} {mg : Str → Option Value} {base : Heap} {x qual : Str} {st : Stmt} {f c : Addr} {fd : FuncData} {N ps : List Str} {k : Nat} {sp : Sp} (F : FunC K x qual st f fd c) (S : FnScope N ps (defScope st)) (len : ∀ vs H Q E, sp vs H Q E → vs.length = ps.length)
    (hbody : ∀ (A : Around) (outer : List Env) (s : Shared) (H : Hp) (vs : List V) (Q : VK) (E : XK), Room k (A.deeper (envOfC qual (defScope st) s.heap.objs.size f (.ref c))) → sp vs H Q E →
      ∃ t, PSs (cxOf CX0 P w K mg base N qual (defScope st) f (.ref c) A outer s H E).nox (defBody st) t ∧ t { nx := fun _ H' => Q .non H', rt := Q } (start N vs) H) : FnOk P w K mg base CX0 (k + 1) f fd ps sp := by
  obtain ⟨oc, od, kV, doc, pm, an, ct, osl, rfl, lk, hcd⟩ := F.ex
  refine fn_of lk hcd S len fun A outer s H vs Q E hr hsp => ?_
  obtain ⟨t, h, q⟩ := hbody A outer s H vs Q E hr hsp
  exact ⟨t, h.nox, q⟩
theorem func_mk {K : PySem.W.Frag} {x qual : Str} {st : Stmt} {f c : Addr} {oc : Value} {od an : Option Addr} {osl : Array (Option Value)} {kV doc pm ct : Value} (l : K.lookup f = some ⟨oc, od, .func (PySem.W.fnOf x qual (defArgs st) (defBody st) (defScope st) .none kV doc pm an (.ref c) ct), osl⟩)
    (cd : PySem.W.codeIn K (.ref c) qual = true) (k : PySem.W.keepIn K (.ref f) = true) : FunC K x qual st f (PySem.W.fnOf x qual (defArgs st) (defBody st) (defScope st) .none kV doc pm an (.ref c) ct) c := ⟨⟨oc, od, kV, doc, pm, an, ct, osl, rfl, l, cd⟩, k⟩
/-! ### what the top has written -/
structure Txt (K : PySem.W.Frag) (mg : Str → Option Value) (base : Heap) where
  {f_is_in : Addr}
  {d_is_in : FuncData}
  F_is_in : Fun K "is_in" "is_in" s_is_in f_is_in d_is_in
  b_is_in : Binds K d_is_in ["value", "least", "most"] []
  g_is_in : mg "is_in" = some (.ref f_is_in)
  {f_are_deputies k_are_deputies t_are_deputies : Addr}
  {d_are_deputies : FuncData}
  F_are_deputies : FunC K "are_deputies" "are_deputies" s_are_deputies f_are_deputies d_are_deputies k_are_deputies
  B_are_deputies : TabB base mg k_are_deputies t_are_deputies
  b_are_deputies : Binds K d_are_deputies ["value"] []
  g_are_deputies : mg "are_deputies" = some (.ref f_are_deputies)
  {f_need_deputies : Addr}
  {d_need_deputies : FuncData}
  F_need_deputies : Fun K "need_deputies" "need_deputies" s_need_deputies f_need_deputies d_need_deputies
  b_need_deputies : Binds K d_need_deputies ["deputies"] []
  g_need_deputies : mg "need_deputies" = some (.ref f_need_deputies)
  {f_is_lot k_is_lot t_is_lot : Addr}
  {d_is_lot : FuncData}
  F_is_lot : FunC K "is_lot" "is_lot" s_is_lot f_is_lot d_is_lot k_is_lot
  B_is_lot : TabB base mg k_is_lot t_is_lot
  b_is_lot : Binds K d_is_lot ["size", "value"] []
  g_is_lot : mg "is_lot" = some (.ref f_is_lot)
  {f_chain_of : Addr}
  {d_chain_of : FuncData}
  F_chain_of : Fun K "chain_of" "chain_of" s_chain_of f_chain_of d_chain_of
  b_chain_of : Binds K d_chain_of ["deputies", "person"] []
  g_chain_of : mg "chain_of" = some (.ref f_chain_of)
  {f_holder_of : Addr}
  {d_holder_of : FuncData}
  F_holder_of : Fun K "holder_of" "holder_of" s_holder_of f_holder_of d_holder_of
  b_holder_of : Binds K d_holder_of ["deputies", "gone", "person"] []
  g_holder_of : mg "holder_of" = some (.ref f_holder_of)
  {f_all_holders : Addr}
  {d_all_holders : FuncData}
  F_all_holders : Fun K "all_holders" "all_holders" s_all_holders f_all_holders d_all_holders
  b_all_holders : Binds K d_all_holders ["deputies", "gone"] []
  g_all_holders : mg "all_holders" = some (.ref f_all_holders)
  {f_all_lots : Addr}
  {d_all_lots : FuncData}
  F_all_lots : Fun K "all_lots" "all_lots" s_all_lots f_all_lots d_all_lots
  b_all_lots : Binds K d_all_lots ["size"] []
  g_all_lots : mg "all_lots" = some (.ref f_all_lots)
  {f_need_costs k_need_costs t_need_costs : Addr}
  {d_need_costs : FuncData}
  F_need_costs : FunC K "need_costs" "need_costs" s_need_costs f_need_costs d_need_costs k_need_costs
  B_need_costs : TabB base mg k_need_costs t_need_costs
  b_need_costs : Binds K d_need_costs ["deputies", "costs"] []
  g_need_costs : mg "need_costs" = some (.ref f_need_costs)
  {f_cost_of k_cost_of t_cost_of : Addr}
  {d_cost_of : FuncData}
  F_cost_of : FunC K "cost_of" "cost_of" s_cost_of f_cost_of d_cost_of k_cost_of
  B_cost_of : TabB base mg k_cost_of t_cost_of
  b_cost_of : Binds K d_cost_of ["costs", "lot"] []
  g_cost_of : mg "cost_of" = some (.ref f_cost_of)
  {f_is_order k_is_order t_is_order : Addr}
  {d_is_order : FuncData}
  F_is_order : FunC K "is_order" "is_order" s_is_order f_is_order d_is_order k_is_order
  B_is_order : TabB base mg k_is_order t_is_order
  b_is_order : Binds K d_is_order ["size", "value"] []
  g_is_order : mg "is_order" = some (.ref f_is_order)
  {f_need_table k_need_table t_need_table : Addr}
  {d_need_table : FuncData}
  F_need_table : FunC K "need_table" "need_table" s_need_table f_need_table d_need_table k_need_table
  B_need_table : TabB base mg k_need_table t_need_table
  b_need_table : Binds K d_need_table ["size", "table"] []
  g_need_table : mg "need_table" = some (.ref f_need_table)
  {f_need_valued : Addr}
  {d_need_valued : FuncData}
  F_need_valued : Fun K "need_valued" "need_valued" s_need_valued f_need_valued d_need_valued
  b_need_valued : Binds K d_need_valued ["deputies", "table"] []
  g_need_valued : mg "need_valued" = some (.ref f_need_valued)
  {f_worth_of k_worth_of t_worth_of : Addr}
  {d_worth_of : FuncData}
  F_worth_of : FunC K "worth_of" "worth_of" s_worth_of f_worth_of d_worth_of k_worth_of
  B_worth_of : TabB base mg k_worth_of t_worth_of
  b_worth_of : Binds K d_worth_of ["deputies", "table", "gone"] []
  g_worth_of : mg "worth_of" = some (.ref f_worth_of)
  {f_price_of : Addr}
  {d_price_of : FuncData}
  F_price_of : Fun K "price_of" "price_of" s_price_of f_price_of d_price_of
  b_price_of : Binds K d_price_of ["deputies", "costs", "gone", "person"] []
  g_price_of : mg "price_of" = some (.ref f_price_of)
  {f_total_of k_total_of t_total_of : Addr}
  {d_total_of : FuncData}
  F_total_of : FunC K "total_of" "total_of" s_total_of f_total_of d_total_of k_total_of
  B_total_of : TabB base mg k_total_of t_total_of
  b_total_of : Binds K d_total_of ["deputies", "costs", "order"] []
  g_total_of : mg "total_of" = some (.ref f_total_of)
  {f_order_cost : Addr}
  {d_order_cost : FuncData}
  F_order_cost : Fun K "order_cost" "order_cost" s_order_cost f_order_cost d_order_cost
  b_order_cost : Binds K d_order_cost ["deputies", "costs", "order"] []
  g_order_cost : mg "order_cost" = some (.ref f_order_cost)
  {f_cheapest_row : Addr}
  {d_cheapest_row : FuncData}
  F_cheapest_row : Fun K "cheapest_row" "cheapest_row" s_cheapest_row f_cheapest_row d_cheapest_row
  b_cheapest_row : Binds K d_cheapest_row ["deputies", "costs"] []
  g_cheapest_row : mg "cheapest_row" = some (.ref f_cheapest_row)
  {f_cheap_order : Addr}
  {d_cheap_order : FuncData}
  F_cheap_order : Fun K "cheap_order" "cheap_order" s_cheap_order f_cheap_order d_cheap_order
  b_cheap_order : Binds K d_cheap_order ["deputies", "costs"] []
  g_cheap_order : mg "cheap_order" = some (.ref f_cheap_order)
  {f_shows_cheap_order : Addr}
  {d_shows_cheap_order : FuncData}
  F_shows_cheap_order : Fun K "shows_cheap_order" "shows_cheap_order" s_shows_cheap_order f_shows_cheap_order d_shows_cheap_order
  b_shows_cheap_order : Binds K d_shows_cheap_order ["deputies", "costs", "value"] []
  g_shows_cheap_order : mg "shows_cheap_order" = some (.ref f_shows_cheap_order)
  {f_need_net : Addr}
  {d_need_net : FuncData}
  F_need_net : Fun K "need_net" "need_net" s_need_net f_need_net d_need_net
  b_need_net : Binds K d_need_net ["deputies", "table", "costs"] []
  g_need_net : mg "need_net" = some (.ref f_need_net)
  {f_net_of : Addr}
  {d_net_of : FuncData}
  F_net_of : Fun K "net_of" "net_of" s_net_of f_net_of d_net_of
  b_net_of : Binds K d_net_of ["deputies", "table", "costs", "lot"] []
  g_net_of : mg "net_of" = some (.ref f_net_of)
  {f_best_of : Addr}
  {d_best_of : FuncData}
  F_best_of : Fun K "best_of" "best_of" s_best_of f_best_of d_best_of
  b_best_of : Binds K d_best_of ["deputies", "table", "costs"] []
  g_best_of : mg "best_of" = some (.ref f_best_of)
  {f_best_lot : Addr}
  {d_best_lot : FuncData}
  F_best_lot : Fun K "best_lot" "best_lot" s_best_lot f_best_lot d_best_lot
  b_best_lot : Binds K d_best_lot ["deputies", "table", "costs"] []
  g_best_lot : mg "best_lot" = some (.ref f_best_lot)
  {f_shows_best_lot : Addr}
  {d_shows_best_lot : FuncData}
  F_shows_best_lot : Fun K "shows_best_lot" "shows_best_lot" s_shows_best_lot f_shows_best_lot d_shows_best_lot
  b_shows_best_lot : Binds K d_shows_best_lot ["deputies", "table", "costs", "value"] []
  g_shows_best_lot : mg "shows_best_lot" = some (.ref f_shows_best_lot)
  {f_l_taken : Addr}
  {d_l_taken : FuncData}
  F_l_taken : Fun K "_law_taken" "_law_taken" s_l_taken f_l_taken d_l_taken
  b_l_taken : Binds K d_l_taken ["_law_row", "_law_many"] []
  g_l_taken : mg "_law_taken" = some (.ref f_l_taken)
  {f_l_pick : Addr}
  {d_l_pick : FuncData}
  F_l_pick : Fun K "_law_pick" "_law_pick" s_l_pick f_l_pick d_l_pick
  b_l_pick : Binds K d_l_pick ["_law_row", "_law_things"] []
  g_l_pick : mg "_law_pick" = some (.ref f_l_pick)
  {f_l_alike : Addr}
  {d_l_alike : FuncData}
  F_l_alike : Fun K "_law_alike" "_law_alike" s_l_alike f_l_alike d_l_alike
  b_l_alike : Binds K d_l_alike ["_law_found", "_law_due"] []
  g_l_alike : mg "_law_alike" = some (.ref f_l_alike)
  {f_l_deputies : Addr}
  {d_l_deputies : FuncData}
  F_l_deputies : Fun K "_law_deputies" "_law_deputies" s_l_deputies f_l_deputies d_l_deputies
  b_l_deputies : Binds K d_l_deputies ["_law_row", "_law_size"] []
  g_l_deputies : mg "_law_deputies" = some (.ref f_l_deputies)
  {f_l_holder : Addr}
  {d_l_holder : FuncData}
  F_l_holder : Fun K "_law_holder" "_law_holder" s_l_holder f_l_holder d_l_holder
  b_l_holder : Binds K d_l_holder ["_law_deputies_here", "_law_gone", "_law_person"] []
  g_l_holder : mg "_law_holder" = some (.ref f_l_holder)
  {f_l_holders : Addr}
  {d_l_holders : FuncData}
  F_l_holders : Fun K "_law_holders" "_law_holders" s_l_holders f_l_holders d_l_holders
  b_l_holders : Binds K d_l_holders ["_law_deputies_here", "_law_gone"] []
  g_l_holders : mg "_law_holders" = some (.ref f_l_holders)
  {f_l_lots : Addr}
  {d_l_lots : FuncData}
  F_l_lots : Fun K "_law_lots" "_law_lots" s_l_lots f_l_lots d_l_lots
  b_l_lots : Binds K d_l_lots ["_law_size"] []
  g_l_lots : mg "_law_lots" = some (.ref f_l_lots)
  {f_l_orders : Addr}
  {d_l_orders : FuncData}
  F_l_orders : Fun K "_law_orders" "_law_orders" s_l_orders f_l_orders d_l_orders
  b_l_orders : Binds K d_l_orders ["_law_some"] []
  g_l_orders : mg "_law_orders" = some (.ref f_l_orders)
  {f_l_order : Addr}
  {d_l_order : FuncData}
  F_l_order : Fun K "_law_order" "_law_order" s_l_order f_l_order d_l_order
  b_l_order : Binds K d_l_order ["_law_row", "_law_size"] []
  g_l_order : mg "_law_order" = some (.ref f_l_order)
  {f_l_handed : Addr}
  {d_l_handed : FuncData}
  F_l_handed : Fun K "_law_handed" "_law_handed" s_l_handed f_l_handed d_l_handed
  b_l_handed : Binds K d_l_handed ["_law_deputies_here", "_law_order_here", "_law_person"] []
  g_l_handed : mg "_law_handed" = some (.ref f_l_handed)
  {f_l_cost : Addr}
  {d_l_cost : FuncData}
  F_l_cost : Fun K "_law_cost" "_law_cost" s_l_cost f_l_cost d_l_cost
  b_l_cost : Binds K d_l_cost ["_law_deputies_here", "_law_costs", "_law_order_here"] []
  g_l_cost : mg "_law_cost" = some (.ref f_l_cost)
  z_len : mg "len" = none
  z_range : mg "range" = none
  z_tuple : mg "tuple" = none
  z_list : mg "list" = none
  z_isinstance : mg "isinstance" = none
  z_int : mg "int" = none
  z_bool : mg "bool" = none
  z_all : mg "all" = none
  z_sum : mg "sum" = none
  z_sorted : mg "sorted" = none
  z_enumerate : mg "enumerate" = none
  z_zip : mg "zip" = none
  z_min : mg "min" = none
  z_max : mg "max" = none
  z_str : mg "str" = none
  v_MOST_PEOPLE : ∃ t, mg "MOST_PEOPLE" = some (.int 6 t)
  v_MOST_COST : ∃ t, mg "MOST_COST" = some (.int 1000 t)
  v_MOST_WORTH : ∃ t, mg "MOST_WORTH" = some (.int 100 t)
section
variable {K : PySem.W.Frag} {mg : Str → Option Value} {base : Heap}
/-- the tables of the code objects stand, whatever they hold -/
structure Tb (T : Txt K mg base) (H : Hp) : Prop where
  are_deputies : TabG H T.t_are_deputies
  is_lot : TabG H T.t_is_lot
  need_costs : TabG H T.t_need_costs
  cost_of : TabG H T.t_cost_of
  is_order : TabG H T.t_is_order
  need_table : TabG H T.t_need_table
  worth_of : TabG H T.t_worth_of
  total_of : TabG H T.t_total_of
end
/-! ### heaps: what stood stands, tables stay tables -/
structure Sm (H H' : Hp) : Prop where
  keep : ∀ b o, H b = some o → (∀ ps, o ≠ .tbl ps) → H' b = some o
  tab : ∀ P, TabG H P → TabG H' P
  dom : ∀ b, H' b = none → H b = none
section
variable {H H' H2 H3 : Hp}
theorem Sm.refl (H : Hp) : Sm H H := ⟨fun _ _ e _ => e, fun _ h => h, fun _ e => e⟩
theorem Sm.trans (h1 : Sm H H2) (h2 : Sm H2 H3) : Sm H H3 := ⟨fun b o e n => h2.keep b o (h1.keep b o e n) n, fun P h => h2.tab P (h1.tab P h), fun b e => h1.dom b (h2.dom b e)⟩
/-- a new object, or one that was not in H, is written -/
theorem Sm.put {p : Addr} {o : HO} (h : Sm H H2) (n : H p = none) : Sm H (upd H2 p o) := by
  refine ⟨fun b u e k => ?_, fun P ⟨ps, e, t⟩ => ?_, fun b e => ?_⟩
  · rw [upd_ne (ne_of_none e n)]; exact h.keep b u e k
  · obtain ⟨qs, e2, t2⟩ := h.tab P ⟨ps, e, t⟩
    exact ⟨qs, by rw [upd_ne (ne_of_none e n)]; exact e2, t2⟩
  · by_cases z : b = p
    · rw [z, upd_same] at e; cases e
    · rw [upd_ne z] at e; exact h.dom b e
theorem Sm.new {p : Addr} {o : HO} (n : H p = none) : Sm H (upd H p o) := (Sm.refl H).put n
theorem Sm.tabbed {P : Addr} (h : TabG H P) (t : Tabbed P H H') : Sm H H' := by
  obtain ⟨ps, e, _⟩ := h
  refine ⟨fun b o eb k => ?_, fun P2 h2 => ?_, fun b eb => ?_⟩
  · have nb : b ≠ P := fun z => by rw [z, e] at eb; cases eb; exact k _ rfl
    rw [t.2 b nb]; exact eb
  · by_cases z : P2 = P
    · rw [z]; exact t.1
    · obtain ⟨qs, e2, t2⟩ := h2
      exact ⟨qs, by rw [t.2 P2 z]; exact e2, t2⟩
  · by_cases z : b = P
    · obtain ⟨qs, e2, _⟩ := t.1
      rw [z, e2] at eb; cases eb
    · rw [t.2 b z] at eb; exact eb
theorem Sm.lst {a : Addr} {xs : List V} (h : Sm H H') (e : H a = some (.lst xs)) : H' a = some (.lst xs) := h.keep _ _ e fun _ z => by cases z
theorem Sm.tup {a : Addr} {xs : List V} (h : Sm H H') (e : H a = some (.tup xs)) : H' a = some (.tup xs) := h.keep _ _ e fun _ z => by cases z
theorem Sm.dT {a : Addr} {xs} (h : Sm H H') (e : H a = some (.dT xs)) : H' a = some (.dT xs) := h.keep _ _ e fun _ z => by cases z
theorem Sm.rd {a : Addr} {u : HO} (h : Sm H H') (k : ∀ ps, u ≠ .tbl ps) (r : Rd H a u) : Rd H' a u := by
  rcases r with r | ⟨o, r⟩
  · exact .inl (h.keep _ _ r k)
  · exact .inr ⟨o, h.keep _ _ r fun _ z => by cases z⟩
theorem Sm.sL {K : PySem.W.Frag} {a : Addr} {xs : List V} (h : Sm H H') (e : SqL K H a xs) : SqL K H' a xs := by
  rcases e with e | e
  · exact .inl (h.rd (fun _ z => by cases z) e)
  · exact .inr e
theorem Sm.sT {K : PySem.W.Frag} {a : Addr} {xs : List V} (h : Sm H H') (e : SqT K H a xs) : SqT K H' a xs := by
  rcases e with e | e
  · exact .inl (h.rd (fun _ z => by cases z) e)
  · exact .inr e
theorem Sm.tb {K : PySem.W.Frag} {mg : Str → Option Value} {base : Heap} {T : Txt K mg base} (h : Sm H H') (t : Tb T H) : Tb T H' :=
  ⟨h.tab _ t.are_deputies, h.tab _ t.is_lot, h.tab _ t.need_costs, h.tab _ t.cost_of, h.tab _ t.is_order, h.tab _ t.need_table, h.tab _ t.worth_of, h.tab _ t.total_of⟩
theorem Sm.ne {a p : Addr} {o : HO} (h : Sm H H') (e : H a = some o) (k : ∀ ps, o ≠ .tbl ps) (n : H' p = none) : a ≠ p := ne_of_none (h.keep _ _ e k) n
end
end G6
set_option Elab.async false
set_option linter.all false
set_option maxRecDepth 100000
set_option maxHeartbeats 2000000
namespace G6
open PySem PySem.Spec PyProof.Rows L2 NX GxR
/-! ### isinstance(e, T), T a built-in type -/
def IsT (K : PySem.W.Frag) (H : Hp) (x : V) (T : String) (b : Bool) : Prop := ∃ t, TyX K H x (.type t) ∧ kitB t T = some b
section
variable {K : PySem.W.Frag} {H : Hp}
theorem isT_ii {i : Int} : IsT K H (.int i) "int" true := ⟨"int", .base (.int _), by decide +kernel⟩
theorem isT_ib {i : Int} : IsT K H (.int i) "bool" false := ⟨"int", .base (.int _), by decide +kernel⟩
theorem isT_it {i : Int} : IsT K H (.int i) "tuple" false := ⟨"int", .base (.int _), by decide +kernel⟩
theorem isT_is {i : Int} : IsT K H (.int i) "str" false := ⟨"int", .base (.int _), by decide +kernel⟩
theorem isT_bi {b : Bool} : IsT K H (.bl b) "int" true := ⟨"bool", .base (.bl _), by decide +kernel⟩
theorem isT_bb {b : Bool} : IsT K H (.bl b) "bool" true := ⟨"bool", .base (.bl _), by decide +kernel⟩
theorem isT_bs {b : Bool} : IsT K H (.bl b) "str" false := ⟨"bool", .base (.bl _), by decide +kernel⟩
theorem isT_nt : IsT K H .non "tuple" false := ⟨"NoneType", .base .non, by decide +kernel⟩
theorem isT_tt {a : Addr} {xs : List V} (h : H a = some (.tup xs)) : IsT K H (.ref a) "tuple" true := ⟨"tuple", .base (.tup h), by decide +kernel⟩
theorem isT_ti {a : Addr} {xs : List V} (h : H a = some (.tup xs)) : IsT K H (.ref a) "int" false := ⟨"tuple", .base (.tup h), by decide +kernel⟩
theorem isT_lt {a : Addr} {xs : List V} (h : H a = some (.lst xs)) : IsT K H (.ref a) "tuple" false := ⟨"list", .base (.lst h), by decide +kernel⟩
end
def rIsN (K : PySem.W.Frag) (xs : List V) (H : Hp) (Q : VK) : Prop := match xs with
  | [x, .ty T] => ∃ b, IsT K H x T b ∧ Q (.bl b) H
  | _ => False
theorem call_isN {X : Cx} : CallR X (.builtin "isinstance") (rIsN X.K) := by
  intro pins s σ H xs us Q I r h
  refine call_isi pins s σ H xs us Q I r ?_
  unfold rIsN at h
  split at h
  · obtain ⟨b, ⟨t, h1, h2⟩, q⟩ := h
    exact ⟨_, _, _, _, b, rfl, .ty _, h1, kit_ty h2, q⟩
  · exact h.elim
def tIsi (K : PySem.W.Frag) (T : String) (ta : TE) : TE := fun σ H Q => ta σ H fun x H1 => ∃ b, IsT K H1 x T b ∧ Q (.bl b) H1
section
variable {X : Cx} {te : TE} {e : Expr}
theorem pe_isi {p p2 pos : Pos} {T : Str} (Ts : String) (hgI : Gl X "isinstance") (hmI : X.mg "isinstance" = none) (hgT : Gl X T) (hmT : X.mg T = none) (hbT : bootBuiltins T = some (.type Ts)) (he : PE X e te) (hn : T ≠ "__name__" := by decide) (hd : (T == ("__debug__" : Str)) = false := by decide)
    (hs : starEach [e, .Name T p2] X.env = (false, eval e X.env) :: starEach [.Name T p2] X.env := by rfl) (hs2 : starEach [.Name T p2] X.env = (false, eval (.Name T p2) X.env) :: starEach [] X.env := by rfl) (hpl : (backTo pos (starEach [.Name T p2] X.env)).any (·.1) = false := by rfl) : PE X (.Call (.Name "isinstance" p) [e, .Name T p2] [] pos) (tIsi X.K Ts te) :=
  pe_callB (p := p) (pos := pos) (x := "isinstance") call_isN hgI hmI (by decide +kernel) (pa_cons he (pa_cons (pe_bltn (x := T) (v := .ty Ts) (u := .type Ts) (pos := p2) hgT hmT hbT rfl hn hd) pa_nil hs2) hs) (by decide) (by decide) hs hpl
end
theorem bt_int : bootBuiltins "int" = some (.type "int") := by decide +kernel
theorem bt_bool : bootBuiltins "bool" = some (.type "bool") := by decide +kernel
theorem bt_tuple : bootBuiltins "tuple" = some (.type "tuple") := by decide +kernel
theorem bt_list : bootBuiltins "list" = some (.type "list") := by decide +kernel
theorem bt_str : bootBuiltins "str" = some (.type "str") := by decide +kernel
theorem bt_len : bootBuiltins "len" = some (.builtin "len") := by decide +kernel
theorem bt_sorted : bootBuiltins "sorted" = some (.builtin "sorted") := by decide +kernel
theorem bt_sum : bootBuiltins "sum" = some (.builtin "sum") := by decide +kernel
theorem bt_max : bootBuiltins "max" = some (.builtin "max") := by decide +kernel
theorem bt_min : bootBuiltins "min" = some (.builtin "min") := by decide +kernel
/-! ### all(..), sum(..) of a generator expression, turn by turn -/
def Wn (n : Nat) (Pv : Nat → Hp → Prop) (i m : Nat) (H : Hp) : Prop := m = n - i ∧ i ≤ n ∧ Pv i H
def Nxt (n : Nat) (Pv : Nat → Hp → Prop) (i : Nat) (H : Hp) : Prop := ∃ m', m' < n - i ∧ Wn n Pv (i + 1) m' H
theorem Nxt.mk {n i : Nat} {Pv : Nat → Hp → Prop} {H : Hp} (hi : i < n) (h : Pv (i + 1) H) : Nxt n Pv i H := ⟨n - (i + 1), by omega, rfl, hi, h⟩
theorem gAll {J : It} {P : Addr} {g : TG} {te : TE} {vs : List Nat} {σ : L2.St} {H1 : Hp} {QT QF : Hp → Prop} (n : Nat) (Pv : Nat → Hp → Prop) (hT : TabG H1 P) (h0 : ∀ H2, Tabbed P H1 H2 → Pv 0 H2) (hstop : ∀ H, Pv n H → J.stop n H ∧ QT H) (hgo : ∀ i H, i < n → Pv i H → J.go i H)
    (hs : ∀ i H v H', i < n → Pv i H → J.yld i H v H' → g v (wipe σ vs) H' fun σ2 H3 => wipe σ2 vs = wipe σ vs ∧ te σ2 H3 fun y H4 => ∃ b, y = V.bl b ∧ if b = true then Nxt n Pv i H4 else QF H4) :
    TabG H1 P ∧ ∀ H2, Tabbed P H1 H2 → ∃ W : Nat → Nat → Hp → Prop, (∃ m, W 0 m H2) ∧ ∀ i m H, W i m H → (J.stop i H ∧ QT H) ∨ (J.go i H ∧ ∀ v H', J.yld i H v H' → g v (wipe σ vs) H' fun σ2 H3 => wipe σ2 vs = wipe σ vs ∧ te σ2 H3 fun y H4 => ∃ b, y = V.bl b ∧ if b = true then ∃ m', m' < m ∧ W (i + 1) m' H4 else QF H4) := by
  refine ⟨hT, fun H2 t => ⟨Wn n Pv, ⟨n, rfl, Nat.zero_le _, h0 H2 t⟩, ?_⟩⟩
  rintro i m H ⟨rfl, hi, p⟩
  rcases Nat.lt_or_ge i n with z | z
  · exact .inr ⟨hgo i H z p, fun v H' y => hs i H v H' z p y⟩
  · have e : i = n := by omega
    subst e
    exact .inl (hstop H p)
def Wk (n : Nat) (acc : Nat → Int) (Pv : Nat → Hp → Prop) (i m : Nat) (x : Int) (H : Hp) : Prop := m = n - i ∧ i ≤ n ∧ x = acc i ∧ Pv i H
def NxK (n : Nat) (acc : Nat → Int) (Pv : Nat → Hp → Prop) (i : Nat) (k : Int) (H : Hp) : Prop := ∃ m', m' < n - i ∧ Wk n acc Pv (i + 1) m' (acc i + k) H
theorem NxK.mk {n i : Nat} {acc : Nat → Int} {Pv : Nat → Hp → Prop} {k : Int} {H : Hp} (hi : i < n) (ha : acc (i + 1) = acc i + k) (h : Pv (i + 1) H) : NxK n acc Pv i k H := ⟨n - (i + 1), by omega, rfl, hi, ha.symm, h⟩
theorem gSum {J : It} {P : Addr} {g : TG} {te : TE} {vs : List Nat} {σ : L2.St} {H1 : Hp} {QS : Int → Hp → Prop} (n : Nat) (acc : Nat → Int) (Pv : Nat → Hp → Prop) (hz : acc 0 = 0) (hT : TabG H1 P) (h0 : ∀ H2, Tabbed P H1 H2 → Pv 0 H2) (hstop : ∀ H, Pv n H → J.stop n H ∧ QS (acc n) H) (hgo : ∀ i H, i < n → Pv i H → J.go i H)
    (hs : ∀ i H v H', i < n → Pv i H → J.yld i H v H' → g v (wipe σ vs) H' fun σ2 H3 => wipe σ2 vs = wipe σ vs ∧ te σ2 H3 fun y H4 => ∃ k : Int, y = V.int k ∧ InLong k ∧ InLong (acc i + k) ∧ NxK n acc Pv i k H4) :
    TabG H1 P ∧ ∀ H2, Tabbed P H1 H2 → ∃ W : Nat → Nat → Int → Hp → Prop, (∃ m, W 0 m 0 H2) ∧
      ∀ i m x H, W i m x H → (J.stop i H ∧ QS x H) ∨ (J.go i H ∧ ∀ v H', J.yld i H v H' → g v (wipe σ vs) H' fun σ2 H3 => wipe σ2 vs = wipe σ vs ∧ te σ2 H3 fun y H4 => ∃ k : Int, y = V.int k ∧ InLong k ∧ InLong (x + k) ∧ ∃ m', m' < m ∧ W (i + 1) m' (x + k) H4) := by
  refine ⟨hT, fun H2 t => ⟨Wk n acc Pv, ⟨n, rfl, Nat.zero_le _, hz.symm, h0 H2 t⟩, ?_⟩⟩
  rintro i m x H ⟨rfl, hi, rfl, p⟩
  rcases Nat.lt_or_ge i n with z | z
  · exact .inr ⟨hgo i H z p, fun v H' y => hs i H v H' z p y⟩
  · have e : i = n := by omega
    subst e
    exact .inl (hstop H p)
theorem gs_of {N : List Str} {sc scope : Scope} {own : List (Str × Nat)} (h : blkC N sc scope own = true) (h1 : scope.isCoroutine = false) (h2 : ∀ y ∈ scope.names, y.2 ≠ .cell) (h3 : scope.names.lookup (".0" : Str) = some NameKind.local) : GScp N sc scope own := ⟨blkOk_by h, h1, h2, h3⟩
/-! ### rules that name the written part, by its own name -/
section
variable {X : Cx} {K : PySem.W.Frag}
theorem ixL (h : X.K = K) : IxR X (rIxL K) := h ▸ ix_list
theorem ixT (h : X.K = K) : IxR X (rIxT K) := h ▸ ix_tup
def rLenS (K : PySem.W.Frag) : List V → Hp → VK → Prop := fun xs H Q => ∃ p ys, xs = [V.ref p] ∧ (SqL K H p ys ∨ SqT K H p ys) ∧ Q (.int ys.length) H
theorem crLen (h : X.K = K) : CallR X (.builtin "len") (rLenS K) := h ▸ call_len_seq
theorem inS (h : X.K = K) : OpR X (compareOp .In) (rIn K false) := h ▸ op_in_seq
theorem ninS (h : X.K = K) : OpR X (compareOp .NotIn) (rIn K true) := h ▸ op_notIn_seq
theorem slT (h : X.K = K) : SlR X (L2.rSlA K) := h ▸ L2.sl_tupA
theorem slL (h : X.K = K) : SlR X (rSlL K) := h ▸ sl_list
theorem catA (h : X.K = K) : OpR X (binaryOp .Add) (L2.rCatA K) := h ▸ L2.op_catA
theorem pgT {es : List Expr} {k : Nat} {t : TGs} {n : Nat} {pos : Pos} (hK : X.K = K) (hc : X.calm = true) (h : PGs X es t)
    (hn : (assignEach es X.env).length = n := by rfl) (hst : (assignEach es X.env).findIdx? (·.1) = none := by rfl) : PG X (.Tuple es k pos) (gTup K n t) := hK ▸ pg_tup hc h hn hst
theorem paStar {e : Expr} {es : List Expr} {te : TE} {t : TA} {p : Pos} (hK : X.K = K) (he : PE X e te) (hr : PA X es t) (hs : starEach (.Starred e p :: es) X.env = (true, eval e X.env) :: starEach es X.env := by rfl) : PA X (.Starred e p :: es) (StX.tStar K te t) := hK ▸ StX.pa_star he hr hs
end
/-! ### the promises: deputies, the small ones -/
/-- deputies -/
structure Dep (ds : List Int) : Prop where
  pos : 1 ≤ ds.length
  most : ds.length ≤ 6
  rng : ∀ (i : Nat) (x : Int), ds[i]? = some x → -1 ≤ x ∧ x < ds.length ∧ x ≠ i
section
variable {P : Program} {w : World} {K : PySem.W.Frag} {mg : Str → Option Value} {base : Heap}
theorem ifY {b : Bool} {A B : Prop} (h : b = true) (a : A) : if b = true then A else B := by rw [if_pos h]; exact a
theorem ifN {b : Bool} {A B : Prop} (h : b = false) (a : B) : if b = true then A else B := by rw [if_neg (by rw [h]; decide)]; exact a
theorem yesT {σ : L2.St} {H : Hp} {A B : Hp → Prop} (h : A H) : tYes σ H fun b H3 => if b = true then A H3 else B H3 := (iteT h : if true = true then A H else B H)
def sp_is_in : Sp := fun vs H Q _ => ∃ v a b : Int, vs = [.int v, .int a, .int b] ∧ Q (.bl (decide (a ≤ v ∧ v ≤ b))) H
theorem ok_is_in (T : Txt K mg base) : FnOk P w K mg base CX0 1 T.f_is_in T.d_is_in ["value", "least", "most"] sp_is_in := by
  refine T.F_is_in.ok c_is_in (fun vs H Q E h => ?_) (fun cdv A outer s H vs Q E hr h => ?_)
  · obtain ⟨v, a, b, rfl, _⟩ := h
    rfl
  · obtain ⟨v, a, b, rfl, q⟩ := h
    refine ⟨_, pss_one (ps_ret (pe_and (pe_isi "int" (by rfl) T.z_isinstance (by rfl) T.z_int bt_int (pv 0)) (pe_and (pe_not (pe_isi "bool" (by rfl) T.z_isinstance (by rfl) T.z_bool bt_bool (pv 0))) (pe_one (pe_chain op_le op_le (pv 1) (pv 0) (pv 2)))))), ?_⟩
    refine ⟨_, rfl, _, isT_ii, _, rfl, iteT ⟨_, rfl, _, isT_ib, _, rfl, _, rfl, iteT ⟨_, rfl, _, rfl, _, _, rfl, rfl, _, rfl, ?_⟩⟩⟩
    refine ite2 (fun e => ⟨_, rfl, _, _, rfl, rfl, ?_⟩) (fun e => ?_)
    · have e1 : a ≤ v := of_decide_eq_true e
      have : decide (a ≤ v ∧ v ≤ b) = decide (v ≤ b) := by by_cases h : v ≤ b <;> simp [h, e1]
      rw [this] at q
      exact q
    · have e1 : ¬ a ≤ v := fun z => e (decide_eq_true z)
      have : decide (a ≤ v ∧ v ≤ b) = false := decide_eq_false fun z => e1 z.1
      rw [this] at q
      exact q
def sp_are_deputies (T : Txt K mg base) : Sp := fun vs H Q _ => ∃ (a : Addr) (ds : List Int), vs = [.ref a] ∧ H a = some (.tup (vI ds)) ∧ Dep ds ∧ Tb T H ∧ ∀ H', Sm H H' → Q (.bl true) H'
theorem vI_at {l : List Int} {i : Nat} {x : V} (h : (vI l)[i]? = some x) : ∃ k, l[i]? = some k ∧ x = .int k := by
  unfold vI at h
  rw [List.getElem?_map, Option.map_eq_some_iff] at h
  obtain ⟨k, h1, h2⟩ := h
  exact ⟨k, h1, h2.symm⟩
theorem vI_len (l : List Int) : (vI l).length = l.length := List.length_map _
theorem lt_some {α : Type} {l : List α} {i : Nat} (h : i < l.length) : ∃ x, l[i]? = some x := ⟨l[i], List.getElem?_eq_getElem h⟩
theorem vI_some {l : List Int} {i : Nat} {k : Int} (h : l[i]? = some k) : (vI l)[i]? = some (.int k) := by
  unfold vI
  rw [List.getElem?_map, h]
  rfl
theorem ok_are_deputies (T : Txt K mg base) : FnOk P w K mg base CX0 3 T.f_are_deputies T.d_are_deputies ["value"] (sp_are_deputies T) := by
  have G1 : FnOk P w K mg base CX0 1 T.f_is_in T.d_is_in ["value", "least", "most"] sp_is_in := ok_is_in T
  obtain ⟨tP, vP⟩ := T.v_MOST_PEOPLE
  refine T.F_are_deputies.ok c_are_deputies (fun vs H Q E h => ?_) (fun A outer s H vs Q E hr h => ?_)
  · obtain ⟨v, a, rfl, _⟩ := h
    rfl
  · obtain ⟨a, ds, rfl, ha, D, tb, q⟩ := h
    refine ⟨_, pss_cons (ps_if (PW.pt (pw_or (pt_not (pt_val (pe_isi "tuple" (by rfl) T.z_isinstance (by rfl) T.z_tuple bt_tuple (pv 0)))) (pw_or1 (pt_not (pt_chain op_le op_le pe_int (pe_callB (crLen (K := K) rfl) (by rfl) T.z_len bt_len (pa_cons (pv 0) pa_nil)) (pe_glob (v := V.int 6) rfl vP ⟨_, rfl⟩))))))
        (pss_one (ps_ret pe_bl)) pss_nil)
      (pss_one (ps_ret (pe_allG (k := 1) (own := [("person", 1), ("one", 2)]) hr (by rfl) T.z_all T.B_are_deputies rfl c_are_deputies.nd (gs_of (N := ["value", "person", "one"]) (sc := defScope s_are_deputies) (by decide +kernel) rfl (by decide +kernel) rfl)
        (pi_enumT (by rfl) T.z_enumerate (pa_cons (pv 0) pa_nil))
        (fun A' s H code fp hr' => pgT (K := K) (n := 2) rfl rfl (pgs_cons (pg_name (i := 1) c_are_deputies.nd rfl (Or.inl rfl)) (pgs_cons (pg_name (i := 2) c_are_deputies.nd rfl (Or.inl rfl)) pgs_nil)))
        (fun A' s H code fp hr' => pe_and (pe_call G1 hr' (by rfl) T.g_is_in T.F_is_in.kp T.b_is_in .nil pass0 (pa_cons (pv 2) (pa_cons (pe_un un_neg pe_int) (pa_cons (pe_op op_sub (pe_callB (crLen (K := K) rfl) (by rfl) T.z_len bt_len (pa_cons (pv 0) pa_nil)) pe_int) pa_nil)))) (pe_one (pe_cmpR op_ne (pv 2) (pv 1) (nomark _))))))), ?_⟩
    have hl : (vI ds).length = ds.length := vI_len ds
    refine ⟨_, rfl, _, isT_tt ha, _, rfl, iteF ⟨_, rfl, _, _, rfl, .inr (SqT.of ha), _, _, rfl, rfl, _, rfl, ite2 (fun _ => ?_) (fun e => absurd (decide_eq_true (by have := D.pos; omega)) e)⟩⟩
    refine ⟨_, _, rfl, rfl, _, rfl, ite2 (fun e => absurd e (by rw [decide_eq_true (show ((vI ds).length : Int) ≤ 6 by have := D.most; omega)]; decide)) (fun _ => ?_)⟩
    refine ⟨_, rfl, a, vI ds, rfl, SqT.of ha, ?_⟩
    refine gAll (vI ds).length (fun _ H' => Sm H H') tb.are_deputies (fun H2 t => Sm.tabbed tb.are_deputies t) (fun H' s => ⟨⟨_, SqT.of (s.tup ha), rfl⟩, q H' s⟩) (fun i H' hi s => ?_) (fun i H' v H2 hi s y => ?_)
    · obtain ⟨x, hx⟩ := lt_some hi
      exact ⟨_, x, SqT.of (s.tup ha), hx⟩
    · obtain ⟨t, x, rfl, nt, rfl, fx⟩ := y
      have hx := fx _ (SqT.of (s.tup ha))
      obtain ⟨k, hk, rfl⟩ := vI_at hx
      have s2 : Sm H (upd H' t (.tup [.int (i : Nat), .int k])) := s.trans (Sm.new nt)
      refine ⟨t, _, rfl, SqT.of upd_same, rfl, _, _, rfl, _, _, rfl, rfl, rfl, ?_⟩
      obtain ⟨r1, r2, r3⟩ := D.rng i k hk
      refine ⟨_, rfl, _, rfl, _, rfl, _, _, rfl, .inr (SqT.of (s2.tup ha)), _, _, rfl, rfl, _, _, _, rfl, _, rfl, ite2 (fun _ => ?_) (fun e => absurd (decide_eq_true ⟨by omega, by rw [hl]; omega⟩) e)⟩
      refine ⟨_, rfl, _, rfl, rfl, _, rfl, ifY ?_ (Nxt.mk hi s2)⟩
      rw [dec_int]
      simpa using r3
def sp_need_deputies (T : Txt K mg base) : Sp := fun vs H Q _ => ∃ (a : Addr) (ds : List Int), vs = [.ref a] ∧ H a = some (.tup (vI ds)) ∧ Dep ds ∧ Tb T H ∧ ∀ H', Sm H H' → Q .non H'
theorem ok_need_deputies (T : Txt K mg base) : FnOk P w K mg base CX0 4 T.f_need_deputies T.d_need_deputies ["deputies"] (sp_need_deputies T) := by
  have G1 : FnOk P w K mg base CX0 3 T.f_are_deputies T.d_are_deputies ["value"] (sp_are_deputies T) := ok_are_deputies T
  refine T.F_need_deputies.ok c_need_deputies (fun vs H Q E h => ?_) (fun cdv A outer s H vs Q E hr h => ?_)
  · obtain ⟨v, a, rfl, _⟩ := h
    rfl
  · obtain ⟨a, ds, rfl, ha, D, tb, q⟩ := h
    refine ⟨_, pss_one (ps_if (pt_not (pt_val (pe_call G1 hr (by rfl) T.g_are_deputies T.F_are_deputies.kp T.b_are_deputies .nil pass0 (pa_cons (pv 0) pa_nil)))) pss_never pss_nil), ?_⟩
    exact ⟨_, rfl, a, ds, rfl, ha, D, tb, fun H' s => ⟨_, rfl, iteF (q H' s)⟩⟩
end
end G6
set_option Elab.async false
set_option linter.all false
set_option maxRecDepth 100000
set_option maxHeartbeats 2000000
namespace G6
open PySem PySem.Spec PyProof.Rows L2 NX GxR
/-! ### the mathematics of chains -/
def nx (ds : List Int) (p : Int) : Int := ds.getD p.toNat (-1)
def chT (ds : List Int) : Nat → Int → List Int → List Int
  | 0, _, _ => []
  | k + 1, p, f => if p ≠ -1 ∧ p ∉ f then p :: chT ds k (nx ds p) (f ++ [p]) else []
def chain (ds : List Int) (p : Int) : List Int := chT ds (ds.length + 1) p []
def fst? (g : List Int) (l : List Int) : Int := (l.find? fun q => decide (q ∉ g)).getD (-1)
def hold (ds g : List Int) (p : Int) : Int := fst? g (chain ds p)
def upTo (n : Nat) : List Int := (List.range n).map Int.ofNat
def holds (ds g : List Int) : List Int := (upTo ds.length).map (hold ds g)
theorem upTo_mem {n : Nat} {x : Int} : x ∈ upTo n ↔ 0 ≤ x ∧ x < n := by
  unfold upTo
  rw [List.mem_map]
  constructor
  · rintro ⟨i, hi, rfl⟩
    have := List.mem_range.mp hi
    show 0 ≤ ((i : Nat) : Int) ∧ ((i : Nat) : Int) < n
    omega
  · rintro ⟨h1, h2⟩
    exact ⟨x.toNat, List.mem_range.mpr (by omega), by show ((x.toNat : Nat) : Int) = x; omega⟩
theorem upTo_len (n : Nat) : (upTo n).length = n := by unfold upTo; rw [List.length_map, List.length_range]
theorem upTo_at {n i : Nat} (h : i < n) : (upTo n)[i]? = some (i : Int) := by
  unfold upTo
  rw [List.getElem?_map, List.getElem?_range h]
  rfl
theorem nodup_cap {n : Nat} {l : List Int} (hn : l.Nodup) (h : ∀ x ∈ l, 0 ≤ x ∧ x < n) : l.length ≤ n := by
  have := hn.length_le_of_subset (l₂ := upTo n) (fun x hx => upTo_mem.mpr (h x hx))
  rw [upTo_len] at this
  exact this
theorem nx_ok {ds : List Int} (D : Dep ds) {p : Int} (h0 : 0 ≤ p) (h1 : p < ds.length) : ds[p.toNat]? = some (nx ds p) ∧ -1 ≤ nx ds p ∧ nx ds p < ds.length := by
  have hl : p.toNat < ds.length := by omega
  have e : ds[p.toNat]? = some (nx ds p) := by
    unfold nx
    rw [List.getD_eq_getElem?_getD, List.getElem?_eq_getElem hl]
    rfl
  obtain ⟨a, b, _⟩ := D.rng _ _ e
  exact ⟨e, a, b⟩
theorem inV_int (x : Int) : ∀ l : List Int, inV (.int x) (vI l) = decide (x ∈ l)
  | [] => by simp [inV, vI]
  | y :: l => by
    have ih := inV_int x l
    unfold inV vI at ih ⊢
    rw [List.map_cons, List.any_cons, ih]
    by_cases e : x = y
    · subst e; simp [eqV]
    · have e2 : ¬ y = x := fun z => e z.symm
      simp [eqV, e, e2]
theorem flat_vI : ∀ l : List Int, (vI l).all flatV = true
  | [] => rfl
  | y :: l => by
    have ih := flat_vI l
    unfold vI at ih ⊢
    rw [List.map_cons, List.all_cons, ih]
    rfl
section
variable {P : Program} {w : World} {K : PySem.W.Frag} {mg : Str → Option Value} {base : Heap}
def sp_chain_of : Sp := fun vs H Q _ => ∃ (a : Addr) (ds : List Int) (p : Int), vs = [.ref a, .int p] ∧ H a = some (.tup (vI ds)) ∧ Dep ds ∧ 0 ≤ p ∧ p < ds.length ∧ ∀ H' o, Sm H H' → H o = none → H' o = some (.lst (vI (chain ds p))) → Q (.ref o) H'
theorem ok_chain_of (T : Txt K mg base) : FnOk P w K mg base CX0 1 T.f_chain_of T.d_chain_of ["deputies", "person"] sp_chain_of := by
  refine T.F_chain_of.ok c_chain_of (fun vs H Q E h => ?_) (fun cdv A outer s H vs Q E hr h => ?_)
  · obtain ⟨a, ds, p, rfl, _⟩ := h
    rfl
  · obtain ⟨a, ds, p, rfl, ha, D, h0, h1, q⟩ := h
    refine ⟨_, pss_cons (ps_par (i := 2) (j := 3) (by rfl) c_chain_of.nd rfl rfl (by decide) rfl rfl (pa_cons (pe_lst pa_nil) (pa_cons (pv 1) pa_nil)) (by rfl))
      (pss_cons (ps_while PassesOwn.never (PW.pt (pw_and (pt_cmpR op_ne (pv 3) (pe_un un_neg pe_int) (nomark _)) (pw_and1 (pt_cmpR op_notIn_seq (pv 3) (pv 2) (by rfl)))))
        (pss_cons (ps_expr (pe_bm PySem.F.plainAttrs_list PySem.F.slot_list_append PySem.F.type_list_append mt_append (pv 2) (pa_cons (pv 3) pa_nil)))
          (pss_one (ps_set (i := 3) c_chain_of.nd rfl (.inl rfl) (pe_ix ix_tup (pv 0) (pv 3) (fun _ _ => rfl))))))
      (pss_one (ps_ret (pv 2)))), ?_⟩
    refine ⟨Nat.zero_le _, fun o no => ⟨_, rfl, _, _, rfl, ?_⟩⟩
    refine ⟨fun m σ H' => ∃ (p' : Int) (f : List Int), m = ds.length - f.length ∧ σ = [some (.ref a), some (.int p), some (.ref o), some (.int p')] ∧ Sm H H' ∧ H' o = some (.lst (vI f)) ∧ f.Nodup ∧ (∀ x ∈ f, 0 ≤ x ∧ x < ds.length) ∧ -1 ≤ p' ∧ p' < ds.length ∧ f ++ chT ds (ds.length + 1 - f.length) p' f = chain ds p, ⟨_, p, [], rfl, rfl, Sm.new no, upd_same, List.nodup_nil, fun x h => absurd h (by simp), by omega, h1, rfl⟩, ?_⟩
    rintro m σ H1 ⟨p', f, rfl, rfl, s1, eo, nd, rg, l0, l1, ech⟩
    have cap := nodup_cap nd rg
    have k1 : ds.length + 1 - f.length = (ds.length - f.length) + 1 := by omega
    rw [k1] at ech
    have fin : (¬ (p' ≠ -1 ∧ p' ∉ f)) → Q (.ref o) H1 := fun z => by
      unfold chT at ech
      rw [if_neg z, List.append_nil] at ech
      exact q H1 o s1 no (by rw [← ech]; exact eo)
    refine ⟨_, rfl, _, rfl, rfl, _, rfl, ?_⟩
    refine ite2 (fun e1 => ⟨_, rfl, _, rfl, o, _, rfl, .inl (SqL.of eo), rfl, flat_vI f, _, rfl, ite2 (fun e2 => ?_) (fun e2 => ?_)⟩) (fun e1 => ⟨_, rfl, fin fun z => e1 ?_⟩)
    · have g1 : p' ≠ -1 := fun z => by subst z; exact absurd e1 (by decide)
      have g2 : p' ∉ f := fun z => by
        rw [inV_int, decide_eq_true z] at e2
        exact absurd e2 (by decide)
      have p0 : 0 ≤ p' := by omega
      obtain ⟨at_, b1, b2⟩ := nx_ok D p0 l1
      have nd2 : (f ++ [p']).Nodup := by
        rw [List.nodup_append]
        exact ⟨nd, by simp, fun x hx y hy z => by rw [List.mem_singleton.mp hy] at z; subst z; exact g2 hx⟩
      have rg2 : ∀ x ∈ f ++ [p'], 0 ≤ x ∧ x < ds.length := fun x hx => by
        rcases List.mem_append.mp hx with z | z
        · exact rg x z
        · rw [List.mem_singleton.mp z]; exact ⟨p0, l1⟩
      have cap2 := nodup_cap nd2 rg2
      rw [List.length_append, List.length_singleton] at cap2
      have ech2 : (f ++ [p']) ++ chT ds (ds.length + 1 - (f ++ [p']).length) (nx ds p') (f ++ [p']) = chain ds p := by
        rw [← ech]
        conv => rhs; rw [chT, if_pos ⟨g1, g2⟩]
        rw [List.length_append, List.length_singleton, show ds.length + 1 - (f.length + 1) = ds.length - f.length by omega, List.append_assoc]
        rfl
      have s2 : Sm H (upd H1 o (.lst (vI f ++ [.int p']))) := s1.put no
      refine ⟨fun σ' H' => ∃ (p' : Int) (f' : List Int), f'.length = f.length + 1 ∧ σ' = [some (.ref a), some (.int p), some (.ref o), some (.int p')] ∧ Sm H H' ∧ H' o = some (.lst (vI f')) ∧ f'.Nodup ∧ (∀ x ∈ f', 0 ≤ x ∧ x < ds.length) ∧ -1 ≤ p' ∧ p' < ds.length ∧ f' ++ chT ds (ds.length + 1 - f'.length) p' f' = chain ds p,
        fun σ' H' ⟨p2, f2, le, r⟩ => ⟨ds.length - f2.length, by omega, p2, f2, rfl, r⟩, ?_⟩
      refine ⟨_, rfl, .inl ⟨rfl, _, SqL.of eo⟩, _, rfl, o, _, _, rfl, rfl, eo, ?_, ?_⟩
      · rw [vI_len]; exact small1000 (by have := D.most; omega)
      · refine ⟨_, rfl, _, rfl, a, _, _, _, rfl, rfl, SqT.of (s2.tup ha), ?_, nx ds p', f ++ [p'], by simp, rfl, s2, ?_, nd2, rg2, b1, b2, ech2⟩
        · exact (show atI (vI ds) p' = some (.int (nx ds p')) by
            obtain ⟨j, rfl⟩ : ∃ j : Nat, p' = (j : Int) := ⟨p'.toNat, by omega⟩
            exact atI_nat (vI_some at_))
        · rw [upd_same]; unfold vI; rw [List.map_append]; rfl
    · refine ⟨_, rfl, fin fun z => e2 ?_⟩
      rw [inV_int, decide_eq_false z.2]
      rfl
    · rw [dec_int]
      have : (p' == -1) = false := by simpa using z.1
      rw [this]; rfl
def sp_holder_of : Sp := fun vs H Q _ => ∃ (a b : Addr) (ds g : List Int) (p : Int), vs = [.ref a, .ref b, .int p] ∧ H a = some (.tup (vI ds)) ∧ H b = some (.tup (vI g)) ∧ Dep ds ∧ 0 ≤ p ∧ p < ds.length ∧ ∀ H', Sm H H' → Q (.int (hold ds g p)) H'
theorem fst_at {g : List Int} : ∀ {l : List Int} {i : Nat} {x : Int}, l[i]? = some x → (∀ j y, j < i → l[j]? = some y → y ∈ g) → x ∉ g → fst? g l = x
  | [], _, _, h, _, _ => by simp at h
  | y :: l, 0, x, h, _, hx => by
    have e : y = x := Option.some.inj h
    subst e
    unfold fst?
    rw [List.find?_cons, decide_eq_true hx]
    rfl
  | y :: l, i + 1, x, h, hb, hx => by
    have hy : y ∈ g := hb 0 y (by omega) rfl
    have ih := fst_at (l := l) (i := i) (x := x) (by simpa using h) (fun j z hj e => hb (j + 1) z (by omega) (by simpa using e)) hx
    unfold fst? at ih ⊢
    rw [List.find?_cons, decide_eq_false (fun z => z hy)]
    exact ih
theorem fst_none {g l : List Int} (h : ∀ (i : Nat) (x : Int), l[i]? = some x → x ∈ g) : fst? g l = -1 := by
  unfold fst?
  have : (l.find? fun q => decide (q ∉ g)) = none := by
    rw [List.find?_eq_none]
    intro x hx
    obtain ⟨i, hi⟩ := List.mem_iff_getElem?.mp hx
    simp [h i x hi]
  rw [this]
  rfl
theorem ok_holder_of (T : Txt K mg base) : FnOk P w K mg base CX0 2 T.f_holder_of T.d_holder_of ["deputies", "gone", "person"] sp_holder_of := by
  have G1 : FnOk P w K mg base CX0 1 T.f_chain_of T.d_chain_of ["deputies", "person"] sp_chain_of := ok_chain_of T
  refine T.F_holder_of.ok c_holder_of (fun vs H Q E h => ?_) (fun cdv A outer s H vs Q E hr h => ?_)
  · obtain ⟨a, b, ds, g, p, rfl, _⟩ := h
    rfl
  · obtain ⟨a, b, ds, g, p, rfl, ha, hb, D, h0, h1, q⟩ := h
    refine ⟨_, pss_cons (ps_for PassesOwn.never rfl (pi_list (pe_call G1 hr (by rfl) T.g_chain_of T.F_chain_of.kp T.b_chain_of .nil pass0 (pa_cons (pv 0) (pa_cons (pv 2) pa_nil)))) (pg_name (i := 3) c_holder_of.nd rfl (Or.inl rfl))
        (pss_one (ps_if (pt_cmpR op_notIn_seq (pv 3) (pv 1) (by rfl)) (pss_one (ps_ret (pv 3))) pss_nil)))
      (pss_one (ps_ret (pe_un un_neg pe_int))), ?_⟩
    refine ⟨_, rfl, _, rfl, a, ds, p, rfl, ha, D, h0, h1, fun H1 o s1 no eo => ⟨o, rfl, ⟨_, SqL.of eo⟩, ?_⟩⟩
    refine for_list (xs := vI (chain ds p)) (fun i σ H' => H' = H1 ∧ ∃ y, σ = [some (.ref a), some (.ref b), some (.int p), y] ∧ ∀ j z, j < i → (chain ds p)[j]? = some z → z ∈ g) ⟨rfl, none, rfl, fun j z h => absurd h (by omega)⟩ (fun i σ H' _ ⟨e, _⟩ => by rw [e]; exact SqL.of eo) ?_ ?_
    · rintro i x σ H' hx ⟨rfl, y, rfl, hb2⟩
      obtain ⟨k, hk, rfl⟩ := vI_at hx
      refine ⟨_, rfl, _, rfl, b, _, rfl, .inr (SqT.of (s1.tup hb)), rfl, flat_vI g, _, rfl, ite2 (fun e2 => ?_) (fun e2 => ?_)⟩
      · have g2 : k ∉ g := fun z => by
          rw [inV_int, decide_eq_true z] at e2
          exact absurd e2 (by decide)
        refine ⟨_, rfl, ?_⟩
        have := q H' s1
        unfold hold at this
        rw [fst_at hk hb2 g2] at this
        exact this
      · have g2 : k ∈ g := by
          by_cases z : k ∈ g
          · exact z
          · exact absurd (by rw [inV_int, decide_eq_false z]; rfl) e2
        refine ⟨rfl, _, rfl, fun j z hj e => ?_⟩
        rcases Nat.lt_or_ge j i with h | h
        · exact hb2 j z h e
        · have : j = i := by omega
          subst this
          rw [hk] at e
          cases e
          exact g2
    · rintro σ H' ⟨rfl, y, rfl, hb2⟩
      refine ⟨_, rfl, ?_⟩
      have := q H' s1
      unfold hold at this
      rw [fst_none fun i x e => hb2 i x (by rw [vI_len]; exact (List.getElem?_eq_some_iff.mp e).1) e] at this
      exact this
def sp_all_holders : Sp := fun vs H Q _ => ∃ (a b : Addr) (ds g : List Int), vs = [.ref a, .ref b] ∧ H a = some (.tup (vI ds)) ∧ H b = some (.tup (vI g)) ∧ Dep ds ∧ ∀ H' o, Sm H H' → H o = none → H' o = some (.lst (vI (holds ds g))) → Q (.ref o) H'
theorem ok_all_holders (T : Txt K mg base) : FnOk P w K mg base CX0 3 T.f_all_holders T.d_all_holders ["deputies", "gone"] sp_all_holders := by
  have G1 : FnOk P w K mg base CX0 2 T.f_holder_of T.d_holder_of ["deputies", "gone", "person"] sp_holder_of := ok_holder_of T
  refine T.F_all_holders.ok c_all_holders (fun vs H Q E h => ?_) (fun cdv A outer s H vs Q E hr h => ?_)
  · obtain ⟨a, b, ds, g, rfl, _⟩ := h
    rfl
  · obtain ⟨a, b, ds, g, rfl, ha, hb, D, q⟩ := h
    refine ⟨_, pss_one (ps_ret (pe_lc (own := [("person", 2)]) (g := gName 2) (tt := tYes) (by rfl) c_all_holders.nd (pi_range1 rfl T.z_range (pa_cons (pe_callB (crLen (K := K) rfl) (by rfl) T.z_len bt_len (pa_cons (pv 0) pa_nil)) pa_nil))
      (blkOk_by (own := [("person", 2)]) (N := ["deputies", "gone", "person"]) (sc := defScope s_all_holders) (by decide +kernel)) (fun _ _ _ _ _ => pg_name (i := 2) c_all_holders.nd rfl (Or.inl rfl)) (fun _ _ _ _ _ => pts_nil)
      (fun _ _ _ _ _ => pe_call G1 hr (by rfl) T.g_holder_of T.F_holder_of.kp T.b_holder_of .nil pass0 (pa_cons (pv 0) (pa_cons (pv 1) (pa_cons (pv 2) pa_nil)))))), ?_⟩
    have hl := vI_len ds
    refine ⟨_, rfl, a, _, rfl, .inr (SqT.of ha), _, rfl, by rw [hl]; omega, by rw [hl]; have := D.most; omega, fun o no => ?_⟩
    have hlen : (holds ds g).length = ds.length := by unfold holds; rw [List.length_map, upTo_len]
    refine lc_range (n := ((vI ds).length : Int).toNat) (fun i H' => Sm H H' ∧ H' o = some (.lst (vI ((holds ds g).take i)))) ⟨Sm.new no, by rw [upd_same]; rfl⟩ (fun i H' hi ⟨s1, eo⟩ => ?_) (fun H' ⟨s1, eo⟩ => ?_)
    · have hi2 : i < ds.length := by rw [hl] at hi; omega
      refine ⟨rfl, yesT ⟨_, rfl, _, rfl, _, rfl, a, b, ds, g, _, rfl, s1.tup ha, s1.tup hb, D, by omega, by omega, fun H2 s2 => ⟨_, s2.lst eo, ?_, (s1.trans s2).put no, ?_⟩⟩⟩
      · rw [vI_len, List.length_take]; exact small1000 (by have := D.most; omega)
      · rw [upd_same]
        have e1 : (holds ds g)[i]? = some (hold ds g (0 + (i : Int))) := by
          unfold holds
          rw [List.getElem?_map, upTo_at hi2, Int.zero_add]
          rfl
        rw [List.take_add_one, e1]
        unfold vI
        rw [List.map_append]
        rfl
    · have e1 : (holds ds g).take ((vI ds).length : Int).toNat = holds ds g := List.take_of_length_le (by rw [hlen, hl]; omega)
      rw [e1] at eo
      exact q H' o s1 no eo
end
end G6
set_option Elab.async false
set_option linter.all false
set_option maxRecDepth 100000
set_option maxHeartbeats 2000000
namespace G6
open PySem PySem.Spec PyProof.Rows L2 NX GxR
def LotP (n : Int) (l : List Int) : Prop := (∀ x ∈ l, 0 ≤ x ∧ x < n) ∧ ∀ (i : Nat) (x y : Int), l[i]? = some x → l[i + 1]? = some y → x < y
section
variable {P : Program} {w : World} {K : PySem.W.Frag} {mg : Str → Option Value} {base : Heap}
def sp_is_lot (T : Txt K mg base) : Sp := fun vs H Q _ => ∃ (n : Int) (a : Addr), vs = [.int n, .ref a] ∧ Tb T H ∧
  ((∃ l, H a = some (.tup (vI l)) ∧ l.length ≤ 100 ∧ ∀ (b : Bool) H', Sm H H' → (b = true ↔ LotP n l) → Q (.bl b) H') ∨ (∃ xs, H a = some (.lst xs) ∧ ∀ H', Sm H H' → Q (.bl false) H'))
theorem ok_is_lot (T : Txt K mg base) : FnOk P w K mg base CX0 3 T.f_is_lot T.d_is_lot ["size", "value"] (sp_is_lot T) := by
  have G1 : FnOk P w K mg base CX0 1 T.f_is_in T.d_is_in ["value", "least", "most"] sp_is_in := ok_is_in T
  refine T.F_is_lot.ok c_is_lot (fun vs H Q E h => ?_) (fun A outer s H vs Q E hr h => ?_)
  · obtain ⟨v, a, rfl, _⟩ := h
    rfl
  · obtain ⟨n, a, rfl, tb, h⟩ := h
    refine ⟨_, pss_cons (ps_if (PW.pt (pw_or (pt_not (pt_val (pe_isi "tuple" (by rfl) T.z_isinstance (by rfl) T.z_tuple bt_tuple (pv 1)))) (pw_or1 (pt_not (pt_val (pe_allG (k := 1) (own := [("one", 2)]) hr (by rfl) T.z_all T.B_is_lot rfl c_is_lot.nd (gs_of (N := ["size", "value", "one", "k"]) (sc := defScope s_is_lot) (by decide +kernel) rfl (by decide +kernel) rfl)
          (pi_tup (pv 1)) (fun A' s H code fp hr' => pg_name (i := 2) c_is_lot.nd rfl (Or.inl rfl))
          (fun A' s H code fp hr' => pe_call G1 hr' (by rfl) T.g_is_in T.F_is_in.kp T.b_is_in .nil pass0 (pa_cons (pv 2) (pa_cons pe_int (pa_cons (pe_op op_sub (pv 0) pe_int) pa_nil))))))))))
        (pss_one (ps_ret pe_bl)) pss_nil)
      (pss_one (ps_ret (pe_allG (k := 1) (own := [("k", 3)]) hr (by rfl) T.z_all T.B_is_lot rfl c_is_lot.nd (gs_of (N := ["size", "value", "one", "k"]) (sc := defScope s_is_lot) (by decide +kernel) rfl (by decide +kernel) rfl)
        (pi_range1 rfl T.z_range (pa_cons (pe_op op_sub (pe_callB (crLen (K := K) rfl) (by rfl) T.z_len bt_len (pa_cons (pv 1) pa_nil)) pe_int) pa_nil))
        (fun A' s H code fp hr' => pg_name (i := 3) c_is_lot.nd rfl (Or.inl rfl))
        (fun A' s H code fp hr' => pe_cmpR op_lt (pe_ix (ixT (K := K) rfl) (pv 1) (pv 3) (fun _ _ => rfl)) (pe_ix (ixT (K := K) rfl) (pv 1) (pe_op op_add (pv 3) pe_int) (fun _ _ => rfl)) (nomark _))))), ?_⟩
    rcases h with ⟨l, ha, hl, q⟩ | ⟨xs, ha, q⟩
    · have hlen := vI_len l
      refine ⟨_, rfl, _, isT_tt ha, _, rfl, iteF ?_⟩
      refine ⟨_, rfl, a, rfl, ⟨_, SqT.of ha⟩, ?_⟩
      show TabG _ _ ∧ _
      refine gAll (vI l).length (fun i H' => Sm H H' ∧ ∀ j x, j < i → l[j]? = some x → 0 ≤ x ∧ x < n) tb.is_lot (fun H2 t => ⟨Sm.tabbed tb.is_lot t, fun j x h => absurd h (by omega)⟩) (fun H' ⟨s, hall⟩ => ?_) (fun i H' hi ⟨s, _⟩ => ?_) (fun i H' v H2 hi ⟨s, hall⟩ y => ?_)
      · have tb2 := s.tb tb
        refine ⟨⟨_, SqT.of (s.tup ha), Nat.le_refl _⟩, _, rfl, iteF ?_⟩
        refine ⟨_, rfl, a, _, rfl, .inr (SqT.of (s.tup ha)), _, _, rfl, rfl, _, rfl, by omega, by omega, ?_⟩
        have rg : ∀ x ∈ l, 0 ≤ x ∧ x < n := fun x hx => by
          obtain ⟨j, hj⟩ := List.mem_iff_getElem?.mp hx
          exact hall j x (by rw [hlen]; exact (List.getElem?_eq_some_iff.mp hj).1) hj
        refine gAll (((vI l).length : Int) - 1).toNat (fun i H' => Sm H H' ∧ ∀ j x y, j < i → l[j]? = some x → l[j + 1]? = some y → x < y) tb2.is_lot (fun H2 t => ⟨s.trans (Sm.tabbed tb2.is_lot t), fun j x y h => absurd h (by omega)⟩) (fun H2 ⟨s2, h2⟩ => ⟨Nat.le_refl _, q true H2 s2 ⟨fun _ => ⟨rg, fun j x y e1 e2 => h2 j x y ?_ e1 e2⟩, fun _ => rfl⟩⟩) (fun i H2 hi _ => hi) (fun i H2 v H3 hi ⟨s2, h2⟩ y => ?_)
        · have := (List.getElem?_eq_some_iff.mp e2).1
          rw [hlen]; omega
        · obtain ⟨rfl, rfl⟩ := y
          rw [hlen] at hi
          obtain ⟨x1, e1⟩ := lt_some (l := l) (i := i) (by omega)
          obtain ⟨x2, e2⟩ := lt_some (l := l) (i := i + 1) (by omega)
          have i1 : (0 : Int) + (i : Int) = ((i : Nat) : Int) := by omega
          have i2 : (0 : Int) + (i : Int) + 1 = ((i + 1 : Nat) : Int) := by omega
          refine ⟨rfl, _, rfl, _, rfl, a, _, _, _, rfl, rfl, SqT.of (s2.tup ha), (by rw [i1]; exact atI_nat (vI_some e1)), _, rfl, _, rfl, _, _, rfl, rfl, a, _, _, _, rfl, rfl, SqT.of (s2.tup ha), (by rw [i2]; exact atI_nat (vI_some e2)), _, _, rfl, rfl, _, rfl, ite2 (fun e => Nxt.mk (by rw [hlen]; exact hi) ⟨s2, fun j x y hj f1 f2 => ?_⟩) (fun e => q false H3 s2 ⟨fun z => absurd z (by decide), fun z => absurd (decide_eq_true (z.2 i x1 x2 e1 e2)) e⟩)⟩
          rcases Nat.lt_or_ge j i with z | z
          · exact h2 j x y z f1 f2
          · have : j = i := by omega
            subst this
            rw [e1] at f1; rw [e2] at f2
            cases f1; cases f2
            exact of_decide_eq_true e
      · obtain ⟨x, hx⟩ := lt_some hi
        exact ⟨_, x, SqT.of (s.tup ha), hx⟩
      · obtain ⟨rfl, fx⟩ := y
        have hx := fx _ (SqT.of (s.tup ha))
        obtain ⟨k, hk, rfl⟩ := vI_at hx
        refine ⟨rfl, _, rfl, _, rfl, _, _, rfl, rfl, _, _, _, rfl, _, rfl, ite2 (fun e => Nxt.mk hi ⟨s, fun j x hj f1 => ?_⟩) (fun e => ⟨_, rfl, iteT (q false H2 s ⟨fun z => absurd z (by decide), fun z => absurd (decide_eq_true ⟨(z.1 k (List.mem_of_getElem? hk)).1, by have := (z.1 k (List.mem_of_getElem? hk)).2; omega⟩) e⟩)⟩)⟩
        rcases Nat.lt_or_ge j i with z | z
        · exact hall j x z f1
        · have : j = i := by omega
          subst this
          rw [hk] at f1
          cases f1
          have := of_decide_eq_true e
          omega
    · exact ⟨_, rfl, _, isT_lt ha, _, rfl, iteT (iteT (q H (Sm.refl H)))⟩
end
end G6
set_option Elab.async false
set_option linter.all false
set_option maxRecDepth 100000
set_option maxHeartbeats 2000000
namespace G6
open PySem PySem.Spec PyProof.Rows L2 NX GxR
/-! ### costs, tables: the numbers -/
structure Cst (n : Nat) (cs : List Int) : Prop where
  len : cs.length = n
  rng : ∀ x ∈ cs, 0 ≤ x ∧ x ≤ 1000
def at0 (cs : List Int) (p : Int) : Int := cs.getD p.toNat 0
def costOf (cs l : List Int) : Int := (l.map (at0 cs)).sum
structure Tab (n : Nat) (tb : List (List Int)) : Prop where
  len : tb.length = n
  row : ∀ r ∈ tb, r.length = n + 1 ∧ ∀ x ∈ r, -100 ≤ x ∧ x ≤ 100
def IT (H : Hp) (v : V) (l : List Int) : Prop := ∃ t, v = V.ref t ∧ H t = some (.tup (vI l))
abbrev ITs (H : Hp) : List V → List (List Int) → Prop := Paired (IT H)
theorem IT.sm {H H' : Hp} (s : Sm H H') {v : V} {l : List Int} (h : IT H v l) : IT H' v l := let ⟨t, e, g⟩ := h; ⟨t, e, s.tup g⟩
theorem ITs.sm {H H' : Hp} (s : Sm H H') {rs : List V} {ls : List (List Int)} (h : ITs H rs ls) : ITs H' rs ls := Paired.mapP h fun _ _ q => q.sm s
theorem paired_len {α β : Type} {R : α → β → Prop} : ∀ {as : List α} {bs : List β}, Paired R as bs → as.length = bs.length
  | _, _, .nil => rfl
  | _, _, .cons _ t => by rw [List.length_cons, List.length_cons, paired_len t]
theorem paired_at {α β : Type} {R : α → β → Prop} : ∀ {as : List α} {bs : List β}, Paired R as bs → ∀ {i : Nat} {a : α}, as[i]? = some a → ∃ b, bs[i]? = some b ∧ R a b
  | _, _, .nil, _, _, h => by simp at h
  | _, _, .cons r _, 0, _, h => by cases h; exact ⟨_, rfl, r⟩
  | _, _, .cons _ t, i + 1, a, h => by
    obtain ⟨b, h1, h2⟩ := paired_at t (i := i) (a := a) (by simpa using h)
    exact ⟨b, by simpa using h1, h2⟩
def TbH (H : Hp) (a : Addr) (tb : List (List Int)) : Prop := ∃ rs, H a = some (.tup rs) ∧ ITs H rs tb
theorem TbH.sm {H H' : Hp} (s : Sm H H') {a : Addr} {tb : List (List Int)} (h : TbH H a tb) : TbH H' a tb := let ⟨rs, e, g⟩ := h; ⟨rs, s.tup e, g.sm s⟩
theorem sum_bd {m : Int} : ∀ {l : List Int}, (∀ x ∈ l, -m ≤ x ∧ x ≤ m) → -(m * l.length) ≤ l.sum ∧ l.sum ≤ m * l.length
  | [], _ => by simp
  | x :: l, h => by
    obtain ⟨h1, h2⟩ := h x List.mem_cons_self
    obtain ⟨i1, i2⟩ := sum_bd (m := m) (l := l) fun y hy => h y (List.mem_cons_of_mem _ hy)
    have e : m * ((x :: l).length : Int) = m * l.length + m := by rw [List.length_cons]; push_cast; rw [Int.mul_add]; omega
    rw [e, List.sum_cons]
    omega
theorem sum_small {m : Int} {l : List Int} (h : ∀ x ∈ l, -m ≤ x ∧ x ≤ m) (h0 : 0 ≤ m) (hm : m ≤ 1000000) (hl : l.length ≤ 100) : InLong l.sum := by
  obtain ⟨a, b⟩ := sum_bd h
  have : m * (l.length : Int) ≤ 1000000 * 100 := Int.mul_le_mul hm (by omega) (by omega) (by omega)
  unfold InLong
  omega
theorem at0_some {cs : List Int} {p : Int} (h0 : 0 ≤ p) (h1 : p < cs.length) : cs[p.toNat]? = some (at0 cs p) := by
  have hl : p.toNat < cs.length := by omega
  unfold at0
  rw [List.getD_eq_getElem?_getD, List.getElem?_eq_getElem hl]
  rfl
theorem at0_rng {n : Nat} {cs : List Int} (C : Cst n cs) {p : Int} (h0 : 0 ≤ p) (h1 : p < n) : 0 ≤ at0 cs p ∧ at0 cs p ≤ 1000 := C.rng _ (List.mem_of_getElem? (at0_some h0 (by rw [C.len]; exact h1)))
theorem atI_at0 {cs : List Int} {p : Int} (h0 : 0 ≤ p) (h1 : p < cs.length) : atI (vI cs) p = some (.int (at0 cs p)) := by
  have e := at0_some h0 h1
  obtain ⟨j, rfl⟩ : ∃ j : Nat, p = (j : Int) := ⟨p.toNat, by omega⟩
  exact atI_nat (vI_some e)
def ddF (acc : List Int) (x : Int) : List Int := if x ∈ acc then acc else acc ++ [x]
def dd (l : List Int) : List Int := l.foldl ddF []
theorem dd_from : ∀ (l acc : List Int), (l.foldl ddF acc).length ≤ acc.length + l.length ∧ ((l.foldl ddF acc).length = acc.length + l.length ↔ l.Nodup ∧ ∀ x ∈ l, x ∉ acc)
  | [], acc => by simp
  | x :: l, acc => by
    rw [List.foldl_cons, List.nodup_cons]
    by_cases h : x ∈ acc
    · have e : ddF acc x = acc := if_pos h
      rw [e]
      obtain ⟨i1, i2⟩ := dd_from l acc
      refine ⟨by rw [List.length_cons]; omega, fun z => by rw [List.length_cons] at z; omega, fun z => absurd h (z.2 x List.mem_cons_self)⟩
    · have e : ddF acc x = acc ++ [x] := if_neg h
      rw [e]
      obtain ⟨i1, i2⟩ := dd_from l (acc ++ [x])
      rw [List.length_append, List.length_singleton] at i1 i2
      refine ⟨by rw [List.length_cons]; omega, fun z => ?_, fun z => ?_⟩
      · obtain ⟨n1, n2⟩ := i2.mp (by rw [List.length_cons] at z; omega)
        refine ⟨⟨fun hx => n2 x hx (List.mem_append_right _ (List.mem_singleton.mpr rfl)), n1⟩, fun y hy => ?_⟩
        rcases List.mem_cons.mp hy with rfl | hy
        · exact h
        · exact fun hm => n2 y hy (List.mem_append_left _ hm)
      · have := i2.mpr ⟨z.1.2, fun y hy hm => by
          rcases List.mem_append.mp hm with hm | hm
          · exact z.2 y (List.mem_cons_of_mem _ hy) hm
          · rw [List.mem_singleton.mp hm] at hy; exact z.1.1 hy⟩
        rw [List.length_cons]; omega
theorem dd_nodup (l : List Int) : (dd l).length = l.length ↔ l.Nodup := by
  have := (dd_from l []).2
  simp at this
  exact this
theorem keys_put {kvs : List (Key × V)} {x : Int} {v : V} {l : List Int} (h : kvs.map (·.1) = l.map Sum.inl) : (putK kvs (Sum.inl x) v).map (·.1) = (ddF l x).map Sum.inl := by
  unfold putK ddF
  have e : (kvs.any fun kv => decide (kv.1 = Sum.inl x)) = decide (x ∈ l) := by
    rw [Bool.eq_iff_iff, List.any_eq_true, decide_eq_true_iff]
    constructor
    · rintro ⟨p, hp, hq⟩
      have hq := of_decide_eq_true hq
      have : p.1 ∈ l.map Sum.inl := by rw [← h]; exact List.mem_map.mpr ⟨p, hp, rfl⟩
      obtain ⟨y, hy, e⟩ := List.mem_map.mp this
      rw [hq] at e
      cases e
      exact hy
    · intro hx
      have : (Sum.inl x : Key) ∈ kvs.map (·.1) := by rw [h]; exact List.mem_map.mpr ⟨x, hx, rfl⟩
      obtain ⟨p, hp, e⟩ := List.mem_map.mp this
      exact ⟨p, hp, decide_eq_true e⟩
  rw [e]
  by_cases hx : x ∈ l
  · rw [if_pos (decide_eq_true hx), if_pos hx, List.map_map, ← h]
    refine List.map_congr_left fun p _ => ?_
    show (if p.1 = Sum.inl x then (p.1, v) else p).1 = p.1
    by_cases z : p.1 = Sum.inl x
    · rw [if_pos z]
    · rw [if_neg z]
  · rw [if_neg (by rw [decide_eq_false hx]; decide), if_neg hx, List.map_append, List.map_append, h]
    rfl
def OrdP (n : Int) (l : List Int) : Prop := (∀ x ∈ l, 0 ≤ x ∧ x < n) ∧ l.Nodup
section
variable {P : Program} {w : World} {K : PySem.W.Frag} {mg : Str → Option Value} {base : Heap}
def sp_need_costs (T : Txt K mg base) : Sp := fun vs H Q _ => ∃ (a b : Addr) (ds cs : List Int), vs = [.ref a, .ref b] ∧ H a = some (.tup (vI ds)) ∧ H b = some (.tup (vI cs)) ∧ Dep ds ∧ Cst ds.length cs ∧ Tb T H ∧ ∀ H', Sm H H' → Q .non H'
theorem ok_need_costs (T : Txt K mg base) : FnOk P w K mg base CX0 5 T.f_need_costs T.d_need_costs ["deputies", "costs"] (sp_need_costs T) := by
  have G1 : FnOk P w K mg base CX0 1 T.f_is_in T.d_is_in ["value", "least", "most"] sp_is_in := ok_is_in T
  have G2 : FnOk P w K mg base CX0 4 T.f_need_deputies T.d_need_deputies ["deputies"] (sp_need_deputies T) := ok_need_deputies T
  obtain ⟨tP, vP⟩ := T.v_MOST_COST
  refine T.F_need_costs.ok c_need_costs (fun vs H Q E h => ?_) (fun A outer s H vs Q E hr h => ?_)
  · obtain ⟨a, b, ds, cs, rfl, _⟩ := h
    rfl
  · obtain ⟨a, b, ds, cs, rfl, ha, hb, D, C, tb, q⟩ := h
    refine ⟨_, pss_cons (ps_expr (pe_call G2 hr (by rfl) T.g_need_deputies T.F_need_deputies.kp T.b_need_deputies .nil pass0 (pa_cons (pv 0) pa_nil)))
      (pss_cons (ps_if (PW.pt (pw_or (pt_not (pt_val (pe_isi "tuple" (by rfl) T.z_isinstance (by rfl) T.z_tuple bt_tuple (pv 1)))) (pw_or1 (pt_cmpR op_ne (pe_callB (crLen (K := K) rfl) (by rfl) T.z_len bt_len (pa_cons (pv 1) pa_nil)) (pe_callB (crLen (K := K) rfl) (by rfl) T.z_len bt_len (pa_cons (pv 0) pa_nil)) (nomark _))))) pss_never pss_nil)
      (pss_one (ps_if (pt_not (pt_val (pe_allG (k := 3) (own := [("one", 2)]) hr (by rfl) T.z_all T.B_need_costs rfl c_need_costs.nd (gs_of (N := ["deputies", "costs", "one"]) (sc := defScope s_need_costs) (by decide +kernel) rfl (by decide +kernel) rfl)
          (pi_tup (pv 1)) (fun A' s H code fp hr' => pg_name (i := 2) c_need_costs.nd rfl (Or.inl rfl))
          (fun A' s H code fp hr' => pe_call G1 (hr'.mono (by decide)) (by rfl) T.g_is_in T.F_is_in.kp T.b_is_in .nil pass0 (pa_cons (pv 2) (pa_cons pe_int (pa_cons (pe_glob (v := V.int 1000) rfl vP ⟨_, rfl⟩) pa_nil))))))) pss_never pss_nil))), ?_⟩
    refine ⟨_, rfl, a, ds, rfl, ha, D, tb, fun H1 s1 => ?_⟩
    have tb1 := s1.tb tb
    have hl := vI_len cs
    refine ⟨_, rfl, _, isT_tt (s1.tup hb), _, rfl, iteF ⟨_, rfl, _, _, rfl, .inr (SqT.of (s1.tup hb)), _, rfl, _, _, rfl, .inr (SqT.of (s1.tup ha)), rfl, _, rfl, ifN (by rw [dec_int, hl, C.len, vI_len]; simp) ?_⟩⟩
    refine ⟨_, rfl, b, rfl, ⟨_, SqT.of (s1.tup hb)⟩, ?_⟩
    show TabG _ _ ∧ _
    refine gAll (vI cs).length (fun i H' => Sm H H') tb1.need_costs (fun H2 t => s1.trans (Sm.tabbed tb1.need_costs t)) (fun H' s => ?_) (fun i H' hi s => ?_) (fun i H' v H2 hi s y => ?_)
    · exact ⟨⟨_, SqT.of (s.tup hb), Nat.le_refl _⟩, _, rfl, iteF (q H' s)⟩
    · obtain ⟨x, hx⟩ := lt_some hi
      exact ⟨_, x, SqT.of (s.tup hb), hx⟩
    · obtain ⟨rfl, fx⟩ := y
      have hx := fx _ (SqT.of (s.tup hb))
      obtain ⟨k, hk, rfl⟩ := vI_at hx
      have := C.rng k (List.mem_of_getElem? hk)
      exact ⟨rfl, _, rfl, _, _, _, rfl, _, rfl, ifY (decide_eq_true this) (Nxt.mk hi s)⟩
def sp_cost_of (T : Txt K mg base) : Sp := fun vs H Q _ => ∃ (a b : Addr) (n : Nat) (cs l : List Int), vs = [.ref a, .ref b] ∧ H a = some (.tup (vI cs)) ∧ H b = some (.tup (vI l)) ∧ Cst n cs ∧ (∀ x ∈ l, 0 ≤ x ∧ x < n) ∧ l.length ≤ 100 ∧ Tb T H ∧ ∀ H', Sm H H' → Q (.int (costOf cs l)) H'
theorem ok_cost_of (T : Txt K mg base) : FnOk P w K mg base CX0 2 T.f_cost_of T.d_cost_of ["costs", "lot"] (sp_cost_of T) := by
  refine T.F_cost_of.ok c_cost_of (fun vs H Q E h => ?_) (fun A outer s H vs Q E hr h => ?_)
  · obtain ⟨a, b, n, ds, cs, rfl, _⟩ := h
    rfl
  · obtain ⟨a, b, n, cs, l, rfl, ha, hb, C, rg, hl, tb, q⟩ := h
    refine ⟨_, pss_one (ps_ret (pe_sumG (k := 0) (own := [("person", 2)]) hr (by rfl) T.z_sum T.B_cost_of rfl c_cost_of.nd (gs_of (N := ["costs", "lot", "person"]) (sc := defScope s_cost_of) (by decide +kernel) rfl (by decide +kernel) rfl)
          (pi_tup (pv 1)) (fun A' s H code fp hr' => pg_name (i := 2) c_cost_of.nd rfl (Or.inl rfl))
          (fun A' s H code fp hr' => pe_ix (ixT (K := K) rfl) (pv 0) (pv 2) (fun _ _ => rfl)))), ?_⟩
    have hlen := vI_len l
    have ks := l.map (at0 cs)
    have kr : ∀ x ∈ l.map (at0 cs), -1000 ≤ x ∧ x ≤ 1000 := fun x hx => by
      obtain ⟨p, hp, rfl⟩ := List.mem_map.mp hx
      have := at0_rng C (rg p hp).1 (rg p hp).2
      omega
    have small : ∀ i, InLong ((l.map (at0 cs)).take i).sum := fun i => sum_small (m := 1000) (fun x hx => kr x (List.mem_of_mem_take hx)) (by decide) (by decide) (by rw [List.length_take, List.length_map]; omega)
    refine ⟨_, rfl, b, rfl, ⟨_, SqT.of hb⟩, ?_⟩
    refine gSum (vI l).length (fun i => ((l.map (at0 cs)).take i).sum) (fun i H' => Sm H H') rfl tb.cost_of (fun H2 t => Sm.tabbed tb.cost_of t) (fun H' s => ?_) (fun i H' hi s => ?_) (fun i H' v H2 hi s y => ?_)
    · refine ⟨⟨_, SqT.of (s.tup hb), Nat.le_refl _⟩, ?_⟩
      have e : (l.map (at0 cs)).take (vI l).length = l.map (at0 cs) := List.take_of_length_le (by rw [List.length_map, hlen]; exact Nat.le_refl _)
      show Q _ _
      rw [e]
      exact q H' s
    · obtain ⟨x, hx⟩ := lt_some hi
      exact ⟨_, x, SqT.of (s.tup hb), hx⟩
    · obtain ⟨rfl, fx⟩ := y
      have hx := fx _ (SqT.of (s.tup hb))
      obtain ⟨k, hk, rfl⟩ := vI_at hx
      have hk2 := rg k (List.mem_of_getElem? hk)
      have e1 : (l.map (at0 cs))[i]? = some (at0 cs k) := by rw [List.getElem?_map, hk]; rfl
      have e2 : ((l.map (at0 cs)).take (i + 1)).sum = ((l.map (at0 cs)).take i).sum + at0 cs k := sum_take e1
      refine ⟨rfl, _, rfl, _, rfl, a, _, _, _, rfl, rfl, SqT.of (s.tup ha), atI_at0 hk2.1 (by rw [C.len]; exact hk2.2), _, rfl, ?_, ?_, NxK.mk hi e2 s⟩
      · have := at0_rng C hk2.1 hk2.2
        unfold InLong
        omega
      · have := small (i + 1)
        rw [e2] at this
        exact this
end
end G6
set_option Elab.async false
set_option linter.all false
set_option maxRecDepth 100000
set_option maxHeartbeats 2000000
namespace G6
open PySem PySem.Spec PyProof.Rows L2 NX GxR
section
variable {P : Program} {w : World} {K : PySem.W.Frag} {mg : Str → Option Value} {base : Heap}
def sp_is_order (T : Txt K mg base) : Sp := fun vs H Q _ => ∃ (n : Int) (a : Addr), vs = [.int n, .ref a] ∧ Tb T H ∧
  ((∃ l, H a = some (.tup (vI l)) ∧ l.length ≤ 100 ∧ ∀ (b : Bool) H', Sm H H' → (b = true ↔ OrdP n l) → Q (.bl b) H') ∨ (∃ xs, H a = some (.lst xs) ∧ ∀ H', Sm H H' → Q (.bl false) H'))
theorem ok_is_order (T : Txt K mg base) : FnOk P w K mg base CX0 3 T.f_is_order T.d_is_order ["size", "value"] (sp_is_order T) := by
  have G1 : FnOk P w K mg base CX0 1 T.f_is_in T.d_is_in ["value", "least", "most"] sp_is_in := ok_is_in T
  refine T.F_is_order.ok c_is_order (fun vs H Q E h => ?_) (fun A outer s H vs Q E hr h => ?_)
  · obtain ⟨v, a, rfl, _⟩ := h
    rfl
  · obtain ⟨n, a, rfl, tb, h⟩ := h
    refine ⟨_, pss_cons (ps_if (PW.pt (pw_or (pt_not (pt_val (pe_isi "tuple" (by rfl) T.z_isinstance (by rfl) T.z_tuple bt_tuple (pv 1)))) (pw_or1 (pt_not (pt_val (pe_allG (k := 1) (own := [("one", 2)]) hr (by rfl) T.z_all T.B_is_order rfl c_is_order.nd (gs_of (N := ["size", "value", "one"]) (sc := defScope s_is_order) (by decide +kernel) rfl (by decide +kernel) rfl)
          (pi_tup (pv 1)) (fun A' s H code fp hr' => pg_name (i := 2) c_is_order.nd rfl (Or.inl rfl))
          (fun A' s H code fp hr' => pe_call G1 hr' (by rfl) T.g_is_in T.F_is_in.kp T.b_is_in .nil pass0 (pa_cons (pv 2) (pa_cons pe_int (pa_cons (pe_op op_sub (pv 0) pe_int) pa_nil))))))))))
        (pss_one (ps_ret pe_bl)) pss_nil)
      (pss_one (ps_ret (pe_cmpR op_eq (pe_callB call_lenD (by rfl) T.z_len bt_len (pa_cons (pe_dc (own := [("one", 2)]) (g := gName 2) (tt := tYes) (by rfl) c_is_order.nd (pi_tup (pv 1))
          (blkOk_by (own := [("one", 2)]) (N := ["size", "value", "one"]) (sc := defScope s_is_order) (by decide +kernel)) (fun _ _ _ _ _ => pg_name (i := 2) c_is_order.nd rfl (Or.inl rfl)) (fun _ _ _ _ _ => pts_nil) (fun _ _ _ _ _ => pv 2) (fun _ _ _ _ _ => pe_bl)) pa_nil))
        (pe_callB (crLen (K := K) rfl) (by rfl) T.z_len bt_len (pa_cons (pv 1) pa_nil)) (nomark _)))), ?_⟩
    rcases h with ⟨l, ha, hl, q⟩ | ⟨xs, ha, q⟩
    · have hlen := vI_len l
      refine ⟨_, rfl, _, isT_tt ha, _, rfl, iteF ?_⟩
      refine ⟨_, rfl, a, rfl, ⟨_, SqT.of ha⟩, ?_⟩
      show TabG _ _ ∧ _
      refine gAll (vI l).length (fun i H' => Sm H H' ∧ ∀ j x, j < i → l[j]? = some x → 0 ≤ x ∧ x < n) tb.is_order (fun H2 t => ⟨Sm.tabbed tb.is_order t, fun j x h => absurd h (by omega)⟩) (fun H' ⟨s, hall⟩ => ?_) (fun i H' hi ⟨s, _⟩ => ?_) (fun i H' v H2 hi ⟨s, hall⟩ y => ?_)
      · refine ⟨⟨_, SqT.of (s.tup ha), Nat.le_refl _⟩, _, rfl, iteF ?_⟩
        have rg : ∀ x ∈ l, 0 ≤ x ∧ x < n := fun x hx => by
          obtain ⟨j, hj⟩ := List.mem_iff_getElem?.mp hx
          exact hall j x (by rw [hlen]; exact (List.getElem?_eq_some_iff.mp hj).1) hj
        refine ⟨_, rfl, a, rfl, ⟨_, SqT.of (s.tup ha)⟩, fun o no => ?_⟩
        refine dc_tup (xs := vI l) (fun i H2 => Sm H' H2 ∧ ∃ kvs, H2 o = some (.dK kvs) ∧ kvs.map (·.1) = ((l.take i).foldl ddF []).map Sum.inl) ⟨Sm.new no, [], upd_same, rfl⟩ (fun i H2 _ ⟨s2, _⟩ => SqT.of ((s.trans s2).tup ha)) (fun i x H2 hx ⟨s2, kvs, ek, em⟩ => ?_) (fun H2 ⟨s2, kvs, ek, em⟩ => ?_)
        · obtain ⟨k, hk, rfl⟩ := vI_at hx
          refine ⟨rfl, yesT ⟨_, rfl, kvs, Sum.inl k, rfl, ek, ?_, s2.put no, _, upd_same, ?_⟩⟩
          · have e1 := congrArg List.length em
            rw [List.length_map, List.length_map] at e1
            have e2 := (dd_from (l.take i) []).1
            rw [List.length_take] at e2
            rw [e1]
            exact small1000 (by simp at e2; omega)
          · rw [keys_put em, List.take_add_one, hk, List.foldl_append]
            rfl
        · have e1 : l.take (vI l).length = l := List.take_of_length_le (by rw [hlen]; exact Nat.le_refl _)
          rw [e1] at em
          have e2 := congrArg List.length em
          rw [List.length_map, List.length_map] at e2
          refine ⟨_, _, rfl, ek, _, rfl, a, _, rfl, .inr (SqT.of ((s.trans s2).tup ha)), rfl, ?_⟩
          refine q _ _ (s.trans s2) ⟨fun z => ⟨rg, ?_⟩, fun z => ?_⟩
          · rw [dec_int, hlen, e2] at z
            have z2 := beq_iff_eq.mp z
            exact (dd_nodup l).mp (by unfold dd; omega)
          · rw [dec_int, hlen, e2]
            have := (dd_nodup l).mpr z.2
            unfold dd at this
            rw [this]
            simp
      · obtain ⟨x, hx⟩ := lt_some hi
        exact ⟨_, x, SqT.of (s.tup ha), hx⟩
      · obtain ⟨rfl, fx⟩ := y
        have hx := fx _ (SqT.of (s.tup ha))
        obtain ⟨k, hk, rfl⟩ := vI_at hx
        refine ⟨rfl, _, rfl, _, rfl, _, _, rfl, rfl, _, _, _, rfl, _, rfl, ite2 (fun e => Nxt.mk hi ⟨s, fun j x hj f1 => ?_⟩) (fun e => ⟨_, rfl, iteT (q false H2 s ⟨fun z => absurd z (by decide), fun z => absurd (decide_eq_true ⟨(z.1 k (List.mem_of_getElem? hk)).1, by have := (z.1 k (List.mem_of_getElem? hk)).2; omega⟩) e⟩)⟩)⟩
        rcases Nat.lt_or_ge j i with z | z
        · exact hall j x z f1
        · have : j = i := by omega
          subst this
          rw [hk] at f1
          cases f1
          have := of_decide_eq_true e
          omega
    · exact ⟨_, rfl, _, isT_lt ha, _, rfl, iteT (iteT (q H (Sm.refl H)))⟩
def sp_need_table (T : Txt K mg base) : Sp := fun vs H Q _ => ∃ (a : Addr) (n : Nat) (tb : List (List Int)), vs = [.int n, .ref a] ∧ TbH H a tb ∧ Tab n tb ∧ n ≤ 6 ∧ Tb T H ∧ ∀ H', Sm H H' → Q .non H'
theorem ok_need_table (T : Txt K mg base) : FnOk P w K mg base CX0 3 T.f_need_table T.d_need_table ["size", "table"] (sp_need_table T) := by
  have G1 : FnOk P w K mg base CX0 1 T.f_is_in T.d_is_in ["value", "least", "most"] sp_is_in := ok_is_in T
  obtain ⟨tP, vP⟩ := T.v_MOST_WORTH
  refine T.F_need_table.ok c_need_table (fun vs H Q E h => ?_) (fun A outer s H vs Q E hr h => ?_)
  · obtain ⟨v, a, tb, rfl, _⟩ := h
    rfl
  · obtain ⟨a, n, tb, rfl, ⟨rs, ha, hrs⟩, D, hn, tbs, q⟩ := h
    refine ⟨_, pss_cons (ps_if (PW.pt (pw_or (pt_not (pt_val (pe_isi "tuple" (by rfl) T.z_isinstance (by rfl) T.z_tuple bt_tuple (pv 1)))) (pw_or1 (pt_cmpR op_ne (pe_callB (crLen (K := K) rfl) (by rfl) T.z_len bt_len (pa_cons (pv 1) pa_nil)) (pv 0) (nomark _))))) pss_never pss_nil)
      (pss_one (ps_for PassesOwn.never rfl (pi_tup (pv 1)) (pg_name (i := 2) c_need_table.nd rfl (Or.inl rfl))
        (pss_cons (ps_if (PW.pt (pw_or (pt_not (pt_val (pe_isi "tuple" (by rfl) T.z_isinstance (by rfl) T.z_tuple bt_tuple (pv 2)))) (pw_or1 (pt_cmpR op_ne (pe_callB (crLen (K := K) rfl) (by rfl) T.z_len bt_len (pa_cons (pv 2) pa_nil)) (pe_op op_add (pv 0) pe_int) (nomark _))))) pss_never pss_nil)
        (pss_one (ps_if (pt_not (pt_val (pe_allG (k := 1) (own := [("one", 3)]) hr (by rfl) T.z_all T.B_need_table rfl c_need_table.nd (gs_of (N := ["size", "table", "line", "one"]) (sc := defScope s_need_table) (by decide +kernel) rfl (by decide +kernel) rfl)
          (pi_tup (pv 2)) (fun A' s H code fp hr' => pg_name (i := 3) c_need_table.nd rfl (Or.inl rfl))
          (fun A' s H code fp hr' => pe_call G1 hr' (by rfl) T.g_is_in T.F_is_in.kp T.b_is_in .nil pass0 (pa_cons (pv 3) (pa_cons (pe_op op_sub pe_int (pe_glob (v := V.int 100) rfl vP ⟨_, rfl⟩)) (pa_cons (pe_glob (v := V.int 100) rfl vP ⟨_, rfl⟩) pa_nil))))))) pss_never pss_nil))))), ?_⟩
    have hl := paired_len hrs
    refine ⟨_, rfl, _, isT_tt ha, _, rfl, iteF ⟨_, rfl, _, _, rfl, .inr (SqT.of ha), _, rfl, rfl, _, rfl, ifN (by rw [dec_int, hl, D.len]; simp) ?_⟩⟩
    refine ⟨_, rfl, a, rfl, ⟨_, SqT.of ha⟩, for_tup (xs := rs) (fun i σ H' => Sm H H' ∧ ∃ y z, σ = [some (.int n), some (.ref a), y, z]) ⟨Sm.refl H, _, _, rfl⟩ (fun i σ H' _ ⟨s, _⟩ => SqT.of (s.tup ha)) ?_ (fun σ H' ⟨s, _⟩ => q H' s)⟩
    rintro i x σ H' hx ⟨s, y, z, rfl⟩
    obtain ⟨l, hl2, t, rfl, ht⟩ := paired_at hrs hx
    obtain ⟨r1, r2⟩ := D.row l (List.mem_of_getElem? hl2)
    have hlen := vI_len l
    refine ⟨_, rfl, _, isT_tt (s.tup ht), _, rfl, iteF ⟨_, rfl, _, _, rfl, .inr (SqT.of (s.tup ht)), _, rfl, _, _, rfl, rfl, rfl, _, rfl, ifN (by rw [dec_int, hlen, r1]; simp) ?_⟩⟩
    have tb1 := s.tb tbs
    refine ⟨_, rfl, t, rfl, ⟨_, SqT.of (s.tup ht)⟩, ?_⟩
    show TabG _ _ ∧ _
    refine gAll (vI l).length (fun i H2 => Sm H H2) tb1.need_table (fun H2 t => s.trans (Sm.tabbed tb1.need_table t)) (fun H2 s2 => ?_) (fun i H2 hi s2 => ?_) (fun i H2 v H3 hi s2 y => ?_)
    · exact ⟨⟨_, SqT.of (s2.tup ht), Nat.le_refl _⟩, _, rfl, iteF ⟨s2, _, _, rfl⟩⟩
    · obtain ⟨x, hx⟩ := lt_some hi
      exact ⟨_, x, SqT.of (s2.tup ht), hx⟩
    · obtain ⟨rfl, fx⟩ := y
      have hx := fx _ (SqT.of (s2.tup ht))
      obtain ⟨k, hk, rfl⟩ := vI_at hx
      have := r2 k (List.mem_of_getElem? hk)
      exact ⟨rfl, _, rfl, _, _, rfl, rfl, _, _, _, rfl, _, rfl, ifY (decide_eq_true ⟨by omega, by omega⟩) (Nxt.mk hi s2)⟩
def sp_need_valued (T : Txt K mg base) : Sp := fun vs H Q _ => ∃ (a b : Addr) (ds : List Int) (tb : List (List Int)), vs = [.ref a, .ref b] ∧ H a = some (.tup (vI ds)) ∧ TbH H b tb ∧ Dep ds ∧ Tab ds.length tb ∧ Tb T H ∧ ∀ H', Sm H H' → Q .non H'
theorem ok_need_valued (T : Txt K mg base) : FnOk P w K mg base CX0 5 T.f_need_valued T.d_need_valued ["deputies", "table"] (sp_need_valued T) := by
  have G1 : FnOk P w K mg base CX0 4 T.f_need_deputies T.d_need_deputies ["deputies"] (sp_need_deputies T) := ok_need_deputies T
  have G2 : FnOk P w K mg base CX0 3 T.f_need_table T.d_need_table ["size", "table"] (sp_need_table T) := ok_need_table T
  refine T.F_need_valued.ok c_need_valued (fun vs H Q E h => ?_) (fun cdv A outer s H vs Q E hr h => ?_)
  · obtain ⟨a, b, ds, tb, rfl, _⟩ := h
    rfl
  · obtain ⟨a, b, ds, tb, rfl, ha, hb, D, Tt, tbs, q⟩ := h
    refine ⟨_, pss_cons (ps_expr (pe_call G1 hr (by rfl) T.g_need_deputies T.F_need_deputies.kp T.b_need_deputies .nil pass0 (pa_cons (pv 0) pa_nil)))
      (pss_one (ps_expr (pe_call G2 (hr.mono (by decide)) (by rfl) T.g_need_table T.F_need_table.kp T.b_need_table .nil pass0 (pa_cons (pe_callB (crLen (K := K) rfl) (by rfl) T.z_len bt_len (pa_cons (pv 0) pa_nil)) (pa_cons (pv 1) pa_nil))))), ?_⟩
    refine ⟨_, rfl, a, ds, rfl, ha, D, tbs, fun H1 s1 => ?_⟩
    exact ⟨_, rfl, a, _, rfl, .inr (SqT.of (s1.tup ha)), _, rfl, b, ds.length, tb, (by rw [vI_len]; rfl), hb.sm s1, Tt, D.most, s1.tb tbs, fun H2 s2 => q H2 (s1.trans s2)⟩
end
end G6
set_option Elab.async false
set_option linter.all false
set_option maxRecDepth 100000
set_option maxHeartbeats 2000000
namespace G6
open PySem PySem.Spec PyProof.Rows L2 NX GxR
/-! ### chains stay within -/
theorem chT_mem {ds : List Int} (D : Dep ds) : ∀ (k : Nat) (p : Int) (f : List Int), -1 ≤ p → p < ds.length → ∀ x ∈ chT ds k p f, 0 ≤ x ∧ x < ds.length
  | 0, _, _, _, _, _, h => absurd h (by simp [chT])
  | k + 1, p, f, l0, l1, x, h => by
    unfold chT at h
    by_cases c : p ≠ -1 ∧ p ∉ f
    · rw [if_pos c] at h
      have p0 : 0 ≤ p := by have := c.1; omega
      rcases List.mem_cons.mp h with rfl | h
      · exact ⟨p0, l1⟩
      · obtain ⟨_, a, b⟩ := nx_ok D p0 l1
        exact chT_mem D k _ _ a b x h
    · rw [if_neg c] at h
      exact absurd h (by simp)
theorem hold_rng {ds : List Int} (D : Dep ds) (g : List Int) {p : Int} (l0 : 0 ≤ p) (l1 : p < ds.length) : -1 ≤ hold ds g p ∧ hold ds g p < ds.length := by
  unfold hold fst?
  cases e : (chain ds p).find? fun q => decide (q ∉ g) with
  | none =>
    have := D.pos
    show -1 ≤ (-1 : Int) ∧ (-1 : Int) < _
    omega
  | some x =>
    have hm := List.mem_of_find?_eq_some e
    have := chT_mem D _ _ _ (by omega) l1 x hm
    show -1 ≤ x ∧ x < _
    omega
theorem holds_len (ds g : List Int) : (holds ds g).length = ds.length := by unfold holds; rw [List.length_map, upTo_len]
theorem holds_at {ds g : List Int} {i : Nat} (h : i < ds.length) : (holds ds g)[i]? = some (hold ds g i) := by
  unfold holds
  rw [List.getElem?_map, upTo_at h]
  rfl
def rowAt (r : List Int) (h : Int) : Int := (atI r h).getD 0
theorem row_some {n : Nat} {r : List Int} (hl : r.length = n + 1) {h : Int} (h0 : -1 ≤ h) (h1 : h < n) : atI r h = some (rowAt r h) ∧ rowAt r h ∈ r := by
  have : ∃ j : Nat, ixN r.length h = some j ∧ j < r.length := by
    unfold ixN
    by_cases z : 0 ≤ h
    · rw [if_pos z, if_pos (by omega)]
      exact ⟨_, rfl, by omega⟩
    · rw [if_neg z, if_pos (by omega)]
      exact ⟨_, rfl, by omega⟩
  obtain ⟨j, e, hj⟩ := this
  have e2 : atI r h = some r[j] := by
    unfold atI
    rw [e]
    exact List.getElem?_eq_getElem hj
  unfold rowAt
  rw [e2]
  exact ⟨rfl, List.getElem_mem hj⟩
theorem atI_vI (r : List Int) (h : Int) : atI (vI r) h = (atI r h).map V.int := by
  unfold atI vI
  rw [List.length_map]
  cases ixN r.length h with
  | none => rfl
  | some j => exact List.getElem?_map ..
def worthL (tb : List (List Int)) (hs : List Int) : List Int := (tb.zip hs).map fun p => rowAt p.1 p.2
def worthOf (tb : List (List Int)) (hs : List Int) : Int := (worthL tb hs).sum
def price (ds cs g : List Int) (p : Int) : Int := at0 cs p * ((holds ds g).count p : Nat)
def totL (ds cs o : List Int) : List Int := (List.range o.length).map fun i => price ds cs (o.take i) (o.getD i 0)
def tot (ds cs o : List Int) : Int := (totL ds cs o).sum
theorem price_rng {ds cs : List Int} (D : Dep ds) (C : Cst ds.length cs) (g : List Int) {p : Int} (h0 : 0 ≤ p) (h1 : p < ds.length) : 0 ≤ price ds cs g p ∧ price ds cs g p ≤ 6000 := by
  obtain ⟨a, b⟩ := at0_rng C h0 h1
  have c1 : (holds ds g).count p ≤ 6 := Nat.le_trans List.count_le_length (by rw [holds_len]; exact D.most)
  unfold price
  generalize (holds ds g).count p = k at c1
  refine ⟨Int.mul_nonneg a (by omega), ?_⟩
  have : at0 cs p * (k : Int) ≤ 1000 * 6 := Int.mul_le_mul b (by omega) (by omega) (by omega)
  omega
section
variable {P : Program} {w : World} {K : PySem.W.Frag} {mg : Str → Option Value} {base : Heap}
def sp_worth_of (T : Txt K mg base) : Sp := fun vs H Q _ => ∃ (a b c : Addr) (ds g : List Int) (tb : List (List Int)), vs = [.ref a, .ref b, .ref c] ∧ H a = some (.tup (vI ds)) ∧ TbH H b tb ∧ H c = some (.tup (vI g)) ∧ Dep ds ∧ Tab ds.length tb ∧ Tb T H ∧ ∀ H', Sm H H' → Q (.int (worthOf tb (holds ds g))) H'
theorem ok_worth_of (T : Txt K mg base) : FnOk P w K mg base CX0 4 T.f_worth_of T.d_worth_of ["deputies", "table", "gone"] (sp_worth_of T) := by
  have G1 : FnOk P w K mg base CX0 3 T.f_all_holders T.d_all_holders ["deputies", "gone"] sp_all_holders := ok_all_holders T
  refine T.F_worth_of.ok c_worth_of (fun vs H Q E h => ?_) (fun A outer s H vs Q E hr h => ?_)
  · obtain ⟨a, b, c, n, ds, cs, rfl, _⟩ := h
    rfl
  · obtain ⟨a, b, c, ds, g, tb, rfl, ha, ⟨rs, hb, hrs⟩, hc, D, Tt, tbs, q⟩ := h
    refine ⟨_, pss_one (ps_ret (pe_sumG (k := 2) (own := [("line", 3), ("there", 4)]) hr (by rfl) T.z_sum T.B_worth_of rfl c_worth_of.nd (gs_of (N := ["deputies", "table", "gone", "line", "there"]) (sc := defScope s_worth_of) (by decide +kernel) rfl (by decide +kernel) rfl)
          (pi_zipM (by rfl) T.z_zip (pa_cons (pv 1) (pa_cons (pe_call G1 hr (by rfl) T.g_all_holders T.F_all_holders.kp T.b_all_holders .nil pass0 (pa_cons (pv 0) (pa_cons (pv 2) pa_nil))) pa_nil)))
          (fun A' s H code fp hr' => pgT (K := K) (n := 2) rfl rfl (pgs_cons (pg_name (i := 3) c_worth_of.nd rfl (Or.inl rfl)) (pgs_cons (pg_name (i := 4) c_worth_of.nd rfl (Or.inl rfl)) pgs_nil)))
          (fun A' s H code fp hr' => pe_ix (ixT (K := K) rfl) (pv 3) (pv 4) (fun _ _ => rfl)))), ?_⟩
    refine ⟨_, rfl, _, rfl, _, rfl, a, c, ds, g, rfl, ha, hc, D, fun H1 o s1 no eo => ⟨b, o, rs, vI (holds ds g), rfl, SqT.of (s1.tup hb), SqL.of eo, ?_⟩⟩
    have hl := paired_len hrs
    have hz : (tb.zip (holds ds g)).length = ds.length := by rw [List.length_zip, Tt.len, holds_len]; omega
    have wl : (worthL tb (holds ds g)).length = ds.length := by unfold worthL; rw [List.length_map, hz]
    have at_ : ∀ (i : Nat) (r : List Int), i < ds.length → tb[i]? = some r → (worthL tb (holds ds g))[i]? = some (rowAt r (hold ds g i)) ∧ atI (vI r) (hold ds g i) = some (.int (rowAt r (hold ds g i))) ∧ -100 ≤ rowAt r (hold ds g i) ∧ rowAt r (hold ds g i) ≤ 100 := fun i r hi er => by
      obtain ⟨r1, r2⟩ := Tt.row r (List.mem_of_getElem? er)
      obtain ⟨h0, h1⟩ := hold_rng D g (p := (i : Nat)) (by omega) (by omega)
      obtain ⟨e1, e2⟩ := row_some r1 h0 h1
      refine ⟨?_, by rw [atI_vI, e1]; rfl, r2 _ e2⟩
      unfold worthL
      rw [List.getElem?_map, (List.getElem?_zip_eq_some (z := (r, hold ds g i))).mpr ⟨er, holds_at (g := g) hi⟩]
      rfl
    have mem : ∀ x ∈ worthL tb (holds ds g), -100 ≤ x ∧ x ≤ 100 := fun x hx => by
      obtain ⟨i, hi⟩ := List.mem_iff_getElem?.mp hx
      have hi2 : i < ds.length := by rw [← wl]; exact (List.getElem?_eq_some_iff.mp hi).1
      obtain ⟨r, er⟩ := lt_some (l := tb) (i := i) (by rw [Tt.len]; exact hi2)
      obtain ⟨e1, _, e3⟩ := at_ i r hi2 er
      rw [e1] at hi
      cases hi
      exact e3
    have small : ∀ i, InLong ((worthL tb (holds ds g)).take i).sum := fun i => sum_small (m := 100) (fun x hx => mem x (List.mem_of_mem_take hx)) (by decide) (by decide) (by rw [List.length_take, wl]; have := D.most; omega)
    have tb1 := s1.tb tbs
    refine gSum ds.length (fun i => ((worthL tb (holds ds g)).take i).sum) (fun i H' => Sm H H' ∧ H' o = some (.lst (vI (holds ds g)))) rfl tb1.worth_of (fun H2 t => ⟨s1.trans (Sm.tabbed tb1.worth_of t), (Sm.tabbed tb1.worth_of t).lst eo⟩) (fun H' ⟨s, e⟩ => ?_) (fun i H' hi ⟨s, e⟩ => ?_) (fun i H' v H2 hi ⟨s, e⟩ y => ?_)
    · refine ⟨⟨rs, _, SqT.of (s.tup hb), SqL.of e, by rw [hl, Tt.len], by rw [vI_len, holds_len]⟩, ?_⟩
      have e1 : (worthL tb (holds ds g)).take ds.length = worthL tb (holds ds g) := List.take_of_length_le (by rw [wl]; exact Nat.le_refl _)
      show Q _ _
      rw [e1]
      exact q H' s
    · obtain ⟨x, hx⟩ := lt_some (l := rs) (i := i) (by rw [hl, Tt.len]; exact hi)
      exact ⟨rs, _, x, _, SqT.of (s.tup hb), SqL.of e, hx, vI_some (holds_at hi)⟩
    · obtain ⟨t, x, y2, rfl, nt, rfl, fx, fy⟩ := y
      have hx := fx _ (SqT.of (s.tup hb))
      have hy := fy _ (SqL.of e)
      rw [vI_some (holds_at hi)] at hy
      cases hy
      obtain ⟨r, er, tr, rfl, htr⟩ := paired_at hrs hx
      obtain ⟨e1, e2, e3⟩ := at_ i r hi er
      have s2 : Sm H' (upd H' t (.tup [.ref tr, .int (hold ds g i)])) := Sm.new nt
      have e4 : ((worthL tb (holds ds g)).take (i + 1)).sum = ((worthL tb (holds ds g)).take i).sum + rowAt r (hold ds g i) := sum_take e1
      refine ⟨t, _, rfl, SqT.of upd_same, rfl, _, _, rfl, _, _, rfl, rfl, rfl, ?_⟩
      refine ⟨_, rfl, _, rfl, tr, _, _, _, rfl, rfl, SqT.of (s2.tup (s.tup htr)), e2, _, rfl, ?_, ?_, NxK.mk hi e4 ⟨s.trans s2, s2.lst e⟩⟩
      · unfold InLong; omega
      · have := small (i + 1)
        rw [e4] at this
        exact this
def sp_price_of : Sp := fun vs H Q _ => ∃ (a b c : Addr) (ds cs g : List Int) (p : Int), vs = [.ref a, .ref b, .ref c, .int p] ∧ H a = some (.tup (vI ds)) ∧ H b = some (.tup (vI cs)) ∧ H c = some (.tup (vI g)) ∧ Dep ds ∧ Cst ds.length cs ∧ 0 ≤ p ∧ p < ds.length ∧ ∀ H', Sm H H' → Q (.int (price ds cs g p)) H'
theorem ok_price_of (T : Txt K mg base) : FnOk P w K mg base CX0 4 T.f_price_of T.d_price_of ["deputies", "costs", "gone", "person"] sp_price_of := by
  have G1 : FnOk P w K mg base CX0 3 T.f_all_holders T.d_all_holders ["deputies", "gone"] sp_all_holders := ok_all_holders T
  refine T.F_price_of.ok c_price_of (fun vs H Q E h => ?_) (fun cdv A outer s H vs Q E hr h => ?_)
  · obtain ⟨a, b, c, n, ds, cs, p, rfl, _⟩ := h
    rfl
  · obtain ⟨a, b, c, ds, cs, g, p, rfl, ha, hb, hc, D, C, h0, h1, q⟩ := h
    refine ⟨_, pss_one (ps_ret (pe_op op_mul (pe_ix (ixT (K := K) rfl) (pv 1) (pv 3) (fun _ _ => rfl)) (pe_bm PySem.F.plainAttrs_list PySem.F.slot_list_count PySem.F.type_list_count mt_lcount (pe_call G1 hr (by rfl) T.g_all_holders T.F_all_holders.kp T.b_all_holders .nil pass0 (pa_cons (pv 0) (pa_cons (pv 2) pa_nil))) (pa_cons (pv 3) pa_nil)))), ?_⟩
    have := at0_rng C h0 h1
    refine ⟨_, rfl, _, rfl, b, _, _, _, rfl, rfl, SqT.of hb, atI_at0 h0 (by rw [C.len]; exact h1), _, rfl, _, rfl, a, c, ds, g, rfl, ha, hc, D, fun H1 o s1 no eo => ⟨.inl ⟨rfl, _, SqL.of eo⟩, _, rfl, o, holds ds g, p, rfl, rfl, SqL.of eo, _, _, rfl, rfl, .inl ⟨by omega, by omega⟩, q H1 s1⟩⟩
def sp_total_of (T : Txt K mg base) : Sp := fun vs H Q _ => ∃ (a b c : Addr) (ds cs o : List Int), vs = [.ref a, .ref b, .ref c] ∧ H a = some (.tup (vI ds)) ∧ H b = some (.tup (vI cs)) ∧ H c = some (.tup (vI o)) ∧ Dep ds ∧ Cst ds.length cs ∧ (∀ x ∈ o, 0 ≤ x ∧ x < ds.length) ∧ o.length ≤ 6 ∧ Tb T H ∧ ∀ H', Sm H H' → Q (.int (tot ds cs o)) H'
theorem totL_len (ds cs o : List Int) : (totL ds cs o).length = o.length := by unfold totL; rw [List.length_map, List.length_range]
theorem totL_at {ds cs o : List Int} {i : Nat} {k : Int} (h : o[i]? = some k) : (totL ds cs o)[i]? = some (price ds cs (o.take i) k) := by
  have hi : i < o.length := (List.getElem?_eq_some_iff.mp h).1
  unfold totL
  rw [List.getElem?_map, List.getElem?_range hi]
  show some (price ds cs (o.take i) (o.getD i 0)) = _
  rw [List.getD_eq_getElem?_getD, h]
  rfl
theorem cut_to {l : List Int} {i : Nat} (h : i ≤ l.length) : cutV (vI l) none (some ((i : Nat) : Int)) = vI (l.take i) := by
  unfold cutV
  rw [HT.sIx_none, HT.sIx_nat, vI_len, Nat.min_eq_left h]
  unfold vI
  rw [List.drop_zero, Nat.sub_zero, List.map_take]
theorem ok_total_of (T : Txt K mg base) : FnOk P w K mg base CX0 6 T.f_total_of T.d_total_of ["deputies", "costs", "order"] (sp_total_of T) := by
  have G1 : FnOk P w K mg base CX0 4 T.f_price_of T.d_price_of ["deputies", "costs", "gone", "person"] sp_price_of := ok_price_of T
  refine T.F_total_of.ok c_total_of (fun vs H Q E h => ?_) (fun A outer s H vs Q E hr h => ?_)
  · obtain ⟨a, b, c, n, ds, cs, rfl, _⟩ := h
    rfl
  · obtain ⟨a, b, c, ds, cs, l, rfl, ha, hb, hc, D, C, rg, hl, tbs, q⟩ := h
    refine ⟨_, pss_one (ps_ret (pe_sumG (k := 4) (own := [("at", 3), ("person", 4)]) hr (by rfl) T.z_sum T.B_total_of rfl c_total_of.nd (gs_of (N := ["deputies", "costs", "order", "at", "person"]) (sc := defScope s_total_of) (by decide +kernel) rfl (by decide +kernel) rfl)
          (pi_enumT (by rfl) T.z_enumerate (pa_cons (pv 2) pa_nil))
          (fun A' s H code fp hr' => pgT (K := K) (n := 2) rfl rfl (pgs_cons (pg_name (i := 3) c_total_of.nd rfl (Or.inl rfl)) (pgs_cons (pg_name (i := 4) c_total_of.nd rfl (Or.inl rfl)) pgs_nil)))
          (fun A' s H code fp hr' => pe_call G1 hr' (by rfl) T.g_price_of T.F_price_of.kp T.b_price_of .nil pass0 (pa_cons (pv 0) (pa_cons (pv 1) (pa_cons (pe_slice (slT (K := K) rfl) (pv 2) po_none (po_some (pv 3))) (pa_cons (pv 4) pa_nil))))))), ?_⟩
    have hlen := vI_len l
    have mem : ∀ x ∈ totL ds cs l, -6000 ≤ x ∧ x ≤ 6000 := fun x hx => by
      obtain ⟨i, hi⟩ := List.mem_iff_getElem?.mp hx
      obtain ⟨k, ek⟩ := lt_some (l := l) (i := i) (by rw [← totL_len ds cs l]; exact (List.getElem?_eq_some_iff.mp hi).1)
      rw [totL_at ek] at hi
      cases hi
      have := rg k (List.mem_of_getElem? ek)
      have := price_rng D C (l.take i) this.1 this.2
      omega
    have small : ∀ i, InLong ((totL ds cs l).take i).sum := fun i => sum_small (m := 6000) (fun x hx => mem x (List.mem_of_mem_take hx)) (by decide) (by decide) (by rw [List.length_take, totL_len]; omega)
    refine ⟨_, rfl, c, _, rfl, SqT.of hc, ?_⟩
    refine gSum (vI l).length (fun i => ((totL ds cs l).take i).sum) (fun i H' => Sm H H') rfl tbs.total_of (fun H2 t => Sm.tabbed tbs.total_of t) (fun H' s => ?_) (fun i H' hi s => ?_) (fun i H' v H2 hi s y => ?_)
    · refine ⟨⟨_, SqT.of (s.tup hc), rfl⟩, ?_⟩
      have e1 : (totL ds cs l).take (vI l).length = totL ds cs l := List.take_of_length_le (by rw [totL_len, hlen]; exact Nat.le_refl _)
      show Q _ _
      rw [e1]
      exact q H' s
    · obtain ⟨x, hx⟩ := lt_some hi
      exact ⟨_, x, SqT.of (s.tup hc), hx⟩
    · obtain ⟨t, x, rfl, nt, rfl, fx⟩ := y
      have hx := fx _ (SqT.of (s.tup hc))
      obtain ⟨k, hk, rfl⟩ := vI_at hx
      have hi2 : i < l.length := by rw [← hlen]; exact hi
      have rk := rg k (List.mem_of_getElem? hk)
      have s2 : Sm H (upd H' t (.tup [.int (i : Nat), .int k])) := s.trans (Sm.new nt)
      have e1 := totL_at (ds := ds) (cs := cs) hk
      have e4 : ((totL ds cs l).take (i + 1)).sum = ((totL ds cs l).take i).sum + price ds cs (l.take i) k := sum_take e1
      refine ⟨t, _, rfl, SqT.of upd_same, rfl, _, _, rfl, _, _, rfl, rfl, rfl, ?_⟩
      refine ⟨_, rfl, _, rfl, _, rfl, _, rfl, i, rfl, c, _, rfl, SqT.of (s2.tup hc), fun z => ?_, fun _ p np => ?_⟩
      · have := z.2
        rw [HT.sIx_nat, hlen, Nat.min_eq_left (by omega)] at this
        omega
      · have s3 : Sm H (upd (upd H' t (.tup [.int (i : Nat), .int k])) p (.tup (cutV (vI l) none (some ((i : Nat) : Int))))) := s2.trans (Sm.new np)
        rw [cut_to (Nat.le_of_lt hi2)] at s3 ⊢
        refine ⟨_, rfl, a, b, p, ds, cs, l.take i, k, rfl, s3.tup ha, s3.tup hb, upd_same, D, C, rk.1, rk.2, fun H3 s4 => ⟨_, rfl, ?_, ?_, NxK.mk hi e4 (s3.trans s4)⟩⟩
        · have := price_rng D C (l.take i) rk.1 rk.2
          unfold InLong; omega
        · have := small (i + 1)
          rw [e4] at this
          exact this
def sp_order_cost (T : Txt K mg base) : Sp := fun vs H Q _ => ∃ (a b c : Addr) (ds cs o : List Int), vs = [.ref a, .ref b, .ref c] ∧ H a = some (.tup (vI ds)) ∧ H b = some (.tup (vI cs)) ∧ H c = some (.tup (vI o)) ∧ Dep ds ∧ Cst ds.length cs ∧ OrdP ds.length o ∧ Tb T H ∧ ∀ H', Sm H H' → Q (.int (tot ds cs o)) H'
theorem ok_order_cost (T : Txt K mg base) : FnOk P w K mg base CX0 7 T.f_order_cost T.d_order_cost ["deputies", "costs", "order"] (sp_order_cost T) := by
  have G1 : FnOk P w K mg base CX0 5 T.f_need_costs T.d_need_costs ["deputies", "costs"] (sp_need_costs T) := ok_need_costs T
  have G2 : FnOk P w K mg base CX0 3 T.f_is_order T.d_is_order ["size", "value"] (sp_is_order T) := ok_is_order T
  have G3 : FnOk P w K mg base CX0 6 T.f_total_of T.d_total_of ["deputies", "costs", "order"] (sp_total_of T) := ok_total_of T
  refine T.F_order_cost.ok c_order_cost (fun vs H Q E h => ?_) (fun cdv A outer s H vs Q E hr h => ?_)
  · obtain ⟨a, b, c, n, ds, cs, rfl, _⟩ := h
    rfl
  · obtain ⟨a, b, c, ds, cs, l, rfl, ha, hb, hc, D, C, O, tbs, q⟩ := h
    refine ⟨_, pss_cons (ps_expr (pe_call G1 (hr.mono (by decide)) (by rfl) T.g_need_costs T.F_need_costs.kp T.b_need_costs .nil pass0 (pa_cons (pv 0) (pa_cons (pv 1) pa_nil))))
      (pss_cons (ps_if (pt_not (pt_val (pe_call G2 (hr.mono (by decide)) (by rfl) T.g_is_order T.F_is_order.kp T.b_is_order .nil pass0 (pa_cons (pe_callB (crLen (K := K) rfl) (by rfl) T.z_len bt_len (pa_cons (pv 0) pa_nil)) (pa_cons (pv 2) pa_nil))))) pss_never pss_nil)
      (pss_one (ps_ret (pe_call G3 hr (by rfl) T.g_total_of T.F_total_of.kp T.b_total_of .nil pass0 (pa_cons (pv 0) (pa_cons (pv 1) (pa_cons (pv 2) pa_nil))))))), ?_⟩
    have cap := nodup_cap O.2 O.1
    have hm := D.most
    refine ⟨_, rfl, _, rfl, a, b, ds, cs, rfl, ha, hb, D, C, tbs, fun H1 s1 => ?_⟩
    refine ⟨_, rfl, a, _, rfl, .inr (SqT.of (s1.tup ha)), _, rfl, ds.length, c, (by rw [vI_len]; rfl), s1.tb tbs, .inl ⟨l, s1.tup hc, by omega, fun bb H2 s2 hb2 => ⟨_, rfl, ifN (by rw [hb2.mpr O]; rfl) ?_⟩⟩⟩
    have s12 := s1.trans s2
    exact ⟨_, rfl, _, rfl, _, rfl, a, b, c, ds, cs, l, rfl, s12.tup ha, s12.tup hb, s12.tup hc, D, C, O.1, by omega, s12.tb tbs, fun H3 s3 => q H3 (s12.trans s3)⟩
end
end G6
set_option Elab.async false
set_option linter.all false
set_option maxRecDepth 100000
set_option maxHeartbeats 2000000
namespace G6
open PySem PySem.Spec PyProof.Rows L2 NX GxR
def lotsF : Nat → List (List Int)
  | 0 => [[]]
  | k + 1 => lotsF k ++ (lotsF k).map fun l => l ++ [Int.ofNat k]
theorem lotsF_len : ∀ k, (lotsF k).length = 2 ^ k
  | 0 => rfl
  | k + 1 => by
    unfold lotsF
    rw [List.length_append, List.length_map, lotsF_len k, Nat.pow_succ]
    omega
theorem lotsF_small {k : Nat} (h : k ≤ 6) : (lotsF k).length ≤ 64 := by
  rw [lotsF_len]
  exact Nat.pow_le_pow_right (by decide) h
theorem lotsF_head : ∀ k, ∃ r, lotsF k = [] :: r
  | 0 => ⟨[], rfl⟩
  | k + 1 => by
    obtain ⟨r, e⟩ := lotsF_head k
    unfold lotsF
    rw [e]
    exact ⟨_, rfl⟩
theorem lotsF_iff : ∀ (k : Nat) (l : List Int), l ∈ lotsF k ↔ ((∀ x ∈ l, 0 ≤ x ∧ x < (k : Int)) ∧ l.Pairwise (· < ·))
  | 0, l => by
    unfold lotsF
    rw [List.mem_singleton]
    constructor
    · rintro rfl
      exact ⟨fun x h => absurd h (by simp), .nil⟩
    · rintro ⟨h, _⟩
      cases l with
      | nil => rfl
      | cons x l => have := h x List.mem_cons_self; omega
  | k + 1, l => by
    unfold lotsF
    rw [List.mem_append, List.mem_map]
    constructor
    · rintro (h | ⟨m, h, rfl⟩)
      · obtain ⟨h1, h2⟩ := (lotsF_iff k l).mp h
        exact ⟨fun x hx => by have := h1 x hx; omega, h2⟩
      · obtain ⟨h1, h2⟩ := (lotsF_iff k m).mp h
        refine ⟨fun x hx => ?_, List.pairwise_append.mpr ⟨h2, by simp, fun x hx y hy => ?_⟩⟩
        · rcases List.mem_append.mp hx with z | z
          · have := h1 x z; omega
          · rw [List.mem_singleton.mp z]; show 0 ≤ ((k : Nat) : Int) ∧ ((k : Nat) : Int) < _; omega
        · rw [List.mem_singleton.mp hy]; exact (h1 x hx).2
    · rintro ⟨h1, h2⟩
      rcases List.eq_nil_or_concat l with rfl | ⟨m, x, e⟩
      · exact .inl ((lotsF_iff k []).mpr ⟨fun x h => absurd h (by simp), .nil⟩)
      · rw [List.concat_eq_append] at e
        subst e
        obtain ⟨p1, _, p3⟩ := List.pairwise_append.mp h2
        have hx := h1 x (by simp)
        have hm : ∀ y ∈ m, y < x := fun y hy => p3 y hy x (by simp)
        by_cases z : x = (k : Int)
        · refine .inr ⟨m, (lotsF_iff k m).mpr ⟨fun y hy => ?_, p1⟩, by rw [z]; rfl⟩
          have := h1 y (List.mem_append_left _ hy)
          have := hm y hy
          omega
        · refine .inl ((lotsF_iff k (m ++ [x])).mpr ⟨fun y hy => ?_, h2⟩)
          have := h1 y hy
          rcases List.mem_append.mp hy with w | w
          · have := hm y w; omega
          · rw [List.mem_singleton.mp w] at this ⊢; omega
theorem asc_nodup {l : List Int} (h : l.Pairwise (· < ·)) : l.Nodup := h.imp fun h => by omega
theorem lotsF_llen {k : Nat} {l : List Int} (h : l ∈ lotsF k) : l.length ≤ k := by
  obtain ⟨h1, h2⟩ := (lotsF_iff k l).mp h
  exact nodup_cap (asc_nodup h2) h1
/-- what a tuple of ints holds -/
def tI : V → Int
  | .int i => i
  | _ => 0
def ct (H : Hp) : V → List Int
  | .ref t => match H t with
    | some (.tup xs) => xs.map tI
    | _ => []
  | _ => []
theorem tI_vI (l : List Int) : (vI l).map tI = l := by
  unfold vI
  rw [List.map_map]
  exact List.map_id' l
theorem IT.ct {H : Hp} {v : V} {l : List Int} (h : IT H v l) : ct H v = l ∧ ∃ t, v = V.ref t ∧ H t = some (.tup (vI (ct H v))) := by
  obtain ⟨t, rfl, e⟩ := h
  have : G6.ct H (.ref t) = l := by
    show (match H t with | some (.tup xs) => xs.map tI | _ => []) = l
    rw [e]
    exact tI_vI l
  exact ⟨this, t, rfl, by rw [this]; exact e⟩
theorem ITs.ct {H : Hp} : ∀ {rs : List V} {ls : List (List Int)}, ITs H rs ls → rs.map (G6.ct H) = ls
  | _, _, .nil => rfl
  | _, _, .cons r t => by rw [List.map_cons, (IT.ct r).1, ITs.ct t]
theorem paired_mem {α β : Type} {R : α → β → Prop} {as : List α} {bs : List β} (h : Paired R as bs) {a : α} (ha : a ∈ as) : ∃ b, b ∈ bs ∧ R a b := by
  obtain ⟨i, hi⟩ := List.mem_iff_getElem?.mp ha
  obtain ⟨b, h1, h2⟩ := paired_at h hi
  exact ⟨b, List.mem_of_getElem? h1, h2⟩
theorem paired_map {α β : Type} {R : α → β → Prop} {f : α → β} : ∀ {as : List α}, (∀ a ∈ as, R a (f a)) → Paired R as (as.map f)
  | [], _ => .nil
  | a :: as, h => .cons (h a List.mem_cons_self) (paired_map fun b hb => h b (List.mem_cons_of_mem _ hb))
theorem ITs.perm {H : Hp} {rs ys : List V} {ls : List (List Int)} (h : ITs H rs ls) (p : ys.Perm rs) : ITs H ys (ys.map (G6.ct H)) ∧ (ys.map (G6.ct H)).Perm ls := by
  refine ⟨paired_map fun v hv => ?_, by rw [← ITs.ct h]; exact p.map _⟩
  obtain ⟨l, _, hl⟩ := paired_mem h (p.mem_iff.mp hv)
  rw [(IT.ct hl).1]
  exact hl
theorem paired_app {α β : Type} {R : α → β → Prop} : ∀ {as as' : List α} {bs bs' : List β}, Paired R as bs → Paired R as' bs' → Paired R (as ++ as') (bs ++ bs')
  | _, _, _, _, .nil, h => h
  | _, _, _, _, .cons r t, h => .cons r (paired_app t h)
theorem ITs.put {H : Hp} {D : Addr} {xs : List V} {o : HO} {rs : List V} {ls : List (List Int)} (h : ITs H rs ls) (e : H D = some (.lst xs)) : ITs (upd H D o) rs ls := Paired.mapP h fun v l ⟨t, e1, e2⟩ => ⟨t, e1, by
  rw [upd_ne (fun z => by rw [z, e] at e2; cases e2)]; exact e2⟩
section
variable {P : Program} {w : World} {K : PySem.W.Frag} {mg : Str → Option Value} {base : Heap}
def sp_all_lots : Sp := fun vs H Q _ => ∃ (n : Nat), vs = [.int n] ∧ n ≤ 6 ∧ ∀ H' o ys ls, Sm H H' → H o = none → H' o = some (.lst ys) → ITs H' ys ls → ls.Perm (lotsF n) → Q (.ref o) H'
theorem ok_all_lots (T : Txt K mg base) : FnOk P w K mg base CX0 1 T.f_all_lots T.d_all_lots ["size"] sp_all_lots := by
  refine T.F_all_lots.ok c_all_lots (fun vs H Q E h => ?_) (fun cdv A outer s H vs Q E hr h => ?_)
  · obtain ⟨n, rfl, _⟩ := h
    rfl
  · obtain ⟨n, rfl, hn, q⟩ := h
    refine ⟨_, pss_cons (ps_set (i := 1) c_all_lots.nd rfl (.inl rfl) (pe_lst (pa_cons (pe_tup pa_nil) pa_nil)))
      (pss_cons (ps_for PassesOwn.never rfl (pi_range1 rfl T.z_range (pa_cons (pv 0) pa_nil)) (pg_name (i := 2) c_all_lots.nd rfl (Or.inr rfl))
        (pss_one (ps_set (i := 1) c_all_lots.nd rfl (.inl rfl) (pe_op op_cat (pv 1) (pe_lc (own := [("lot", 3)]) (g := gName 3) (tt := tYes) (by rfl) c_all_lots.nd (pi_list (pv 1))
          (blkOk_by (own := [("lot", 3)]) (N := ["size", "found", "person", "lot"]) (sc := defScope s_all_lots) (by decide +kernel)) (fun _ _ _ _ _ => pg_name (i := 3) c_all_lots.nd rfl (Or.inl rfl)) (fun _ _ _ _ _ => pts_nil)
          (fun _ _ _ _ _ => pe_tup (paStar (K := K) rfl (pv 3) (pa_cons (pv 2) pa_nil))))))))
      (pss_one (ps_ret (pe_callB (cr_sortT hr.units) (by rfl) T.z_sorted bt_sorted (pa_cons (pv 1) pa_nil))))), ?_⟩
    refine ⟨Nat.zero_le _, fun t nt => ⟨by show 1 ≤ sizeLine; decide, fun o no => ?_⟩⟩
    have s0 : Sm H (upd H t (.tup [])) := Sm.new nt
    have no' : H o = none := s0.dom o no
    have nto : t ≠ o := fun z => by rw [← z, upd_same] at no; cases no
    refine ⟨_, rfl, n, rfl, by omega, by omega, for_range (lo := 0) (n := (n : Int).toNat) (fun i σ H' => ∃ p rs y z, σ = [some (.int n), some (.ref p), y, z] ∧ Sm H H' ∧ H p = none ∧ H' p = some (.lst rs) ∧ ITs H' rs (lotsF i)) ⟨o, [.ref t], none, none, rfl, s0.trans (Sm.new no), no', upd_same, .cons ⟨t, rfl, (upd_ne nto).trans upd_same⟩ .nil⟩ ?_ ?_⟩
    · rintro i σ H' hi ⟨p, rs, y, z, rfl, s1, np, ep, hrs⟩
      have hi2 : i < n := by omega
      have hl := paired_len hrs
      have hsm := lotsF_small (k := i) (by omega)
      refine ⟨_, rfl, _, rfl, p, rfl, ⟨_, SqL.of ep⟩, fun D nD => ?_⟩
      have nDp : p ≠ D := ne_of_none ep nD
      refine lc_list (xs := rs) (fun j H2 => Sm H' H2 ∧ ∃ es, H2 D = some (.lst es) ∧ ITs H2 es (((lotsF i).take j).map fun l => l ++ [Int.ofNat i])) ⟨Sm.new nD, [], upd_same, .nil⟩ (fun j H2 _ ⟨s2, _⟩ => SqL.of (s2.lst ep)) (fun j x H2 hx ⟨s2, es, eD, hes⟩ => ?_) (fun H2 ⟨s2, es, eD, hes⟩ => ?_)
      · obtain ⟨l, hl2, tx, rfl, htx⟩ := paired_at hrs hx
        have hj : j < (lotsF i).length := (List.getElem?_eq_some_iff.mp hl2).1
        have el := paired_len hes
        have htx2 := s2.tup htx
        refine ⟨rfl, yesT ⟨_, rfl, tx, _, rfl, .inl (SqT.of htx2), _, rfl, ?_, fun u nu => ⟨es, ?_, ?_, ?_, _, upd_same, ?_⟩⟩⟩
        · have := lotsF_llen (List.mem_of_getElem? hl2)
          rw [List.length_append, vI_len]
          exact Nat.le_of_lt (small1000 (by show l.length + 1 ≤ 1000; omega))
        · rw [upd_ne (ne_of_none eD nu)]; exact eD
        · rw [el, List.length_map, List.length_take]; exact small1000 (by omega)
        · exact (s2.trans (Sm.new nu)).put nD
        · have nuD : u ≠ D := fun z => by rw [z, eD] at nu; cases nu
          have hu : IT (upd (upd H2 u (.tup (vI l ++ [.int (0 + (i : Int))]))) D (.lst (es ++ [.ref u]))) (.ref u) (l ++ [Int.ofNat i]) := by
            refine ⟨u, rfl, ?_⟩
            rw [upd_ne nuD, upd_same]
            unfold vI
            rw [List.map_append, Int.zero_add]
            rfl
          rw [List.take_add_one, hl2, List.map_append]
          exact paired_app (ITs.put (hes.sm (Sm.new nu)) ((upd_ne (ne_of_none eD nu)).trans eD)) (.cons hu .nil)
      · have e1 : (lotsF i).take rs.length = lotsF i := List.take_of_length_le (by rw [hl]; exact Nat.le_refl _)
        rw [e1] at hes
        have el := paired_len hes
        rw [List.length_map] at el
        refine ⟨p, D, rs, es, rfl, rfl, s2.lst ep, eD, by rw [el, hl]; exact Nat.le_of_lt (small1000 (by omega)), fun r nr => ?_⟩
        have s3 := s1.trans s2
        refine ⟨r, rs ++ es, _, _, rfl, s3.trans (Sm.new nr), ?_, upd_same, ?_⟩
        · exact s3.dom r nr
        · unfold lotsF
          exact ITs.sm (Sm.new nr) (paired_app (hrs.sm s2) hes)
    · rintro σ H' ⟨p, rs, y, z, rfl, s1, np, ep, hrs⟩
      obtain ⟨r, er⟩ := lotsF_head n
      have e0 : lotsF (n : Int).toNat = [] :: r := by rw [← er]; rfl
      rw [e0] at hrs
      cases hrs with
      | @cons x0 _ xs0 _ h0 ht =>
        have hall : ITs H' (x0 :: xs0) ([] :: r) := .cons h0 ht
        refine ⟨_, rfl, p, x0, xs0, ct H', rfl, SqL.of ep, (IT.ct h0).1, fun y hy => ?_, fun ys r2 hp nr => ?_⟩
        · obtain ⟨l, _, hl⟩ := paired_mem hall hy
          exact (IT.ct hl).2
        · obtain ⟨g1, g2⟩ := ITs.perm hall hp
          exact q _ r2 ys _ (s1.trans (Sm.new nr)) (s1.dom r2 nr) upd_same (ITs.sm (Sm.new nr) g1) (by rw [er]; exact g2)
end
end G6
set_option Elab.async false
set_option linter.all false
set_option maxRecDepth 100000
set_option maxHeartbeats 2000000
namespace G6
open PySem PySem.Spec PyProof.Rows L2 NX GxR
/-! ### prices and sums: what they lean on -/
theorem fst_congr {g g' : List Int} (h : ∀ x, x ∈ g ↔ x ∈ g') (l : List Int) : fst? g l = fst? g' l := by
  unfold fst?
  have : (fun q => decide (q ∉ g)) = fun q => decide (q ∉ g') := funext fun q => by
    by_cases z : q ∈ g
    · rw [decide_eq_false (fun w => w z), decide_eq_false (fun w => w ((h q).mp z))]
    · have z2 : q ∉ g' := fun w => z ((h q).mpr w)
      rw [decide_eq_true (show q ∉ g from z), decide_eq_true z2]
  rw [this]
theorem price_congr {g g' : List Int} (h : ∀ x, x ∈ g ↔ x ∈ g') (ds cs : List Int) (p : Int) : price ds cs g p = price ds cs g' p := by
  unfold price holds hold
  rw [show (fun p => fst? g (chain ds p)) = fun p => fst? g' (chain ds p) from funext fun p => fst_congr h _]
theorem totL_snoc (ds cs l : List Int) (p : Int) : totL ds cs (l ++ [p]) = totL ds cs l ++ [price ds cs l p] := by
  unfold totL
  rw [List.length_append, List.length_singleton, List.range_succ, List.map_append]
  congr 1
  · refine List.map_congr_left fun i hi => ?_
    have hi2 := List.mem_range.mp hi
    rw [List.take_append_of_le_length (Nat.le_of_lt hi2), List.getD_eq_getElem?_getD, List.getD_eq_getElem?_getD, List.getElem?_append_left hi2]
  · show [price ds cs ((l ++ [p]).take l.length) ((l ++ [p]).getD l.length 0)] = _
    rw [List.take_left, List.getD_eq_getElem?_getD, List.getElem?_concat_length]
    rfl
theorem tot_snoc (ds cs l : List Int) (p : Int) : tot ds cs (l ++ [p]) = tot ds cs l + price ds cs l p := by
  unfold tot
  rw [totL_snoc, List.sum_append]
  simp
/-! ### ascending lists -/
theorem asc_uniq : ∀ {l m : List Int}, l.Pairwise (· < ·) → m.Pairwise (· < ·) → l.Perm m → l = m
  | [], m, _, _, h => (List.Perm.eq_nil h.symm).symm
  | x :: l, [], _, _, h => absurd h.length_eq (by simp)
  | x :: l, y :: m, hl, hm, h => by
    obtain ⟨a1, a2⟩ := List.pairwise_cons.mp hl
    obtain ⟨b1, b2⟩ := List.pairwise_cons.mp hm
    have e : x = y := by
      rcases List.mem_cons.mp (h.mem_iff.mp (List.mem_cons_self (a := x) (l := l))) with e | hx
      · exact e
      · rcases List.mem_cons.mp (h.mem_iff.mpr (List.mem_cons_self (a := y) (l := m))) with e | hy
        · exact e.symm
        · have := b1 x hx
          have := a1 y hy
          omega
    subst e
    rw [asc_uniq a2 b2 h.cons_inv]
theorem exists_asc : ∀ l : List Int, l.Nodup → ∃ k : List Int, k.Pairwise (· < ·) ∧ k.Perm l
  | [], _ => ⟨[], .nil, .nil⟩
  | x :: l, h => by
    obtain ⟨h1, h2⟩ := List.nodup_cons.mp h
    obtain ⟨k, k1, k2⟩ := exists_asc l h2
    refine ⟨k.filter (· < x) ++ x :: k.filter (x < ·), ?_, ?_⟩
    · refine List.pairwise_append.mpr ⟨k1.filter _, List.pairwise_cons.mpr ⟨fun y hy => of_decide_eq_true (List.mem_filter.mp hy).2, k1.filter _⟩, fun a ha b hb => ?_⟩
      have ha2 := of_decide_eq_true (List.mem_filter.mp ha).2
      rcases List.mem_cons.mp hb with rfl | hb
      · exact ha2
      · have := of_decide_eq_true (List.mem_filter.mp hb).2
        omega
    · have hx : x ∉ k := fun z => h1 (k2.mem_iff.mp z)
      have e : (k.filter (x < ·)) = k.filter fun y => !decide (y < x) := List.filter_congr fun y hy => by
        have : y ≠ x := fun z => hx (z ▸ hy)
        by_cases w : y < x
        · rw [decide_eq_true w, decide_eq_false (by omega)]; rfl
        · rw [decide_eq_false w, decide_eq_true (by omega)]; rfl
      rw [e]
      refine (List.perm_middle).trans (.cons x (List.Perm.trans ?_ k2))
      exact List.filter_append_perm (fun y => decide (y < x)) k
theorem upTo_asc (n : Nat) : (upTo n).Pairwise (· < ·) := by
  unfold upTo
  rw [List.pairwise_map]
  exact List.pairwise_lt_range.imp fun h => by show ((_ : Nat) : Int) < ((_ : Nat) : Int); omega
theorem upTo_lot (n : Nat) : upTo n ∈ lotsF n := (lotsF_iff n _).mpr ⟨fun x hx => upTo_mem.mp hx, upTo_asc n⟩
/-! ### the table of the cheapest rows -/
def ik (k : List Int) : List Key := k.map Sum.inl
theorem ik_inj : ∀ {k k' : List Int}, ik k = ik k' → k = k'
  | [], [], _ => rfl
  | [], _ :: _, h => by cases h
  | _ :: _, [], h => by cases h
  | x :: k, y :: k', h => by
    have h' : Sum.inl x :: ik k = Sum.inl y :: ik k' := h
    injection h' with a b
    cases a
    rw [ik_inj b]
theorem ik_kV (k : List Int) : (ik k).map kV = vI k := by
  unfold ik vI
  rw [List.map_map]
  rfl
theorem valV_mem {kvs : List (List Key × V)} {k : List Key} {v : V} (h : valV kvs k = some v) : (k, v) ∈ kvs := by
  unfold valV at h
  rw [Option.map_eq_some_iff] at h
  obtain ⟨p, hp, rfl⟩ := h
  have h1 := List.mem_of_find?_eq_some hp
  have h2 : p.1 = k := of_decide_eq_true (List.find?_some (p := fun kv : List Key × V => decide (kv.1 = k)) hp)
  rw [← h2]
  exact h1
theorem valV_of_mem : ∀ {kvs : List (List Key × V)} {k : List Key} {v : V}, (kvs.map (·.1)).Nodup → (k, v) ∈ kvs → valV kvs k = some v
  | [], _, _, _, h => absurd h (by simp)
  | p :: kvs, k, v, nd, h => by
    rw [List.map_cons, List.nodup_cons] at nd
    rcases List.mem_cons.mp h with e | h
    · subst e
      exact valV_pos rfl
    · rw [valV_neg fun z => nd.1 (by rw [z]; exact List.mem_map.mpr ⟨_, h, rfl⟩)]
      exact valV_of_mem nd.2 h
theorem keys_putT {kvs : List (List Key × V)} (nd : (kvs.map (·.1)).Nodup) (k : List Key) (v : V) : ((putK kvs k v).map (·.1)).Nodup := by
  unfold putK
  by_cases a : (kvs.any fun kv => decide (kv.1 = k)) = true
  · rw [if_pos a, List.map_map]
    have : kvs.map ((·.1) ∘ fun kv => if kv.1 = k then (kv.1, v) else kv) = kvs.map (·.1) := List.map_congr_left fun p _ => by
      show (if p.1 = k then (p.1, v) else p).1 = p.1
      by_cases z : p.1 = k
      · rw [if_pos z]
      · rw [if_neg z]
    rw [this]
    exact nd
  · rw [if_neg a, List.map_append, List.nodup_append]
    refine ⟨nd, by simp, fun x hx y hy z => a ?_⟩
    rw [List.any_eq_true]
    obtain ⟨p, hp, e⟩ := List.mem_map.mp hx
    have hy' : y = k := by simpa using hy
    exact ⟨p, hp, decide_eq_true (by rw [e, z, hy'])⟩
theorem mem_putK {kvs : List (List Key × V)} {k : List Key} {v : V} {p : List Key × V} (h : p ∈ putK kvs k v) : p = (k, v) ∨ p ∈ kvs := by
  unfold putK at h
  by_cases a : (kvs.any fun kv => decide (kv.1 = k)) = true
  · rw [if_pos a] at h
    obtain ⟨q, hq, e⟩ := List.mem_map.mp h
    by_cases z : q.1 = k
    · rw [if_pos z] at e
      left; rw [← e, z]
    · rw [if_neg z] at e
      right; rw [← e]; exact hq
  · rw [if_neg a] at h
    rcases List.mem_append.mp h with h | h
    · exact .inr h
    · exact .inl (List.mem_singleton.mp h)
abbrev RV := V → Int → List Int → Prop
def Sound (R : RV) (ds cs : List Int) (t : Nat) (kvs : List (List Key × V)) : Prop := ∀ kv ∈ kvs, ∃ k c l, kv.1 = ik k ∧ k ∈ lotsF ds.length ∧ k.length = t ∧ R kv.2 c l ∧ l.Perm k ∧ tot ds cs l = c
structure FI (R : RV) (ds cs : List Int) (t : Nat) (kvs : List (List Key × V)) : Prop where
  snd : Sound R ds cs t kvs
  nd : (kvs.map (·.1)).Nodup
  bst : ∀ k ∈ lotsF ds.length, k.length = t → ∃ v c l, valV kvs (ik k) = some v ∧ R v c l ∧ ∀ l', l'.Perm k → c ≤ tot ds cs l'
structure MI (R : RV) (ds cs : List Int) (t : Nat) (kvs mk : List (List Key × V)) (Dn : List Int → Int → Prop) : Prop where
  snd : Sound R ds cs (t + 1) mk
  nd : (mk.map (·.1)).Nodup
  prc : ∀ g p, Dn g p → ∀ k ∈ lotsF ds.length, k.Perm (g ++ [p]) → ∀ vg cg lg, valV kvs (ik g) = some vg → R vg cg lg → ∃ v c l, valV mk (ik k) = some v ∧ R v c l ∧ c ≤ cg + price ds cs g p
section
variable {R R' : RV} {ds cs : List Int} {t : Nat} {kvs mk : List (List Key × V)} {Dn Dn' : List Int → Int → Prop}
def Fun1 (R : RV) : Prop := ∀ v c l c' l', R v c l → R v c' l' → c = c'
theorem Sound.le (h : ∀ v c l, R v c l → R' v c l) (s : Sound R ds cs t kvs) : Sound R' ds cs t kvs := fun kv hm => by
  obtain ⟨k, c, l, h1, h2, h3, h4, h5, h6⟩ := s kv hm
  exact ⟨k, c, l, h1, h2, h3, h _ _ _ h4, h5, h6⟩
theorem FI.le (h : ∀ v c l, R v c l → R' v c l) (s : FI R ds cs t kvs) : FI R' ds cs t kvs := ⟨s.snd.le h, s.nd, fun k hk ht => by
  obtain ⟨v, c, l, h1, h2, h3⟩ := s.bst k hk ht
  exact ⟨v, c, l, h1, h _ _ _ h2, h3⟩⟩
theorem MI.le (h : ∀ v c l, R v c l → R' v c l) (F : Fun1 R') (f : FI R ds cs t kvs) (s : MI R ds cs t kvs mk Dn) : MI R' ds cs t kvs mk Dn := ⟨s.snd.le h, s.nd, fun g p d k hk hp vg cg lg hv hr => by
  obtain ⟨k2, c2, l2, _, _, _, r2, _⟩ := f.snd _ (valV_mem hv)
  have := F _ _ _ _ _ hr (h _ _ _ r2)
  subst this
  obtain ⟨v, c, l, h1, h2, h3⟩ := s.prc g p d k hk hp vg cg l2 hv r2
  exact ⟨v, c, l, h1, h _ _ _ h2, h3⟩⟩
theorem FI.start {v : V} (h : R v 0 []) : FI R ds cs 0 [(ik [], v)] := by
  refine ⟨fun kv hm => ?_, by simp, fun k hk ht => ?_⟩
  · rw [List.mem_singleton.mp hm]
    exact ⟨[], 0, [], rfl, (lotsF_iff _ _).mpr ⟨fun x h => absurd h (by simp), .nil⟩, rfl, h, .nil, rfl⟩
  · have : k = [] := List.eq_nil_of_length_eq_zero ht
    subst this
    refine ⟨v, 0, [], valV_pos rfl, h, fun l' hp => ?_⟩
    rw [List.Perm.eq_nil hp]
    exact Int.le_refl _
theorem MI.start : MI R ds cs t kvs [] fun _ _ => False := ⟨fun kv h => absurd h (by simp), by simp, fun g p h => h.elim⟩
theorem MI.mono (s : MI R ds cs t kvs mk Dn) (h : ∀ g p, Dn' g p → Dn g p) : MI R ds cs t kvs mk Dn' := ⟨s.snd, s.nd, fun g p d => s.prc g p (h g p d)⟩
theorem MI.put (F : Fun1 R) (s : MI R ds cs t kvs mk Dn) {g k : List Int} {p : Int} {v : V} {c : Int} {l : List Int} (hk : k ∈ lotsF ds.length) (ht : k.length = t + 1) (hp : k.Perm (g ++ [p])) (r : R v c l) (lp : l.Perm k) (lt : tot ds cs l = c)
    (hc : ∀ vg cg lg, valV kvs (ik g) = some vg → R vg cg lg → c ≤ cg + price ds cs g p) (old : ∀ v' c' l', valV mk (ik k) = some v' → R v' c' l' → c ≤ c') (hD : ∀ g' p', Dn' g' p' → Dn g' p' ∨ (g' = g ∧ p' = p)) : MI R ds cs t kvs (putK mk (ik k) v) Dn' := by
  refine ⟨fun kv hm => ?_, keys_putT s.nd _ _, fun g' p' d k' hk' hp' vg cg lg hv hr => ?_⟩
  · rcases mem_putK hm with e | hm
    · rw [e]; exact ⟨k, c, l, rfl, hk, ht, r, lp, lt⟩
    · exact s.snd kv hm
  · rw [valV_put]
    by_cases e : ik k' = ik k
    · have ek := ik_inj e
      subst ek
      rw [if_pos rfl]
      refine ⟨v, c, l, rfl, r, ?_⟩
      rcases hD g' p' d with d | ⟨rfl, rfl⟩
      · obtain ⟨v2, c2, l2, a, b, z⟩ := s.prc g' p' d k' hk' hp' vg cg lg hv hr
        exact Int.le_trans (old v2 c2 l2 a b) z
      · exact hc vg cg lg hv hr
    · rw [if_neg e]
      rcases hD g' p' d with d | ⟨rfl, rfl⟩
      · exact s.prc g' p' d k' hk' hp' vg cg lg hv hr
      · have := asc_uniq ((lotsF_iff _ _).mp hk').2 ((lotsF_iff _ _).mp hk).2 (hp'.trans hp.symm)
        rw [this] at e
        exact absurd rfl e
theorem MI.keep (s : MI R ds cs t kvs mk Dn) {g k : List Int} {p : Int} {v' : V} {c c' : Int} {l' : List Int} (hk : k ∈ lotsF ds.length) (hp : k.Perm (g ++ [p])) (hv' : valV mk (ik k) = some v') (r' : R v' c' l') (hle : c' ≤ c)
    (hc : ∀ vg cg lg, valV kvs (ik g) = some vg → R vg cg lg → c ≤ cg + price ds cs g p) (hD : ∀ g' p', Dn' g' p' → Dn g' p' ∨ (g' = g ∧ p' = p)) : MI R ds cs t kvs mk Dn' := by
  refine ⟨s.snd, s.nd, fun g2 p2 d k2 hk2 hp2 vg cg lg hv hr => ?_⟩
  rcases hD g2 p2 d with d | ⟨rfl, rfl⟩
  · exact s.prc g2 p2 d k2 hk2 hp2 vg cg lg hv hr
  · have := asc_uniq ((lotsF_iff _ _).mp hk2).2 ((lotsF_iff _ _).mp hk).2 (hp2.trans hp.symm)
    subst this
    exact ⟨v', c', l', hv', r', Int.le_trans hle (hc vg cg lg hv hr)⟩
theorem FI.next (f : FI R ds cs t kvs) (s : MI R ds cs t kvs mk Dn) (F : Fun1 R) (hD : ∀ (g : List Int) (p : Int), g ∈ lotsF ds.length → g.length = t → 0 ≤ p → p < ds.length → p ∉ g → Dn g p) : FI R ds cs (t + 1) mk := by
  refine ⟨s.snd, s.nd, fun k hk ht => ?_⟩
  obtain ⟨k1, k2⟩ := (lotsF_iff _ _).mp hk
  have main : ∀ (m : List Int) (p : Int), (m ++ [p]).Perm k → ∃ v c l, valV mk (ik k) = some v ∧ R v c l ∧ c ≤ tot ds cs (m ++ [p]) := fun m p hp => by
    have ndm : (m ++ [p]).Nodup := hp.nodup_iff.mpr (asc_nodup k2)
    obtain ⟨nm, _, nx⟩ := List.nodup_append.mp ndm
    obtain ⟨g, g1, g2⟩ := exists_asc m nm
    have gr : ∀ x ∈ g, 0 ≤ x ∧ x < (ds.length : Int) := fun x hx => k1 x (hp.mem_iff.mp (List.mem_append_left _ (g2.mem_iff.mp hx)))
    have gl : g ∈ lotsF ds.length := (lotsF_iff _ _).mpr ⟨gr, g1⟩
    have glen : g.length = t := by
      have a := g2.length_eq
      have b := hp.length_eq
      rw [List.length_append, List.length_singleton] at b
      omega
    have pr := k1 p (hp.mem_iff.mp (List.mem_append_right _ (List.mem_singleton.mpr rfl)))
    have png : p ∉ g := fun z => nx p (g2.mem_iff.mp z) p (List.mem_singleton.mpr rfl) rfl
    obtain ⟨vg, cg, lg, a, b, z⟩ := f.bst g gl glen
    obtain ⟨v, c, l, x1, x2, x3⟩ := s.prc g p (hD g p gl glen pr.1 pr.2 png) k hk (hp.symm.trans (g2.symm.append_right _)) vg cg lg a b
    refine ⟨v, c, l, x1, x2, Int.le_trans x3 ?_⟩
    rw [tot_snoc, price_congr (g := m) (g' := g) (fun x => g2.mem_iff.symm)]
    have := z m g2.symm
    omega
  rcases List.eq_nil_or_concat k with rfl | ⟨m, p, e⟩
  · simp at ht
  · rw [List.concat_eq_append] at e
    obtain ⟨v, c, l, x1, x2, _⟩ := main m p (by rw [e])
    refine ⟨v, c, l, x1, x2, fun l' hp => ?_⟩
    rcases List.eq_nil_or_concat l' with rfl | ⟨m', p', e'⟩
    · have := hp.length_eq
      simp at this
      omega
    · rw [List.concat_eq_append] at e'
      subst e'
      obtain ⟨v2, c2, l2, y1, y2, y3⟩ := main m' p' hp
      rw [x1] at y1
      cases y1
      have := F _ _ _ _ _ x2 y2
      omega
theorem FI.last (f : FI R ds cs ds.length kvs) (F : Fun1 R) : ∃ v c l, valV kvs (ik (upTo ds.length)) = some v ∧ R v c l ∧ l.Perm (upTo ds.length) ∧ tot ds cs l = c ∧ ∀ l' : List Int, l'.Perm (upTo ds.length) → c ≤ tot ds cs l' := by
  obtain ⟨v, c, l, h1, h2, h3⟩ := f.bst _ (upTo_lot _) (upTo_len _)
  obtain ⟨k, c2, l2, e, _, _, r2, p2, t2⟩ := f.snd _ (valV_mem h1)
  have ek := ik_inj e
  subst ek
  have := F _ _ _ _ _ h2 r2
  subst this
  exact ⟨v, c, l2, h1, r2, p2, t2, h3⟩
theorem Sound.cap (s : Sound R ds cs t kvs) (nd : (kvs.map (·.1)).Nodup) : kvs.length ≤ (lotsF ds.length).length := by
  have h := nd.length_le_of_subset (l₂ := (lotsF ds.length).map ik) (fun x hx => by
    obtain ⟨p, hp, rfl⟩ := List.mem_map.mp hx
    obtain ⟨k, c, l, h1, h2, _⟩ := s p hp
    exact List.mem_map.mpr ⟨k, h2, h1.symm⟩)
  rw [List.length_map, List.length_map] at h
  exact h
end
end G6
set_option Elab.async false
set_option linter.all false
set_option maxRecDepth 100000
set_option maxHeartbeats 4000000
namespace G6
open PySem PySem.Spec PyProof.Rows L2 NX GxR
theorem tp_fun {H : Hp} : Fun1 (TP H) := fun v c l c' l' h h' => by
  obtain ⟨a, b, rfl, h1, h2⟩ := h
  obtain ⟨a', b', e, h3, h4⟩ := h'
  cases e
  rw [h1] at h3
  cases h3
  rfl
theorem tp_le {H H' : Hp} (h : ∀ b xs, H b = some (.tup xs) → H' b = some (.tup xs)) : ∀ v c l, TP H v c l → TP H' v c l := fun v c l ⟨a, b, e, h1, h2⟩ => ⟨a, b, e, h _ _ h1, h _ _ h2⟩
theorem tp_sm {H H' : Hp} (s : Sm H H') : ∀ v c l, TP H v c l → TP H' v c l := tp_le fun _ _ e => s.tup e
/-- within the loop over the rows of a level -/
structure Inn (ds cs : List Int) (t : Nat) (H : Hp) (Fa M : Addr) (od : Obj) (kvs : List (List Key × V)) (H' : Hp) (mk : List (List Key × V)) (Dn : List Int → Int → Prop) : Prop where
  sm : Sm H H'
  fz : H' Fa = some (.frz od (.dT kvs))
  mo : H' M = some (.dT mk)
  fi : FI (TP H') ds cs t kvs
  mi : MI (TP H') ds cs t kvs mk Dn
theorem Inn.sm2 {ds cs : List Int} {t : Nat} {H : Hp} {Fa M : Addr} {od : Obj} {kvs : List (List Key × V)} {H' H2 : Hp} {mk : List (List Key × V)} {Dn : List Int → Int → Prop} (i : Inn ds cs t H Fa M od kvs H' mk Dn) (s : Sm H' H2) : Inn ds cs t H Fa M od kvs H2 mk Dn :=
  ⟨i.sm.trans s, s.keep _ _ i.fz (fun _ z => by cases z), s.dT i.mo, i.fi.le (tp_sm s), i.mi.le (tp_sm s) tp_fun i.fi⟩
theorem Inn.put {ds cs : List Int} {t : Nat} {H : Hp} {Fa M : Addr} {od : Obj} {kvs : List (List Key × V)} {H' : Hp} {mk mk' : List (List Key × V)} {Dn Dn' : List Int → Int → Prop} (i : Inn ds cs t H Fa M od kvs H' mk Dn) (nM : H M = none) (ne : Fa ≠ M) (m : MI (TP H') ds cs t kvs mk' Dn') : Inn ds cs t H Fa M od kvs (upd H' M (.dT mk')) mk' Dn' := by
  have ts : ∀ b xs, H' b = some (.tup xs) → upd H' M (.dT mk') b = some (.tup xs) := fun b xs e => by
    rw [upd_ne (fun z => by rw [z, i.mo] at e; cases e)]; exact e
  exact ⟨i.sm.put nM, (upd_ne ne).trans i.fz, upd_same, i.fi.le (tp_le ts), m.le (tp_le ts) tp_fun i.fi⟩
section
variable {P : Program} {w : World} {K : PySem.W.Frag} {mg : Str → Option Value} {base : Heap}
def sp_cheapest_row : Sp := fun vs H Q _ => ∃ (a b : Addr) (ds cs : List Int), vs = [.ref a, .ref b] ∧ H a = some (.tup (vI ds)) ∧ H b = some (.tup (vI cs)) ∧ Dep ds ∧ Cst ds.length cs ∧
  ∀ H' v c l, Sm H H' → TP H' v c l → l.Perm (upTo ds.length) → tot ds cs l = c → (∀ l' : List Int, l'.Perm (upTo ds.length) → c ≤ tot ds cs l') → Q v H'
theorem ok_cheapest_row (T : Txt K mg base) : FnOk P w K mg base CX0 5 T.f_cheapest_row T.d_cheapest_row ["deputies", "costs"] sp_cheapest_row := by
  have G1 : FnOk P w K mg base CX0 4 T.f_price_of T.d_price_of ["deputies", "costs", "gone", "person"] sp_price_of := ok_price_of T
  refine T.F_cheapest_row.ok c_cheapest_row (fun vs H Q E h => ?_) (fun cdv A outer s H vs Q E hr h => ?_)
  · obtain ⟨a, b, c, n, rfl, _⟩ := h
    rfl
  · obtain ⟨a, b, ds, cs, rfl, ha, hb, D, C, q⟩ := h
    have hu := hu_of hr
    have nd := c_cheapest_row.nd
    refine ⟨_, pss_cons (ps_set (i := 2) nd rfl (.inl rfl) (pe_callB (crLen (K := K) rfl) (by rfl) T.z_len bt_len (pa_cons (pv 0) pa_nil)))
      (pss_cons (ps_set (i := 3) nd rfl (.inl rfl) (pe_oneT hu (pe_tup pa_nil) (pe_tup (pa_cons pe_int (pa_cons (pe_tup pa_nil) pa_nil)))))
      (pss_cons (ps_for PassesOwn.never rfl (pi_range1 rfl T.z_range (pa_cons (pv 2) pa_nil)) (pg_name (i := 4) nd rfl (Or.inl rfl))
        (pss_cons (ps_set (i := 5) nd rfl (.inl rfl) pe_dnewT)
        (pss_cons (ps_lock (ps_for PassesOwn.never rfl (pi_keys (pv 3)) (pg_name (i := 6) nd rfl (Or.inl rfl))
          (pss_cons (ps_asg (pe_dget hu (pv 3) (pv 6) (fun _ _ => rfl)) (pg_tup rfl (pgs_cons (pg_name (i := 7) nd rfl (Or.inl rfl)) (pgs_cons (pg_name (i := 8) nd rfl (Or.inl rfl)) pgs_nil))))
          (pss_one (ps_for PassesOwn.never rfl (pi_range1 rfl T.z_range (pa_cons (pv 2) pa_nil)) (pg_name (i := 9) nd rfl (Or.inl rfl))
            (pss_one (ps_if (pt_cmpR op_notIn_seq (pv 9) (pv 6) (by rfl))
              (pss_cons (ps_set (i := 10) nd rfl (.inl rfl) (pe_callTy call_tuple_of (by rfl) T.z_tuple bt_tuple (pa_cons (pe_callB cr_sorted (by rfl) T.z_sorted bt_sorted (pa_cons (pe_lst (paStar (K := K) rfl (pv 6) (pa_cons (pv 9) pa_nil))) pa_nil)) pa_nil)))
              (pss_cons (ps_set (i := 11) nd rfl (.inl rfl) (pe_tup (pa_cons (pe_op op_add (pv 7) (pe_call G1 hr (by rfl) T.g_price_of T.F_price_of.kp T.b_price_of .nil pass0 (pa_cons (pv 0) (pa_cons (pv 1) (pa_cons (pv 6) (pa_cons (pv 9) pa_nil)))))) (pa_cons (pe_tup (paStar (K := K) rfl (pv 8) (pa_cons (pv 9) pa_nil))) pa_nil))))
              (pss_one (ps_if (PW.pt (pw_or (pt_cmp (pc_dnotin hu (pv 10) (pv 5))) (pw_or1 (pt_cmpR (op_ltP hr.units) (pv 11) (pe_dget hu (pv 5) (pv 10) (fun _ _ => rfl)) (nomark _)))))
                (pss_one (ps_dput hu (pv 5) (pv 10) (pv 11) rfl)) pss_nil)))) pss_nil)))))))
        (pss_one (ps_set (i := 3) nd rfl (.inl rfl) (pv 5))))))
      (pss_one (ps_ret (pe_dget hu (pv 3) (pe_tupRg (by rfl) (by rfl) T.z_tuple (prg_1 (by rfl) T.z_range (pv 2))) (fun _ _ => rfl)))))), ?_⟩
    have hl := vI_len ds
    have hm6 := D.most
    have hb1 := D.pos
    refine ⟨_, rfl, a, _, rfl, .inr (SqT.of ha), ?_⟩
    rw [hl]
    -- found = {(): (0, ())}
    refine fun Fa nFa => ⟨Nat.zero_le _, fun t0 nt0 => ⟨Nat.zero_le _, fun t1 nt1 => ⟨by show 2 ≤ sizeLine; decide, fun t2 nt2 => ?_⟩⟩⟩
    have s1 : Sm H (upd H Fa (.dT [])) := Sm.new nFa
    have s2 : Sm (upd H Fa (.dT [])) (upd (upd H Fa (.dT [])) t0 (.tup [])) := Sm.new nt0
    have s3 : Sm (upd (upd H Fa (.dT [])) t0 (.tup [])) (upd (upd (upd H Fa (.dT [])) t0 (.tup [])) t1 (.tup [])) := Sm.new nt1
    have s4 : Sm (upd (upd (upd H Fa (.dT [])) t0 (.tup [])) t1 (.tup [])) (upd (upd (upd (upd H Fa (.dT [])) t0 (.tup [])) t1 (.tup [])) t2 (.tup [.int 0, .ref t1])) := Sm.new nt2
    have s14 := ((s1.trans s2).trans s3).trans s4
    have eF := ((s2.trans s3).trans s4).dT (a := Fa) (xs := []) upd_same
    have e0 := (s3.trans s4).tup (a := t0) (xs := []) upd_same
    have e1 := s4.tup (a := t1) (xs := []) upd_same
    have e2 : (upd (upd (upd (upd H Fa (.dT [])) t0 (.tup [])) t1 (.tup [])) t2 (.tup [.int 0, .ref t1])) t2 = some (.tup [.int 0, .ref t1]) := upd_same
    generalize (upd (upd (upd (upd H Fa (.dT [])) t0 (.tup [])) t1 (.tup [])) t2 (.tup [.int 0, .ref t1])) = H1 at s14 eF e0 e1 e2
    refine ⟨eF, t0, [], rfl, e0, ?_⟩
    have tsF : ∀ b xs, H1 b = some (.tup xs) → upd H1 Fa (.dT [([], V.ref t2)]) b = some (.tup xs) := fun b xs e => by
      rw [upd_ne (fun z => by rw [z, eF] at e; cases e)]; exact e
    refine ⟨_, rfl, ds.length, rfl, by omega, by omega, for_range (lo := 0) (n := ((ds.length : Nat) : Int).toNat) (fun t σ H' => ∃ Fa kvs z4 z5 z6 z7 z8 z9 z10 z11, σ = [some (.ref a), some (.ref b), some (.int (ds.length : Nat)), some (.ref Fa), z4, z5, z6, z7, z8, z9, z10, z11] ∧ Sm H H' ∧ H Fa = none ∧ H' Fa = some (.dT kvs) ∧ FI (TP H') ds cs t kvs)
      ⟨Fa, _, _, _, _, _, _, _, _, _, rfl, s14.put nFa, nFa, upd_same, FI.start ⟨t2, t1, rfl, tsF _ _ e2, tsF _ _ e1⟩⟩ ?_ ?_⟩
    · clear nFa s1 s2 s3 s4 s14 eF e0 e1 e2 tsF
      rintro t σ H' ht ⟨Fa, kvs, z4, z5, z6, z7, z8, z9, z10, z11, rfl, sm, nFa, eF, fi⟩
      have ht2 : t < ds.length := by omega
      -- more = {}
      refine fun M nM' => ?_
      have nM : H M = none := sm.dom M nM'
      have neF : Fa ≠ M := fun z => by rw [z, nM'] at eF; cases eF
      refine ⟨Fa, _, (upd_ne neF).trans eF, trivial, fun od => ⟨_, rfl, Fa, od, rfl, .inr ⟨kvs, upd_same, ?_⟩⟩⟩
      have tsM : ∀ b xs, H' b = some (.tup xs) → upd (upd H' M (.dT [])) Fa (.frz od (.dT kvs)) b = some (.tup xs) := fun b xs e => by
        rw [upd_ne (fun z => by rw [z, eF] at e; cases e), upd_ne (fun z => by rw [z, nM'] at e; cases e)]; exact e
      refine for_it walk_keysT (fun i σ H2 => ∃ mk z4 z6 z7 z8 z9 z10 z11, σ = [some (.ref a), some (.ref b), some (.int (ds.length : Nat)), some (.ref Fa), z4, some (.ref M), z6, z7, z8, z9, z10, z11] ∧ Inn ds cs t H Fa M od kvs H2 mk (fun g p => (∃ j v, j < i ∧ kvs[j]? = some (ik g, v)) ∧ 0 ≤ p ∧ p < ds.length ∧ p ∉ g))
        ⟨[], _, _, _, _, _, _, _, rfl, ⟨(sm.put nM).put nFa, upd_same, (upd_ne neF.symm).trans upd_same, fi.le (tp_le tsM), MI.start.mono fun g p d => by obtain ⟨⟨j, v, hj, _⟩, _⟩ := d; omega⟩⟩ (fun i σ H2 _ ⟨mk, _, _, _, _, _, _, _, _, inn⟩ => inn.fz) ?_ ?_
      · rintro i x σ H2 H3 hi ⟨mk, z4, z6, z7, z8, z9, z10, z11, rfl, inn⟩ ⟨rfl, kk, v, qa, hkv, rfl, eq⟩
        obtain ⟨g, c, l, ek, gl, glen, tp, lp, lt⟩ := inn.fi.snd _ (List.mem_of_getElem? hkv)
        have ek' : kk = ik g := ek
        subst ek'
        rw [ik_kV] at eq
        have hv := valV_of_mem inn.fi.nd (List.mem_of_getElem? hkv)
        obtain ⟨av, bv, ev, h1, h2⟩ := tp
        have ev' : v = .ref av := ev
        subst ev'
        have gr := ((lotsF_iff _ _).mp gl).1
        have gasc := ((lotsF_iff _ _).mp gl).2
        have gcap := lotsF_llen gl
        -- total, row = found[gone]
        refine ⟨_, rfl, _, rfl, Fa, .ref av, rfl, .inr ⟨kvs, ik g, qa, .inr ⟨od, inn.fz⟩, rfl, by rw [ik_kV]; exact eq, hv.symm⟩, av, _, rfl, SqT.of h1, rfl, _, _, rfl, _, _, rfl, rfl, ?_⟩
        refine ⟨_, rfl, ds.length, rfl, by omega, by omega, for_range (lo := 0) (n := ((ds.length : Nat) : Int).toNat) (fun p σ H4 => ∃ mk z4 z9 z10 z11, σ = [some (.ref a), some (.ref b), some (.int (ds.length : Nat)), some (.ref Fa), z4, some (.ref M), some (.ref qa), some (.int c), some (.ref bv), z9, z10, z11] ∧ H4 qa = some (.tup (vI g)) ∧ H4 bv = some (.tup (vI l)) ∧ TP H4 (.ref av) c l ∧
            Inn ds cs t H Fa M od kvs H4 mk (fun g' p' => ((∃ j v, j < i ∧ kvs[j]? = some (ik g', v)) ∧ 0 ≤ p' ∧ p' < ds.length ∧ p' ∉ g') ∨ (g' = g ∧ 0 ≤ p' ∧ p' < (p : Int) ∧ p' ∉ g)))
          ⟨mk, _, _, _, _, rfl, eq, h2, ⟨av, bv, rfl, h1, h2⟩, ⟨inn.sm, inn.fz, inn.mo, inn.fi, inn.mi.mono fun g' p' d => by
            rcases d with d | d
            · exact d
            · omega⟩⟩ ?_ ?_⟩
        · clear inn eq h1 h2
          rintro p σ H4 hp ⟨mk, z4, z9, z10, z11, rfl, eq, eb, tp, inn⟩
          have hp2 : p < ds.length := by omega
          refine ⟨_, rfl, _, rfl, qa, _, rfl, .inr (SqT.of eq), rfl, flat_vI g, _, rfl, ite2 (fun e2 => ?_) (fun e2 => ?_)⟩
          · have png : (0 + (p : Int)) ∉ g := fun z => by
              rw [inV_int, decide_eq_true z] at e2
              exact absurd e2 (by decide)
            generalize hpp : (0 + (p : Int)) = pp at png ⊢
            have pp0 : 0 ≤ pp := by omega
            have pp1 : pp < ds.length := by omega
            -- lot = tuple(sorted([*gone, person]))
            refine ⟨_, rfl, qa, _, rfl, .inl (SqT.of eq), _, rfl, ?_, fun L nL => ?_⟩
            · rw [List.length_append, vI_len]; exact Nat.le_of_lt (small1000 (by show g.length + 1 ≤ 1000; omega))
            have sa : Sm H4 (upd H4 L (.lst (vI g ++ [.int pp]))) := Sm.new nL
            have eL : (upd H4 L (.lst (vI g ++ [.int pp]))) L = some (.lst ((g ++ [pp]).map V.int)) := by
              rw [upd_same, List.map_append]; rfl
            generalize (upd H4 L (.lst (vI g ++ [.int pp]))) = H5 at sa eL
            refine ⟨L, g ++ [pp], rfl, SqL.of eL, by rw [List.length_append, List.length_singleton]; omega, fun k S kperm kle nS => ?_⟩
            have sb : Sm H5 (upd H5 S (.lst (k.map V.int))) := Sm.new nS
            have eS : (upd H5 S (.lst (k.map V.int))) S = some (.lst (k.map V.int)) := upd_same
            generalize (upd H5 S (.lst (k.map V.int))) = H6 at sb eS
            refine ⟨S, _, rfl, .inl ⟨SqL.of eS, fun Lt nLt => ?_⟩⟩
            have sc : Sm H6 (upd H6 Lt (.tup (k.map V.int))) := Sm.new nLt
            have eLt : (upd H6 Lt (.tup (k.map V.int))) Lt = some (.tup (vI k)) := upd_same
            generalize (upd H6 Lt (.tup (k.map V.int))) = H7 at sc eLt
            have s47 := (sa.trans sb).trans sc
            have sH7 := inn.sm.trans s47
            -- the key
            have gpn : (g ++ [pp]).Nodup := by
              rw [List.nodup_append]
              exact ⟨asc_nodup gasc, by simp, fun x hx y hy z => by rw [List.mem_singleton.mp hy] at z; subst z; exact png hx⟩
            have kasc : k.Pairwise (· < ·) := by
              have kn : k.Nodup := kperm.nodup_iff.mpr gpn
              exact (kle.and kn).imp fun h => by omega
            have kl : k ∈ lotsF ds.length := (lotsF_iff _ _).mpr ⟨fun x hx => by
              rcases List.mem_append.mp (kperm.mem_iff.mp hx) with z | z
              · exact gr x z
              · rw [List.mem_singleton.mp z]; exact ⟨pp0, pp1⟩, kasc⟩
            have klen : k.length = t + 1 := by rw [kperm.length_eq, List.length_append, List.length_singleton, glen]
            -- part = ..
            refine ⟨_, rfl, _, rfl, _, rfl, _, rfl, _, rfl, a, b, qa, ds, cs, g, pp, rfl, sH7.tup ha, sH7.tup hb, s47.tup eq, D, C, pp0, pp1, fun H8 sd => ?_⟩
            have eb8 := (s47.trans sd).tup eb
            have llen : l.length ≤ 6 := by rw [lp.length_eq]; omega
            refine ⟨_, _, rfl, rfl, _, rfl, bv, _, rfl, .inl (SqT.of eb8), _, rfl, ?_, fun T1 nT1 => ⟨by show 2 ≤ sizeLine; decide, fun T2 nT2 => ?_⟩⟩
            · rw [List.length_append, vI_len]; exact Nat.le_of_lt (small1000 (by show l.length + 1 ≤ 1000; omega))
            have se : Sm H8 (upd H8 T1 (.tup (vI l ++ [.int pp]))) := Sm.new nT1
            have eT1 : (upd H8 T1 (.tup (vI l ++ [.int pp]))) T1 = some (.tup (vI (l ++ [pp]))) := by
              rw [upd_same]; unfold vI; rw [List.map_append]; rfl
            generalize (upd H8 T1 (.tup (vI l ++ [.int pp]))) = H9 at se eT1 nT2
            have sf : Sm H9 (upd H9 T2 (.tup [.int (c + price ds cs g pp), .ref T1])) := Sm.new nT2
            have eT2 : (upd H9 T2 (.tup [.int (c + price ds cs g pp), .ref T1])) T2 = some (.tup [.int (c + price ds cs g pp), .ref T1]) := upd_same
            generalize (upd H9 T2 (.tup [.int (c + price ds cs g pp), .ref T1])) = H10 at sf eT2
            have s710 := (sd.trans se).trans sf
            have s410 := s47.trans s710
            have i10 := inn.sm2 s410
            have tpn : TP H10 (.ref T2) (c + price ds cs g pp) (l ++ [pp]) := ⟨T2, T1, rfl, eT2, sf.tup eT1⟩
            have eK : H10 Lt = some (.tup ((ik k).map kV)) := by rw [ik_kV]; exact s710.tup eLt
            have lpk : (l ++ [pp]).Perm k := (lp.append_right _).trans kperm.symm
            have tk : tot ds cs (l ++ [pp]) = c + price ds cs g pp := by
              rw [tot_snoc, lt, price_congr (g := l) (g' := g) (fun x => lp.mem_iff)]
            have bnd : ∀ vg cg lg, valV kvs (ik g) = some vg → TP H10 vg cg lg → c + price ds cs g pp ≤ cg + price ds cs g pp := fun vg cg lg hv' tp' => by
              rw [hv] at hv'
              cases hv'
              rw [tp_fun _ _ _ _ _ (tp_sm s410 _ _ _ tp) tp']
              exact Int.le_refl _
            have hD : ∀ (g' : List Int) (p' : Int), (((∃ j v, j < i ∧ kvs[j]? = some (ik g', v)) ∧ 0 ≤ p' ∧ p' < ds.length ∧ p' ∉ g') ∨ (g' = g ∧ 0 ≤ p' ∧ p' < ((p + 1 : Nat) : Int) ∧ p' ∉ g)) → (((∃ j v, j < i ∧ kvs[j]? = some (ik g', v)) ∧ 0 ≤ p' ∧ p' < ds.length ∧ p' ∉ g') ∨ (g' = g ∧ 0 ≤ p' ∧ p' < (p : Int) ∧ p' ∉ g)) ∨ (g' = g ∧ p' = pp) := fun g' p' d => by
              rcases d with d | ⟨d1, d2, d3, d4⟩
              · exact .inl (.inl d)
              · by_cases z : p' = pp
                · exact .inr ⟨d1, z⟩
                · exact .inl (.inr ⟨d1, d2, by omega, d4⟩)
            have put : (∀ v' c' l', valV mk (ik k) = some v' → TP H10 v' c' l' → c + price ds cs g pp ≤ c') → Inn ds cs t H Fa M od kvs (upd H10 M (.dT (putK mk (ik k) (.ref T2)))) (putK mk (ik k) (.ref T2)) (fun g' p' => ((∃ j v, j < i ∧ kvs[j]? = some (ik g', v)) ∧ 0 ≤ p' ∧ p' < ds.length ∧ p' ∉ g') ∨ (g' = g ∧ 0 ≤ p' ∧ p' < ((p + 1 : Nat) : Int) ∧ p' ∉ g)) := fun old =>
              i10.put nM neF (i10.mi.put tp_fun kl klen kperm tpn lpk tk bnd old hD)
            have ts : ∀ (mk' : List (List Key × V)) b xs, H10 b = some (.tup xs) → upd H10 M (.dT mk') b = some (.tup xs) := fun mk' b xs e => by
              rw [upd_ne (fun z => by rw [z, i10.mo] at e; cases e)]; exact e
            have cap : mk.length < sizeLine := by
              have h1 := i10.mi.snd.cap i10.mi.nd
              have h2 := lotsF_small hm6
              exact small1000 (by omega)
            refine ⟨_, rfl, _, rfl, M, _, rfl, DGet.t i10.mo eK, _, rfl, ite2 (fun e3 => ?_) (fun e3 => ?_)⟩
            · have en : valV mk (ik k) = none := by
                cases z : valV mk (ik k) with
                | none => rfl
                | some u => rw [z] at e3; exact absurd e3 (by simp)
              exact ⟨_, rfl, _, rfl, _, rfl, M, _, rfl, DPut.t i10.mo eK cap, _, _, _, _, _, rfl, ts _ _ _ (s410.tup eq), ts _ _ _ (s410.tup eb), tp_le (ts _) _ _ _ (tp_sm s410 _ _ _ tp), put fun v' c' l' hv' _ => by rw [en] at hv'; cases hv'⟩
            · obtain ⟨v', ev'⟩ : ∃ v', valV mk (ik k) = some v' := by
                cases z : valV mk (ik k) with
                | none => rw [z] at e3; exact absurd rfl e3
                | some u => exact ⟨u, rfl⟩
              obtain ⟨k2, c', l', _, _, _, tp', _⟩ := i10.mi.snd _ (valV_mem ev')
              refine ⟨_, rfl, _, rfl, _, rfl, M, v', rfl, (by rw [← ev']; exact DGet.t i10.mo eK), _, c', _, l', tpn, tp', fun kb k1 k2 => ⟨_, rfl, ite2 (fun e4 => ?_) (fun e4 => ?_)⟩⟩
              · exact ⟨_, rfl, _, rfl, _, rfl, M, _, rfl, DPut.t i10.mo eK cap, _, _, _, _, _, rfl, ts _ _ _ (s410.tup eq), ts _ _ _ (s410.tup eb), tp_le (ts _) _ _ _ (tp_sm s410 _ _ _ tp), put fun v2 c2 l2 hv2 tp2 => by
                  rw [ev'] at hv2
                  cases hv2
                  have := tp_fun _ _ _ _ _ tp' tp2
                  have := k1 e4
                  omega⟩
              · exact ⟨_, _, _, _, _, rfl, s410.tup eq, s410.tup eb, tp_sm s410 _ _ _ tp, i10.sm, i10.fz, i10.mo, i10.fi, i10.mi.keep kl kperm ev' tp' (k2 (by simpa using e4)) bnd hD⟩
          · have pg : (0 + (p : Int)) ∈ g := by
              by_cases z : (0 + (p : Int)) ∈ g
              · exact z
              · exact absurd (by rw [inV_int, decide_eq_false z]; rfl) e2
            refine ⟨mk, _, _, _, _, rfl, eq, eb, tp, inn.sm, inn.fz, inn.mo, inn.fi, inn.mi.mono fun g' p' d => ?_⟩
            rcases d with d | ⟨d1, d2, d3, d4⟩
            · exact .inl d
            · refine .inr ⟨d1, d2, ?_, d4⟩
              by_cases z : p' = 0 + (p : Int)
              · rw [z] at d4; exact absurd pg d4
              · omega
        · rintro σ H4 ⟨mk, z4, z9, z10, z11, rfl, eq, eb, tp, inn⟩
          refine ⟨mk, _, _, _, _, _, _, _, rfl, inn.sm, inn.fz, inn.mo, inn.fi, inn.mi.mono fun g' p' d => ?_⟩
          obtain ⟨⟨j, v, hj, ej⟩, d2, d3, d4⟩ := d
          by_cases z : j < i
          · exact .inl ⟨⟨j, v, z, ej⟩, d2, d3, d4⟩
          · have : j = i := by omega
            subst this
            rw [hkv] at ej
            have e5 := congrArg Prod.fst (Option.some.inj ej)
            have e6 := ik_inj (show ik g = ik g' from e5)
            subst e6
            exact .inr ⟨rfl, d2, by omega, d4⟩
      · rintro σ H2 ⟨mk, z4, z6, z7, z8, z9, z10, z11, rfl, inn⟩
        refine ⟨inn.fz, ?_⟩
        -- found = more
        have ts : ∀ b xs, H2 b = some (.tup xs) → upd H2 Fa (.dT kvs) b = some (.tup xs) := fun b xs e => by
          rw [upd_ne (fun z => by rw [z, inn.fz] at e; cases e)]; exact e
        refine ⟨_, rfl, M, mk, _, _, _, _, _, _, _, _, rfl, inn.sm.put nFa, nM, (upd_ne neF.symm).trans inn.mo, FI.le (tp_le ts) (inn.fi.next inn.mi tp_fun fun g p gl glen p0 p1 pg => ?_)⟩
        obtain ⟨vg, cg, lg, hv, _, _⟩ := inn.fi.bst g gl glen
        obtain ⟨j, hj⟩ := List.mem_iff_getElem?.mp (valV_mem hv)
        exact ⟨⟨j, vg, (List.getElem?_eq_some_iff.mp hj).1, hj⟩, p0, p1, pg⟩
    · clear nFa s1 s2 s3 s4 s14 eF e0 e1 e2 tsF
      rintro σ H' ⟨Fa, kvs, z4, z5, z6, z7, z8, z9, z10, z11, rfl, sm, nFa, eF, fi⟩
      have fi' : FI (TP H') ds cs ds.length kvs := fi
      obtain ⟨v, c, l, h1, h2, h3, h4, h5⟩ := fi'.last tp_fun
      refine ⟨_, rfl, _, rfl, _, rfl, RgOk.of_le (by decide) (by omega) (by decide) (by omega), fun r nr => ?_⟩
      have s2 : Sm H' (upd H' r (.tup (rgV 0 (ds.length : Nat)))) := Sm.new nr
      have er : (upd H' r (.tup (rgV 0 (ds.length : Nat)))) r = some (.tup ((ik (upTo ds.length)).map kV)) := by
        rw [upd_same, ik_kV]
        unfold rgV vI upTo
        rw [List.map_map]
        congr 2
        rw [show ((ds.length : Nat) : Int) - 0 = (ds.length : Nat) by omega, Int.toNat_natCast]
        exact List.map_congr_left fun i _ => by show V.int (0 + (i : Int)) = V.int (Int.ofNat i); rw [Int.zero_add]; rfl
      exact ⟨Fa, v, rfl, by rw [← h1]; exact DGet.t (s2.dT eF) er, q _ v c l (sm.trans s2) (tp_sm s2 _ _ _ h2) h3 h4 h5⟩
end
end G6
set_option Elab.async false
set_option linter.all false
set_option maxRecDepth 100000
set_option maxHeartbeats 4000000
namespace G6
open PySem PySem.Spec PyProof.Rows L2 NX GxR
def Best (ds cs : List Int) (m : Int) : Prop := (∃ l : List Int, l.Perm (upTo ds.length) ∧ tot ds cs l = m) ∧ ∀ l' : List Int, l'.Perm (upTo ds.length) → m ≤ tot ds cs l'
theorem Best.uniq {ds cs : List Int} {m m' : Int} (h : Best ds cs m) (h' : Best ds cs m') : m = m' := by
  obtain ⟨⟨l, p, rfl⟩, a⟩ := h
  obtain ⟨⟨l', p', rfl⟩, b⟩ := h'
  have := a l' p'
  have := b l p
  omega
theorem ord_perm {n : Nat} {l : List Int} : (OrdP n l ∧ l.length = n) ↔ l.Perm (upTo n) := by
  constructor
  · rintro ⟨⟨h1, h2⟩, h3⟩
    refine (List.perm_ext_iff_of_nodup h2 (asc_nodup (upTo_asc n))).mpr fun x => ⟨fun hx => upTo_mem.mpr (h1 x hx), fun hx => ?_⟩
    by_cases z : x ∈ l
    · exact z
    · have := nodup_cap (n := n) (l := x :: l) (List.nodup_cons.mpr ⟨z, h2⟩) fun y hy => by
        rcases List.mem_cons.mp hy with rfl | hy
        · exact upTo_mem.mp hx
        · exact h1 y hy
      rw [List.length_cons] at this
      omega
  · intro h
    exact ⟨⟨fun x hx => upTo_mem.mp (h.mem_iff.mp hx), h.nodup_iff.mpr (asc_nodup (upTo_asc n))⟩, by rw [h.length_eq, upTo_len]⟩
theorem asc_chain : ∀ {l : List Int}, (∀ (i : Nat) (x y : Int), l[i]? = some x → l[i + 1]? = some y → x < y) → l.Pairwise (· < ·)
  | [], _ => .nil
  | [x], _ => by simp
  | x :: y :: l, h => by
    have ih := asc_chain (l := y :: l) fun i a b e1 e2 => h (i + 1) a b (by simpa using e1) (by simpa using e2)
    refine List.pairwise_cons.mpr ⟨fun z hz => ?_, ih⟩
    have hxy := h 0 x y rfl rfl
    rcases List.mem_cons.mp hz with rfl | hz
    · exact hxy
    · have := (List.pairwise_cons.mp ih).1 z hz
      omega
theorem asc_at {l : List Int} (h : l.Pairwise (· < ·)) (i : Nat) (x y : Int) (e1 : l[i]? = some x) (e2 : l[i + 1]? = some y) : x < y := by
  obtain ⟨a, rfl⟩ := List.getElem?_eq_some_iff.mp e1
  obtain ⟨b, rfl⟩ := List.getElem?_eq_some_iff.mp e2
  exact List.pairwise_iff_getElem.mp h i (i + 1) a b (by omega)
theorem lot_iff {n : Nat} {l : List Int} : LotP n l ↔ l ∈ lotsF n := by
  rw [lotsF_iff]
  exact ⟨fun h => ⟨h.1, asc_chain h.2⟩, fun h => ⟨h.1, asc_at h.2⟩⟩
def net (ds : List Int) (tb : List (List Int)) (cs l : List Int) : Int := worthOf tb (holds ds l) - costOf cs l
def Top (ds : List Int) (tb : List (List Int)) (cs : List Int) (m : Int) : Prop := (∃ l ∈ lotsF ds.length, net ds tb cs l = m) ∧ ∀ l' ∈ lotsF ds.length, net ds tb cs l' ≤ m
theorem Top.uniq {ds : List Int} {tb : List (List Int)} {cs : List Int} {m m' : Int} (h : Top ds tb cs m) (h' : Top ds tb cs m') : m = m' := by
  obtain ⟨⟨l, p, rfl⟩, a⟩ := h
  obtain ⟨⟨l', p', rfl⟩, b⟩ := h'
  have := a l' p'
  have := b l p
  omega
/-- the kinds of values that are asked about: a pair, its second a tuple of ints or a list; a list; None, a number -/
inductive VK2 (H : Hp) : V → Option (Int × List Int) → Prop
  | pair {v : V} {c : Int} {l : List Int} : TP H v c l → l.length ≤ 100 → VK2 H v (some (c, l))
  | plst {a r : Addr} {c : Int} {xs : List V} : H a = some (.tup [.int c, .ref r]) → H r = some (.lst xs) → VK2 H (.ref a) none
  | lst {a : Addr} {xs : List V} : H a = some (.lst xs) → VK2 H (.ref a) none
  | non : VK2 H .non none
  | int (i : Int) : VK2 H (.int i) none
theorem VK2.sm {H H' : Hp} (s : Sm H H') {v : V} {o : Option (Int × List Int)} (h : VK2 H v o) : VK2 H' v o := by
  cases h with
  | pair h l => exact .pair (tp_sm s _ _ _ h) l
  | plst h1 h2 => exact .plst (s.tup h1) (s.lst h2)
  | lst h => exact .lst (s.lst h)
  | non => exact .non
  | int i => exact .int i
section
variable {P : Program} {w : World} {K : PySem.W.Frag} {mg : Str → Option Value} {base : Heap}
def sp_cheap_order (T : Txt K mg base) : Sp := fun vs H Q _ => ∃ (a b : Addr) (ds cs : List Int), vs = [.ref a, .ref b] ∧ H a = some (.tup (vI ds)) ∧ H b = some (.tup (vI cs)) ∧ Dep ds ∧ Cst ds.length cs ∧ Tb T H ∧
  ∀ H' v c l, Sm H H' → TP H' v c l → l.Perm (upTo ds.length) → tot ds cs l = c → Best ds cs c → Q v H'
theorem ok_cheap_order (T : Txt K mg base) : FnOk P w K mg base CX0 6 T.f_cheap_order T.d_cheap_order ["deputies", "costs"] (sp_cheap_order T) := by
  have G1 : FnOk P w K mg base CX0 5 T.f_need_costs T.d_need_costs ["deputies", "costs"] (sp_need_costs T) := ok_need_costs T
  have G2 : FnOk P w K mg base CX0 5 T.f_cheapest_row T.d_cheapest_row ["deputies", "costs"] sp_cheapest_row := ok_cheapest_row T
  refine T.F_cheap_order.ok c_cheap_order (fun vs H Q E h => ?_) (fun cdv A outer s H vs Q E hr h => ?_)
  · obtain ⟨a, b, c, n, rfl, _⟩ := h
    rfl
  · obtain ⟨a, b, ds, cs, rfl, ha, hb, D, C, tb, q⟩ := h
    refine ⟨_, pss_cons (ps_expr (pe_call G1 hr (by rfl) T.g_need_costs T.F_need_costs.kp T.b_need_costs .nil pass0 (pa_cons (pv 0) (pa_cons (pv 1) pa_nil))))
      (pss_one (ps_ret (pe_call G2 hr (by rfl) T.g_cheapest_row T.F_cheapest_row.kp T.b_cheapest_row .nil pass0 (pa_cons (pv 0) (pa_cons (pv 1) pa_nil))))), ?_⟩
    refine ⟨_, rfl, _, rfl, a, b, ds, cs, rfl, ha, hb, D, C, tb, fun H1 s1 => ?_⟩
    exact ⟨_, rfl, _, rfl, a, b, ds, cs, rfl, s1.tup ha, s1.tup hb, D, C, fun H2 v c l s2 tp lp lt mn => q H2 v c l (s1.trans s2) tp lp lt ⟨⟨l, lp, lt⟩, mn⟩⟩
def sp_shows_cheap_order (T : Txt K mg base) : Sp := fun vs H Q _ => ∃ (a b : Addr) (ds cs : List Int) (v : V) (o : Option (Int × List Int)) (m : Int), vs = [.ref a, .ref b, v] ∧ H a = some (.tup (vI ds)) ∧ H b = some (.tup (vI cs)) ∧ Dep ds ∧ Cst ds.length cs ∧ Tb T H ∧ VK2 H v o ∧ Best ds cs m ∧
  ∀ (r : Bool) H', Sm H H' → (r = true ↔ ∃ c l, o = some (c, l) ∧ c = m ∧ l.Perm (upTo ds.length) ∧ tot ds cs l = m) → Q (.bl r) H'
theorem ok_shows_cheap_order (T : Txt K mg base) : FnOk P w K mg base CX0 7 T.f_shows_cheap_order T.d_shows_cheap_order ["deputies", "costs", "value"] (sp_shows_cheap_order T) := by
  have G0 : FnOk P w K mg base CX0 1 T.f_is_in T.d_is_in ["value", "least", "most"] sp_is_in := ok_is_in T
  have G1 : FnOk P w K mg base CX0 5 T.f_need_costs T.d_need_costs ["deputies", "costs"] (sp_need_costs T) := ok_need_costs T
  have G2 : FnOk P w K mg base CX0 5 T.f_cheapest_row T.d_cheapest_row ["deputies", "costs"] sp_cheapest_row := ok_cheapest_row T
  have G3 : FnOk P w K mg base CX0 3 T.f_is_order T.d_is_order ["size", "value"] (sp_is_order T) := ok_is_order T
  have G4 : FnOk P w K mg base CX0 6 T.f_total_of T.d_total_of ["deputies", "costs", "order"] (sp_total_of T) := ok_total_of T
  refine T.F_shows_cheap_order.ok c_shows_cheap_order (fun vs H Q E h => ?_) (fun cdv A outer s H vs Q E hr h => ?_)
  · obtain ⟨a, b, c, n, _, _, _, rfl, _⟩ := h
    rfl
  · obtain ⟨a, b, ds, cs, v, o, m, rfl, ha, hb, D, C, tb, vk, bm, q⟩ := h
    have nd := c_shows_cheap_order.nd
    refine ⟨_, pss_cons (ps_expr (pe_call G1 (hr.mono (by decide)) (by rfl) T.g_need_costs T.F_need_costs.kp T.b_need_costs .nil pass0 (pa_cons (pv 0) (pa_cons (pv 1) pa_nil))))
      (pss_cons (ps_par (i := 3) (j := 4) (by rfl) nd rfl rfl (by decide) rfl rfl (pa_cons (pe_ix (ixT (K := K) rfl) (pe_call G2 (hr.mono (by decide)) (by rfl) T.g_cheapest_row T.F_cheapest_row.kp T.b_cheapest_row .nil pass0 (pa_cons (pv 0) (pa_cons (pv 1) pa_nil))) pe_int (fun _ _ => rfl)) (pa_cons (pe_callB (crLen (K := K) rfl) (by rfl) T.z_len bt_len (pa_cons (pv 0) pa_nil)) pa_nil)) (by rfl))
      (pss_cons (ps_if (PW.pt (pw_or (pt_not (pt_val (pe_isi "tuple" (by rfl) T.z_isinstance (by rfl) T.z_tuple bt_tuple (pv 2)))) (pw_or (pt_cmpR op_ne (pe_callB (crLen (K := K) rfl) (by rfl) T.z_len bt_len (pa_cons (pv 2) pa_nil)) pe_int (nomark _))
          (pw_or1 (pt_not (pt_val (pe_call G0 (hr.mono (by decide)) (by rfl) T.g_is_in T.F_is_in.kp T.b_is_in .nil pass0 (pa_cons (pe_ix (ixT (K := K) rfl) (pv 2) pe_int (fun _ _ => rfl)) (pa_cons (pv 3) (pa_cons (pv 3) pa_nil))))))))))
        (pss_one (ps_ret pe_bl)) pss_nil)
      (pss_cons (ps_if (PW.pt (pw_or (pt_not (pt_val (pe_call G3 (hr.mono (by decide)) (by rfl) T.g_is_order T.F_is_order.kp T.b_is_order .nil pass0 (pa_cons (pv 4) (pa_cons (pe_ix (ixT (K := K) rfl) (pv 2) pe_int (fun _ _ => rfl)) pa_nil))))) (pw_or1 (pt_cmpR op_ne (pe_callB (crLen (K := K) rfl) (by rfl) T.z_len bt_len (pa_cons (pe_ix (ixT (K := K) rfl) (pv 2) pe_int (fun _ _ => rfl)) pa_nil)) (pv 4) (nomark _)))))
        (pss_one (ps_ret pe_bl)) pss_nil)
      (pss_one (ps_ret (pe_cmpR op_eq (pe_call G4 hr (by rfl) T.g_total_of T.F_total_of.kp T.b_total_of .nil pass0 (pa_cons (pv 0) (pa_cons (pv 1) (pa_cons (pe_ix (ixT (K := K) rfl) (pv 2) pe_int (fun _ _ => rfl)) pa_nil)))) (pv 3) (nomark _))))))), ?_⟩
    refine ⟨_, rfl, _, rfl, a, b, ds, cs, rfl, ha, hb, D, C, tb, fun H1 s1 => ?_⟩
    refine ⟨_, rfl, _, rfl, a, b, ds, cs, rfl, s1.tup ha, s1.tup hb, D, C, fun H2 x c0 l0 s2 tp lp lt mn => ?_⟩
    have s12 := s1.trans s2
    obtain ⟨pa, pb, rfl, h1, h2⟩ := tp
    have e0 : c0 = m := Best.uniq ⟨⟨l0, lp, lt⟩, mn⟩ bm
    subst e0
    refine ⟨pa, _, _, _, rfl, rfl, SqT.of h1, atI_nat (j := 0) rfl, _, rfl, a, _, rfl, .inr (SqT.of (s12.tup ha)), _, _, rfl, ?_⟩
    rw [vI_len]
    have vk2 := vk.sm s12
    have fin : ∀ H3, Sm H2 H3 → o = none → Q (.bl false) H3 := fun H3 s3 e => q false H3 (s12.trans s3) ⟨fun z => absurd z (by decide), fun ⟨c, l, z, _⟩ => by rw [e] at z; cases z⟩
    cases vk2 with
    | non => exact ⟨_, rfl, _, isT_nt, _, rfl, iteT (fin H2 (Sm.refl _) rfl)⟩
    | int i => exact ⟨_, rfl, _, isT_it, _, rfl, iteT (fin H2 (Sm.refl _) rfl)⟩
    | lst h => exact ⟨_, rfl, _, isT_lt h, _, rfl, iteT (fin H2 (Sm.refl _) rfl)⟩
    | @plst va r c xs g1 g2 =>
      refine ⟨_, rfl, _, isT_tt g1, _, rfl, iteF ⟨_, rfl, va, _, rfl, .inr (SqT.of g1), rfl, _, rfl, ifN (by rw [dec_int]; rfl) ?_⟩⟩
      refine ⟨_, rfl, va, _, _, _, rfl, rfl, SqT.of g1, atI_nat (j := 0) rfl, _, rfl, _, rfl, _, _, _, rfl, _, rfl, ite2 (fun _ => fin H2 (Sm.refl _) rfl) (fun _ => ?_)⟩
      refine ⟨_, rfl, _, rfl, va, _, _, _, rfl, rfl, SqT.of g1, atI_nat (j := 1) rfl, ds.length, r, rfl, s12.tb tb, .inr ⟨xs, g2, fun H3 s3 => ⟨_, rfl, iteT (fin H3 s3 rfl)⟩⟩⟩
    | @pair _ c l tpv hl100 =>
      obtain ⟨va, r, rfl, g1, g2⟩ := tpv
      have no : ∀ H3, Sm H2 H3 → ¬ (c = c0 ∧ l.Perm (upTo ds.length) ∧ tot ds cs l = c0) → Q (.bl false) H3 := fun H3 s3 e => q false H3 (s12.trans s3) ⟨fun z => absurd z (by decide), fun ⟨c', l', z, z2⟩ => by cases z; exact absurd z2 e⟩
      refine ⟨_, rfl, _, isT_tt g1, _, rfl, iteF ⟨_, rfl, va, _, rfl, .inr (SqT.of g1), rfl, _, rfl, ifN (by rw [dec_int]; rfl) ?_⟩⟩
      refine ⟨_, rfl, va, _, _, _, rfl, rfl, SqT.of g1, atI_nat (j := 0) rfl, _, rfl, _, rfl, _, _, _, rfl, _, rfl, ite2 (fun e => no H2 (Sm.refl _) fun z => ?_) (fun e => ?_)⟩
      · rw [decide_eq_true (by have := z.1; omega)] at e
        exact absurd e (by decide)
      · have ec : c = c0 := by
          by_cases z : c0 ≤ c ∧ c ≤ c0
          · omega
          · rw [decide_eq_false z] at e; exact absurd rfl e
        refine ⟨_, rfl, _, rfl, va, _, _, _, rfl, rfl, SqT.of g1, atI_nat (j := 1) rfl, ds.length, r, rfl, s12.tb tb, .inl ⟨l, g2, hl100, fun bb H3 s3 hb3 => ⟨_, rfl, ?_⟩⟩⟩
        refine ite2 (fun e3 => no H3 s3 fun z => ?_) (fun e3 => ?_)
        · rw [hb3.mpr (ord_perm.mpr z.2.1).1] at e3
          exact absurd e3 (by decide)
        · have eb : bb = true := by cases bb with | true => rfl | false => exact absurd rfl e3
          have O := hb3.mp eb
          refine ⟨_, rfl, va, _, _, _, rfl, rfl, SqT.of (s3.tup g1), atI_nat (j := 1) rfl, r, _, rfl, .inr (SqT.of (s3.tup g2)), _, rfl, rfl, _, rfl, ite2 (fun e4 => no H3 s3 fun z => ?_) (fun e4 => ?_)⟩
          · rw [dec_int, vI_len, (ord_perm.mpr z.2.1).2] at e4
            simp at e4
          · have el : l.length = ds.length := by
              rw [dec_int, vI_len] at e4
              have : (l.length : Int) = ds.length := by simpa using e4
              omega
            have pm := ord_perm.mp ⟨O, el⟩
            have s123 := s12.trans s3
            refine ⟨_, rfl, _, rfl, _, rfl, va, _, _, _, rfl, rfl, SqT.of (s3.tup g1), atI_nat (j := 1) rfl, a, b, r, ds, cs, l, rfl, s123.tup ha, s123.tup hb, s3.tup g2, D, C, O.1, by have := D.most; omega, s123.tb tb, fun H4 s4 => ⟨_, rfl, rfl, q _ H4 (s123.trans s4) ?_⟩⟩
            rw [dec_int, beq_iff_eq]
            exact ⟨fun z => ⟨c, l, rfl, ec, pm, z⟩, fun ⟨c', l', z, _, _, z2⟩ => by cases z; exact z2⟩
def sp_need_net (T : Txt K mg base) : Sp := fun vs H Q _ => ∃ (a b c : Addr) (ds cs : List Int) (tb : List (List Int)), vs = [.ref a, .ref b, .ref c] ∧ H a = some (.tup (vI ds)) ∧ TbH H b tb ∧ H c = some (.tup (vI cs)) ∧ Dep ds ∧ Tab ds.length tb ∧ Cst ds.length cs ∧ Tb T H ∧ ∀ H', Sm H H' → Q .non H'
theorem ok_need_net (T : Txt K mg base) : FnOk P w K mg base CX0 6 T.f_need_net T.d_need_net ["deputies", "table", "costs"] (sp_need_net T) := by
  have G1 : FnOk P w K mg base CX0 5 T.f_need_valued T.d_need_valued ["deputies", "table"] (sp_need_valued T) := ok_need_valued T
  have G2 : FnOk P w K mg base CX0 5 T.f_need_costs T.d_need_costs ["deputies", "costs"] (sp_need_costs T) := ok_need_costs T
  refine T.F_need_net.ok c_need_net (fun vs H Q E h => ?_) (fun cdv A outer s H vs Q E hr h => ?_)
  · obtain ⟨a, b, c, n, _, _, rfl, _⟩ := h
    rfl
  · obtain ⟨a, b, c, ds, cs, tb, rfl, ha, hb, hc, D, Tt, C, tbs, q⟩ := h
    refine ⟨_, pss_cons (ps_expr (pe_call G1 hr (by rfl) T.g_need_valued T.F_need_valued.kp T.b_need_valued .nil pass0 (pa_cons (pv 0) (pa_cons (pv 1) pa_nil))))
      (pss_one (ps_expr (pe_call G2 hr (by rfl) T.g_need_costs T.F_need_costs.kp T.b_need_costs .nil pass0 (pa_cons (pv 0) (pa_cons (pv 2) pa_nil))))), ?_⟩
    exact ⟨_, rfl, _, rfl, a, b, ds, tb, rfl, ha, hb, D, Tt, tbs, fun H1 s1 => ⟨_, rfl, _, rfl, a, c, ds, cs, rfl, s1.tup ha, s1.tup hc, D, C, s1.tb tbs, fun H2 s2 => q H2 (s1.trans s2)⟩⟩
def sp_net_of (T : Txt K mg base) : Sp := fun vs H Q _ => ∃ (a b c d : Addr) (ds cs l : List Int) (tb : List (List Int)), vs = [.ref a, .ref b, .ref c, .ref d] ∧ H a = some (.tup (vI ds)) ∧ TbH H b tb ∧ H c = some (.tup (vI cs)) ∧ H d = some (.tup (vI l)) ∧ Dep ds ∧ Tab ds.length tb ∧ Cst ds.length cs ∧ l ∈ lotsF ds.length ∧ Tb T H ∧ ∀ H', Sm H H' → Q (.int (net ds tb cs l)) H'
theorem ok_net_of (T : Txt K mg base) : FnOk P w K mg base CX0 5 T.f_net_of T.d_net_of ["deputies", "table", "costs", "lot"] (sp_net_of T) := by
  have G1 : FnOk P w K mg base CX0 4 T.f_worth_of T.d_worth_of ["deputies", "table", "gone"] (sp_worth_of T) := ok_worth_of T
  have G2 : FnOk P w K mg base CX0 2 T.f_cost_of T.d_cost_of ["costs", "lot"] (sp_cost_of T) := ok_cost_of T
  refine T.F_net_of.ok c_net_of (fun vs H Q E h => ?_) (fun cdv A outer s H vs Q E hr h => ?_)
  · obtain ⟨a, b, c, d, n, _, _, _, rfl, _⟩ := h
    rfl
  · obtain ⟨a, b, c, d, ds, cs, l, tb, rfl, ha, hb, hc, hd, D, Tt, C, hl, tbs, q⟩ := h
    refine ⟨_, pss_one (ps_ret (pe_op op_sub (pe_call G1 hr (by rfl) T.g_worth_of T.F_worth_of.kp T.b_worth_of .nil pass0 (pa_cons (pv 0) (pa_cons (pv 1) (pa_cons (pv 3) pa_nil)))) (pe_call G2 (hr.mono (by decide)) (by rfl) T.g_cost_of T.F_cost_of.kp T.b_cost_of .nil pass0 (pa_cons (pv 2) (pa_cons (pv 3) pa_nil))))), ?_⟩
    have hm := D.most
    have := lotsF_llen hl
    exact ⟨_, rfl, _, rfl, _, rfl, a, b, d, ds, l, tb, rfl, ha, hb, hd, D, Tt, tbs, fun H1 s1 => ⟨_, rfl, _, rfl, c, d, ds.length, cs, l, rfl, s1.tup hc, s1.tup hd, C, ((lotsF_iff _ _).mp hl).1, by omega, s1.tb tbs, fun H2 s2 => ⟨_, _, rfl, rfl, q H2 (s1.trans s2)⟩⟩⟩
def sp_best_of (T : Txt K mg base) : Sp := fun vs H Q _ => ∃ (a b c : Addr) (ds cs : List Int) (tb : List (List Int)), vs = [.ref a, .ref b, .ref c] ∧ H a = some (.tup (vI ds)) ∧ TbH H b tb ∧ H c = some (.tup (vI cs)) ∧ Dep ds ∧ Tab ds.length tb ∧ Cst ds.length cs ∧ Tb T H ∧
  ∀ H' v m l, Sm H H' → TP H' v m l → l ∈ lotsF ds.length → net ds tb cs l = m → Top ds tb cs m → Q v H'
theorem ok_best_of (T : Txt K mg base) : FnOk P w K mg base CX0 6 T.f_best_of T.d_best_of ["deputies", "table", "costs"] (sp_best_of T) := by
  have G1 : FnOk P w K mg base CX0 1 T.f_all_lots T.d_all_lots ["size"] sp_all_lots := ok_all_lots T
  have G2 : FnOk P w K mg base CX0 5 T.f_net_of T.d_net_of ["deputies", "table", "costs", "lot"] (sp_net_of T) := ok_net_of T
  refine T.F_best_of.ok c_best_of (fun vs H Q E h => ?_) (fun cdv A outer s H vs Q E hr h => ?_)
  · obtain ⟨a, b, c, n, _, _, rfl, _⟩ := h
    rfl
  · obtain ⟨a, b, c, ds, cs, tb, rfl, ha, hb, hc, D, Tt, C, tbs, q⟩ := h
    refine ⟨_, pss_one (ps_ret (pe_callB (cr_maxP hr.units (by rfl)) (by rfl) T.z_max bt_max (pa_cons (pe_lc (own := [("lot", 3)]) (g := gName 3) (tt := tYes) (by rfl) c_best_of.nd (pi_list (pe_call G1 (hr.mono (by decide)) (by rfl) T.g_all_lots T.F_all_lots.kp T.b_all_lots .nil pass0 (pa_cons (pe_callB (crLen (K := K) rfl) (by rfl) T.z_len bt_len (pa_cons (pv 0) pa_nil)) pa_nil)))
          (blkOk_by (own := [("lot", 3)]) (N := ["deputies", "table", "costs", "lot"]) (sc := defScope s_best_of) (by decide +kernel)) (fun _ _ _ _ _ => pg_name (i := 3) c_best_of.nd rfl (Or.inl rfl)) (fun _ _ _ _ _ => pts_nil)
          (fun _ _ _ _ _ => pe_tup (pa_cons (pe_call G2 hr (by rfl) T.g_net_of T.F_net_of.kp T.b_net_of .nil pass0 (pa_cons (pv 0) (pa_cons (pv 1) (pa_cons (pv 2) (pa_cons (pv 3) pa_nil))))) (pa_cons (pv 3) pa_nil)))) pa_nil))), ?_⟩
    refine ⟨_, rfl, a, _, rfl, .inr (SqT.of ha), ds.length, (by rw [vI_len]; rfl), D.most, fun H1 o ys ls s1 no eo its pm => ⟨o, rfl, ⟨_, SqL.of eo⟩, fun D2 nD2 => ?_⟩⟩
    have hlen := paired_len its
    have hl64 : ls.length ≤ 64 := by rw [pm.length_eq]; exact lotsF_small D.most
    refine lc_list (xs := ys) (fun j H2 => Sm H1 H2 ∧ ∃ es, H2 D2 = some (.lst es) ∧ Paired (fun v l => TP H2 v (net ds tb cs l) l) es (ls.take j)) ⟨Sm.new nD2, [], upd_same, .nil⟩ (fun j H2 _ ⟨s2, _⟩ => SqL.of (s2.lst eo)) (fun j x H2 hx ⟨s2, es, eD, hes⟩ => ?_) (fun H2 ⟨s2, es, eD, hes⟩ => ?_)
    · obtain ⟨l, hl, tx, rfl, htx⟩ := paired_at its hx
      have hlot := pm.mem_iff.mp (List.mem_of_getElem? hl)
      have s12 := s1.trans s2
      have hj : j < ls.length := (List.getElem?_eq_some_iff.mp hl).1
      have el := paired_len hes
      refine ⟨rfl, yesT ⟨_, rfl, _, rfl, _, rfl, _, rfl, a, b, c, tx, ds, cs, l, tb, rfl, s12.tup ha, hb.sm s12, s12.tup hc, s2.tup htx, D, Tt, C, hlot, s12.tb tbs, fun H3 s3 => ⟨_, rfl, by show 2 ≤ sizeLine; decide, fun u nu => ⟨es, ?_, ?_, ?_, _, upd_same, ?_⟩⟩⟩⟩
      · rw [upd_ne (ne_of_none (s3.lst eD) nu)]; exact s3.lst eD
      · rw [el, List.length_take]; exact small1000 (by omega)
      · exact ((s2.trans s3).trans (Sm.new nu)).put nD2
      · have s4 : Sm H3 (upd H3 u (.tup [.int (net ds tb cs l), .ref tx])) := Sm.new nu
        have neD : ∀ q xs, (upd H3 u (.tup [.int (net ds tb cs l), .ref tx])) q = some (.tup xs) → (upd (upd H3 u (.tup [.int (net ds tb cs l), .ref tx])) D2 (.lst (es ++ [.ref u]))) q = some (.tup xs) := fun q xs e => by
          rw [upd_ne (fun z => by rw [z, s4.lst (s3.lst eD)] at e; cases e)]; exact e
        rw [List.take_add_one, hl]
        refine paired_app (Paired.mapP hes fun v l2 h => tp_le neD _ _ _ (tp_sm s4 _ _ _ (tp_sm s3 _ _ _ h))) (.cons ⟨u, tx, rfl, neD _ _ upd_same, neD _ _ (s4.tup (s3.tup (s2.tup htx)))⟩ .nil)
    · have e1 : ls.take ys.length = ls := List.take_of_length_le (by rw [hlen]; exact Nat.le_refl _)
      rw [e1] at hes
      have el := paired_len hes
      have hp : 0 < es.length := by
        rw [el, pm.length_eq, lotsF_len]
        exact Nat.two_pow_pos _
      refine ⟨D2, es, fun i => net ds tb cs (ls.getD i []), fun i => ls.getD i [], rfl, SqL.of eD, hp, fun i x hx => ?_, fun i x hx hmax => ?_⟩
      · obtain ⟨l, hl, tp⟩ := paired_at hes hx
        show TP H2 x (net ds tb cs (ls.getD i [])) (ls.getD i [])
        rw [List.getD_eq_getElem?_getD, hl]
        exact tp
      · obtain ⟨l, hl, tp⟩ := paired_at hes hx
        have hlot := pm.mem_iff.mp (List.mem_of_getElem? hl)
        refine q H2 x _ l (s1.trans s2) tp hlot rfl ⟨⟨l, hlot, rfl⟩, fun l' hl' => ?_⟩
        obtain ⟨j, hj⟩ := List.mem_iff_getElem?.mp (pm.mem_iff.mpr hl')
        have : net ds tb cs (ls.getD j []) ≤ net ds tb cs (ls.getD i []) := hmax j (by rw [el]; exact (List.getElem?_eq_some_iff.mp hj).1)
        rw [List.getD_eq_getElem?_getD, hj, List.getD_eq_getElem?_getD, hl] at this
        exact this
def sp_best_lot (T : Txt K mg base) : Sp := fun vs H Q _ => ∃ (a b c : Addr) (ds cs : List Int) (tb : List (List Int)), vs = [.ref a, .ref b, .ref c] ∧ H a = some (.tup (vI ds)) ∧ TbH H b tb ∧ H c = some (.tup (vI cs)) ∧ Dep ds ∧ Tab ds.length tb ∧ Cst ds.length cs ∧ Tb T H ∧
  ∀ H' v m l, Sm H H' → TP H' v m l → l ∈ lotsF ds.length → net ds tb cs l = m → Top ds tb cs m → Q v H'
theorem ok_best_lot (T : Txt K mg base) : FnOk P w K mg base CX0 7 T.f_best_lot T.d_best_lot ["deputies", "table", "costs"] (sp_best_lot T) := by
  have G1 : FnOk P w K mg base CX0 6 T.f_need_net T.d_need_net ["deputies", "table", "costs"] (sp_need_net T) := ok_need_net T
  have G2 : FnOk P w K mg base CX0 6 T.f_best_of T.d_best_of ["deputies", "table", "costs"] (sp_best_of T) := ok_best_of T
  refine T.F_best_lot.ok c_best_lot (fun vs H Q E h => ?_) (fun cdv A outer s H vs Q E hr h => ?_)
  · obtain ⟨a, b, c, n, _, _, rfl, _⟩ := h
    rfl
  · obtain ⟨a, b, c, ds, cs, tb, rfl, ha, hb, hc, D, Tt, C, tbs, q⟩ := h
    refine ⟨_, pss_cons (ps_expr (pe_call G1 hr (by rfl) T.g_need_net T.F_need_net.kp T.b_need_net .nil pass0 (pa_cons (pv 0) (pa_cons (pv 1) (pa_cons (pv 2) pa_nil)))))
      (pss_one (ps_ret (pe_call G2 hr (by rfl) T.g_best_of T.F_best_of.kp T.b_best_of .nil pass0 (pa_cons (pv 0) (pa_cons (pv 1) (pa_cons (pv 2) pa_nil)))))), ?_⟩
    exact ⟨_, rfl, _, rfl, _, rfl, a, b, c, ds, cs, tb, rfl, ha, hb, hc, D, Tt, C, tbs, fun H1 s1 => ⟨_, rfl, _, rfl, _, rfl, a, b, c, ds, cs, tb, rfl, s1.tup ha, hb.sm s1, s1.tup hc, D, Tt, C, s1.tb tbs, fun H2 v m l s2 => q H2 v m l (s1.trans s2)⟩⟩
def sp_shows_best_lot (T : Txt K mg base) : Sp := fun vs H Q _ => ∃ (a b c : Addr) (ds cs : List Int) (tb : List (List Int)) (v : V) (o : Option (Int × List Int)) (m : Int), vs = [.ref a, .ref b, .ref c, v] ∧ H a = some (.tup (vI ds)) ∧ TbH H b tb ∧ H c = some (.tup (vI cs)) ∧ Dep ds ∧ Tab ds.length tb ∧ Cst ds.length cs ∧ Tb T H ∧ VK2 H v o ∧ Top ds tb cs m ∧
  ∀ (r : Bool) H', Sm H H' → (r = true ↔ ∃ x l, o = some (x, l) ∧ x = m ∧ l ∈ lotsF ds.length ∧ net ds tb cs l = m) → Q (.bl r) H'
theorem ok_shows_best_lot (T : Txt K mg base) : FnOk P w K mg base CX0 7 T.f_shows_best_lot T.d_shows_best_lot ["deputies", "table", "costs", "value"] (sp_shows_best_lot T) := by
  have G0 : FnOk P w K mg base CX0 1 T.f_is_in T.d_is_in ["value", "least", "most"] sp_is_in := ok_is_in T
  have G1 : FnOk P w K mg base CX0 6 T.f_need_net T.d_need_net ["deputies", "table", "costs"] (sp_need_net T) := ok_need_net T
  have G2 : FnOk P w K mg base CX0 6 T.f_best_of T.d_best_of ["deputies", "table", "costs"] (sp_best_of T) := ok_best_of T
  have G3 : FnOk P w K mg base CX0 3 T.f_is_lot T.d_is_lot ["size", "value"] (sp_is_lot T) := ok_is_lot T
  have G4 : FnOk P w K mg base CX0 5 T.f_net_of T.d_net_of ["deputies", "table", "costs", "lot"] (sp_net_of T) := ok_net_of T
  refine T.F_shows_best_lot.ok c_shows_best_lot (fun vs H Q E h => ?_) (fun cdv A outer s H vs Q E hr h => ?_)
  · obtain ⟨a, b, c, n, _, _, _, _, _, rfl, _⟩ := h
    rfl
  · obtain ⟨a, b, c, ds, cs, tb, v, o, m, rfl, ha, hb, hc, D, Tt, C, tbs, vk, bm, q⟩ := h
    have nd := c_shows_best_lot.nd
    refine ⟨_, pss_cons (ps_expr (pe_call G1 hr (by rfl) T.g_need_net T.F_need_net.kp T.b_need_net .nil pass0 (pa_cons (pv 0) (pa_cons (pv 1) (pa_cons (pv 2) pa_nil)))))
      (pss_cons (ps_set (i := 4) nd rfl (.inl rfl) (pe_ix (ixT (K := K) rfl) (pe_call G2 hr (by rfl) T.g_best_of T.F_best_of.kp T.b_best_of .nil pass0 (pa_cons (pv 0) (pa_cons (pv 1) (pa_cons (pv 2) pa_nil)))) pe_int (fun _ _ => rfl)))
      (pss_cons (ps_if (PW.pt (pw_or (pt_not (pt_val (pe_isi "tuple" (by rfl) T.z_isinstance (by rfl) T.z_tuple bt_tuple (pv 3)))) (pw_or (pt_cmpR op_ne (pe_callB (crLen (K := K) rfl) (by rfl) T.z_len bt_len (pa_cons (pv 3) pa_nil)) pe_int (nomark _))
          (pw_or1 (pt_not (pt_val (pe_call G0 (hr.mono (by decide)) (by rfl) T.g_is_in T.F_is_in.kp T.b_is_in .nil pass0 (pa_cons (pe_ix (ixT (K := K) rfl) (pv 3) pe_int (fun _ _ => rfl)) (pa_cons (pv 4) (pa_cons (pv 4) pa_nil))))))))))
        (pss_one (ps_ret pe_bl)) pss_nil)
      (pss_one (ps_ret (pe_and (pe_call G3 (hr.mono (by decide)) (by rfl) T.g_is_lot T.F_is_lot.kp T.b_is_lot .nil pass0 (pa_cons (pe_callB (crLen (K := K) rfl) (by rfl) T.z_len bt_len (pa_cons (pv 0) pa_nil)) (pa_cons (pe_ix (ixT (K := K) rfl) (pv 3) pe_int (fun _ _ => rfl)) pa_nil)))
        (pe_one (pe_cmpR op_eq (pe_call G4 (hr.mono (by decide)) (by rfl) T.g_net_of T.F_net_of.kp T.b_net_of .nil pass0 (pa_cons (pv 0) (pa_cons (pv 1) (pa_cons (pv 2) (pa_cons (pe_ix (ixT (K := K) rfl) (pv 3) pe_int (fun _ _ => rfl)) pa_nil))))) (pv 4) (nomark _)))))))), ?_⟩
    refine ⟨_, rfl, _, rfl, _, rfl, a, b, c, ds, cs, tb, rfl, ha, hb, hc, D, Tt, C, tbs, fun H1 s1 => ?_⟩
    refine ⟨_, rfl, _, rfl, _, rfl, a, b, c, ds, cs, tb, rfl, s1.tup ha, hb.sm s1, s1.tup hc, D, Tt, C, s1.tb tbs, fun H2 x c0 l0 s2 tp lp lt mn => ?_⟩
    have s12 := s1.trans s2
    obtain ⟨pa, pb, rfl, h1, h2⟩ := tp
    have e0 : c0 = m := Top.uniq mn bm
    subst e0
    refine ⟨pa, _, _, _, rfl, rfl, SqT.of h1, atI_nat (j := 0) rfl, ?_⟩
    have vk2 := vk.sm s12
    have fin : ∀ H3, Sm H2 H3 → o = none → Q (.bl false) H3 := fun H3 s3 e => q false H3 (s12.trans s3) ⟨fun z => absurd z (by decide), fun ⟨c, l, z, _⟩ => by rw [e] at z; cases z⟩
    cases vk2 with
    | non => exact ⟨_, rfl, _, isT_nt, _, rfl, iteT (fin H2 (Sm.refl _) rfl)⟩
    | int i => exact ⟨_, rfl, _, isT_it, _, rfl, iteT (fin H2 (Sm.refl _) rfl)⟩
    | lst h => exact ⟨_, rfl, _, isT_lt h, _, rfl, iteT (fin H2 (Sm.refl _) rfl)⟩
    | @plst va r x xs g1 g2 =>
      refine ⟨_, rfl, _, isT_tt g1, _, rfl, iteF ⟨_, rfl, va, _, rfl, .inr (SqT.of g1), rfl, _, rfl, ifN (by rw [dec_int]; rfl) ?_⟩⟩
      refine ⟨_, rfl, va, _, _, _, rfl, rfl, SqT.of g1, atI_nat (j := 0) rfl, _, rfl, _, rfl, _, _, _, rfl, _, rfl, ite2 (fun _ => fin H2 (Sm.refl _) rfl) (fun _ => ?_)⟩
      refine ⟨_, rfl, a, _, rfl, .inr (SqT.of (s12.tup ha)), _, rfl, va, _, _, _, rfl, rfl, SqT.of g1, atI_nat (j := 1) rfl, ds.length, r, (by rw [vI_len]; rfl), s12.tb tbs, .inr ⟨xs, g2, fun H3 s3 => ⟨_, rfl, iteF (fin H3 s3 rfl)⟩⟩⟩
    | @pair _ x l tpv hl100 =>
      obtain ⟨va, r, rfl, g1, g2⟩ := tpv
      have no : ∀ H3, Sm H2 H3 → ¬ (x = c0 ∧ l ∈ lotsF ds.length ∧ net ds tb cs l = c0) → Q (.bl false) H3 := fun H3 s3 e => q false H3 (s12.trans s3) ⟨fun z => absurd z (by decide), fun ⟨c', l', z, z2⟩ => by cases z; exact absurd z2 e⟩
      refine ⟨_, rfl, _, isT_tt g1, _, rfl, iteF ⟨_, rfl, va, _, rfl, .inr (SqT.of g1), rfl, _, rfl, ifN (by rw [dec_int]; rfl) ?_⟩⟩
      refine ⟨_, rfl, va, _, _, _, rfl, rfl, SqT.of g1, atI_nat (j := 0) rfl, _, rfl, _, rfl, _, _, _, rfl, _, rfl, ite2 (fun e => no H2 (Sm.refl _) fun z => ?_) (fun e => ?_)⟩
      · rw [decide_eq_true (by have := z.1; omega)] at e
        exact absurd e (by decide)
      · have ec : x = c0 := by
          by_cases z : c0 ≤ x ∧ x ≤ c0
          · omega
          · rw [decide_eq_false z] at e; exact absurd rfl e
        refine ⟨_, rfl, a, _, rfl, .inr (SqT.of (s12.tup ha)), _, rfl, va, _, _, _, rfl, rfl, SqT.of g1, atI_nat (j := 1) rfl, ds.length, r, (by rw [vI_len]; rfl), s12.tb tbs, .inl ⟨l, g2, hl100, fun bb H3 s3 hb3 => ⟨_, rfl, ?_⟩⟩⟩
        refine ite2 (fun e3 => ?_) (fun e3 => no H3 s3 fun z => e3 (hb3.mpr (lot_iff.mpr z.2.1)))
        have lm := lot_iff.mp (hb3.mp e3)
        have s123 := s12.trans s3
        refine ⟨_, rfl, _, rfl, _, rfl, _, rfl, va, _, _, _, rfl, rfl, SqT.of (s3.tup g1), atI_nat (j := 1) rfl, a, b, c, r, ds, cs, l, tb, rfl, s123.tup ha, hb.sm s123, s123.tup hc, s3.tup g2, D, Tt, C, lm, s123.tb tbs, fun H4 s4 => ⟨_, rfl, rfl, q _ H4 (s123.trans s4) ?_⟩⟩
        rw [dec_int, beq_iff_eq]
        exact ⟨fun z => ⟨x, l, rfl, ec, lm, z⟩, fun ⟨c', l', z, _, _, z2⟩ => by cases z; exact z2⟩
end
end G6
set_option Elab.async false
set_option linter.all false
set_option maxRecDepth 100000
set_option maxHeartbeats 4000000
namespace G6
open PySem PySem.Spec PyProof.Rows L2 NX GxR
/-! ### the law's row of drawn numbers -/
structure RowIs (K : PySem.W.Frag) (H : Hp) (r sa : Addr) (ns : List Int) (i1 i2 i3 : Int) : Prop where
  at_ : H r = some (.lst [.ref sa, .int i1, .int i2, .int i3])
  sc : SqL K H sa (ns.map V.int)
  nn : 0 ≤ i1
def RowH (K : PySem.W.Frag) (H : Hp) (r sa : Addr) (ns : List Int) : Prop := ∃ i1 i2 i3, RowIs K H r sa ns i1 i2 i3
structure Sr (K : PySem.W.Frag) (r sa : Addr) (ns : List Int) (H H' : Hp) : Prop where
  keep : ∀ b o, b ≠ r → H b = some o → (∀ ps, o ≠ .tbl ps) → H' b = some o
  tab : ∀ P, TabG H P → TabG H' P
  dom : ∀ b, H' b = none → H b = none
  old : SqL K H sa (ns.map V.int)
  row : RowH K H' r sa ns
section
variable {K : PySem.W.Frag} {r sa : Addr} {H H' H2 : Hp} {ns : List Int} {i1 i2 i3 j1 j2 j3 : Int}
theorem RowIs.upd (h : RowIs K H r sa ns i1 i2 i3) (j0 : 0 ≤ j1) : RowIs K (upd H r (.lst [.ref sa, .int j1, .int j2, .int j3])) r sa ns j1 j2 j3 := by
  refine ⟨upd_same, ?_, j0⟩
  rcases h.sc with (e | ⟨o, e⟩) | e
  · have ne : sa ≠ r := fun z => by
      rw [z, h.at_] at e
      have e2 := Option.some.inj e
      cases ns with
      | nil => cases e2
      | cons x l => cases e2
    exact .inl (.inl ((upd_ne ne).trans e))
  · have ne : sa ≠ r := fun z => by rw [z, h.at_] at e; cases e
    exact .inl (.inr ⟨o, (upd_ne ne).trans e⟩)
  · exact .inr e
theorem Sr.upd (h : RowIs K H r sa ns i1 i2 i3) (j0 : 0 ≤ j1) : Sr K r sa ns H (L2.upd H r (.lst [.ref sa, .int j1, .int j2, .int j3])) := by
  refine ⟨fun b o ne e _ => (upd_ne ne).trans e, fun P ⟨ps, e, t⟩ => ⟨ps, ?_, t⟩, fun b e => ?_, h.sc, _, _, _, h.upd j0⟩
  · rw [upd_ne (fun z => by rw [z, h.at_] at e; cases e)]; exact e
  · by_cases z : b = r
    · rw [z, upd_same] at e; cases e
    · rw [upd_ne z] at e; exact e
theorem Sr.refl (h : RowH K H r sa ns) : Sr K r sa ns H H := ⟨fun _ _ _ e _ => e, fun _ h => h, fun _ e => e, let ⟨_, _, _, q⟩ := h; q.sc, h⟩
theorem Sr.trans (h1 : Sr K r sa ns H H') (h2 : Sr K r sa ns H' H2) : Sr K r sa ns H H2 := ⟨fun b o n e k => h2.keep b o n (h1.keep b o n e k) k, fun P h => h2.tab P (h1.tab P h), fun b e => h1.dom b (h2.dom b e), h1.old, h2.row⟩
theorem RowH.sm (s : Sm H H') (h : RowH K H r sa ns) : RowH K H' r sa ns := let ⟨i1, i2, i3, q⟩ := h; ⟨i1, i2, i3, s.lst q.at_, s.sL q.sc, q.nn⟩
theorem Sr.of_sm (s : Sm H H') (h : RowH K H r sa ns) : Sr K r sa ns H H' := ⟨fun b o _ e k => s.keep b o e k, s.tab, s.dom, let ⟨_, _, _, q⟩ := h; q.sc, h.sm s⟩
theorem RowH.some (h : RowH K H r sa ns) : ∃ o, H r = some o := let ⟨_, _, _, q⟩ := h; ⟨_, q.at_⟩
theorem Sr.sm {H0 : Hp} (s : Sm H0 H) (n : H0 r = none) (q : Sr K r sa ns H H') : Sm H0 H' :=
  ⟨fun b o e k => q.keep b o (ne_of_none e n) (s.keep b o e k) k, fun P h => q.tab P (s.tab P h), fun b e => s.dom b (q.dom b e)⟩
/-- an object that was not the row's -/
theorem Sr.lst {a : Addr} {xs : List V} (q : Sr K r sa ns H H') (ne : a ≠ r) (e : H a = some (.lst xs)) : H' a = some (.lst xs) := q.keep _ _ ne e fun _ z => by cases z
theorem Sr.tup {a : Addr} {xs : List V} (q : Sr K r sa ns H H') (h : RowH K H r sa ns) (e : H a = some (.tup xs)) : H' a = some (.tup xs) := q.keep _ _ (fun z => by
  obtain ⟨_, _, _, w⟩ := h
  rw [z, w.at_] at e; cases e) e fun _ z => by cases z
/-- another list, written -/
theorem Sr.put {a : Addr} {o : HO} (h : Sr K r sa ns H H') (n : H a = none) (ne : a ≠ r) : Sr K r sa ns H (L2.upd H' a o) := by
  refine ⟨fun b u nb e k => ?_, fun P ⟨ps, e, t⟩ => ?_, fun b e => ?_, h.old, ?_⟩
  · rw [upd_ne (ne_of_none e n)]; exact h.keep b u nb e k
  · obtain ⟨qs, e2, t2⟩ := h.tab P ⟨ps, e, t⟩
    exact ⟨qs, by rw [upd_ne (ne_of_none e n)]; exact e2, t2⟩
  · by_cases z : b = a
    · rw [z, upd_same] at e; cases e
    · rw [upd_ne z] at e; exact h.dom b e
  · obtain ⟨i1, i2, i3, q⟩ := h.row
    refine ⟨i1, i2, i3, (upd_ne (Ne.symm ne)).trans q.at_, ?_, q.nn⟩
    rcases h.old with z | z
    · have nz : sa ≠ a := fun w => by
        rcases z with z | ⟨o, z⟩ <;> (rw [w, n] at z; cases z)
      rcases q.sc with y | y
      · rcases y with y | ⟨o, y⟩
        · exact .inl (.inl ((upd_ne nz).trans y))
        · exact .inl (.inr ⟨o, (upd_ne nz).trans y⟩)
      · exact .inr y
    · exact .inr z
end
section
variable {P : Program} {w : World} {K : PySem.W.Frag} {mg : Str → Option Value} {base : Heap}
def sp_l_taken (K : PySem.W.Frag) : Sp := fun vs H Q _ => ∃ (r sa : Addr) (ns : List Int) (m : Int), vs = [.ref r, .int m] ∧ 1 ≤ m ∧ m ≤ 1000 ∧ RowH K H r sa ns ∧ ∀ H' x, Sr K r sa ns H H' → 0 ≤ x → x < m → Q (.int x) H'
theorem ok_l_taken (T : Txt K mg base) : FnOk P w K mg base CX0 1 T.f_l_taken T.d_l_taken ["_law_row", "_law_many"] (sp_l_taken K) := by
  refine T.F_l_taken.ok c_l_taken (fun vs H Q E h => ?_) (fun cdv A outer s H vs Q E hr h => ?_)
  · obtain ⟨a, _, _, b, rfl, _⟩ := h
    rfl
  · obtain ⟨r, sa, ns, m, rfl, m1, m2, ⟨i1, i2, i3, R⟩, q⟩ := h
    have nd := c_l_taken.nd
    refine ⟨_, pss_cons (ps_if (pt_cmpR op_gt (pe_ix ix_list (pv 0) pe_int (fun _ _ => rfl)) pe_int (nomark _))
        (pss_cons (ps_set (i := 2) nd rfl (.inl rfl) (pe_op op_mod (pe_callTy call_int1 (by rfl) T.z_int bt_int (pa_cons (pe_ix ix_list (pv 0) pe_int (fun _ _ => rfl)) pa_nil)) (pv 1)))
        (pss_cons (ps_asg (pe_op op_fdiv (pe_ix ix_list (pv 0) pe_int (fun _ _ => rfl)) (pv 1)) (pg_sub (pv 0) pe_int set_list))
        (pss_one (ps_ret (pv 2))))) pss_nil)
      (pss_cons (ps_asg (pe_op op_add (pe_ix ix_list (pv 0) pe_int (fun _ _ => rfl)) pe_int) (pg_sub (pv 0) pe_int set_list))
      (pss_cons (ps_if (pt_cmpR op_gt (pe_ix ix_list (pv 0) pe_int (fun _ _ => rfl)) (pe_callB (crLen (K := K) rfl) (by rfl) T.z_len bt_len (pa_cons (pe_ix ix_list (pv 0) pe_int (fun _ _ => rfl)) pa_nil)) (nomark _))
        (pss_cons (ps_asg (pe_op op_mod (pe_callTy call_int1 (by rfl) T.z_int bt_int (pa_cons (pe_op op_add (pe_op op_mul (pe_ix ix_list (pv 0) pe_int (fun _ _ => rfl)) pe_int) pe_int) pa_nil)) pe_int) (pg_sub (pv 0) pe_int set_list))
        (pss_one (ps_ret (pe_op op_mod (pe_callTy call_int1 (by rfl) T.z_int bt_int (pa_cons (pe_op op_fdiv (pe_ix ix_list (pv 0) pe_int (fun _ _ => rfl)) pe_int) pa_nil)) (pv 1))))) pss_nil)
      (pss_cons (ps_set (i := 3) nd rfl (.inl rfl) (pe_ix ix_list (pe_ix ix_list (pv 0) pe_int (fun _ _ => rfl)) (pe_op op_sub (pe_ix ix_list (pv 0) pe_int (fun _ _ => rfl)) pe_int) (fun _ _ => rfl)))
      (pss_cons (ps_asg (pe_op op_mod (pe_callTy call_int1 (by rfl) T.z_int bt_int (pa_cons (pe_op op_add (pe_op op_add (pe_op op_mul (pe_ix ix_list (pv 0) pe_int (fun _ _ => rfl)) pe_int) (pv 3)) pe_int) pa_nil)) pe_int) (pg_sub (pv 0) pe_int set_list))
      (pss_cons (ps_if (pt_cmpR op_ge (pv 3) (pe_op op_pow pe_int pe_int) (nomark _))
        (pss_one (ps_asg (pe_op op_fdiv (pv 3) (pv 1)) (pg_sub (pv 0) pe_int set_list))) pss_nil)
      (pss_one (ps_ret (pe_op op_mod (pe_callTy call_int1 (by rfl) T.z_int bt_int (pa_cons (pv 3) pa_nil)) (pv 1))))))))), ?_⟩
    have a0 := R.at_
    have emod : ∀ x : Int, 0 ≤ x % m ∧ x % m < m := fun x => ⟨Int.emod_nonneg _ (by omega), Int.emod_lt_of_pos _ (by omega)⟩
    refine ⟨_, rfl, r, _, _, _, rfl, rfl, SqL.of a0, atI_nat (j := 3) rfl, _, _, rfl, rfl, _, rfl, ite2 (fun _ => ?_) (fun _ => ?_)⟩
    · refine ⟨_, rfl, r, _, _, _, rfl, rfl, SqL.of a0, atI_nat (j := 3) rfl, .inl ⟨_, rfl, _, rfl, _, _, rfl, rfl, by omega, ?_⟩⟩
      refine ⟨_, rfl, r, _, _, _, rfl, rfl, SqL.of a0, atI_nat (j := 3) rfl, _, rfl, _, _, rfl, rfl, ⟨by omega, by omega⟩, _, rfl, r, _, _, 3, rfl, rfl, a0, rfl, ?_⟩
      exact ⟨_, rfl, q _ _ (Sr.upd R R.nn) (emod _).1 (emod _).2⟩
    · refine ⟨_, rfl, r, _, _, _, rfl, rfl, SqL.of a0, atI_nat (j := 1) rfl, _, _, rfl, rfl, _, rfl, r, _, _, 1, rfl, rfl, a0, rfl, ?_⟩
      have nn := R.nn
      have S1 : Sr K r sa ns H (upd H r (.lst [.ref sa, .int (i1 + 1), .int i2, .int i3])) := Sr.upd R (by omega)
      have R1 : RowIs K (upd H r (.lst [.ref sa, .int (i1 + 1), .int i2, .int i3])) r sa ns (i1 + 1) i2 i3 := R.upd (by omega)
      show (fun (H1 : Hp) => _) (upd H r (.lst [.ref sa, .int (i1 + 1), .int i2, .int i3]))
      generalize (upd H r (.lst [.ref sa, .int (i1 + 1), .int i2, .int i3])) = H1 at S1 R1 ⊢
      have a1 := R1.at_
      refine ⟨_, rfl, r, _, _, _, rfl, rfl, SqL.of a1, atI_nat (j := 1) rfl, _, rfl, r, _, _, _, rfl, rfl, SqL.of a1, atI_nat (j := 0) rfl, sa, _, rfl, .inl R1.sc, _, _, rfl, rfl, _, rfl, ite2 (fun _ => ?_) (fun e => ?_)⟩
      · refine ⟨_, rfl, r, _, _, _, rfl, rfl, SqL.of a1, atI_nat (j := 2) rfl, _, _, rfl, rfl, .inr ⟨by decide, by decide⟩, _, _, rfl, rfl, .inl ⟨_, rfl, _, _, rfl, rfl, (show (0 : Int) < 2147483647 by decide), _, rfl, r, _, _, 2, rfl, rfl, a1, rfl, ?_⟩⟩
        have S2 := S1.trans (Sr.upd (j1 := i1 + 1) (j2 := (i2 * 48271 + 11) % 2147483647) (j3 := i3) R1 (by omega))
        have a2 : (upd H1 r (.lst [.ref sa, .int (i1 + 1), .int ((i2 * 48271 + 11) % 2147483647), .int i3])) r = some (.lst [.ref sa, .int (i1 + 1), .int ((i2 * 48271 + 11) % 2147483647), .int i3]) := upd_same
        refine ⟨_, rfl, r, _, _, _, rfl, rfl, SqL.of a2, atI_nat (j := 2) rfl, _, _, rfl, rfl, ⟨by decide, by decide⟩, .inl ⟨_, rfl, _, rfl, _, _, rfl, rfl, by omega, ?_⟩⟩
        exact q _ _ S2 (emod _).1 (emod _).2
      · have le : i1 + 1 ≤ (ns.map V.int).length := by
          by_cases z : ((ns.map V.int).length : Int) < i1 + 1
          · exact absurd (decide_eq_true z) e
          · omega
        rw [List.length_map] at le
        obtain ⟨x, hx⟩ := lt_some (l := ns) (i := i1.toNat) (by omega)
        have ix : atI (ns.map V.int) (i1 + 1 - 1) = some (.int x) := by
          rw [show i1 + 1 - 1 = ((i1.toNat : Nat) : Int) by omega]
          exact atI_nat (vI_some hx)
        refine ⟨_, rfl, r, _, _, _, rfl, rfl, SqL.of a1, atI_nat (j := 0) rfl, _, rfl, r, _, _, _, rfl, rfl, SqL.of a1, atI_nat (j := 1) rfl, _, _, rfl, rfl, sa, _, _, _, rfl, rfl, R1.sc, ix, ?_⟩
        refine ⟨_, rfl, r, _, _, _, rfl, rfl, SqL.of a1, atI_nat (j := 2) rfl, _, _, rfl, rfl, .inr ⟨by decide, by decide⟩, _, rfl, _, _, rfl, rfl, _, _, rfl, rfl, .inl ⟨_, rfl, _, _, rfl, rfl, (show (0 : Int) < 2147483647 by decide), _, rfl, r, _, _, 2, rfl, rfl, a1, rfl, ?_⟩⟩
        have S2 := S1.trans (Sr.upd (j1 := i1 + 1) (j2 := (i2 * 48271 + x + 11) % 2147483647) (j3 := i3) R1 (by omega))
        have R2 : RowIs K (upd H1 r (.lst [.ref sa, .int (i1 + 1), .int ((i2 * 48271 + x + 11) % 2147483647), .int i3])) r sa ns (i1 + 1) ((i2 * 48271 + x + 11) % 2147483647) i3 := R1.upd (by omega)
        refine ⟨_, rfl, _, _, rfl, rfl, ⟨by decide, by decide, by decide⟩, _, _, rfl, rfl, _, rfl, ite2 (fun _ => ?_) (fun _ => ?_)⟩
        · refine ⟨_, rfl, _, rfl, _, _, rfl, rfl, ⟨by omega, by omega⟩, _, rfl, r, _, _, 3, rfl, rfl, R2.at_, rfl, ?_⟩
          exact ⟨_, rfl, .inl ⟨_, rfl, _, rfl, _, _, rfl, rfl, by omega, q _ _ (S2.trans (Sr.upd R2 (by omega))) (emod _).1 (emod _).2⟩⟩
        · exact ⟨_, rfl, .inl ⟨_, rfl, _, rfl, _, _, rfl, rfl, by omega, q _ _ S2 (emod _).1 (emod _).2⟩⟩
end
end G6
set_option Elab.async false
set_option linter.all false
set_option maxRecDepth 100000
set_option maxHeartbeats 4000000
namespace G6
open PySem PySem.Spec PyProof.Rows L2 NX GxR
section
variable {P : Program} {w : World} {K : PySem.W.Frag} {mg : Str → Option Value} {base : Heap}
def sp_l_pick (K : PySem.W.Frag) : Sp := fun vs H Q _ => ∃ (r sa a : Addr) (ns l : List Int), vs = [.ref r, .ref a] ∧ a ≠ r ∧ H a = some (.lst (vI l)) ∧ 1 ≤ l.length ∧ l.length ≤ 1000 ∧ RowH K H r sa ns ∧ ∀ H' x, Sr K r sa ns H H' → x ∈ l → Q (.int x) H'
theorem ok_l_pick (T : Txt K mg base) : FnOk P w K mg base CX0 2 T.f_l_pick T.d_l_pick ["_law_row", "_law_things"] (sp_l_pick K) := by
  have G1 : FnOk P w K mg base CX0 1 T.f_l_taken T.d_l_taken ["_law_row", "_law_many"] (sp_l_taken K) := ok_l_taken T
  refine T.F_l_pick.ok c_l_pick (fun vs H Q E h => ?_) (fun cdv A outer s H vs Q E hr h => ?_)
  · obtain ⟨a, b, c, _, _, rfl, _⟩ := h
    rfl
  · obtain ⟨r, sa, a, ns, l, rfl, nar, ha, l1, l2, R, q⟩ := h
    refine ⟨_, pss_one (ps_ret (pe_ix ix_list (pv 1) (pe_call G1 hr (by rfl) T.g_l_taken T.F_l_taken.kp T.b_l_taken .nil pass0 (pa_cons (pv 0) (pa_cons (pe_callB (crLen (K := K) rfl) (by rfl) T.z_len bt_len (pa_cons (pv 1) pa_nil)) pa_nil))) (fun _ _ => rfl))), ?_⟩
    have hl := vI_len l
    refine ⟨_, rfl, _, rfl, _, rfl, a, _, rfl, .inl (SqL.of ha), r, sa, ns, _, rfl, by rw [hl]; omega, by rw [hl]; omega, R, fun H1 x s1 x0 x1 => ?_⟩
    obtain ⟨y, hy⟩ := lt_some (l := l) (i := x.toNat) (by rw [hl] at x1; omega)
    refine ⟨a, _, _, _, rfl, rfl, SqL.of (s1.lst nar ha), ?_, q H1 y s1 (List.mem_of_getElem? hy)⟩
    rw [show x = ((x.toNat : Nat) : Int) by omega]
    exact atI_nat (vI_some hy)
def sp_l_alike : Sp := fun vs H Q _ => (∃ i j : Int, vs = [.int i, .int j] ∧ ∀ H', Sm H H' → Q (.bl (decide (i = j))) H') ∨ (∃ i j : Bool, vs = [.bl i, .bl j] ∧ ∀ H', Sm H H' → Q (.bl (decide (i = j))) H')
theorem ok_l_alike (T : Txt K mg base) : FnOk P w K mg base CX0 1 T.f_l_alike T.d_l_alike ["_law_found", "_law_due"] sp_l_alike := by
  refine T.F_l_alike.ok c_l_alike (fun vs H Q E h => ?_) (fun cdv A outer s H vs Q E hr h => ?_)
  · rcases h with ⟨i, j, rfl, _⟩ | ⟨i, j, rfl, _⟩ <;> rfl
  · refine ⟨_, pss_cons (ps_if (pt_val (pe_callB call_isiT (by rfl) T.z_isinstance (by decide +kernel) (pa_cons (pv 1) (pa_cons (pe_tup (pa_cons (pe_bltn (v := .ty "tuple") (by rfl) T.z_tuple bt_tuple rfl) (pa_cons (pe_bltn (v := .ty "list") (by rfl) T.z_list bt_list rfl) pa_nil))) pa_nil)))) pss_never pss_nil)
      (pss_cons (ps_if (PW.pt (pw_or (pt_cmpR op_isN (pv 1) pe_non (nomark _)) (pw_or1 (pt_val (pe_isi "str" (by rfl) T.z_isinstance (by rfl) T.z_str bt_str (pv 1)))))) pss_never pss_nil)
      (pss_one (ps_ret (pe_and (pe_isi "int" (by rfl) T.z_isinstance (by rfl) T.z_int bt_int (pv 0)) (pe_and (pe_cmpR op_eq (pe_isi "bool" (by rfl) T.z_isinstance (by rfl) T.z_bool bt_bool (pv 0)) (pe_isi "bool" (by rfl) T.z_isinstance (by rfl) T.z_bool bt_bool (pv 1)) (nomark _)) (pe_one (pe_cmpR op_eq (pv 0) (pv 1) (nomark _)))))))), ?_⟩
    rcases h with ⟨i, j, rfl, q⟩ | ⟨i, j, rfl, q⟩
    · refine ⟨_, rfl, by show 2 ≤ sizeLine; decide, fun t nt => ⟨_, t, _, _, _, false, rfl, upd_same, .cons (.ty _) (.cons (.ty _) .nil), .base (.int _), ?_, _, rfl, iteF ?_⟩⟩
      · exact kitAny_cons (kit_ty (r := false) (by decide +kernel)) (fun _ => kitAny_cons (kit_ty (r := false) (by decide +kernel)) (fun _ => rfl) (fun z => by cases z)) (fun z => by cases z)
      · have s1 : Sm H (upd H t (.tup [.ty "tuple", .ty "list"])) := Sm.new nt
        refine ⟨_, rfl, rfl, _, rfl, iteF ⟨_, rfl, _, isT_is, _, rfl, iteF ?_⟩⟩
        refine ⟨_, rfl, _, isT_ii, _, rfl, iteT ⟨_, rfl, _, isT_ib, _, rfl, _, isT_ib, rfl, _, rfl, iteT ⟨_, rfl, _, rfl, rfl, ?_⟩⟩⟩
        rw [show decide (V.int i = V.int j) = decide (i = j) by simp]
        exact q _ s1
    · refine ⟨_, rfl, by show 2 ≤ sizeLine; decide, fun t nt => ⟨_, t, _, _, _, false, rfl, upd_same, .cons (.ty _) (.cons (.ty _) .nil), .base (.bl _), ?_, _, rfl, iteF ?_⟩⟩
      · exact kitAny_cons (kit_ty (r := false) (by decide +kernel)) (fun _ => kitAny_cons (kit_ty (r := false) (by decide +kernel)) (fun _ => rfl) (fun z => by cases z)) (fun z => by cases z)
      · have s1 : Sm H (upd H t (.tup [.ty "tuple", .ty "list"])) := Sm.new nt
        refine ⟨_, rfl, rfl, _, rfl, iteF ⟨_, rfl, _, isT_bs, _, rfl, iteF ?_⟩⟩
        refine ⟨_, rfl, _, isT_bi, _, rfl, iteT ⟨_, rfl, _, isT_bb, _, rfl, _, isT_bb, rfl, _, rfl, iteT ⟨_, rfl, _, rfl, rfl, ?_⟩⟩⟩
        have := q _ s1
        exact (by simpa using this)
def sp_l_deputies (K : PySem.W.Frag) : Sp := fun vs H Q _ => ∃ (r sa : Addr) (ns : List Int) (n : Nat), vs = [.ref r, .int n] ∧ 1 ≤ n ∧ n ≤ 6 ∧ RowH K H r sa ns ∧ ∀ H' t ds, Sr K r sa ns H H' → H' t = some (.tup (vI ds)) → ds.length = n → Dep ds → Q (.ref t) H'
theorem ok_l_deputies (T : Txt K mg base) : FnOk P w K mg base CX0 2 T.f_l_deputies T.d_l_deputies ["_law_row", "_law_size"] (sp_l_deputies K) := by
  have G1 : FnOk P w K mg base CX0 1 T.f_l_taken T.d_l_taken ["_law_row", "_law_many"] (sp_l_taken K) := ok_l_taken T
  refine T.F_l_deputies.ok c_l_deputies (fun vs H Q E h => ?_) (fun cdv A outer s H vs Q E hr h => ?_)
  · obtain ⟨a, b, c, _, rfl, _⟩ := h
    rfl
  · obtain ⟨r, sa, ns, n, rfl, n1, n6, R, q⟩ := h
    have nd := c_l_deputies.nd
    refine ⟨_, pss_cons (ps_set (i := 2) nd rfl (.inl rfl) (pe_lst pa_nil))
      (pss_cons (ps_for PassesOwn.never rfl (pi_range1 rfl T.z_range (pa_cons (pv 1) pa_nil)) (pg_name (i := 3) nd rfl (Or.inl rfl))
        (pss_cons (ps_set (i := 4) nd rfl (.inl rfl) (pe_op op_sub (pe_call G1 hr (by rfl) T.g_l_taken T.F_l_taken.kp T.b_l_taken .nil pass0 (pa_cons (pv 0) (pa_cons (pv 1) pa_nil))) pe_int))
        (pss_one (ps_expr (pe_bm PySem.F.plainAttrs_list PySem.F.slot_list_append PySem.F.type_list_append mt_append (pv 2) (pa_cons (pe_op op_add (pv 4) (pe_callTy call_int1 (by rfl) T.z_int bt_int (pa_cons (pe_cmpR op_ge (pv 4) (pv 3) (nomark _)) pa_nil))) pa_nil))))))
      (pss_one (ps_ret (pe_callTy call_tuple_of (by rfl) T.z_tuple bt_tuple (pa_cons (pv 2) pa_nil))))), ?_⟩
    refine ⟨Nat.zero_le _, fun o no => ?_⟩
    have nor : o ≠ r := fun z => by obtain ⟨_, e⟩ := R.some; rw [z, e] at no; cases no
    refine ⟨_, rfl, n, rfl, by omega, by omega, for_range (lo := 0) (n := (n : Int).toNat) (fun i σ H' => ∃ l z3 z4, σ = [some (.ref r), some (.int n), some (.ref o), z3, z4] ∧ Sr K r sa ns H H' ∧ H' o = some (.lst (vI l)) ∧ l.length = i ∧ ∀ (j : Nat) (x : Int), l[j]? = some x → -1 ≤ x ∧ x < n ∧ x ≠ j)
      ⟨[], none, none, rfl, (Sr.refl R).put no nor, upd_same, rfl, fun j x h => by simp at h⟩ ?_ ?_⟩
    · rintro i σ H' hi ⟨l, z3, z4, rfl, s1, eo, el, hall⟩
      have hi2 : i < n := by omega
      refine ⟨_, rfl, _, rfl, r, sa, ns, n, rfl, by omega, by omega, s1.row, fun H2 x s2 x0 x1 => ⟨_, _, rfl, rfl, ?_⟩⟩
      have eo2 := s2.lst nor eo
      refine ⟨_, rfl, .inl ⟨rfl, _, SqL.of eo2⟩, _, rfl, _, rfl, _, rfl, _, _, rfl, rfl, .inr ⟨_, rfl, _, _, rfl, rfl, o, _, _, rfl, rfl, eo2, by rw [vI_len]; exact small1000 (by omega), ?_⟩⟩
      have key : ∀ y : Int, (-1 ≤ y ∧ y < n ∧ y ≠ (i : Nat)) → ∃ l' z3 z4, [some (V.ref r), some (.int n), some (.ref o), some (.int (0 + (i : Int))), some (.int (x - 1))] = [some (V.ref r), some (.int n), some (.ref o), z3, z4] ∧ Sr K r sa ns H (upd H2 o (.lst (vI l ++ [.int y]))) ∧ (upd H2 o (.lst (vI l ++ [.int y]))) o = some (.lst (vI l')) ∧ l'.length = i + 1 ∧ ∀ (j : Nat) (x : Int), l'[j]? = some x → -1 ≤ x ∧ x < n ∧ x ≠ j := fun y hy => by
        refine ⟨l ++ [y], _, _, rfl, (s1.trans s2).put no nor, ?_, by rw [List.length_append, List.length_singleton, el], fun j x h => ?_⟩
        · rw [upd_same]; unfold vI; rw [List.map_append]; rfl
        · by_cases z : j < l.length
          · rw [List.getElem?_append_left z] at h; exact hall j x h
          · have hj := (List.getElem?_eq_some_iff.mp h).1
            rw [List.length_append, List.length_singleton] at hj
            have : j = l.length := by omega
            subst this
            rw [List.getElem?_concat_length] at h
            cases h
            rw [el]; exact hy
      refine key _ ?_
      by_cases z : 0 + (i : Int) ≤ x - 1
      · rw [decide_eq_true z]; simp only [if_true]; omega
      · rw [decide_eq_false z]; simp only [Bool.false_eq_true, if_false]; omega
    · rintro σ H' ⟨l, z3, z4, rfl, s1, eo, el, hall⟩
      refine ⟨_, rfl, o, _, rfl, .inl ⟨SqL.of eo, fun t nt => ?_⟩⟩
      have nt0 := s1.dom t nt
      have ntr : t ≠ r := fun z => by obtain ⟨_, e⟩ := R.some; rw [z, e] at nt0; cases nt0
      have eln : l.length = n := by omega
      exact q _ t l (s1.put nt0 ntr) upd_same eln ⟨by omega, by omega, fun i x h => by rw [eln]; exact hall i x h⟩
theorem fst_cons_in {g : List Int} {x : Int} {l : List Int} (h : x ∈ g) : fst? g (x :: l) = fst? g l := by
  unfold fst?
  rw [List.find?_cons, decide_eq_false (fun z => z h)]
theorem fst_cons_out {g : List Int} {x : Int} {l : List Int} (h : x ∉ g) : fst? g (x :: l) = x := by
  unfold fst?
  rw [List.find?_cons, decide_eq_true h]
  rfl
theorem ok_l_holder (T : Txt K mg base) : FnOk P w K mg base CX0 1 T.f_l_holder T.d_l_holder ["_law_deputies_here", "_law_gone", "_law_person"] sp_holder_of := by
  refine T.F_l_holder.ok c_l_holder (fun vs H Q E h => ?_) (fun cdv A outer s H vs Q E hr h => ?_)
  · obtain ⟨a, b, ds, g, p, rfl, _⟩ := h
    rfl
  · obtain ⟨a, b, ds, g, p, rfl, ha, hb, D, h0, h1, q⟩ := h
    have nd := c_l_holder.nd
    refine ⟨_, pss_cons (ps_par (i := 3) (j := 4) (by rfl) nd rfl rfl (by decide) rfl rfl (pa_cons (pv 2) (pa_cons (pe_lst pa_nil) pa_nil)) (by rfl))
      (pss_cons (ps_for PassesOwn.never rfl (pi_range1 rfl T.z_range (pa_cons (pe_op op_add (pe_callB (crLen (K := K) rfl) (by rfl) T.z_len bt_len (pa_cons (pv 0) pa_nil)) pe_int) pa_nil)) (pg_name (i := 5) nd rfl (Or.inl rfl))
        (pss_cons (ps_if (PW.pt (pw_or (pt_cmpR op_eq (pv 3) (pe_un un_neg pe_int) (nomark _)) (pw_or1 (pt_cmpR op_in_seq (pv 3) (pv 4) (by rfl))))) (pss_one (ps_ret (pe_un un_neg pe_int))) pss_nil)
        (pss_cons (ps_if (pt_cmpR op_notIn_seq (pv 3) (pv 1) (by rfl)) (pss_one (ps_ret (pv 3))) pss_nil)
        (pss_cons (ps_expr (pe_bm PySem.F.plainAttrs_list PySem.F.slot_list_append PySem.F.type_list_append mt_append (pv 4) (pa_cons (pv 3) pa_nil)))
        (pss_one (ps_set (i := 3) nd rfl (.inl rfl) (pe_ix ix_tup (pv 0) (pv 3) (fun _ _ => rfl))))))))
      (pss_one (ps_ret (pe_un un_neg pe_int)))), ?_⟩
    have hl := vI_len ds
    have hm := D.most
    refine ⟨_, rfl, Nat.zero_le _, fun o no => ⟨_, _, rfl, ?_⟩⟩
    have s0 : Sm H (upd H o (.lst [])) := Sm.new no
    refine ⟨_, rfl, a, _, rfl, .inr (SqT.of (s0.tup ha)), _, _, rfl, rfl, _, rfl, by rw [hl]; omega, by rw [hl]; omega, for_range (lo := 0) (n := (((vI ds).length : Int) + 1).toNat) (fun i σ H' => ∃ (here : Int) (f : List Int) (z5 : Option V), σ = [some (.ref a), some (.ref b), some (.int p), some (.int here), some (.ref o), z5] ∧ Sm H H' ∧ H' o = some (.lst (vI f)) ∧ f.length = i ∧ -1 ≤ here ∧ here < ds.length ∧ fst? g (chT ds (ds.length + 1 - i) here f) = hold ds g p)
      ⟨p, [], none, rfl, s0, upd_same, rfl, by omega, h1, rfl⟩ ?_ ?_⟩
    · rintro i σ H' hi ⟨here, f, z5, rfl, s1, eo, el, l0, l1, ef⟩
      have k1 : ds.length + 1 - i = (ds.length - i) + 1 := by rw [hl] at hi; omega
      have k2 : ds.length + 1 - (i + 1) = ds.length - i := by omega
      rw [k1] at ef
      unfold chT at ef
      refine ⟨_, rfl, _, rfl, rfl, _, rfl, ite2 (fun e => ?_) (fun e => ?_)⟩
      · rw [dec_int] at e
        have e' : here = -1 := by simpa using e
        rw [if_neg (fun z => z.1 e')] at ef
        exact ⟨_, rfl, by show Q (.int (-1)) H'; have : hold ds g p = -1 := ef.symm; rw [← this]; exact q H' s1⟩
      · have e' : here ≠ -1 := fun z => e (by rw [dec_int]; simpa using z)
        refine ⟨_, rfl, _, rfl, o, _, rfl, .inl (SqL.of eo), rfl, flat_vI f, _, rfl, ite2 (fun e2 => ?_) (fun e2 => ?_)⟩
        · have e2' : here ∈ f := by
            by_cases z : here ∈ f
            · exact z
            · rw [inV_int, decide_eq_false z] at e2; exact absurd e2 (by decide)
          rw [if_neg (fun z => z.2 e2')] at ef
          exact ⟨_, rfl, by show Q (.int (-1)) H'; have : hold ds g p = -1 := ef.symm; rw [← this]; exact q H' s1⟩
        · have e2' : here ∉ f := fun z => e2 (by rw [inV_int, decide_eq_true z]; rfl)
          rw [if_pos ⟨e', e2'⟩] at ef
          have p0 : 0 ≤ here := by omega
          obtain ⟨at_, b1, b2⟩ := nx_ok D p0 l1
          refine ⟨_, rfl, _, rfl, b, _, rfl, .inr (SqT.of (s1.tup hb)), rfl, flat_vI g, _, rfl, ite2 (fun e3 => ?_) (fun e3 => ?_)⟩
          · have e3' : here ∉ g := fun z => by rw [inV_int, decide_eq_true z] at e3; exact absurd e3 (by decide)
            rw [fst_cons_out e3'] at ef
            exact ⟨_, rfl, by rw [ef]; exact q H' s1⟩
          · have e3' : here ∈ g := by
              by_cases z : here ∈ g
              · exact z
              · exact absurd (by rw [inV_int, decide_eq_false z]; rfl) e3
            rw [fst_cons_in e3'] at ef
            have s2 : Sm H (upd H' o (.lst (vI f ++ [.int here]))) := s1.put no
            refine ⟨_, rfl, .inl ⟨rfl, _, SqL.of eo⟩, _, rfl, o, _, _, rfl, rfl, eo, by rw [vI_len]; exact small1000 (by rw [hl] at hi; omega), ?_⟩
            refine ⟨_, rfl, _, rfl, a, _, _, _, rfl, rfl, SqT.of (s2.tup ha), ?_, nx ds here, f ++ [here], _, rfl, s2, ?_, by rw [List.length_append, List.length_singleton, el], b1, b2, by rw [k2]; exact ef⟩
            · obtain ⟨j, rfl⟩ : ∃ j : Nat, here = (j : Int) := ⟨here.toNat, by omega⟩
              exact atI_nat (vI_some at_)
            · rw [upd_same]; unfold vI; rw [List.map_append]; rfl
    · rintro σ H' ⟨here, f, z5, rfl, s1, eo, el, l0, l1, ef⟩
      rw [show ds.length + 1 - (((vI ds).length : Int) + 1).toNat = 0 by rw [hl]; omega] at ef
      exact ⟨_, rfl, by show Q (.int (-1)) H'; have : hold ds g p = -1 := ef.symm; rw [← this]; exact q H' s1⟩
theorem ok_l_holders (T : Txt K mg base) : FnOk P w K mg base CX0 2 T.f_l_holders T.d_l_holders ["_law_deputies_here", "_law_gone"] sp_all_holders := by
  have G1 : FnOk P w K mg base CX0 1 T.f_l_holder T.d_l_holder ["_law_deputies_here", "_law_gone", "_law_person"] sp_holder_of := ok_l_holder T
  refine T.F_l_holders.ok c_l_holders (fun vs H Q E h => ?_) (fun cdv A outer s H vs Q E hr h => ?_)
  · obtain ⟨a, b, ds, g, rfl, _⟩ := h
    rfl
  · obtain ⟨a, b, ds, g, rfl, ha, hb, D, q⟩ := h
    refine ⟨_, pss_one (ps_ret (pe_lc (own := [("_law_k", 2)]) (g := gName 2) (tt := tYes) (by rfl) c_l_holders.nd (pi_range1 rfl T.z_range (pa_cons (pe_callB (crLen (K := K) rfl) (by rfl) T.z_len bt_len (pa_cons (pv 0) pa_nil)) pa_nil))
      (blkOk_by (own := [("_law_k", 2)]) (N := ["_law_deputies_here", "_law_gone", "_law_k"]) (sc := defScope s_l_holders) (by decide +kernel)) (fun _ _ _ _ _ => pg_name (i := 2) c_l_holders.nd rfl (Or.inl rfl)) (fun _ _ _ _ _ => pts_nil)
      (fun _ _ _ _ _ => pe_call G1 hr (by rfl) T.g_l_holder T.F_l_holder.kp T.b_l_holder .nil pass0 (pa_cons (pv 0) (pa_cons (pv 1) (pa_cons (pv 2) pa_nil)))))), ?_⟩
    have hl := vI_len ds
    refine ⟨_, rfl, a, _, rfl, .inr (SqT.of ha), _, rfl, by rw [hl]; omega, by rw [hl]; have := D.most; omega, fun o no => ?_⟩
    have hlen : (holds ds g).length = ds.length := holds_len ds g
    refine lc_range (n := ((vI ds).length : Int).toNat) (fun i H' => Sm H H' ∧ H' o = some (.lst (vI ((holds ds g).take i)))) ⟨Sm.new no, by rw [upd_same]; rfl⟩ (fun i H' hi ⟨s1, eo⟩ => ?_) (fun H' ⟨s1, eo⟩ => ?_)
    · have hi2 : i < ds.length := by rw [hl] at hi; omega
      refine ⟨rfl, yesT ⟨_, rfl, _, rfl, _, rfl, a, b, ds, g, _, rfl, s1.tup ha, s1.tup hb, D, by omega, by omega, fun H2 s2 => ⟨_, s2.lst eo, ?_, (s1.trans s2).put no, ?_⟩⟩⟩
      · rw [vI_len, List.length_take]; exact small1000 (by have := D.most; omega)
      · rw [upd_same]
        have e1 : (holds ds g)[i]? = some (hold ds g (0 + (i : Int))) := by
          rw [Int.zero_add]; exact holds_at hi2
        rw [List.take_add_one, e1]
        unfold vI
        rw [List.map_append]
        rfl
    · have e1 : (holds ds g).take ((vI ds).length : Int).toNat = holds ds g := List.take_of_length_le (by rw [hlen, hl]; omega)
      rw [e1] at eo
      exact q H' o s1 no eo
end
end G6
set_option Elab.async false
set_option linter.all false
set_option maxRecDepth 100000
set_option maxHeartbeats 4000000
namespace G6
open PySem PySem.Spec PyProof.Rows L2 NX GxR
/-! ### what is handed on -/
theorem fst_snoc_ne {g : List Int} {q : Int} (h0 : 0 ≤ q) : ∀ {l : List Int}, fst? (g ++ [q]) l ≠ q
  | [] => by unfold fst?; show (-1 : Int) ≠ q; omega
  | x :: l => by
    by_cases z : x ∈ g ++ [q]
    · rw [fst_cons_in z]; exact fst_snoc_ne h0
    · rw [fst_cons_out z]
      exact fun e => z (by rw [e]; exact List.mem_append_right _ (List.mem_singleton.mpr rfl))
theorem fst_snoc_eq {g : List Int} {q : Int} : ∀ {l : List Int}, fst? g l ≠ q → fst? (g ++ [q]) l = fst? g l
  | [], _ => rfl
  | x :: l, h => by
    by_cases z : x ∈ g
    · rw [fst_cons_in z] at h ⊢
      rw [fst_cons_in (List.mem_append_left _ z)]
      exact fst_snoc_eq h
    · rw [fst_cons_out z] at h ⊢
      rw [fst_cons_out fun w => by
        rcases List.mem_append.mp w with w | w
        · exact z w
        · exact h (List.mem_singleton.mp w)]
theorem hold_nil {ds : List Int} (D : Dep ds) {p : Int} (h0 : 0 ≤ p) : hold ds [] p = p := by
  unfold hold chain
  unfold chT
  rw [if_pos ⟨by omega, by simp⟩]
  exact fst_cons_out (by simp)
def hdF (ds o : List Int) (p : Int) : Nat → List Int
  | 0 => [p]
  | i + 1 => if hold ds (o.take (i + 1)) p ≠ hold ds (o.take i) p then hdF ds o p i ++ [hold ds (o.take (i + 1)) p] else hdF ds o p i
theorem hd_ne {ds o : List Int} {p : Int} {i : Nat} {q : Int} (hq : o[i]? = some q) (h0 : 0 ≤ q) : hold ds (o.take (i + 1)) p ≠ hold ds (o.take i) p ↔ hold ds (o.take i) p = q := by
  have e : o.take (i + 1) = o.take i ++ [q] := by rw [List.take_add_one, hq]; rfl
  rw [e]
  constructor
  · intro h
    by_cases z : hold ds (o.take i) p = q
    · exact z
    · exact absurd (fst_snoc_eq z) h
  · intro h w
    rw [h] at w
    exact fst_snoc_ne h0 w
theorem hd_last {ds o : List Int} (D : Dep ds) {p : Int} (h0 : 0 ≤ p) : ∀ i, ∃ l, hdF ds o p i = l ++ [hold ds (o.take i) p]
  | 0 => ⟨[], by rw [List.take_zero, hold_nil D h0]; rfl⟩
  | i + 1 => by
    unfold hdF
    by_cases z : hold ds (o.take (i + 1)) p ≠ hold ds (o.take i) p
    · rw [if_pos z]; exact ⟨_, rfl⟩
    · rw [if_neg z]
      obtain ⟨l, e⟩ := hd_last D h0 i
      have z' : hold ds (o.take (i + 1)) p = hold ds (o.take i) p := by
        by_cases w : hold ds (o.take (i + 1)) p = hold ds (o.take i) p
        · exact w
        · exact absurd w z
      exact ⟨l, by rw [z']; exact e⟩
theorem hd_len (ds o : List Int) (p : Int) : ∀ i, (hdF ds o p i).length ≤ i + 1
  | 0 => Nat.le_refl _
  | i + 1 => by
    have := hd_len ds o p i
    unfold hdF
    by_cases z : hold ds (o.take (i + 1)) p ≠ hold ds (o.take i) p
    · rw [if_pos z, List.length_append, List.length_singleton]; omega
    · rw [if_neg z]; omega
/-- one turn: what the last but one costs -/
theorem hd_step {ds o cs : List Int} (D : Dep ds) {p : Int} (h0 : 0 ≤ p) {i : Nat} {q : Int} (hq : o[i]? = some q) (hq0 : 0 ≤ q) :
    ((hdF ds o p (i + 1)).dropLast.map (at0 cs)).sum = ((hdF ds o p i).dropLast.map (at0 cs)).sum + (if hold ds (o.take i) p = q then at0 cs q else 0) := by
  obtain ⟨l, e⟩ := hd_last (o := o) D h0 i
  conv => lhs; unfold hdF
  by_cases z : hold ds (o.take i) p = q
  · rw [if_pos ((hd_ne hq hq0).mpr z), if_pos z, List.dropLast_concat, e, List.dropLast_concat, List.map_append, List.sum_append, z]
    simp
  · rw [if_neg (fun w => z ((hd_ne hq hq0).mp w)), if_neg z]
    omega
theorem hd_rng {ds o : List Int} (D : Dep ds) {p : Int} (h0 : 0 ≤ p) (h1 : p < ds.length) (ho : ∀ x ∈ o, 0 ≤ x ∧ x < ds.length) : ∀ i, i ≤ o.length → ∀ x ∈ (hdF ds o p i).dropLast, 0 ≤ x ∧ x < ds.length
  | 0, _, x, h => absurd h (by simp [hdF])
  | i + 1, hi, x, h => by
    obtain ⟨q, hq⟩ := lt_some (l := o) (i := i) (by omega)
    have qr := ho q (List.mem_of_getElem? hq)
    obtain ⟨l, e⟩ := hd_last (o := o) D h0 i
    have ih := hd_rng D h0 h1 ho i (by omega)
    unfold hdF at h
    by_cases z : hold ds (o.take (i + 1)) p ≠ hold ds (o.take i) p
    · rw [if_pos z, List.dropLast_concat, e] at h
      rcases List.mem_append.mp h with w | w
      · exact ih x (by rw [e, List.dropLast_concat]; exact w)
      · rw [List.mem_singleton.mp w, (hd_ne hq qr.1).mp z]; exact qr
    · rw [if_neg z] at h
      exact ih x h
theorem sum_ite {f : Int → Int} {q c : Int} : ∀ L : List Int, (L.map fun p => if f p = q then c else 0).sum = c * ((L.map f).count q : Nat)
  | [] => by simp
  | p :: L => by
    rw [List.map_cons, List.sum_cons, List.map_cons, List.count_cons, sum_ite L]
    by_cases z : f p = q
    · rw [if_pos z, if_pos (by rw [z]; simp)]
      push_cast
      rw [Int.mul_add]
      omega
    · rw [if_neg z, if_neg (by simpa using z)]
      simp
theorem sum_add2 {f g : Int → Int} : ∀ L : List Int, (L.map fun p => f p + g p).sum = (L.map f).sum + (L.map g).sum
  | [] => rfl
  | p :: L => by
    rw [List.map_cons, List.sum_cons, sum_add2 L, List.map_cons, List.sum_cons, List.map_cons, List.sum_cons]
    omega
/-- the cost of an order, duty by duty -/
def handCost (ds cs o : List Int) (p : Int) : Int := ((hdF ds o p o.length).dropLast.map (at0 cs)).sum
theorem cost_upto {ds cs o : List Int} (D : Dep ds) (ho : ∀ x ∈ o, 0 ≤ x ∧ x < ds.length) : ∀ i, i ≤ o.length → ((upTo ds.length).map fun p => ((hdF ds o p i).dropLast.map (at0 cs)).sum).sum = tot ds cs (o.take i)
  | 0, _ => by
    have : ∀ L : List Int, (L.map fun p => ((hdF ds o p 0).dropLast.map (at0 cs)).sum).sum = 0 := by
      intro L
      induction L with
      | nil => rfl
      | cons x L ih => rw [List.map_cons, List.sum_cons, ih]; rfl
    rw [this]
    rfl
  | i + 1, hi => by
    obtain ⟨q, hq⟩ := lt_some (l := o) (i := i) (by omega)
    have qr := ho q (List.mem_of_getElem? hq)
    have e : o.take (i + 1) = o.take i ++ [q] := by rw [List.take_add_one, hq]; rfl
    rw [e, tot_snoc, ← cost_upto D ho i (by omega)]
    have h1 : ((upTo ds.length).map fun p => ((hdF ds o p (i + 1)).dropLast.map (at0 cs)).sum) = (upTo ds.length).map fun p => ((hdF ds o p i).dropLast.map (at0 cs)).sum + (if hold ds (o.take i) p = q then at0 cs q else 0) :=
      List.map_congr_left fun p hp => hd_step D (upTo_mem.mp hp).1 hq qr.1
    rw [h1, sum_add2, sum_ite]
    rfl
theorem cost_all {ds cs o : List Int} (D : Dep ds) (ho : ∀ x ∈ o, 0 ≤ x ∧ x < ds.length) : ((upTo ds.length).map (handCost ds cs o)).sum = tot ds cs o := by
  have := cost_upto (cs := cs) D ho o.length (Nat.le_refl _)
  rw [List.take_length] at this
  exact this
theorem cut_last (l : List Int) : cutV (vI l) none (some (-1)) = vI l.dropLast := by
  unfold cutV
  rw [HT.sIx_none, vI_len, List.drop_zero, Nat.sub_zero]
  have : HT.sIx l.length l.length (some (-1)) = l.length - 1 := by
    show (if (-1 : Int) < 0 then (-1 + (l.length : Int)).toNat else min (-1 : Int).toNat l.length) = _
    rw [if_pos (by decide)]
    omega
  rw [this, List.dropLast_eq_take]
  unfold vI
  rw [List.map_take]
section
variable {P : Program} {w : World} {K : PySem.W.Frag} {mg : Str → Option Value} {base : Heap}
def sp_l_handed : Sp := fun vs H Q _ => ∃ (a b : Addr) (ds o : List Int) (p : Int), vs = [.ref a, .ref b, .int p] ∧ H a = some (.tup (vI ds)) ∧ H b = some (.tup (vI o)) ∧ Dep ds ∧ o.length ≤ 6 ∧ 0 ≤ p ∧ p < ds.length ∧ ∀ H' t, Sm H H' → H t = none → H' t = some (.lst (vI (hdF ds o p o.length))) → Q (.ref t) H'
theorem ok_l_handed (T : Txt K mg base) : FnOk P w K mg base CX0 2 T.f_l_handed T.d_l_handed ["_law_deputies_here", "_law_order_here", "_law_person"] sp_l_handed := by
  have G1 : FnOk P w K mg base CX0 1 T.f_l_holder T.d_l_holder ["_law_deputies_here", "_law_gone", "_law_person"] sp_holder_of := ok_l_holder T
  refine T.F_l_handed.ok c_l_handed (fun vs H Q E h => ?_) (fun cdv A outer s H vs Q E hr h => ?_)
  · obtain ⟨a, b, ds, g, p, rfl, _⟩ := h
    rfl
  · obtain ⟨a, b, ds, l, p, rfl, ha, hb, D, hl6, h0, h1, q⟩ := h
    have nd := c_l_handed.nd
    refine ⟨_, pss_cons (ps_set (i := 3) nd rfl (.inl rfl) (pe_lst (pa_cons (pv 2) pa_nil)))
      (pss_cons (ps_for PassesOwn.never rfl (pi_range1 rfl T.z_range (pa_cons (pe_callB (crLen (K := K) rfl) (by rfl) T.z_len bt_len (pa_cons (pv 1) pa_nil)) pa_nil)) (pg_name (i := 4) nd rfl (Or.inl rfl))
        (pss_cons (ps_set (i := 5) nd rfl (.inl rfl) (pe_call G1 hr (by rfl) T.g_l_holder T.F_l_holder.kp T.b_l_holder .nil pass0 (pa_cons (pv 0) (pa_cons (pe_slice (slT (K := K) rfl) (pv 1) po_none (po_some (pe_op op_add (pv 4) pe_int))) (pa_cons (pv 2) pa_nil)))))
        (pss_one (ps_if (pt_cmpR op_ne (pv 5) (pe_ix ix_list (pv 3) (pe_un un_neg pe_int) (fun _ _ => rfl)) (nomark _))
          (pss_one (ps_expr (pe_bm PySem.F.plainAttrs_list PySem.F.slot_list_append PySem.F.type_list_append mt_append (pv 3) (pa_cons (pv 5) pa_nil)))) pss_nil))))
      (pss_one (ps_ret (pv 3)))), ?_⟩
    have hl := vI_len l
    refine ⟨_, rfl, by show 1 ≤ sizeLine; decide, fun o no => ?_⟩
    have s0 : Sm H (upd H o (.lst [.int p])) := Sm.new no
    refine ⟨_, rfl, b, _, rfl, .inr (SqT.of (s0.tup hb)), _, rfl, by rw [hl]; omega, by rw [hl]; omega, for_range (lo := 0) (n := ((vI l).length : Int).toNat) (fun i σ H' => ∃ z4 z5, σ = [some (.ref a), some (.ref b), some (.int p), some (.ref o), z4, z5] ∧ Sm H H' ∧ H' o = some (.lst (vI (hdF ds l p i)))) ⟨none, none, rfl, s0, upd_same⟩ ?_ ?_⟩
    · rintro i σ H' hi ⟨z4, z5, rfl, s1, eo⟩
      have hi2 : i < l.length := by rw [hl] at hi; omega
      obtain ⟨m, em⟩ := hd_last (o := l) D h0 i
      have tail : ∀ H3, Sm H' H3 → (hold ds (l.take (i + 1)) p ≠ hold ds (l.take i) p → Sm H (upd H3 o (.lst (vI (hdF ds l p i) ++ [.int (hold ds (l.take (i + 1)) p)]))) ∧ (upd H3 o (.lst (vI (hdF ds l p i) ++ [.int (hold ds (l.take (i + 1)) p)]))) o = some (.lst (vI (hdF ds l p (i + 1))))) ∧ (¬ (hold ds (l.take (i + 1)) p ≠ hold ds (l.take i) p) → Sm H H3 ∧ H3 o = some (.lst (vI (hdF ds l p (i + 1))))) := fun H3 s3 => by
        refine ⟨fun z => ⟨(s1.trans s3).put no, ?_⟩, fun z => ⟨s1.trans s3, ?_⟩⟩
        · rw [upd_same]
          conv => rhs; unfold hdF
          rw [if_pos z]
          unfold vI
          rw [List.map_append]
          rfl
        · conv => rhs; unfold hdF
          rw [if_neg z]
          exact s3.lst eo
      have ci : (0 + (i : Int)) + 1 = ((i + 1 : Nat) : Int) := by omega
      refine ⟨_, rfl, _, rfl, _, rfl, _, _, rfl, rfl, _, rfl, b, _, rfl, SqT.of (s1.tup hb), ?_⟩
      rw [ci]
      refine ⟨fun z => ?_, fun z g ng => ?_⟩
      · have s2 := Sm.refl H'
        have eg : H' b = some (.tup (vI (l.take (i + 1)))) := by
          have := z.2
          rw [HT.sIx_nat, hl, Nat.min_eq_left (by omega)] at this
          rw [this, List.take_length]
          exact s1.tup hb
        refine ⟨_, rfl, a, b, ds, l.take (i + 1), p, rfl, (s1.trans s2).tup ha, eg, D, h0, h1, fun H3 s3 => ?_⟩
        have eo3 := (s2.trans s3).lst eo
        have tl := tail H3 (s2.trans s3)
        refine ⟨_, rfl, _, rfl, _, rfl, o, _, _, _, rfl, rfl, SqL.of eo3, (by rw [em]; unfold vI; rw [List.map_append]; exact atI_last _ _), rfl, _, rfl, ite2 (fun e => ?_) (fun e => ?_)⟩
        · have e' : hold ds (l.take (i + 1)) p ≠ hold ds (l.take i) p := fun w => by rw [w] at e; simp at e
          refine ⟨_, rfl, .inl ⟨rfl, _, SqL.of eo3⟩, _, rfl, o, _, _, rfl, rfl, eo3, by rw [vI_len]; exact small1000 (by have := hd_len ds l p i; omega), _, _, rfl, (tl.1 e').1, (tl.1 e').2⟩
        · have e' : ¬ (hold ds (l.take (i + 1)) p ≠ hold ds (l.take i) p) := fun w => e (by simpa using w)
          exact ⟨_, _, rfl, (tl.2 e').1, (tl.2 e').2⟩
      · have s2 : Sm H' (upd H' g (.tup (cutV (vI l) none (some ((i + 1 : Nat) : Int))))) := Sm.new ng
        have eg : (upd H' g (.tup (cutV (vI l) none (some ((i + 1 : Nat) : Int))))) g = some (.tup (vI (l.take (i + 1)))) := by rw [upd_same, cut_to (by omega)]
        generalize (upd H' g (.tup (cutV (vI l) none (some ((i + 1 : Nat) : Int))))) = H2 at s2 eg
        refine ⟨_, rfl, a, g, ds, l.take (i + 1), p, rfl, (s1.trans s2).tup ha, eg, D, h0, h1, fun H3 s3 => ?_⟩
        have eo3 := (s2.trans s3).lst eo
        have tl := tail H3 (s2.trans s3)
        refine ⟨_, rfl, _, rfl, _, rfl, o, _, _, _, rfl, rfl, SqL.of eo3, (by rw [em]; unfold vI; rw [List.map_append]; exact atI_last _ _), rfl, _, rfl, ite2 (fun e => ?_) (fun e => ?_)⟩
        · have e' : hold ds (l.take (i + 1)) p ≠ hold ds (l.take i) p := fun w => by rw [w] at e; simp at e
          refine ⟨_, rfl, .inl ⟨rfl, _, SqL.of eo3⟩, _, rfl, o, _, _, rfl, rfl, eo3, by rw [vI_len]; exact small1000 (by have := hd_len ds l p i; omega), _, _, rfl, (tl.1 e').1, (tl.1 e').2⟩
        · have e' : ¬ (hold ds (l.take (i + 1)) p ≠ hold ds (l.take i) p) := fun w => e (by simpa using w)
          exact ⟨_, _, rfl, (tl.2 e').1, (tl.2 e').2⟩
    · rintro σ H' ⟨z4, z5, rfl, s1, eo⟩
      rw [show ((vI l).length : Int).toNat = l.length by rw [hl]; omega] at eo
      exact ⟨_, rfl, q H' o s1 no eo⟩
end
end G6
set_option Elab.async false
set_option linter.all false
set_option maxRecDepth 100000
set_option maxHeartbeats 4000000
namespace G6
open PySem PySem.Spec PyProof.Rows L2 NX GxR
/-! ### all orders -/
def ords : Nat → List Int → List (List Int)
  | 0, _ => [[]]
  | f + 1, l => if l = [] then [[]] else (List.range l.length).flatMap fun k => (ords f (l.take k ++ l.drop (k + 1))).map fun r => l.getD k 0 :: r
theorem ords_nil : ∀ f, ords f [] = [[]]
  | 0 => rfl
  | f + 1 => if_pos rfl
theorem cut_perm {l : List Int} {k : Nat} {x : Int} (h : l[k]? = some x) : (x :: (l.take k ++ l.drop (k + 1))).Perm l := by
  obtain ⟨hk, e⟩ := List.getElem?_eq_some_iff.mp h
  have e2 : l = l.take k ++ x :: l.drop (k + 1) := by
    rw [← e, List.getElem_cons_drop, List.take_append_drop]
  conv => rhs; rw [e2]
  exact List.perm_middle.symm
theorem mem_ords : ∀ (f : Nat) (l : List Int), l.length ≤ f → ∀ r, r ∈ ords f l ↔ r.Perm l
  | 0, l, h, r => by
    have : l = [] := List.eq_nil_of_length_eq_zero (by omega)
    subst this
    show r ∈ [[]] ↔ _
    rw [List.mem_singleton, List.perm_nil]
  | f + 1, l, h, r => by
    by_cases z : l = []
    · subst z
      rw [ords_nil, List.mem_singleton, List.perm_nil]
    · unfold ords
      rw [if_neg z, List.mem_flatMap]
      have len : ∀ k, k < l.length → (l.take k ++ l.drop (k + 1)).length ≤ f := fun k hk => by
        rw [List.length_append, List.length_take, List.length_drop]; omega
      constructor
      · rintro ⟨k, hk, hr⟩
        have hk2 := List.mem_range.mp hk
        obtain ⟨r', h1, rfl⟩ := List.mem_map.mp hr
        have p := (mem_ords f _ (len k hk2) r').mp h1
        have ek : l[k]? = some (l.getD k 0) := by
          rw [List.getD_eq_getElem?_getD, List.getElem?_eq_getElem hk2]; rfl
        exact (p.cons _).trans (cut_perm ek)
      · intro p
        cases r with
        | nil => exact absurd (List.nil_perm.mp p) z
        | cons x r =>
          obtain ⟨k, hk⟩ := List.mem_iff_getElem?.mp (p.mem_iff.mp List.mem_cons_self)
          have hk2 := (List.getElem?_eq_some_iff.mp hk).1
          refine ⟨k, List.mem_range.mpr hk2, List.mem_map.mpr ⟨r, (mem_ords f _ (len k hk2) r).mpr ?_, ?_⟩⟩
          · exact (p.trans (cut_perm hk).symm).cons_inv
          · rw [List.getD_eq_getElem?_getD, hk]; rfl
theorem flat_len {α β : Type} {f : α → List β} {m : Nat} : ∀ {L : List α}, (∀ x ∈ L, (f x).length ≤ m) → (L.flatMap f).length ≤ L.length * m
  | [], _ => by simp
  | x :: L, h => by
    have ih := flat_len (f := f) (m := m) (L := L) fun y hy => h y (List.mem_cons_of_mem _ hy)
    rw [List.flatMap_cons, List.length_append, List.length_cons, Nat.succ_mul]
    have := h x List.mem_cons_self
    omega
theorem ords_len : ∀ (f : Nat) (l : List Int), l.length ≤ 4 → (ords f l).length ≤ 4 ^ f
  | 0, _, _ => Nat.le_refl _
  | f + 1, l, h => by
    by_cases z : l = []
    · subst z
      rw [ords_nil]
      exact Nat.one_le_pow _ _ (by decide)
    · unfold ords
      rw [if_neg z]
      have := flat_len (f := fun k => (ords f (l.take k ++ l.drop (k + 1))).map fun r => l.getD k 0 :: r) (m := 4 ^ f) (L := List.range l.length) fun k hk => by
        have hk2 := List.mem_range.mp hk
        rw [List.length_map]
        exact ords_len f _ (by rw [List.length_append, List.length_take, List.length_drop]; omega)
      rw [List.length_range] at this
      have h2 : l.length * 4 ^ f ≤ 4 * 4 ^ f := Nat.mul_le_mul_right _ h
      rw [Nat.pow_succ, Nat.mul_comm]
      omega
theorem flat_snoc {α : Type} (f : Nat → List α) (i : Nat) : (List.range (i + 1)).flatMap f = (List.range i).flatMap f ++ f i := by
  rw [List.range_succ, List.flatMap_append]
  simp
section
variable {P : Program} {w : World} {K : PySem.W.Frag} {mg : Str → Option Value} {base : Heap}
def sp_l_cost : Sp := fun vs H Q _ => ∃ (a b c : Addr) (ds cs o : List Int), vs = [.ref a, .ref b, .ref c] ∧ H a = some (.tup (vI ds)) ∧ H b = some (.tup (vI cs)) ∧ H c = some (.tup (vI o)) ∧ Dep ds ∧ Cst ds.length cs ∧ (∀ x ∈ o, 0 ≤ x ∧ x < ds.length) ∧ o.length ≤ 6 ∧ ∀ H', Sm H H' → Q (.int (tot ds cs o)) H'
theorem ok_l_cost (T : Txt K mg base) : FnOk P w K mg base CX0 3 T.f_l_cost T.d_l_cost ["_law_deputies_here", "_law_costs", "_law_order_here"] sp_l_cost := by
  have G1 : FnOk P w K mg base CX0 2 T.f_l_handed T.d_l_handed ["_law_deputies_here", "_law_order_here", "_law_person"] sp_l_handed := ok_l_handed T
  refine T.F_l_cost.ok c_l_cost (fun vs H Q E h => ?_) (fun cdv A outer s H vs Q E hr h => ?_)
  · obtain ⟨a, b, c, ds, g, p, rfl, _⟩ := h
    rfl
  · obtain ⟨a, b, c, ds, cs, l, rfl, ha, hb, hc, D, C, rg, hl6, q⟩ := h
    have nd := c_l_cost.nd
    refine ⟨_, pss_cons (ps_set (i := 3) nd rfl (.inl rfl) pe_int)
      (pss_cons (ps_for PassesOwn.never rfl (pi_range1 rfl T.z_range (pa_cons (pe_callB (crLen (K := K) rfl) (by rfl) T.z_len bt_len (pa_cons (pv 0) pa_nil)) pa_nil)) (pg_name (i := 4) nd rfl (Or.inl rfl))
        (pss_cons (ps_set (i := 5) nd rfl (.inl rfl) (pe_call G1 hr (by rfl) T.g_l_handed T.F_l_handed.kp T.b_l_handed .nil pass0 (pa_cons (pv 0) (pa_cons (pv 2) (pa_cons (pv 4) pa_nil)))))
        (pss_one (ps_set (i := 3) nd rfl (.inl rfl) (pe_op op_add (pv 3) (pe_callB (cr_sum (by rfl)) (by rfl) T.z_sum bt_sum (pa_cons (pe_lc (own := [("_law_one", 6)]) (g := gName 6) (tt := tYes) (by rfl) nd (pi_list (pe_slice sl_list (pv 5) po_none (po_some (pe_un un_neg pe_int))))
          (blkOk_by (own := [("_law_one", 6)]) (N := ["_law_deputies_here", "_law_costs", "_law_order_here", "_law_total", "_law_k", "_law_some", "_law_one"]) (sc := defScope s_l_cost) (by decide +kernel)) (fun _ _ _ _ _ => pg_name (i := 6) nd rfl (Or.inl rfl)) (fun _ _ _ _ _ => pts_nil)
          (fun _ _ _ _ _ => pe_ix (ixT (K := K) rfl) (pv 1) (pv 6) (fun _ _ => rfl))) pa_nil)))))))
      (pss_one (ps_ret (pv 3)))), ?_⟩
    have hl := vI_len ds
    refine ⟨_, rfl, a, _, rfl, .inr (SqT.of ha), _, rfl, by rw [hl]; omega, by rw [hl]; have := D.most; omega, for_range (lo := 0) (n := ((vI ds).length : Int).toNat) (fun i σ H' => ∃ z4 z5 z6, σ = [some (.ref a), some (.ref b), some (.ref c), some (.int (((upTo ds.length).map (handCost ds cs l)).take i).sum), z4, z5, z6] ∧ Sm H H') ⟨none, none, none, rfl, Sm.refl H⟩ ?_ ?_⟩
    · rintro i σ H' hi ⟨z4, z5, z6, rfl, s1⟩
      have hi2 : i < ds.length := by rw [hl] at hi; omega
      refine ⟨_, rfl, _, rfl, _, rfl, a, c, ds, l, _, rfl, s1.tup ha, s1.tup hc, D, hl6, by omega, by omega, fun H2 t s2 nt et => ?_⟩
      have i0 : (0 + (i : Int)) = ((i : Nat) : Int) := by omega
      rw [i0] at et ⊢
      generalize hh : hdF ds l ((i : Nat) : Int) l.length = h at et
      have hr2 : ∀ x ∈ h.dropLast, 0 ≤ x ∧ x < ds.length := fun x hx => hd_rng D (p := (i : Nat)) (by omega) (by omega) rg l.length (Nat.le_refl _) x (by rw [hh]; exact hx)
      have hlen : h.length ≤ 7 := by have := hd_len ds l ((i : Nat) : Int) l.length; rw [hh] at this; omega
      refine ⟨_, rfl, _, rfl, _, rfl, _, rfl, t, _, rfl, SqL.of et, fun u nu => ?_⟩
      rw [cut_last]
      have s3 : Sm H2 (upd H2 u (.lst (vI h.dropLast))) := Sm.new nu
      have eu : (upd H2 u (.lst (vI h.dropLast))) u = some (.lst (vI h.dropLast)) := upd_same
      generalize (upd H2 u (.lst (vI h.dropLast))) = H3 at s3 eu
      refine ⟨u, rfl, ⟨_, SqL.of eu⟩, fun D2 nD2 => ?_⟩
      refine lc_list (xs := vI h.dropLast) (fun j H4 => Sm H3 H4 ∧ H4 D2 = some (.lst (vI ((h.dropLast.take j).map (at0 cs))))) ⟨Sm.new nD2, upd_same⟩ (fun j H4 _ ⟨s4, _⟩ => SqL.of (s4.lst eu)) (fun j x H4 hx ⟨s4, eD⟩ => ?_) (fun H4 ⟨s4, eD⟩ => ?_)
      · obtain ⟨k, hk, rfl⟩ := vI_at hx
        have kr := hr2 k (List.mem_of_getElem? hk)
        refine ⟨rfl, yesT ⟨_, rfl, _, rfl, b, _, _, _, rfl, rfl, SqT.of (s4.tup (s3.tup (s2.tup (s1.tup hb)))), atI_at0 kr.1 (by rw [C.len]; exact kr.2), _, eD, ?_, s4.put nD2, ?_⟩⟩
        · rw [vI_len, List.length_map, List.length_take, List.length_dropLast]; exact small1000 (by omega)
        · rw [upd_same, List.take_add_one, hk]; unfold vI; rw [List.map_append, List.map_append]; rfl
      · have e1 : h.dropLast.take (vI h.dropLast).length = h.dropLast := List.take_of_length_le (by rw [vI_len]; exact Nat.le_refl _)
        rw [e1] at eD
        refine ⟨D2, _, rfl, SqL.of eD, _, _, rfl, rfl, some (.int ((i : Nat) : Int)), some (.ref t), z6, ?_, (((s1.trans s2).trans s3).trans s4)⟩
        have e2 : ((upTo ds.length).map (handCost ds cs l))[i]? = some (handCost ds cs l ((i : Nat) : Int)) := by rw [List.getElem?_map, upTo_at hi2]; rfl
        rw [sum_take e2]
        unfold handCost
        rw [hh]
        rfl
    · rintro σ H' ⟨z4, z5, z6, rfl, s1⟩
      refine ⟨_, rfl, ?_⟩
      have e1 : ((upTo ds.length).map (handCost ds cs l)).take ((vI ds).length : Int).toNat = (upTo ds.length).map (handCost ds cs l) := List.take_of_length_le (by rw [List.length_map, upTo_len, hl]; omega)
      rw [e1, cost_all D rg]
      exact q H' s1
theorem ok_l_lots (T : Txt K mg base) : FnOk P w K mg base CX0 1 T.f_l_lots T.d_l_lots ["_law_size"] sp_all_lots := by
  refine T.F_l_lots.ok c_l_lots (fun vs H Q E h => ?_) (fun cdv A outer s H vs Q E hr h => ?_)
  · obtain ⟨n, rfl, _⟩ := h
    rfl
  · obtain ⟨n, rfl, hn, q⟩ := h
    have nd := c_l_lots.nd
    refine ⟨_, pss_cons (ps_set (i := 1) nd rfl (.inl rfl) (pe_lst (pa_cons (pe_tup pa_nil) pa_nil)))
      (pss_cons (ps_for PassesOwn.never rfl (pi_range1 rfl T.z_range (pa_cons (pv 0) pa_nil)) (pg_name (i := 2) nd rfl (Or.inr rfl))
        (pss_one (ps_set (i := 1) nd rfl (.inl rfl) (pe_op op_cat (pv 1) (pe_lc (own := [("_law_lot_here", 3)]) (g := gName 3) (tt := tYes) (by rfl) nd (pi_list (pv 1))
          (blkOk_by (own := [("_law_lot_here", 3)]) (N := ["_law_size", "_law_found", "_law_person", "_law_lot_here"]) (sc := defScope s_l_lots) (by decide +kernel)) (fun _ _ _ _ _ => pg_name (i := 3) nd rfl (Or.inl rfl)) (fun _ _ _ _ _ => pts_nil)
          (fun _ _ _ _ _ => pe_op (catA (K := K) rfl) (pv 3) (pe_tup (pa_cons (pv 2) pa_nil))))))))
      (pss_one (ps_ret (pe_callB (cr_sortT hr.units) (by rfl) T.z_sorted bt_sorted (pa_cons (pv 1) pa_nil))))), ?_⟩
    refine ⟨Nat.zero_le _, fun t nt => ⟨by show 1 ≤ sizeLine; decide, fun o no => ?_⟩⟩
    have s0 : Sm H (upd H t (.tup [])) := Sm.new nt
    have no' : H o = none := s0.dom o no
    have nto : t ≠ o := fun z => by rw [← z, upd_same] at no; cases no
    refine ⟨_, rfl, n, rfl, by omega, by omega, for_range (lo := 0) (n := (n : Int).toNat) (fun i σ H' => ∃ p rs y z, σ = [some (.int n), some (.ref p), y, z] ∧ Sm H H' ∧ H p = none ∧ H' p = some (.lst rs) ∧ ITs H' rs (lotsF i)) ⟨o, [.ref t], none, none, rfl, s0.trans (Sm.new no), no', upd_same, .cons ⟨t, rfl, (upd_ne nto).trans upd_same⟩ .nil⟩ ?_ ?_⟩
    · rintro i σ H' hi ⟨p, rs, y, z, rfl, s1, np, ep, hrs⟩
      have hi2 : i < n := by omega
      have hl := paired_len hrs
      have hsm := lotsF_small (k := i) (by omega)
      refine ⟨_, rfl, _, rfl, p, rfl, ⟨_, SqL.of ep⟩, fun D nD => ?_⟩
      have nDp : p ≠ D := ne_of_none ep nD
      refine lc_list (xs := rs) (fun j H2 => Sm H' H2 ∧ ∃ es, H2 D = some (.lst es) ∧ ITs H2 es (((lotsF i).take j).map fun l => l ++ [Int.ofNat i])) ⟨Sm.new nD, [], upd_same, .nil⟩ (fun j H2 _ ⟨s2, _⟩ => SqL.of (s2.lst ep)) (fun j x H2 hx ⟨s2, es, eD, hes⟩ => ?_) (fun H2 ⟨s2, es, eD, hes⟩ => ?_)
      · obtain ⟨l, hl2, tx, rfl, htx⟩ := paired_at hrs hx
        have hj : j < (lotsF i).length := (List.getElem?_eq_some_iff.mp hl2).1
        have el := paired_len hes
        have htx2 := s2.tup htx
        have llen := lotsF_llen (List.mem_of_getElem? hl2)
        have fin : ∀ H3 u, Sm H2 H3 → H3 D = some (.lst es) → H3 u = some (.tup (vI (l ++ [Int.ofNat i]))) → ∃ acc, H3 D = some (.lst acc) ∧ acc.length < sizeLine ∧ Sm H' (upd H3 D (.lst (acc ++ [.ref u]))) ∧ ∃ es, (upd H3 D (.lst (acc ++ [.ref u]))) D = some (.lst es) ∧ ITs (upd H3 D (.lst (acc ++ [.ref u]))) es (((lotsF i).take (j + 1)).map fun l => l ++ [Int.ofNat i]) := fun H3 u s3 eD3 eu => by
          refine ⟨es, eD3, ?_, (s2.trans s3).put nD, _, upd_same, ?_⟩
          · rw [el, List.length_map, List.length_take]; exact small1000 (by omega)
          · rw [List.take_add_one, hl2, List.map_append]
            have hu : IT (upd H3 D (.lst (es ++ [.ref u]))) (.ref u) (l ++ [Int.ofNat i]) := ⟨u, rfl, by rw [upd_ne (fun z => by rw [z, eD3] at eu; cases eu)]; exact eu⟩
            exact paired_app (ITs.put (hes.sm s3) eD3) (.cons hu .nil)
        refine ⟨rfl, yesT ⟨_, rfl, _, rfl, by show 1 ≤ sizeLine; decide, fun u nu => ?_⟩⟩
        have s3 : Sm H2 (upd H2 u (.tup [.int (0 + (i : Int))])) := Sm.new nu
        have eu : (upd H2 u (.tup [.int (0 + (i : Int))])) u = some (.tup [.int (0 + (i : Int))]) := upd_same
        generalize (upd H2 u (.tup [.int (0 + (i : Int))])) = H3 at s3 eu
        have eD3 := s3.lst eD
        have i0 : (0 + (i : Int)) = Int.ofNat i := by show (0 + (i : Int)) = (i : Int); omega
        rw [i0] at eu
        refine ⟨tx, u, _, _, rfl, rfl, SqT.of (s3.tup htx2), SqT.of eu, ?_, fun e => ?_, (fun _ e => by cases e), fun _ _ v nv => ?_⟩
        · rw [vI_len]; exact Nat.le_of_lt (small1000 (by show l.length + 1 ≤ 1000; omega))
        · have : l = [] := by
            cases l with
            | nil => rfl
            | cons x l => cases e
          subst this
          exact fin H3 u s3 eD3 eu
        · have s4 : Sm H3 (upd H3 v (.tup (vI l ++ [.int (Int.ofNat i)]))) := Sm.new nv
          refine fin _ v (s3.trans s4) (s4.lst eD3) ?_
          rw [upd_same]; unfold vI; rw [List.map_append]; rfl
      · have e1 : (lotsF i).take rs.length = lotsF i := List.take_of_length_le (by rw [hl]; exact Nat.le_refl _)
        rw [e1] at hes
        have el := paired_len hes
        rw [List.length_map] at el
        refine ⟨p, D, rs, es, rfl, rfl, s2.lst ep, eD, by rw [el, hl]; exact Nat.le_of_lt (small1000 (by omega)), fun r nr => ?_⟩
        have s3 := s1.trans s2
        refine ⟨r, rs ++ es, _, _, rfl, s3.trans (Sm.new nr), s3.dom r nr, upd_same, ?_⟩
        unfold lotsF
        exact ITs.sm (Sm.new nr) (paired_app (hrs.sm s2) hes)
    · rintro σ H' ⟨p, rs, y, z, rfl, s1, np, ep, hrs⟩
      obtain ⟨r, er⟩ := lotsF_head n
      have e0 : lotsF (n : Int).toNat = [] :: r := by rw [← er]; rfl
      rw [e0] at hrs
      cases hrs with
      | @cons x0 _ xs0 _ h0 ht =>
        have hall : ITs H' (x0 :: xs0) ([] :: r) := .cons h0 ht
        refine ⟨_, rfl, p, x0, xs0, ct H', rfl, SqL.of ep, (IT.ct h0).1, fun y hy => ?_, fun ys r2 hp nr => ?_⟩
        · obtain ⟨l, _, hl⟩ := paired_mem hall hy
          exact (IT.ct hl).2
        · obtain ⟨g1, g2⟩ := ITs.perm hall hp
          exact q _ r2 ys _ (s1.trans (Sm.new nr)) (s1.dom r2 nr) upd_same (ITs.sm (Sm.new nr) g1) (by rw [er]; exact g2)
end
end G6
set_option Elab.async false
set_option linter.all false
set_option maxRecDepth 100000
set_option maxHeartbeats 4000000
namespace G6
open PySem PySem.Spec PyProof.Rows L2 NX GxR
theorem cut_from {l : List Int} {i : Nat} (h : i ≤ l.length) : cutV (vI l) (some ((i : Nat) : Int)) none = vI (l.drop i) := by
  unfold cutV
  rw [HT.sIx_none, HT.sIx_nat, vI_len, Nat.min_eq_left h]
  unfold vI
  rw [← List.map_drop, List.take_of_length_le]
  rw [List.length_map, List.length_drop]
  exact Nat.le_refl _
theorem lay_dI : ∀ l : List Int, PyData.canLayAll0 (dI l) = true
  | [] => rfl
  | x :: l => by
    have ih := lay_dI l
    show (PyData.canLay0 (.int x) && PyData.canLayAll0 (dI l)) = true
    rw [ih]
    rfl
theorem shaped_dI : ∀ l : List Int, SeqAt.shaped (.list (dI l)) = true := fun l => by
  unfold SeqAt.shaped
  rw [show PyData.canLay0 (.list (dI l)) = PyData.canLayAll0 (dI l) from rfl, lay_dI]
  simp [PyData.depth, depth_dI]
theorem shaped_tI : ∀ l : List Int, SeqAt.shaped (.tuple (dI l)) = true := fun l => by
  unfold SeqAt.shaped
  rw [show PyData.canLay0 (.tuple (dI l)) = PyData.canLayAll0 (dI l) from rfl, lay_dI]
  simp [PyData.depth, depth_dI]
theorem lay_tI : ∀ ls : List (List Int), PyData.canLayAll0 (ls.map fun l => .tuple (dI l)) = true
  | [] => rfl
  | x :: l => by
    have ih := lay_tI l
    show (PyData.canLayAll0 (dI x) && PyData.canLayAll0 (l.map fun l => .tuple (dI l))) = true
    rw [ih, lay_dI]
    rfl
theorem depth_tI : ∀ ls : List (List Int), PyData.depthAll (ls.map fun l => .tuple (dI l)) ≤ 1
  | [] => by simp [PyData.depthAll]
  | x :: l => by
    have ih := depth_tI l
    simp [PyData.depthAll, PyData.depth, depth_dI]
    omega
theorem shaped_ls : ∀ ls : List (List Int), SeqAt.shaped (.list (ls.map fun l => .tuple (dI l))) = true := fun ls => by
  unfold SeqAt.shaped
  rw [show PyData.canLay0 (.list (ls.map fun l => .tuple (dI l))) = PyData.canLayAll0 (ls.map fun l => .tuple (dI l)) from rfl, lay_tI]
  have := depth_tI ls
  simp [PyData.depth]
  omega
theorem eqv_nil (l : List Int) : PyData.eqv (.list (dI l)) (.list []) = decide (l = []) := by
  cases l with
  | nil => simp [dI, PyData.eqv, PyData.eqvAll]
  | cons x l => simp [dI, PyData.eqv, PyData.eqvAll]
section
variable {P : Program} {w : World} {K : PySem.W.Frag} {mg : Str → Option Value} {base : Heap}
def sp_l_orders (k : Nat) : Sp := fun vs H Q _ => ∃ (a : Addr) (l : List Int), vs = [.ref a] ∧ H a = some (.lst (vI l)) ∧ l.length ≤ k ∧ ∀ H' t rs, Sm H H' → H t = none → H' t = some (.lst rs) → ITs H' rs (ords k l) → Q (.ref t) H'
theorem ok_l_orders (T : Txt K mg base) : ∀ k, k ≤ 4 → FnOk P w K mg base CX0 (k + 1) T.f_l_orders T.d_l_orders ["_law_some"] (sp_l_orders k)
  | 0, _ => by
    refine T.F_l_orders.ok c_l_orders (fun vs H Q E h => ?_) (fun cdv A outer s H vs Q E hr h => ?_)
    · obtain ⟨a, l, rfl, _⟩ := h
      rfl
    · obtain ⟨a, l, rfl, ha, hl, q⟩ := h
      have e : l = [] := List.eq_nil_of_length_eq_zero (by omega)
      subst e
      refine ⟨_, pss_cons (ps_if (pt_cmpR (op_eqD hr.units) (pv 0) (pe_lst pa_nil) (nomark _)) (pss_one (ps_ret (pe_lst (pa_cons (pe_tup pa_nil) pa_nil)))) pss_nil) pss_never, ?_⟩
      refine ⟨_, rfl, Nat.zero_le _, fun L nL => ?_⟩
      have s1 : Sm H (upd H L (.lst [])) := Sm.new nL
      have eL : (upd H L (.lst [])) L = some (.lst (vI [])) := upd_same
      generalize (upd H L (.lst [])) = H1 at s1 eL
      refine ⟨.list (dI []), .list (dI []), .lst (SqL.of (s1.lst ha)) .nil, .lst (SqL.of eL) .nil, shaped_dI _, shaped_dI _, _, rfl, ifY (eqv_nil []) ?_⟩
      refine ⟨Nat.zero_le _, fun t nt => ⟨by show 1 ≤ sizeLine; decide, fun o no => ?_⟩⟩
      have s2 : Sm H1 (upd H1 t (.tup [])) := Sm.new nt
      have nto : t ≠ o := fun z => by rw [← z, upd_same] at no; cases no
      exact q _ o [.ref t] ((s1.trans s2).trans (Sm.new no)) ((s1.trans s2).dom o no) upd_same (.cons ⟨t, rfl, (upd_ne nto).trans upd_same⟩ .nil)
  | k + 1, hk => by
    have G1 : FnOk P w K mg base CX0 (k + 1) T.f_l_orders T.d_l_orders ["_law_some"] (sp_l_orders k) := ok_l_orders T k (by omega)
    refine T.F_l_orders.ok c_l_orders (fun vs H Q E h => ?_) (fun cdv A outer s H vs Q E hr h => ?_)
    · obtain ⟨a, l, rfl, _⟩ := h
      rfl
    · obtain ⟨a, l, rfl, ha, hl, q⟩ := h
      have nd := c_l_orders.nd
      refine ⟨_, pss_cons (ps_if (pt_cmpR (op_eqD hr.units) (pv 0) (pe_lst pa_nil) (nomark _)) (pss_one (ps_ret (pe_lst (pa_cons (pe_tup pa_nil) pa_nil)))) pss_nil)
        (pss_cons (ps_set (i := 1) nd rfl (.inl rfl) (pe_lst pa_nil))
        (pss_cons (ps_for PassesOwn.never rfl (pi_range1 rfl T.z_range (pa_cons (pe_callB (crLen (K := K) rfl) (by rfl) T.z_len bt_len (pa_cons (pv 0) pa_nil)) pa_nil)) (pg_name (i := 2) nd rfl (Or.inr rfl))
          (pss_one (ps_set (i := 1) nd rfl (.inl rfl) (pe_op op_cat (pv 1) (pe_lc (own := [("_law_rest", 3)]) (g := gName 3) (tt := tYes) (by rfl) nd (pi_list (pe_call G1 hr (by rfl) T.g_l_orders T.F_l_orders.kp T.b_l_orders .nil pass0 (pa_cons (pe_op op_cat (pe_slice sl_list (pv 0) po_none (po_some (pv 2))) (pe_slice sl_list (pv 0) (po_some (pe_op op_add (pv 2) pe_int)) po_none)) pa_nil)))
            (blkOk_by (own := [("_law_rest", 3)]) (N := ["_law_some", "_law_found", "_law_k", "_law_rest"]) (sc := defScope s_l_orders) (by decide +kernel)) (fun _ _ _ _ _ => pg_name (i := 3) nd rfl (Or.inl rfl)) (fun _ _ _ _ _ => pts_nil)
            (fun _ _ _ _ _ => pe_op (catA (K := K) rfl) (pe_tup (pa_cons (pe_ix (ixL (K := K) rfl) (pv 0) (pv 2) (fun _ _ => rfl)) pa_nil)) (pv 3)))))))
        (pss_one (ps_ret (pv 1))))), ?_⟩
      refine ⟨_, rfl, Nat.zero_le _, fun L nL => ?_⟩
      have s1 : Sm H (upd H L (.lst [])) := Sm.new nL
      have eL : (upd H L (.lst [])) L = some (.lst (vI [])) := upd_same
      generalize (upd H L (.lst [])) = H1 at s1 eL
      refine ⟨.list (dI l), .list (dI []), .lst (SqL.of (s1.lst ha)) (dpAll_ints l), .lst (SqL.of eL) .nil, shaped_dI _, shaped_dI _, _, rfl, ite2 (fun e => ?_) (fun e => ?_)⟩
      · have el : l = [] := by
          rw [show (dI []) = [] from rfl, eqv_nil] at e
          exact of_decide_eq_true e
        subst el
        refine ⟨Nat.zero_le _, fun t nt => ⟨by show 1 ≤ sizeLine; decide, fun o no => ?_⟩⟩
        have s2 : Sm H1 (upd H1 t (.tup [])) := Sm.new nt
        have nto : t ≠ o := fun z => by rw [← z, upd_same] at no; cases no
        exact q _ o [.ref t] ((s1.trans s2).trans (Sm.new no)) ((s1.trans s2).dom o no) upd_same (by rw [ords_nil]; exact .cons ⟨t, rfl, (upd_ne nto).trans upd_same⟩ .nil)
      · have ne : l ≠ [] := fun z => by subst z; exact e (eqv_nil [])
        have hlen := vI_len l
        have sub : ∀ i, i < l.length → (ords k (l.take i ++ l.drop (i + 1))).length ≤ 4 ^ k := fun i hi => ords_len k _ (by rw [List.length_append, List.length_take, List.length_drop]; omega)
        have p4 : 4 ^ k ≤ 64 := Nat.pow_le_pow_right (n := 4) (by decide) (show k ≤ 3 by omega)
        refine ⟨Nat.zero_le _, fun o no => ?_⟩
        have no' := s1.dom o no
        refine ⟨_, rfl, a, _, rfl, .inl (SqL.of ((s1.trans (Sm.new no)).lst ha)), _, rfl, by rw [hlen]; omega, by rw [hlen]; omega, for_range (lo := 0) (n := ((vI l).length : Int).toNat) (fun i σ H' => ∃ p rs z2 z3, σ = [some (.ref a), some (.ref p), z2, z3] ∧ Sm H H' ∧ H p = none ∧ H' p = some (.lst rs) ∧ ITs H' rs ((List.range i).flatMap fun j => (ords k (l.take j ++ l.drop (j + 1))).map fun r => l.getD j 0 :: r))
          ⟨o, [], none, none, rfl, s1.trans (Sm.new no), no', upd_same, .nil⟩ ?_ ?_⟩
        · rintro i σ H' hi ⟨p, rs, z2, z3, rfl, s2, np, ep, hrs⟩
          have hi2 : i < l.length := by rw [hlen] at hi; omega
          obtain ⟨x, hx⟩ := lt_some hi2
          have i0 : (0 + (i : Int)) = ((i : Nat) : Int) := by omega
          have i1 : ((i : Nat) : Int) + 1 = ((i + 1 : Nat) : Int) := by omega
          have rlen : rs.length ≤ 256 := by
            rw [paired_len hrs]
            have := flat_len (f := fun j => (ords k (l.take j ++ l.drop (j + 1))).map fun r => l.getD j 0 :: r) (m := 4 ^ k) (L := List.range i) fun j hj => by
              rw [List.length_map]; exact sub j (by have := List.mem_range.mp hj; omega)
            rw [List.length_range] at this
            have h2 : i * 4 ^ k ≤ 4 * 64 := Nat.mul_le_mul (by omega) p4
            omega
          rw [i0]
          -- found + [..]: the slices
          refine ⟨_, rfl, _, rfl, _, rfl, _, rfl, a, _, rfl, SqL.of (s2.lst ha), fun u nu => ?_⟩
          rw [cut_to (Nat.le_of_lt hi2)]
          have s3 : Sm H' (upd H' u (.lst (vI (l.take i)))) := Sm.new nu
          have eu : (upd H' u (.lst (vI (l.take i)))) u = some (.lst (vI (l.take i))) := upd_same
          generalize (upd H' u (.lst (vI (l.take i)))) = H2 at s3 eu
          refine ⟨_, rfl, _, rfl, _, _, rfl, rfl, _, rfl, a, _, rfl, SqL.of (s3.lst (s2.lst ha)), fun v nv => ?_⟩
          rw [i1, cut_from (by omega)]
          have s4 : Sm H2 (upd H2 v (.lst (vI (l.drop (i + 1))))) := Sm.new nv
          have ev : (upd H2 v (.lst (vI (l.drop (i + 1))))) v = some (.lst (vI (l.drop (i + 1)))) := upd_same
          generalize (upd H2 v (.lst (vI (l.drop (i + 1))))) = H3 at s4 ev
          refine ⟨u, v, _, _, rfl, rfl, s4.lst eu, ev, ?_, fun y ny => ?_⟩
          · rw [vI_len, vI_len, List.length_take, List.length_drop]; exact Nat.le_of_lt (small1000 (by omega))
          have s5 : Sm H3 (upd H3 y (.lst (vI (l.take i) ++ vI (l.drop (i + 1))))) := Sm.new ny
          have ey : (upd H3 y (.lst (vI (l.take i) ++ vI (l.drop (i + 1))))) y = some (.lst (vI (l.take i ++ l.drop (i + 1)))) := by rw [upd_same]; unfold vI; rw [List.map_append]
          generalize (upd H3 y (.lst (vI (l.take i) ++ vI (l.drop (i + 1))))) = H4 at s5 ey
          have s25 := ((s3.trans s4).trans s5)
          refine ⟨y, _, rfl, ey, by rw [List.length_append, List.length_take, List.length_drop]; omega, fun H5 t ts s6 nt et hts => ?_⟩
          have s26 := s25.trans s6
          refine ⟨t, rfl, ⟨_, SqL.of et⟩, fun D nD => ?_⟩
          have tl := paired_len hts
          have tsub := sub i hi2
          refine lc_list (xs := ts) (fun j H6 => Sm H5 H6 ∧ ∃ es, H6 D = some (.lst es) ∧ ITs H6 es (((ords k (l.take i ++ l.drop (i + 1))).take j).map fun r => l.getD i 0 :: r)) ⟨Sm.new nD, [], upd_same, .nil⟩ (fun j H6 _ ⟨s7, _⟩ => SqL.of (s7.lst et)) (fun j xx H6 hxx ⟨s7, es, eD, hes⟩ => ?_) (fun H6 ⟨s7, es, eD, hes⟩ => ?_)
          · obtain ⟨r, hr2, tx, rfl, htx⟩ := paired_at hts hxx
            have hj : j < (ords k (l.take i ++ l.drop (i + 1))).length := (List.getElem?_eq_some_iff.mp hr2).1
            have el := paired_len hes
            have htx2 := s7.tup htx
            have fin : ∀ H7 u, Sm H6 H7 → H7 D = some (.lst es) → H7 u = some (.tup (vI (l.getD i 0 :: r))) → ∃ acc, H7 D = some (.lst acc) ∧ acc.length < sizeLine ∧ Sm H5 (upd H7 D (.lst (acc ++ [.ref u]))) ∧ ∃ es, (upd H7 D (.lst (acc ++ [.ref u]))) D = some (.lst es) ∧ ITs (upd H7 D (.lst (acc ++ [.ref u]))) es (((ords k (l.take i ++ l.drop (i + 1))).take (j + 1)).map fun r => l.getD i 0 :: r) := fun H7 u s8 eD7 eu => by
              refine ⟨es, eD7, ?_, (s7.trans s8).put nD, _, upd_same, ?_⟩
              · rw [el, List.length_map, List.length_take]; exact small1000 (by omega)
              · rw [List.take_add_one, hr2, List.map_append]
                have hu : IT (upd H7 D (.lst (es ++ [.ref u]))) (.ref u) (l.getD i 0 :: r) := ⟨u, rfl, by rw [upd_ne (fun z => by rw [z, eD7] at eu; cases eu)]; exact eu⟩
                exact paired_app (ITs.put (hes.sm s8) eD7) (.cons hu .nil)
            have gx : l.getD i 0 = x := by rw [List.getD_eq_getElem?_getD, hx]; rfl
            have rl : r.length ≤ 4 := by
              have pm := (mem_ords k (l.take i ++ l.drop (i + 1)) (by rw [List.length_append, List.length_take, List.length_drop]; omega) r).mp (List.mem_of_getElem? hr2)
              rw [pm.length_eq, List.length_append, List.length_take, List.length_drop]; omega
            refine ⟨rfl, yesT ⟨_, rfl, _, rfl, a, _, _, _, rfl, rfl, SqL.of (s7.lst (s26.lst (s2.lst ha))), atI_nat (vI_some hx), by show 1 ≤ sizeLine; decide, fun u nu => ?_⟩⟩
            have s8 : Sm H6 (upd H6 u (.tup [.int x])) := Sm.new nu
            have eu : (upd H6 u (.tup [.int x])) u = some (.tup [.int x]) := upd_same
            generalize (upd H6 u (.tup [.int x])) = H7 at s8 eu
            refine ⟨_, rfl, u, tx, _, _, rfl, rfl, SqT.of eu, SqT.of (s8.tup htx2), ?_, (fun e => by cases e), (fun _ e => ?_), fun _ _ v nv => ?_⟩
            · rw [vI_len]; exact Nat.le_of_lt (small1000 (by show 1 + r.length ≤ 1000; omega))
            · have : r = [] := by
                cases r with
                | nil => rfl
                | cons x l => cases e
              subst this
              exact fin H7 u s8 (s8.lst eD) (by rw [gx]; exact eu)
            · have s9 : Sm H7 (upd H7 v (.tup ([.int x] ++ vI r))) := Sm.new nv
              refine fin _ v (s8.trans s9) (s9.lst (s8.lst eD)) ?_
              rw [upd_same, gx]; rfl
          · have e1 : (ords k (l.take i ++ l.drop (i + 1))).take ts.length = ords k (l.take i ++ l.drop (i + 1)) := List.take_of_length_le (by rw [tl]; exact Nat.le_refl _)
            rw [e1] at hes
            have el := paired_len hes
            rw [List.length_map] at el
            have s27 := s26.trans s7
            refine ⟨p, D, rs, es, rfl, rfl, s27.lst ep, eD, by rw [el]; exact Nat.le_of_lt (small1000 (by omega)), fun r nr => ?_⟩
            have s28 := s2.trans s27
            refine ⟨r, rs ++ es, _, _, rfl, s28.trans (Sm.new nr), s28.dom r nr, upd_same, ?_⟩
            rw [flat_snoc]
            exact ITs.sm (Sm.new nr) (paired_app (hrs.sm s27) hes)
        · rintro σ H' ⟨p, rs, z2, z3, rfl, s2, np, ep, hrs⟩
          refine ⟨_, rfl, q H' p rs s2 np ep ?_⟩
          unfold ords
          rw [if_neg ne]
          rw [show ((vI l).length : Int).toNat = l.length by rw [hlen]; omega] at hrs
          exact hrs
def sp_l_order (K : PySem.W.Frag) : Sp := fun vs H Q _ => ∃ (r sa : Addr) (ns : List Int) (n : Nat), vs = [.ref r, .int n] ∧ n ≤ 6 ∧ RowH K H r sa ns ∧ ∀ H' t l, Sr K r sa ns H H' → H' t = some (.tup (vI l)) → l.Perm (upTo n) → Q (.ref t) H'
theorem filter_step {m : List Int} {one : Int} : ∀ (j : Nat) (k : Int), m[j]? = some k → (m.take (j + 1)).filter (fun x => decide (x ≠ one)) = (m.take j).filter (fun x => decide (x ≠ one)) ++ (if k ≠ one then [k] else []) := fun j k hk => by
  rw [List.take_add_one, hk, List.filter_append]
  congr 1
  by_cases z : k = one
  · simp [z]
  · simp [z]
theorem filter_perm {m : List Int} {one : Int} (nd : m.Nodup) (h : one ∈ m) : (one :: m.filter fun x => decide (x ≠ one)).Perm m := by
  have e : (m.filter fun x => decide (x ≠ one)) = m.erase one := by
    rw [nd.erase_eq_filter]
    refine List.filter_congr fun x _ => ?_
    by_cases z : x = one <;> simp [z]
  rw [e]
  exact (List.perm_cons_erase h).symm
theorem ok_l_order (T : Txt K mg base) : FnOk P w K mg base CX0 3 T.f_l_order T.d_l_order ["_law_row", "_law_size"] (sp_l_order K) := by
  have G1 : FnOk P w K mg base CX0 2 T.f_l_pick T.d_l_pick ["_law_row", "_law_things"] (sp_l_pick K) := ok_l_pick T
  refine T.F_l_order.ok c_l_order (fun vs H Q E h => ?_) (fun cdv A outer s H vs Q E hr h => ?_)
  · obtain ⟨r, sa, ns, n, rfl, _⟩ := h
    rfl
  · obtain ⟨r, sa, ns, n, rfl, n6, R, q⟩ := h
    have nd := c_l_order.nd
    refine ⟨_, pss_cons (ps_par (i := 2) (j := 3) (by rfl) nd rfl rfl (by decide) rfl rfl (pa_cons (pe_tup pa_nil) (pa_cons (pe_listRg (by rfl) (by rfl) T.z_list (prg_1 (by rfl) T.z_range (pv 1))) pa_nil)) (by rfl))
      (pss_cons (ps_for PassesOwn.never rfl (pi_range1 rfl T.z_range (pa_cons (pv 1) pa_nil)) (pg_name (i := 4) nd rfl (Or.inl rfl))
        (pss_cons (ps_set (i := 5) nd rfl (.inr rfl) (pe_call G1 hr (by rfl) T.g_l_pick T.F_l_pick.kp T.b_l_pick .nil pass0 (pa_cons (pv 0) (pa_cons (pv 3) pa_nil))))
        (pss_one (ps_par (i := 2) (j := 3) (by rfl) nd rfl rfl (by decide) rfl rfl (pa_cons (pe_op (catA (K := K) rfl) (pv 2) (pe_tup (pa_cons (pv 5) pa_nil))) (pa_cons (pe_lc (own := [("_law_k", 6)]) (g := gName 6) (by rfl) nd (pi_list (pv 3))
          (blkOk_by (own := [("_law_k", 6)]) (N := ["_law_row", "_law_size", "_law_found", "_law_left", "_law_turn", "_law_one", "_law_k"]) (sc := defScope s_l_order) (by decide +kernel)) (fun _ _ _ _ _ => pg_name (i := 6) nd rfl (Or.inl rfl)) (fun _ _ _ _ _ => pts_one (pt_cmpR op_ne (pv 6) (pv 5) (nomark _)))
          (fun _ _ _ _ _ => pv 6)) pa_nil)) (by rfl)))))
      (pss_one (ps_ret (pv 2)))), ?_⟩
    obtain ⟨or_, er⟩ := R.some
    refine ⟨Nat.zero_le _, fun t nt => ⟨_, rfl, _, rfl, RgOk.of_le (by decide) (by omega) (by decide) (by omega), fun L nL => ⟨_, _, rfl, ?_⟩⟩⟩
    have s1 : Sm H (upd H t (.tup [])) := Sm.new nt
    have s2 : Sm (upd H t (.tup [])) (upd (upd H t (.tup [])) L (.lst (rgV 0 (n : Nat)))) := Sm.new nL
    have et := s2.tup (a := t) (xs := []) upd_same
    have nLH := s1.dom L nL
    have eL : (upd (upd H t (.tup [])) L (.lst (rgV 0 (n : Nat)))) L = some (.lst (vI (upTo n))) := by
      rw [upd_same]
      unfold rgV vI upTo
      rw [List.map_map]
      congr 2
      rw [show ((n : Nat) : Int) - 0 = (n : Nat) by omega, Int.toNat_natCast]
      exact List.map_congr_left fun i _ => by show V.int (0 + (i : Int)) = V.int (Int.ofNat i); rw [Int.zero_add]; rfl
    generalize (upd (upd H t (.tup [])) L (.lst (rgV 0 (n : Nat)))) = H1 at s2 et eL
    have S1 : Sr K r sa ns H H1 := Sr.of_sm (s1.trans s2) R
    have nLr : L ≠ r := fun z => by rw [z, er] at nLH; cases nLH
    refine ⟨_, rfl, n, rfl, by omega, by omega, for_range (lo := 0) (n := (n : Int).toNat) (fun i σ H' => ∃ ft lf l m z4 z5 z6, σ = [some (.ref r), some (.int n), some (.ref ft), some (.ref lf), z4, z5, z6] ∧ Sr K r sa ns H H' ∧ lf ≠ r ∧ H lf = none ∧ H' ft = some (.tup (vI l)) ∧ H' lf = some (.lst (vI m)) ∧ (l ++ m).Perm (upTo n) ∧ l.length = i)
      ⟨t, L, [], upTo n, none, none, none, rfl, S1, nLr, nLH, et, eL, List.Perm.refl _, rfl⟩ ?_ ?_⟩
    · rintro i σ H' hi ⟨ft, lf, l, m, z4, z5, z6, rfl, S2, nlr, nlf, ef, el, pm, ll⟩
      have hi2 : i < n := by omega
      have plen := pm.length_eq
      rw [List.length_append, upTo_len] at plen
      have nlm : (l ++ m).Nodup := pm.nodup_iff.mpr (asc_nodup (upTo_asc n))
      have ndm : m.Nodup := (List.nodup_append.mp nlm).2.1
      refine ⟨_, rfl, _, rfl, r, sa, lf, ns, m, rfl, nlr, el, by omega, by omega, S2.row, fun H2 one S3 hone => ?_⟩
      have ef2 := S3.tup S2.row ef
      have el2 := S3.lst nlr el
      have S23 := S2.trans S3
      have fin : ∀ (H3 H4 : Hp) (ft2 D : Addr), Sm H2 H3 → H3 ft2 = some (.tup (vI (l ++ [one]))) → H3 D = none → Sm H3 H4 → H4 D = some (.lst (vI (m.filter fun x => decide (x ≠ one)))) → D ≠ r ∧ H D = none ∧ Sr K r sa ns H H4 ∧ H4 ft2 = some (.tup (vI (l ++ [one]))) ∧ ((l ++ [one]) ++ m.filter fun x => decide (x ≠ one)).Perm (upTo n) := fun H3 H4 ft2 D s3 e3 nD s4 eD => by
        have nD2 := s3.dom D nD
        have nDH := S23.dom D nD2
        refine ⟨(fun z => by rw [z, er] at nDH; cases nDH), nDH, S23.trans (Sr.of_sm (s3.trans s4) S23.row), s4.tup e3, ?_⟩
        rw [List.append_assoc]
        exact ((filter_perm ndm hone).append_left l).trans pm
      refine ⟨_, rfl, _, rfl, by show 1 ≤ sizeLine; decide, fun u nu => ?_⟩
      have s3 : Sm H2 (upd H2 u (.tup [.int one])) := Sm.new nu
      have eu : (upd H2 u (.tup [.int one])) u = some (.tup [.int one]) := upd_same
      generalize (upd H2 u (.tup [.int one])) = H3 at s3 eu
      refine ⟨ft, u, _, _, rfl, rfl, SqT.of (s3.tup ef2), SqT.of eu, ?_, fun e => ?_, (fun _ e => by cases e), fun _ _ v nv => ?_⟩
      · rw [vI_len]; exact Nat.le_of_lt (small1000 (by show l.length + 1 ≤ 1000; omega))
      · have l0 : l = [] := by
          cases l with
          | nil => rfl
          | cons x l => cases e
        have e3 : H3 u = some (.tup (vI (l ++ [one]))) := by rw [l0]; exact eu
        refine ⟨_, rfl, lf, rfl, ⟨_, SqL.of (s3.lst el2)⟩, fun D nD => ?_⟩
        refine lc_list (xs := vI m) (fun j H4 => Sm H3 H4 ∧ H4 D = some (.lst (vI ((m.take j).filter fun x => decide (x ≠ one))))) ⟨Sm.new nD, upd_same⟩ (fun j H4 _ ⟨s4, _⟩ => SqL.of (s4.lst (s3.lst el2))) (fun j x H4 hx ⟨s4, eD⟩ => ?_) (fun H4 ⟨s4, eD⟩ => ?_)
        · obtain ⟨k, hk, rfl⟩ := vI_at hx
          refine ⟨rfl, _, rfl, _, rfl, rfl, _, rfl, ite2 (fun e2 => ⟨_, rfl, _, eD, ?_, s4.put nD, ?_⟩) (fun e2 => ⟨s4, ?_⟩)⟩
          · rw [vI_len]
            have := List.length_filter_le (fun x => decide (x ≠ one)) (m.take j)
            rw [List.length_take] at this
            exact small1000 (by omega)
          · have e3 : k ≠ one := fun z => by rw [z] at e2; simp at e2
            rw [upd_same, filter_step j k hk, if_pos e3]
            unfold vI
            rw [List.map_append]
            rfl
          · have e3 : k = one := by
              by_cases z : k = one
              · exact z
              · exact absurd (by simpa using z) e2
            rw [filter_step j k hk, if_neg (fun z => z e3), List.append_nil]
            exact eD
        · have e1 : m.take (vI m).length = m := List.take_of_length_le (by rw [vI_len]; exact Nat.le_refl _)
          rw [e1] at eD
          obtain ⟨f1, f2, f3, f4, f5⟩ := fin H3 H4 u D s3 e3 nD s4 eD
          exact ⟨_, _, rfl, u, D, l ++ [one], _, _, _, _, rfl, f3, f1, f2, f4, eD, f5, by rw [List.length_append, List.length_singleton, ll]⟩
      · have s4' : Sm H3 (upd H3 v (.tup (vI l ++ [.int one]))) := Sm.new nv
        have e3 : (upd H3 v (.tup (vI l ++ [.int one]))) v = some (.tup (vI (l ++ [one]))) := by rw [upd_same]; unfold vI; rw [List.map_append]; rfl
        generalize (upd H3 v (.tup (vI l ++ [.int one]))) = H3' at s4' e3
        have s3' := s3.trans s4'
        refine ⟨_, rfl, lf, rfl, ⟨_, SqL.of (s3'.lst el2)⟩, fun D nD => ?_⟩
        refine lc_list (xs := vI m) (fun j H4 => Sm H3' H4 ∧ H4 D = some (.lst (vI ((m.take j).filter fun x => decide (x ≠ one))))) ⟨Sm.new nD, upd_same⟩ (fun j H4 _ ⟨s4, _⟩ => SqL.of (s4.lst (s3'.lst el2))) (fun j x H4 hx ⟨s4, eD⟩ => ?_) (fun H4 ⟨s4, eD⟩ => ?_)
        · obtain ⟨k, hk, rfl⟩ := vI_at hx
          refine ⟨rfl, _, rfl, _, rfl, rfl, _, rfl, ite2 (fun e2 => ⟨_, rfl, _, eD, ?_, s4.put nD, ?_⟩) (fun e2 => ⟨s4, ?_⟩)⟩
          · rw [vI_len]
            have := List.length_filter_le (fun x => decide (x ≠ one)) (m.take j)
            rw [List.length_take] at this
            exact small1000 (by omega)
          · have e3 : k ≠ one := fun z => by rw [z] at e2; simp at e2
            rw [upd_same, filter_step j k hk, if_pos e3]
            unfold vI
            rw [List.map_append]
            rfl
          · have e3 : k = one := by
              by_cases z : k = one
              · exact z
              · exact absurd (by simpa using z) e2
            rw [filter_step j k hk, if_neg (fun z => z e3), List.append_nil]
            exact eD
        · have e1 : m.take (vI m).length = m := List.take_of_length_le (by rw [vI_len]; exact Nat.le_refl _)
          rw [e1] at eD
          obtain ⟨f1, f2, f3, f4, f5⟩ := fin H3' H4 v D s3' e3 nD s4 eD
          exact ⟨_, _, rfl, v, D, l ++ [one], _, _, _, _, rfl, f3, f1, f2, f4, eD, f5, by rw [List.length_append, List.length_singleton, ll]⟩
    · rintro σ H' ⟨ft, lf, l, m, z4, z5, z6, rfl, S2, nlr, nlf, ef, el, pm, ll⟩
      have plen := pm.length_eq
      rw [List.length_append, upTo_len] at plen
      have m0 : m = [] := List.eq_nil_of_length_eq_zero (by omega)
      subst m0
      rw [List.append_nil] at pm
      exact ⟨_, rfl, q H' ft l S2 ef pm⟩
end
end G6
set_option Elab.async false
set_option linter.all false
set_option maxRecDepth 100000
set_option maxHeartbeats 8000000
namespace G6
open PySem PySem.Spec PyProof.Rows L2 NX GxR
abbrev NL : List Str := ["_law_script", "_law_row", "_law_size", "_law_deputies_here", "_law_costs", "_law_order_here", "_law_table", "_law_part", "_law_every", "_law_sums", "_law_best", "_law_found", "_law_value", "_law_due", "_law_lots_here", "_law_nets", "_law_lot_here", "_law_held", "_law_k", "_law_person", "_law_one"]
abbrev XL (P : Program) (w : World) (K : PySem.W.Frag) (mg : Str → Option Value) (base : Heap) (f : Addr) (cdv : Value) (A : Around) (outer : List Env) (s : Shared) (H : Hp) (E : XK) : Cx := (cxOf CX0 P w K mg base NL "law" (defScope s_law) f cdv A outer s H E).nox
section
variable {X : Cx} {K : PySem.W.Frag}
theorem inD (h : X.K = K) (hu : X.A.units + 65 < cLine) : OpR X (compareOp .In) (rInD K) := h ▸ op_inD hu
theorem ninD (h : X.K = K) (hu : X.A.units + 65 < cLine) : OpR X (compareOp .NotIn) (rNotInD K) := h ▸ op_notInD hu
def rTupL (K : PySem.W.Frag) : List V → Hp → VK → Prop := fun xs H Q => ∃ p ys, xs = [.ref p] ∧ ((SqL K H p ys ∧ ∀ l, H l = none → Q (.ref l) (upd H l (.tup ys))) ∨ (SqT K H p ys ∧ Q (.ref p) H))
theorem crTup (h : X.K = K) : CallR X (.type "tuple") (rTupL K) := h ▸ call_tuple_of
end
theorem room65 {k : Nat} {A : Around} (r : Room k A) : A.units + 65 < cLine := by
  have h := r.un
  generalize cLine = c at h ⊢
  omega
theorem eqv_dI : ∀ a b : List Int, PyData.eqvAll (dI a) (dI b) = decide (a = b)
  | [], [] => by simp [dI, PyData.eqvAll]
  | [], _ :: _ => by simp [dI, PyData.eqvAll]
  | _ :: _, [] => by simp [dI, PyData.eqvAll]
  | x :: a, y :: b => by
    have ih := eqv_dI a b
    show (PyData.eqv (.int x) (.int y) && PyData.eqvAll (dI a) (dI b)) = _
    rw [ih]
    by_cases h : x = y
    · subst h
      simp [PyData.eqv]
    · simp [PyData.eqv, h]
theorem eqv_tI (a b : List Int) : PyData.eqv (.tuple (dI a)) (.tuple (dI b)) = decide (a = b) := eqv_dI a b
abbrev dT (l : List Int) : PyData := .tuple (dI l)
theorem any_tI (l : List Int) : ∀ ls : List (List Int), ((ls.map dT).any fun z => PyData.eqv z (dT l)) = decide (l ∈ ls)
  | [] => by simp
  | x :: ls => by
    rw [List.map_cons, List.any_cons, any_tI l ls, eqv_tI]
    by_cases h : x = l
    · subst h; simp
    · have h2 : ¬ l = x := fun z => h z.symm
      simp [h, h2]
theorem dpAll_ITs {K : PySem.W.Frag} {H : Hp} : ∀ {rs : List V} {ls : List (List Int)}, ITs H rs ls → DpAll K H rs (ls.map dT)
  | _, _, .nil => .nil
  | _, _, .cons ⟨t, e, h⟩ r => by subst e; exact .cons (.tup (SqT.of h) (dpAll_ints _)) (dpAll_ITs r)
theorem first_at {l : List Int} : ∀ {ls : List (List Int)}, l ∈ ls → ∃ j : Nat, ls[j]? = some l ∧ ∀ (m : Nat) (z : List Int), m < j → ls[m]? = some z → z ≠ l
  | [], h => absurd h (by simp)
  | x :: ls, h => by
    by_cases z : x = l
    · exact ⟨0, by rw [z]; rfl, fun m z h => absurd h (by omega)⟩
    · have hm : l ∈ ls := by
        rcases List.mem_cons.mp h with e | e
        · exact absurd e.symm z
        · exact e
      obtain ⟨j, h1, h2⟩ := first_at hm
      refine ⟨j + 1, by simpa using h1, fun m y hm hy => ?_⟩
      cases m with
      | zero => cases hy; exact z
      | succ m => exact h2 m y (by omega) (by simpa using hy)
section
variable {P : Program} {w : World} {K : PySem.W.Frag} {mg : Str → Option Value} {base : Heap}
/-- what the law's second half stands on -/
structure PreC (T : Txt K mg base) (H : Hp) (da ca ta : Addr) (ds cs : List Int) (tb : List (List Int)) : Prop where
  d : H da = some (.tup (vI ds))
  c : H ca = some (.tup (vI cs))
  t : TbH H ta tb
  D : Dep ds
  C : Cst ds.length cs
  Tt : Tab ds.length tb
  tbs : Tb T H
theorem PreC.sm {T : Txt K mg base} {H H' : Hp} {da ca ta : Addr} {ds cs : List Int} {tb : List (List Int)} (p : PreC T H da ca ta ds cs tb) (s : Sm H H') : PreC T H' da ca ta ds cs tb :=
  ⟨s.tup p.d, s.tup p.c, p.t.sm s, p.D, p.C, p.Tt, s.tb p.tbs⟩
def bodyC : List Stmt := (defBody s_law).drop 11
theorem partC (T : Txt K mg base) {f : Addr} {cdv : Value} {A : Around} {outer : List Env} {s : Shared} {H : Hp} {E : XK} {Q : VK} (hr : Room 7 (A.deeper (envOfC "law" (defScope s_law) s.heap.objs.size f cdv))) (hQ : ∀ H', Q (.bl true) H') :
    ∃ t, PSs (XL P w K mg base f cdv A outer s H E) bodyC t ∧ ∀ (H1 : Hp) (da ca ta : Addr) (ds cs : List Int) (tb : List (List Int)) (y0 y1 y5 y7 y8 y9 y10 y11 y12 y13 y14 y15 y16 y17 y18 y19 y20 : Option V), PreC T H1 da ca ta ds cs tb →
      t { nx := fun _ H' => Q .non H', rt := Q } [y0, y1, some (.int (ds.length : Nat)), some (.ref da), some (.ref ca), y5, some (.ref ta), y7, y8, y9, y10, y11, y12, y13, y14, y15, y16, y17, y18, y19, y20] H1 := by
  have nd := c_law.nd
  have hu := room65 hr
  have G1 : FnOk P w K mg base CX0 1 T.f_l_lots T.d_l_lots ["_law_size"] sp_all_lots := ok_l_lots T
  have G2 : FnOk P w K mg base CX0 2 T.f_l_holders T.d_l_holders ["_law_deputies_here", "_law_gone"] sp_all_holders := ok_l_holders T
  have G3 : FnOk P w K mg base CX0 7 T.f_best_lot T.d_best_lot ["deputies", "table", "costs"] (sp_best_lot T) := ok_best_lot T
  have G4 : FnOk P w K mg base CX0 7 T.f_shows_best_lot T.d_shows_best_lot ["deputies", "table", "costs", "value"] (sp_shows_best_lot T) := ok_shows_best_lot T
  have G5 : FnOk P w K mg base CX0 1 T.f_l_alike T.d_l_alike ["_law_found", "_law_due"] sp_l_alike := ok_l_alike T
  refine ⟨_, pss_cons (ps_par (i := 14) (j := 15) (by rfl) nd rfl rfl (by decide) rfl rfl (pa_cons (pe_call G1 (hr.mono (by decide)) (by rfl) T.g_l_lots T.F_l_lots.kp T.b_l_lots .nil pass0 (pa_cons (pv 2) pa_nil)) (pa_cons (pe_lst pa_nil) pa_nil)) (by rfl))
    (pss_cons (ps_for PassesOwn.never rfl (pi_list (pv 14)) (pg_name (i := 16) nd rfl (Or.inl rfl))
      (pss_cons (ps_set (i := 17) nd rfl (.inr rfl) (pe_call G2 (hr.mono (by decide)) (by rfl) T.g_l_holders T.F_l_holders.kp T.b_l_holders .nil pass0 (pa_cons (pv 3) (pa_cons (pv 16) pa_nil))))
      (pss_one (ps_expr (pe_bm PySem.F.plainAttrs_list PySem.F.slot_list_append PySem.F.type_list_append mt_append (pv 15) (pa_cons (pe_op op_sub
        (pe_callB (cr_sum (by rfl)) (by rfl) T.z_sum bt_sum (pa_cons (pe_lc (own := [("_law_k", 18)]) (g := gName 18) (tt := tYes) (by rfl) nd (pi_range1 rfl T.z_range (pa_cons (pv 2) pa_nil))
          (blkOk_by (own := [("_law_k", 18)]) (N := NL) (sc := defScope s_law) (by decide +kernel)) (fun _ _ _ _ _ => pg_name (i := 18) nd rfl (Or.inl rfl)) (fun _ _ _ _ _ => pts_nil)
          (fun _ _ _ _ _ => pe_ix (ixT (K := K) rfl) (pe_ix (ixT (K := K) rfl) (pv 6) (pv 18) (fun _ _ => rfl)) (pe_ix (ixL (K := K) rfl) (pv 17) (pv 18) (fun _ _ => rfl)) (fun _ _ => rfl))) pa_nil))
        (pe_callB (cr_sum (by rfl)) (by rfl) T.z_sum bt_sum (pa_cons (pe_lc (own := [("_law_k", 18)]) (g := gName 18) (tt := tYes) (by rfl) nd (pi_tup (pv 16))
          (blkOk_by (own := [("_law_k", 18)]) (N := NL) (sc := defScope s_law) (by decide +kernel)) (fun _ _ _ _ _ => pg_name (i := 18) nd rfl (Or.inl rfl)) (fun _ _ _ _ _ => pts_nil)
          (fun _ _ _ _ _ => pe_ix (ixT (K := K) rfl) (pv 4) (pv 18) (fun _ _ => rfl))) pa_nil))) pa_nil))))))
    (pss_cons (ps_asg (pe_tup (pa_cons (pe_callB (cr_max (by rfl)) (by rfl) T.z_max bt_max (pa_cons (pv 15) pa_nil)) (pa_cons (pe_call G3 hr (by rfl) T.g_best_lot T.F_best_lot.kp T.b_best_lot .nil pass0 (pa_cons (pv 3) (pa_cons (pv 6) (pa_cons (pv 4) pa_nil)))) pa_nil))) (pgT (K := K) (n := 2) rfl rfl (pgs_cons (pg_name (i := 10) nd rfl (.inr rfl)) (pgs_cons (pg_name (i := 11) nd rfl (.inl rfl)) pgs_nil))))
    (pss_cons (ps_if (PW.pt (pw_or (pt_not (pt_val (pe_isi "tuple" (by rfl) T.z_isinstance (by rfl) T.z_tuple bt_tuple (pv 11)))) (pw_or (pt_cmpR op_ne (pe_callB (crLen (K := K) rfl) (by rfl) T.z_len bt_len (pa_cons (pv 11) pa_nil)) pe_int (nomark _)) (pw_or (pt_cmpR op_ne (pe_ix (ixT (K := K) rfl) (pv 11) pe_int (fun _ _ => rfl)) (pv 10) (nomark _))
        (pw_or (pt_cmpR (ninD (K := K) rfl hu) (pe_ix (ixT (K := K) rfl) (pv 11) pe_int (fun _ _ => rfl)) (pv 14) (by rfl))
        (pw_or1 (pt_cmpR op_ne (pe_ix (ixL (K := K) rfl) (pv 15) (pe_bm PySem.F.plainAttrs_list PySem.F.slot_list_index PySem.F.type_list_index (mt_indexD hu) (pv 14) (pa_cons (pe_ix (ixT (K := K) rfl) (pv 11) pe_int (fun _ _ => rfl)) pa_nil)) (fun _ _ => rfl)) (pv 10) (nomark _)))))))) (pss_one (ps_ret pe_bl)) pss_nil)
    (pss_cons (ps_for PassesOwn.never rfl (pi_list (pe_op op_cat (pe_lst (pa_cons (pv 11) (pa_cons (pe_callTy call_list_of (by rfl) T.z_list bt_list (pa_cons (pv 11) pa_nil)) (pa_cons (pe_tup (pa_cons (pe_op op_add (pv 10) pe_int) (pa_cons (pe_ix (ixT (K := K) rfl) (pv 11) pe_int (fun _ _ => rfl)) pa_nil)))
          (pa_cons (pe_tup (pa_cons (pv 10) (pa_cons (pe_callTy call_list_of (by rfl) T.z_list bt_list (pa_cons (pe_ix (ixT (K := K) rfl) (pv 11) pe_int (fun _ _ => rfl)) pa_nil)) pa_nil))) (pa_cons (pe_tup (pa_cons (pv 10) (pa_cons (pe_tup (pa_cons (pv 2) pa_nil)) pa_nil))) (pa_cons pe_non (pa_cons pe_int pa_nil))))))))
        (pe_lc (own := [("_law_lot_here", 16)]) (g := gName 16) (tt := tYes) (by rfl) nd (pi_list (pv 14))
          (blkOk_by (own := [("_law_lot_here", 16)]) (N := NL) (sc := defScope s_law) (by decide +kernel)) (fun _ _ _ _ _ => pg_name (i := 16) nd rfl (Or.inl rfl)) (fun _ _ _ _ _ => pts_nil)
          (fun _ _ _ _ _ => pe_tup (pa_cons (pv 10) (pa_cons (pv 16) pa_nil)))))) (pg_name (i := 12) nd rfl (Or.inl rfl))
      (pss_cons (ps_set (i := 13) nd rfl (.inl rfl) (pe_and (pe_isi "tuple" (by rfl) T.z_isinstance (by rfl) T.z_tuple bt_tuple (pv 12)) (pe_and (pe_cmpR op_eq (pe_callB (crLen (K := K) rfl) (by rfl) T.z_len bt_len (pa_cons (pv 12) pa_nil)) pe_int (nomark _)) (pe_and (pe_cmpR op_eq (pe_ix (ixT (K := K) rfl) (pv 12) pe_int (fun _ _ => rfl)) (pv 10) (nomark _))
        (pe_one (pe_isi "tuple" (by rfl) T.z_isinstance (by rfl) T.z_tuple bt_tuple (pe_ix (ixT (K := K) rfl) (pv 12) pe_int (fun _ _ => rfl))))))))
      (pss_cons (ps_set (i := 13) nd rfl (.inl rfl) (pe_and (pv 13) (pe_and (pe_cmpR (inD (K := K) rfl hu) (pe_ix (ixT (K := K) rfl) (pv 12) pe_int (fun _ _ => rfl)) (pv 14) (by rfl))
        (pe_one (pe_cmpR op_eq (pe_ix (ixL (K := K) rfl) (pv 15) (pe_bm PySem.F.plainAttrs_list PySem.F.slot_list_index PySem.F.type_list_index (mt_indexD hu) (pv 14) (pa_cons (pe_ix (ixT (K := K) rfl) (pv 12) pe_int (fun _ _ => rfl)) pa_nil)) (fun _ _ => rfl)) (pv 10) (nomark _))))))
      (pss_one (ps_if (pt_not (pt_val (pe_call G5 (hr.mono (by decide)) (by rfl) T.g_l_alike T.F_l_alike.kp T.b_l_alike .nil pass0 (pa_cons (pe_call G4 hr (by rfl) T.g_shows_best_lot T.F_shows_best_lot.kp T.b_shows_best_lot .nil pass0 (pa_cons (pv 3) (pa_cons (pv 6) (pa_cons (pv 4) (pa_cons (pv 12) pa_nil))))) (pa_cons (pv 13) pa_nil))))) (pss_one (ps_ret pe_bl)) pss_nil)))))
    (pss_one (ps_ret pe_bl)))))), fun H1 da ca ta ds cs tb y0 y1 y5 y7 y8 y9 y10 y11 y12 y13 y14 y15 y16 y17 y18 y19 y20 pre => ?_⟩
  have hm6 := pre.D.most
  have hl64 := lotsF_small hm6
  refine ⟨_, rfl, ds.length, rfl, hm6, fun H2 lo ys ls s2 nlo elo its pm => ⟨Nat.zero_le _, fun nt nnt => ⟨_, _, rfl, ?_⟩⟩⟩
  have p2 := pre.sm s2
  have hyl := paired_len its
  have hll : ls.length ≤ 64 := by rw [pm.length_eq]; exact hl64
  have s3 : Sm H2 (upd H2 nt (.lst [])) := Sm.new nnt
  -- the nets
  refine ⟨_, rfl, lo, rfl, ⟨_, SqL.of (s3.lst elo)⟩, for_list (xs := ys) (fun i σ H' => ∃ z16 z17, σ = [y0, y1, some (.int (ds.length : Nat)), some (.ref da), some (.ref ca), y5, some (.ref ta), y7, y8, y9, y10, y11, y12, y13, some (.ref lo), some (.ref nt), z16, z17, y18, y19, y20] ∧ Sm H2 H' ∧ H' nt = some (.lst (vI ((ls.map (net ds tb cs)).take i))))
    ⟨y16, y17, rfl, s3, upd_same⟩ (fun i σ H' _ ⟨_, _, _, s', _⟩ => SqL.of (s'.lst elo)) ?_ ?_⟩
  · rintro i x σ H' hx ⟨z16, z17, rfl, s4, ent⟩
    obtain ⟨l, hl, tx, rfl, htx⟩ := paired_at its hx
    have hlot := pm.mem_iff.mp (List.mem_of_getElem? hl)
    have lr := ((lotsF_iff _ _).mp hlot).1
    have p4 := p2.sm s4
    have ilt : i < ls.length := (List.getElem?_eq_some_iff.mp hl).1
    refine ⟨_, rfl, _, rfl, da, tx, ds, l, rfl, p4.d, s4.tup htx, p4.D, fun H5 ho s5 nho eho => ?_⟩
    have p5 := p4.sm s5
    obtain ⟨rws, hta, hrws⟩ := p5.t
    have hrl := paired_len hrws
    have wl : (worthL tb (holds ds l)).length = ds.length := by unfold worthL; rw [List.length_map, List.length_zip, p5.Tt.len, holds_len]; omega
    refine ⟨_, rfl, .inl ⟨rfl, _, SqL.of (s5.lst ent)⟩, _, rfl, ds.length, rfl, by omega, by omega, fun D1 nD1 => ?_⟩
    refine lc_range (n := ((ds.length : Nat) : Int).toNat) (fun j H6 => Sm H5 H6 ∧ H6 D1 = some (.lst (vI ((worthL tb (holds ds l)).take j)))) ⟨Sm.new nD1, upd_same⟩ (fun j H6 hj ⟨s6, eD⟩ => ?_) (fun H6 ⟨s6, eD⟩ => ?_)
    · have hj2 : j < ds.length := by omega
      obtain ⟨v, hv⟩ := lt_some (l := rws) (i := j) (by rw [hrl, p5.Tt.len]; exact hj2)
      obtain ⟨r, er, tr, rfl, htr⟩ := paired_at hrws hv
      obtain ⟨r1, r2⟩ := p5.Tt.row r (List.mem_of_getElem? er)
      obtain ⟨h0, h1⟩ := hold_rng p5.D l (p := (j : Nat)) (by omega) (by omega)
      obtain ⟨e1, e2⟩ := row_some r1 h0 h1
      have j0 : (0 + (j : Int)) = ((j : Nat) : Int) := by omega
      rw [j0]
      refine ⟨rfl, yesT ⟨_, rfl, _, rfl, ta, _, _, _, rfl, rfl, SqT.of (s6.tup hta), atI_nat hv, _, rfl, _, rfl, ho, _, _, _, rfl, rfl, SqL.of (s6.lst eho), atI_nat (vI_some (holds_at hj2)), tr, _, _, _, rfl, rfl, SqT.of (s6.tup htr), (by rw [atI_vI, e1]; rfl), _, eD, ?_, s6.put nD1, ?_⟩⟩
      · rw [vI_len, List.length_take]; exact small1000 (by omega)
      · have ew : (worthL tb (holds ds l))[j]? = some (rowAt r (hold ds l j)) := by
          unfold worthL
          rw [List.getElem?_map, (List.getElem?_zip_eq_some (z := (r, hold ds l j))).mpr ⟨er, holds_at hj2⟩]
          rfl
        rw [upd_same, List.take_add_one, ew]
        unfold vI
        rw [List.map_append]
        rfl
    · rw [show (worthL tb (holds ds l)).take ((ds.length : Nat) : Int).toNat = worthL tb (holds ds l) from List.take_of_length_le (by rw [wl]; omega)] at eD
      refine ⟨D1, _, rfl, SqL.of eD, _, rfl, tx, rfl, ⟨_, SqT.of ((s5.trans s6).tup (s4.tup htx))⟩, fun D2 nD2 => ?_⟩
      refine lc_tup (xs := vI l) (fun j H7 => Sm H6 H7 ∧ H7 D2 = some (.lst (vI ((l.take j).map (at0 cs))))) ⟨Sm.new nD2, upd_same⟩ (fun j H7 _ ⟨s7, _⟩ => SqT.of (s7.tup ((s5.trans s6).tup (s4.tup htx)))) (fun j x H7 hx ⟨s7, eD2⟩ => ?_) (fun H7 ⟨s7, eD2⟩ => ?_)
      · obtain ⟨k, hk, rfl⟩ := vI_at hx
        have kr := lr k (List.mem_of_getElem? hk)
        refine ⟨rfl, yesT ⟨_, rfl, _, rfl, ca, _, _, _, rfl, rfl, SqT.of (s7.tup (s6.tup p5.c)), atI_at0 kr.1 (by rw [p5.C.len]; exact kr.2), _, eD2, ?_, s7.put nD2, ?_⟩⟩
        · have := lotsF_llen hlot
          rw [vI_len, List.length_map, List.length_take]; exact small1000 (by omega)
        · rw [upd_same, List.take_add_one, hk]; unfold vI; rw [List.map_append, List.map_append]; rfl
      · rw [show l.take (vI l).length = l from List.take_of_length_le (by rw [vI_len]; exact Nat.le_refl _)] at eD2
        have s57 := (s5.trans s6).trans s7
        refine ⟨D2, _, rfl, SqL.of eD2, _, _, rfl, rfl, nt, _, _, rfl, rfl, s57.lst ent, ?_, _, _, rfl, (s4.trans s57).put nnt, ?_⟩
        · rw [vI_len, List.length_take, List.length_map]; exact small1000 (by omega)
        · have en : (ls.map (net ds tb cs))[i]? = some (net ds tb cs l) := by rw [List.getElem?_map, hl]; rfl
          rw [upd_same, List.take_add_one, en]
          unfold vI
          rw [List.map_append]
          rfl
  · rintro σ H3 ⟨z16, z17, rfl, s4, ent⟩
    rw [show (ls.map (net ds tb cs)).take ys.length = ls.map (net ds tb cs) from List.take_of_length_le (by rw [List.length_map, hyl]; exact Nat.le_refl _)] at ent
    clear s3
    have p3 := p2.sm s4
    have elo3 := s4.lst elo
    have its3 := its.sm s4
    -- best, found
    refine ⟨_, rfl, nt, _, rfl, SqL.of ent, ?_, fun m hm hle => ?_⟩
    · rw [List.length_map, pm.length_eq, lotsF_len]
      exact Nat.two_pow_pos _
    have top : Top ds tb cs m := by
      obtain ⟨l, hl, e⟩ := List.mem_map.mp hm
      exact ⟨⟨l, pm.mem_iff.mp hl, e⟩, fun l' hl' => hle _ (List.mem_map.mpr ⟨l', pm.mem_iff.mpr hl', rfl⟩)⟩
    refine ⟨_, rfl, _, rfl, _, rfl, da, ta, ca, ds, cs, tb, rfl, p3.d, p3.t, p3.c, p3.D, p3.Tt, p3.C, p3.tbs, fun H4 v0 m' l s5 tp hlot hn ht => ⟨by show 2 ≤ sizeLine; decide, fun q0 nq0 => ?_⟩⟩
    have em : m' = m := ht.uniq top
    subst em
    have s6 : Sm H4 (upd H4 q0 (.tup [.int m', v0])) := Sm.new nq0
    refine ⟨q0, _, rfl, SqT.of upd_same, rfl, _, _, rfl, _, _, rfl, rfl, ?_⟩
    obtain ⟨va, vb, rfl, h1, h2⟩ := tp
    replace h1 := s6.tup h1
    replace h2 := s6.tup h2
    have s56 := s5.trans s6
    generalize (upd H4 q0 (.tup [.int m', .ref va])) = H5 at s6 h1 h2 s56
    have elo5 := s56.lst elo3
    have its5 := its3.sm s56
    have ent5 := s56.lst ent
    have hin : l ∈ ls := pm.mem_iff.mpr hlot
    obtain ⟨j, hj, hfst⟩ := first_at hin
    have jn : (ls.map (net ds tb cs))[j]? = some (net ds tb cs l) := by rw [List.getElem?_map, hj]; rfl
    have p5' := p3.sm s56
    generalize hmm : m' = m at *
    refine ⟨_, rfl, _, isT_tt h1, _, rfl, iteF ⟨_, rfl, va, _, rfl, .inr (SqT.of h1), rfl, _, rfl, ifN (by rw [dec_int]; rfl) ⟨_, rfl, va, _, _, _, rfl, rfl, SqT.of h1, atI_nat (j := 0) rfl, _, rfl, rfl, _, rfl, ifN (by rw [dec_int]; simp) ⟨_, rfl, va, _, _, _, rfl, rfl, SqT.of h1, atI_nat (j := 1) rfl, _, rfl, dT l, ls.map dT, .tup (SqT.of h2) (dpAll_ints l), .lst (SqL.of elo5) (dpAll_ITs its5), shaped_tI _, shaped_ls _, _, rfl, ifN (by rw [any_tI, decide_eq_true hin]; rfl) ?_⟩⟩⟩⟩
    refine ⟨_, rfl, _, rfl, .inl ⟨rfl, _, SqL.of elo5⟩, _, rfl, va, _, _, _, rfl, rfl, SqT.of h1, atI_nat (j := 1) rfl, lo, _, dT l, ls.map dT, j, dT l, rfl, rfl, .lst (SqL.of elo5) (dpAll_ITs its5), .tup (SqT.of h2) (dpAll_ints l), shaped_ls _, shaped_tI _, (by rw [List.getElem?_map, hj]; rfl), (by rw [eqv_tI]; simp), ?_, nt, _, _, _, rfl, rfl, SqL.of ent5, atI_nat (vI_some jn), _, rfl, rfl, _, rfl, ifN (by rw [dec_int, hn]; simp) ?_⟩
    · intro k z hk hz
      rw [List.getElem?_map, Option.map_eq_some_iff] at hz
      obtain ⟨z', hz1, rfl⟩ := hz
      rw [eqv_tI]
      exact decide_eq_false (hfst k z' hk hz1)
    -- the values
    refine ⟨_, rfl, _, rfl, va, _, rfl, .inr (SqT.of h1), fun q1 nq1 => ?_⟩
    have t1 : Sm H5 (upd H5 q1 (.lst [.int m, .ref vb])) := Sm.new nq1
    have e1 : (upd H5 q1 (.lst [.int m, .ref vb])) q1 = some (.lst [.int m, .ref vb]) := upd_same
    generalize (upd H5 q1 (.lst [.int m, .ref vb])) = J1 at t1 e1
    refine ⟨_, rfl, _, _, rfl, rfl, _, rfl, va, _, _, _, rfl, rfl, SqT.of (t1.tup h1), atI_nat (j := 1) rfl, by show 2 ≤ sizeLine; decide, fun q2 nq2 => ?_⟩
    have t2 : Sm J1 (upd J1 q2 (.tup [.int (m + 1), .ref vb])) := Sm.new nq2
    have e2 : (upd J1 q2 (.tup [.int (m + 1), .ref vb])) q2 = some (.tup [.int (m + 1), .ref vb]) := upd_same
    generalize (upd J1 q2 (.tup [.int (m + 1), .ref vb])) = J2 at t2 e2
    have t12 := t1.trans t2
    refine ⟨_, rfl, _, rfl, va, _, _, _, rfl, rfl, SqT.of (t12.tup h1), atI_nat (j := 1) rfl, vb, _, rfl, .inr (SqT.of (t12.tup h2)), fun q3 nq3 => ⟨by show 2 ≤ sizeLine; decide, fun q4 nq4 => ?_⟩⟩
    have t3 : Sm J2 (upd J2 q3 (.lst (vI l))) := Sm.new nq3
    have e3 : (upd J2 q3 (.lst (vI l))) q3 = some (.lst (vI l)) := upd_same
    generalize (upd J2 q3 (.lst (vI l))) = J3 at t3 e3 nq4
    have t4 : Sm J3 (upd J3 q4 (.tup [.int m, .ref q3])) := Sm.new nq4
    have e4 : (upd J3 q4 (.tup [.int m, .ref q3])) q4 = some (.tup [.int m, .ref q3]) := upd_same
    generalize (upd J3 q4 (.tup [.int m, .ref q3])) = J4 at t4 e4
    refine ⟨_, rfl, _, rfl, by show 1 ≤ sizeLine; decide, fun q5 nq5 => ⟨by show 2 ≤ sizeLine; decide, fun q6 nq6 => ⟨by show 7 ≤ sizeLine; decide, fun q7 nq7 => ?_⟩⟩⟩
    have t5 : Sm J4 (upd J4 q5 (.tup [.int (ds.length : Nat)])) := Sm.new nq5
    have e5 : (upd J4 q5 (.tup [.int (ds.length : Nat)])) q5 = some (.tup (vI [((ds.length : Nat) : Int)])) := upd_same
    generalize (upd J4 q5 (.tup [.int (ds.length : Nat)])) = J5 at t5 e5 nq6 nq7
    have t6 : Sm J5 (upd J5 q6 (.tup [.int m, .ref q5])) := Sm.new nq6
    have e6 : (upd J5 q6 (.tup [.int m, .ref q5])) q6 = some (.tup [.int m, .ref q5]) := upd_same
    generalize (upd J5 q6 (.tup [.int m, .ref q5])) = J6 at t6 e6 nq7
    have t7 : Sm J6 (upd J6 q7 (.lst [.ref va, .ref q1, .ref q2, .ref q4, .ref q6, .non, .int 3])) := Sm.new nq7
    have e7 : (upd J6 q7 (.lst [.ref va, .ref q1, .ref q2, .ref q4, .ref q6, .non, .int 3])) q7 = some (.lst [.ref va, .ref q1, .ref q2, .ref q4, .ref q6, .non, .int 3]) := upd_same
    generalize (upd J6 q7 (.lst [.ref va, .ref q1, .ref q2, .ref q4, .ref q6, .non, .int 3])) = J7 at t7 e7
    have t17 := (((((t1.trans t2).trans t3).trans t4).trans t5).trans t6).trans t7
    refine ⟨_, rfl, lo, rfl, ⟨_, SqL.of (t17.lst elo5)⟩, fun D nD => ?_⟩
    refine lc_list (xs := ys) (fun j H' => Sm J7 H' ∧ ∃ es, H' D = some (.lst es) ∧ es.length = j ∧ ∀ v ∈ es, ∃ l2 : List Int, TP H' v m l2 ∧ l2.length ≤ 100) ⟨Sm.new nD, [], upd_same, rfl, fun v h => absurd h (by simp)⟩ (fun j H' _ ⟨s', _⟩ => SqL.of (s'.lst (t17.lst elo5))) (fun j x H' hx ⟨s', es, eD, el, hes⟩ => ?_) (fun H' ⟨s', es, eD, el, hes⟩ => ?_)
    · obtain ⟨l2, hl2, tx, rfl, htx⟩ := paired_at its5 hx
      have jlt : j < ls.length := (List.getElem?_eq_some_iff.mp hl2).1
      have l2len := show l2.length ≤ 100 by have := lotsF_llen (pm.mem_iff.mp (List.mem_of_getElem? hl2)); omega
      refine ⟨rfl, yesT ⟨_, rfl, _, rfl, by show 2 ≤ sizeLine; decide, fun u nu => ⟨es, ?_, by rw [el]; exact small1000 (by omega), (s'.trans (Sm.new nu)).put nD, _, upd_same, by rw [List.length_append, List.length_singleton, el], fun v hv => ?_⟩⟩⟩
      · rw [upd_ne (ne_of_none eD nu)]; exact eD
      · have su : Sm H' (upd H' u (.tup [.int m, .ref tx])) := Sm.new nu
        have eu : (upd H' u (.tup [.int m, .ref tx])) u = some (.tup [.int m, .ref tx]) := upd_same
        generalize (upd H' u (.tup [.int m, .ref tx])) = H'' at su eu
        have eD2 := su.lst eD
        have ts : ∀ b xs, H'' b = some (.tup xs) → (upd H'' D (.lst (es ++ [.ref u]))) b = some (.tup xs) := fun b xs e => by
          rw [upd_ne (fun z => by rw [z, eD2] at e; cases e)]; exact e
        rcases List.mem_append.mp hv with hv | hv
        · obtain ⟨l3, h3, h4⟩ := hes v hv
          exact ⟨l3, tp_le ts _ _ _ (tp_sm su _ _ _ h3), h4⟩
        · rw [List.mem_singleton.mp hv]
          exact ⟨l2, ⟨u, tx, rfl, ts _ _ eu, ts _ _ (su.tup (s'.tup (t17.tup htx)))⟩, l2len⟩
    · have t18 := t17.trans s'
      refine ⟨q7, D, _, _, rfl, rfl, s'.lst e7, eD, ?_, fun LL nLL => ?_⟩
      · show 7 + es.length ≤ sizeLine
        rw [el, hyl]
        exact Nat.le_of_lt (small1000 (by omega))
      have sL : Sm H' (upd H' LL (.lst ([.ref va, .ref q1, .ref q2, .ref q4, .ref q6, .non, .int 3] ++ es))) := Sm.new nLL
      have eL : (upd H' LL (.lst ([.ref va, .ref q1, .ref q2, .ref q4, .ref q6, .non, .int 3] ++ es))) LL = some (.lst ([.ref va, .ref q1, .ref q2, .ref q4, .ref q6, .non, .int 3] ++ es)) := upd_same
      generalize (upd H' LL (.lst ([.ref va, .ref q1, .ref q2, .ref q4, .ref q6, .non, .int 3] ++ es))) = HL at sL eL
      have z27 := (((((t2.trans t3).trans t4).trans t5).trans t6).trans t7).trans (s'.trans sL)
      have z37 := ((((t3.trans t4).trans t5).trans t6).trans t7).trans (s'.trans sL)
      have z47 := (((t4.trans t5).trans t6).trans t7).trans (s'.trans sL)
      have z57 := ((t5.trans t6).trans t7).trans (s'.trans sL)
      have z67 := (t6.trans t7).trans (s'.trans sL)
      have z77 := t7.trans (s'.trans sL)
      have w17 := t1.trans z27
      have vks : ∀ v ∈ ([.ref va, .ref q1, .ref q2, .ref q4, .ref q6, .non, .int 3] ++ es : List V), ∃ o, VK2 HL v o := fun v hv => by
        rcases List.mem_append.mp hv with hv | hv
        · simp only [List.mem_cons, List.not_mem_nil, or_false] at hv
          rcases hv with rfl | rfl | rfl | rfl | rfl | rfl | rfl
          · exact ⟨_, .pair ⟨va, vb, rfl, w17.tup h1, w17.tup h2⟩ (by have := lotsF_llen hlot; omega)⟩
          · exact ⟨_, .lst (z27.lst e1)⟩
          · exact ⟨_, .pair ⟨q2, vb, rfl, z37.tup e2, w17.tup h2⟩ (by have := lotsF_llen hlot; omega)⟩
          · exact ⟨_, .plst (z57.tup e4) (z47.lst e3)⟩
          · exact ⟨_, .pair ⟨q6, q5, rfl, z77.tup e6, z67.tup e5⟩ (by show 1 ≤ 100; decide)⟩
          · exact ⟨_, .non⟩
          · exact ⟨_, .int 3⟩
        · obtain ⟨l3, h3, h4⟩ := hes v hv
          exact ⟨_, .pair (tp_sm sL _ _ _ h3) h4⟩
      have p8 := p5'.sm w17
      have elo8 := w17.lst elo5
      have its8 := its5.sm w17
      have ent8 := w17.lst ent5
      refine ⟨LL, rfl, ⟨_, SqL.of eL⟩, for_list (xs := [.ref va, .ref q1, .ref q2, .ref q4, .ref q6, .non, .int 3] ++ es) (fun i σ H' => ∃ z12 z13, σ = [y0, y1, some (.int (ds.length : Nat)), some (.ref da), some (.ref ca), y5, some (.ref ta), y7, y8, y9, some (.int m), some (.ref va), z12, z13, some (.ref lo), some (.ref nt), z16, z17, y18, y19, y20] ∧ Sm HL H') ⟨_, _, rfl, Sm.refl HL⟩ (fun i σ H' _ ⟨_, _, _, s'⟩ => SqL.of (s'.lst eL)) ?_ ?_⟩
      · rintro i v σ H8 hv ⟨z12, z13, rfl, s5⟩
        obtain ⟨o, vk⟩ := vks v (List.mem_of_getElem? hv)
        have vk5 := vk.sm s5
        have p5 := p8.sm s5
        have elo9 := s5.lst elo8
        have its9 := its8.sm s5
        have ent9 := s5.lst ent8
        cases vk5 with
        | non =>
          have vk5 : VK2 H8 .non none := .non
          have hdd : (false = true ↔ ∃ x l, (none : Option (Int × List Int)) = some (x, l) ∧ x = m ∧ l ∈ lotsF ds.length ∧ net ds tb cs l = m) := ⟨fun z => absurd z (by decide), fun z => by obtain ⟨_, _, z, _⟩ := z; cases z⟩
          refine ⟨_, rfl, _, isT_nt, _, rfl, iteF ⟨_, rfl, _, rfl, iteF ?_⟩⟩
          refine ⟨_, rfl, _, rfl, _, rfl, _, rfl, da, ta, ca, ds, cs, tb, _, _, m, rfl, p5.d, p5.t, p5.c, p5.D, p5.Tt, p5.C, p5.tbs, vk5, top, fun rr H6 s6 hrr => ⟨_, rfl, .inr ⟨rr, _, rfl, fun H7 s7 => ⟨_, rfl, ifN ?_ ⟨_, _, rfl, (s5.trans s6).trans s7⟩⟩⟩⟩⟩
          have erd := Bool.eq_iff_iff.mpr (hrr.trans hdd.symm)
          rw [decide_eq_true erd]
          rfl
        | int k =>
          have vk5 : VK2 H8 (.int k) none := .int k
          have hdd : (false = true ↔ ∃ x l, (none : Option (Int × List Int)) = some (x, l) ∧ x = m ∧ l ∈ lotsF ds.length ∧ net ds tb cs l = m) := ⟨fun z => absurd z (by decide), fun z => by obtain ⟨_, _, z, _⟩ := z; cases z⟩
          refine ⟨_, rfl, _, isT_it, _, rfl, iteF ⟨_, rfl, _, rfl, iteF ?_⟩⟩
          refine ⟨_, rfl, _, rfl, _, rfl, _, rfl, da, ta, ca, ds, cs, tb, _, _, m, rfl, p5.d, p5.t, p5.c, p5.D, p5.Tt, p5.C, p5.tbs, vk5, top, fun rr H6 s6 hrr => ⟨_, rfl, .inr ⟨rr, _, rfl, fun H7 s7 => ⟨_, rfl, ifN ?_ ⟨_, _, rfl, (s5.trans s6).trans s7⟩⟩⟩⟩⟩
          have erd := Bool.eq_iff_iff.mpr (hrr.trans hdd.symm)
          rw [decide_eq_true erd]
          rfl
        | @lst b xs hb =>
          have vk5 : VK2 H8 (.ref b) none := .lst hb
          have hdd : (false = true ↔ ∃ x l, (none : Option (Int × List Int)) = some (x, l) ∧ x = m ∧ l ∈ lotsF ds.length ∧ net ds tb cs l = m) := ⟨fun z => absurd z (by decide), fun z => by obtain ⟨_, _, z, _⟩ := z; cases z⟩
          refine ⟨_, rfl, _, isT_lt hb, _, rfl, iteF ⟨_, rfl, _, rfl, iteF ?_⟩⟩
          refine ⟨_, rfl, _, rfl, _, rfl, _, rfl, da, ta, ca, ds, cs, tb, _, _, m, rfl, p5.d, p5.t, p5.c, p5.D, p5.Tt, p5.C, p5.tbs, vk5, top, fun rr H6 s6 hrr => ⟨_, rfl, .inr ⟨rr, _, rfl, fun H7 s7 => ⟨_, rfl, ifN ?_ ⟨_, _, rfl, (s5.trans s6).trans s7⟩⟩⟩⟩⟩
          have erd := Bool.eq_iff_iff.mpr (hrr.trans hdd.symm)
          rw [decide_eq_true erd]
          rfl
        | @plst b r c xs g1 g2 =>
          have vk5 : VK2 H8 (.ref b) none := .plst g1 g2
          have hdd : (false = true ↔ ∃ x l, (none : Option (Int × List Int)) = some (x, l) ∧ x = m ∧ l ∈ lotsF ds.length ∧ net ds tb cs l = m) := ⟨fun z => absurd z (by decide), fun z => by obtain ⟨_, _, z, _⟩ := z; cases z⟩
          refine ⟨_, rfl, _, isT_tt g1, _, rfl, iteT ⟨_, rfl, b, _, rfl, .inr (SqT.of g1), rfl, _, rfl, ifY (by rw [dec_int]; rfl) ⟨_, rfl, b, _, _, _, rfl, rfl, SqT.of g1, atI_nat (j := 0) rfl, _, rfl, rfl, _, rfl, ite2 (fun _ => ?_) (fun _ => ?_)⟩⟩⟩
          · refine ⟨_, rfl, b, _, _, _, rfl, rfl, SqT.of g1, atI_nat (j := 1) rfl, _, isT_lt g2, ?_⟩
            refine ⟨_, rfl, _, rfl, iteF ?_⟩
            refine ⟨_, rfl, _, rfl, _, rfl, _, rfl, da, ta, ca, ds, cs, tb, _, _, m, rfl, p5.d, p5.t, p5.c, p5.D, p5.Tt, p5.C, p5.tbs, vk5, top, fun rr H6 s6 hrr => ⟨_, rfl, .inr ⟨rr, _, rfl, fun H7 s7 => ⟨_, rfl, ifN ?_ ⟨_, _, rfl, (s5.trans s6).trans s7⟩⟩⟩⟩⟩
            have erd := Bool.eq_iff_iff.mpr (hrr.trans hdd.symm)
            rw [decide_eq_true erd]
            rfl
          · refine ⟨_, rfl, _, rfl, iteF ?_⟩
            refine ⟨_, rfl, _, rfl, _, rfl, _, rfl, da, ta, ca, ds, cs, tb, _, _, m, rfl, p5.d, p5.t, p5.c, p5.D, p5.Tt, p5.C, p5.tbs, vk5, top, fun rr H6 s6 hrr => ⟨_, rfl, .inr ⟨rr, _, rfl, fun H7 s7 => ⟨_, rfl, ifN ?_ ⟨_, _, rfl, (s5.trans s6).trans s7⟩⟩⟩⟩⟩
            have erd := Bool.eq_iff_iff.mpr (hrr.trans hdd.symm)
            rw [decide_eq_true erd]
            rfl
        | @pair _ c l2 tp2 hl100 =>
          obtain ⟨b, r, rfl, g1, g2⟩ := tp2
          have vk5 : VK2 H8 (.ref b) (some (c, l2)) := .pair ⟨b, r, rfl, g1, g2⟩ hl100
          refine ⟨_, rfl, _, isT_tt g1, _, rfl, iteT ⟨_, rfl, b, _, rfl, .inr (SqT.of g1), rfl, _, rfl, ifY (by rw [dec_int]; rfl) ⟨_, rfl, b, _, _, _, rfl, rfl, SqT.of g1, atI_nat (j := 0) rfl, _, rfl, rfl, _, rfl, ite2 (fun ec => ?_) (fun ec => ?_)⟩⟩⟩
          · have ec' : c = m := by
              rw [dec_int] at ec
              exact beq_iff_eq.mp ec
            refine ⟨_, rfl, b, _, _, _, rfl, rfl, SqT.of g1, atI_nat (j := 1) rfl, _, isT_tt g2, ?_⟩
            refine ⟨_, rfl, _, rfl, iteT ⟨_, rfl, b, _, _, _, rfl, rfl, SqT.of g1, atI_nat (j := 1) rfl, _, rfl, dT l2, ls.map dT, .tup (SqT.of g2) (dpAll_ints l2), .lst (SqL.of elo9) (dpAll_ITs its9), shaped_tI _, shaped_ls _, _, rfl, ite2 (fun ei => ?_) (fun ei => ?_)⟩⟩
            · have hin2 : l2 ∈ ls := by
                rw [any_tI] at ei
                exact of_decide_eq_true ei
              obtain ⟨j2, hj2, hf2⟩ := first_at hin2
              have jn2 : (ls.map (net ds tb cs))[j2]? = some (net ds tb cs l2) := by rw [List.getElem?_map, hj2]; rfl
              refine ⟨_, rfl, _, rfl, .inl ⟨rfl, _, SqL.of elo9⟩, _, rfl, b, _, _, _, rfl, rfl, SqT.of g1, atI_nat (j := 1) rfl, lo, _, dT l2, ls.map dT, j2, dT l2, rfl, rfl, .lst (SqL.of elo9) (dpAll_ITs its9), .tup (SqT.of g2) (dpAll_ints l2), shaped_ls _, shaped_tI _, (by rw [List.getElem?_map, hj2]; rfl), (by rw [eqv_tI]; simp), ?_, nt, _, _, _, rfl, rfl, SqL.of ent9, atI_nat (vI_some jn2), _, rfl, rfl, ?_⟩
              · intro k z hk hz
                rw [List.getElem?_map, Option.map_eq_some_iff] at hz
                obtain ⟨z', hz1, rfl⟩ := hz
                rw [eqv_tI]
                exact decide_eq_false (hf2 k z' hk hz1)
              · have hdd : (decide (V.int (net ds tb cs l2) = V.int m) = true ↔ ∃ x l, some (c, l2) = some (x, l) ∧ x = m ∧ l ∈ lotsF ds.length ∧ net ds tb cs l = m) := by
                  rw [dec_int, beq_iff_eq]
                  exact ⟨fun z => ⟨c, l2, rfl, ec', pm.mem_iff.mp hin2, z⟩, fun ⟨_, _, z, _, _, z2⟩ => by cases z; exact z2⟩
                refine ⟨_, rfl, _, rfl, _, rfl, _, rfl, da, ta, ca, ds, cs, tb, _, _, m, rfl, p5.d, p5.t, p5.c, p5.D, p5.Tt, p5.C, p5.tbs, vk5, top, fun rr H6 s6 hrr => ⟨_, rfl, .inr ⟨rr, _, rfl, fun H7 s7 => ⟨_, rfl, ifN ?_ ⟨_, _, rfl, (s5.trans s6).trans s7⟩⟩⟩⟩⟩
                have erd := Bool.eq_iff_iff.mpr (hrr.trans hdd.symm)
                rw [decide_eq_true erd]
                rfl
            · have hdd : (false = true ↔ ∃ x l, some (c, l2) = some (x, l) ∧ x = m ∧ l ∈ lotsF ds.length ∧ net ds tb cs l = m) := ⟨fun z => absurd z (by decide), fun ⟨_, _, z, _, z1, _⟩ => by
                cases z
                exact absurd (by rw [any_tI, decide_eq_true (pm.mem_iff.mpr z1)]) ei⟩
              refine ⟨_, rfl, _, rfl, _, rfl, _, rfl, da, ta, ca, ds, cs, tb, _, _, m, rfl, p5.d, p5.t, p5.c, p5.D, p5.Tt, p5.C, p5.tbs, vk5, top, fun rr H6 s6 hrr => ⟨_, rfl, .inr ⟨rr, _, rfl, fun H7 s7 => ⟨_, rfl, ifN ?_ ⟨_, _, rfl, (s5.trans s6).trans s7⟩⟩⟩⟩⟩
              have erd := Bool.eq_iff_iff.mpr (hrr.trans hdd.symm)
              rw [decide_eq_true erd]
              rfl
          · have hdd : (false = true ↔ ∃ x l, some (c, l2) = some (x, l) ∧ x = m ∧ l ∈ lotsF ds.length ∧ net ds tb cs l = m) := ⟨fun z => absurd z (by decide), fun ⟨_, _, z, z1, _⟩ => by
              cases z
              exact absurd (by rw [dec_int, z1]; simp) ec⟩
            refine ⟨_, rfl, _, rfl, iteF ?_⟩
            refine ⟨_, rfl, _, rfl, _, rfl, _, rfl, da, ta, ca, ds, cs, tb, _, _, m, rfl, p5.d, p5.t, p5.c, p5.D, p5.Tt, p5.C, p5.tbs, vk5, top, fun rr H6 s6 hrr => ⟨_, rfl, .inr ⟨rr, _, rfl, fun H7 s7 => ⟨_, rfl, ifN ?_ ⟨_, _, rfl, (s5.trans s6).trans s7⟩⟩⟩⟩⟩
            have erd := Bool.eq_iff_iff.mpr (hrr.trans hdd.symm)
            rw [decide_eq_true erd]
            rfl
      · rintro σ H8 ⟨z12, z13, rfl, s5⟩
        exact hQ _
end
end G6
set_option Elab.async false
set_option linter.all false
set_option maxRecDepth 100000
set_option maxHeartbeats 8000000
namespace G6
open PySem PySem.Spec PyProof.Rows L2 NX GxR
section
variable {P : Program} {w : World} {K : PySem.W.Frag} {mg : Str → Option Value} {base : Heap}
def bodyB : List Stmt := (defBody s_law).drop 5
theorem partB (T : Txt K mg base) {f : Addr} {cdv : Value} {A : Around} {outer : List Env} {s : Shared} {H : Hp} {E : XK} {Q : VK} (hr : Room 7 (A.deeper (envOfC "law" (defScope s_law) s.heap.objs.size f cdv))) (hQ : ∀ H', Q (.bl true) H') :
    ∃ t, PSs (XL P w K mg base f cdv A outer s H E) bodyB t ∧ ∀ (H1 : Hp) (da ca ta pa : Addr) (ds cs o5 : List Int) (tb : List (List Int)) (y0 y1 y5 y8 y9 y10 y11 y12 y13 y14 y15 y16 y17 y18 y19 y20 : Option V), PreC T H1 da ca ta ds cs tb → H1 pa = some (.tup (vI o5)) → OrdP ds.length o5 → ds.length ≤ 4 →
      t { nx := fun _ H' => Q .non H', rt := Q } [y0, y1, some (.int (ds.length : Nat)), some (.ref da), some (.ref ca), y5, some (.ref ta), some (.ref pa), y8, y9, y10, y11, y12, y13, y14, y15, y16, y17, y18, y19, y20] H1 := by
  have nd := c_law.nd
  have hu := room65 hr
  have G1 : FnOk P w K mg base CX0 7 T.f_order_cost T.d_order_cost ["deputies", "costs", "order"] (sp_order_cost T) := ok_order_cost T
  have G2 : FnOk P w K mg base CX0 3 T.f_l_cost T.d_l_cost ["_law_deputies_here", "_law_costs", "_law_order_here"] sp_l_cost := ok_l_cost T
  have G3 : FnOk P w K mg base CX0 6 T.f_cheap_order T.d_cheap_order ["deputies", "costs"] (sp_cheap_order T) := ok_cheap_order T
  have G4 : FnOk P w K mg base CX0 7 T.f_shows_cheap_order T.d_shows_cheap_order ["deputies", "costs", "value"] (sp_shows_cheap_order T) := ok_shows_cheap_order T
  have G5 : FnOk P w K mg base CX0 1 T.f_l_alike T.d_l_alike ["_law_found", "_law_due"] sp_l_alike := ok_l_alike T
  have G6' : FnOk P w K mg base CX0 5 T.f_l_orders T.d_l_orders ["_law_some"] (sp_l_orders 4) := ok_l_orders T 4 (by decide)
  obtain ⟨tC, hC, rC⟩ := partC (P := P) (w := w) (outer := outer) (H := H) (E := E) T hr hQ
  refine ⟨_, pss_cons (ps_if (pt_not (pt_val (pe_call G5 (hr.mono (by decide)) (by rfl) T.g_l_alike T.F_l_alike.kp T.b_l_alike .nil pass0 (pa_cons (pe_call G1 hr (by rfl) T.g_order_cost T.F_order_cost.kp T.b_order_cost .nil pass0 (pa_cons (pv 3) (pa_cons (pv 4) (pa_cons (pv 7) pa_nil)))) (pa_cons (pe_call G2 (hr.mono (by decide)) (by rfl) T.g_l_cost T.F_l_cost.kp T.b_l_cost .nil pass0 (pa_cons (pv 3) (pa_cons (pv 4) (pa_cons (pv 7) pa_nil)))) pa_nil))))) (pss_one (ps_ret pe_bl)) pss_nil)
    (pss_cons (ps_set (i := 8) nd rfl (.inl rfl) (pe_call G6' (hr.mono (by decide)) (by rfl) T.g_l_orders T.F_l_orders.kp T.b_l_orders .nil pass0 (pa_cons (pe_listRg (by rfl) (by rfl) T.z_list (prg_1 (by rfl) T.z_range (pv 2))) pa_nil)))
    (pss_cons (ps_setLc (i := 9) (own := [("_law_one", 20)]) (g := gName 20) (tt := tYes) rfl nd rfl rfl (sw_true rfl rfl rfl (by decide +kernel)) (pi_list (pv 8))
          (blkOk_by (own := [("_law_one", 20)]) (N := NL) (sc := defScope s_law) (by decide +kernel)) (fun _ _ _ _ _ => pg_name (i := 20) nd rfl (Or.inl rfl)) (fun _ _ _ _ _ => pts_nil)
          (fun _ _ _ _ _ => pe_call G2 (hr.mono (by decide)) (by rfl) T.g_l_cost T.F_l_cost.kp T.b_l_cost .nil pass0 (pa_cons (pv 3) (pa_cons (pv 4) (pa_cons (pv 20) pa_nil)))))
    (pss_cons (ps_asg (pe_tup (pa_cons (pe_callB (cr_min (by rfl)) (by rfl) T.z_min bt_min (pa_cons (pv 9) pa_nil)) (pa_cons (pe_call G3 (hr.mono (by decide)) (by rfl) T.g_cheap_order T.F_cheap_order.kp T.b_cheap_order .nil pass0 (pa_cons (pv 3) (pa_cons (pv 4) pa_nil))) pa_nil))) (pgT (K := K) (n := 2) rfl rfl (pgs_cons (pg_name (i := 10) nd rfl (.inr rfl)) (pgs_cons (pg_name (i := 11) nd rfl (.inl rfl)) pgs_nil))))
    (pss_cons (ps_if (PW.pt (pw_or (pt_not (pt_val (pe_isi "tuple" (by rfl) T.z_isinstance (by rfl) T.z_tuple bt_tuple (pv 11)))) (pw_or (pt_cmpR op_ne (pe_callB (crLen (K := K) rfl) (by rfl) T.z_len bt_len (pa_cons (pv 11) pa_nil)) pe_int (nomark _)) (pw_or (pt_cmpR op_ne (pe_ix (ixT (K := K) rfl) (pv 11) pe_int (fun _ _ => rfl)) (pv 10) (nomark _))
        (pw_or (pt_cmpR (ninD (K := K) rfl hu) (pe_ix (ixT (K := K) rfl) (pv 11) pe_int (fun _ _ => rfl)) (pv 8) (by rfl))
        (pw_or1 (pt_cmpR op_ne (pe_ix (ixL (K := K) rfl) (pv 9) (pe_bm PySem.F.plainAttrs_list PySem.F.slot_list_index PySem.F.type_list_index (mt_indexD hu) (pv 8) (pa_cons (pe_ix (ixT (K := K) rfl) (pv 11) pe_int (fun _ _ => rfl)) pa_nil)) (fun _ _ => rfl)) (pv 10) (nomark _)))))))) (pss_one (ps_ret pe_bl)) pss_nil)
    (pss_cons (ps_for PassesOwn.never rfl (pi_list (pe_op op_cat (pe_lst (pa_cons (pv 11) (pa_cons (pe_callTy call_list_of (by rfl) T.z_list bt_list (pa_cons (pv 11) pa_nil)) (pa_cons (pe_tup (pa_cons (pe_op op_add (pv 10) pe_int) (pa_cons (pe_ix (ixT (K := K) rfl) (pv 11) pe_int (fun _ _ => rfl)) pa_nil)))
          (pa_cons (pe_tup (pa_cons (pv 10) (pa_cons (pe_callTy call_list_of (by rfl) T.z_list bt_list (pa_cons (pe_ix (ixT (K := K) rfl) (pv 11) pe_int (fun _ _ => rfl)) pa_nil)) pa_nil))) (pa_cons (pe_tup (pa_cons (pv 10) (pa_cons (pe_slice (slT (K := K) rfl) (pe_ix (ixT (K := K) rfl) (pv 11) pe_int (fun _ _ => rfl)) (po_some pe_int) po_none) pa_nil)))
          (pa_cons (pe_tup (pa_cons (pv 10) (pa_cons (pe_tup pa_nil) pa_nil))) (pa_cons pe_non (pa_cons pe_int pa_nil)))))))))
        (pe_lc (own := [("_law_one", 20)]) (g := gName 20) (tt := tYes) (by rfl) nd (pi_list (pv 8))
          (blkOk_by (own := [("_law_one", 20)]) (N := NL) (sc := defScope s_law) (by decide +kernel)) (fun _ _ _ _ _ => pg_name (i := 20) nd rfl (Or.inl rfl)) (fun _ _ _ _ _ => pts_nil)
          (fun _ _ _ _ _ => pe_tup (pa_cons (pv 10) (pa_cons (pv 20) pa_nil)))))) (pg_name (i := 12) nd rfl (Or.inl rfl))
      (pss_cons (ps_set (i := 13) nd rfl (.inl rfl) (pe_and (pe_isi "tuple" (by rfl) T.z_isinstance (by rfl) T.z_tuple bt_tuple (pv 12)) (pe_and (pe_cmpR op_eq (pe_callB (crLen (K := K) rfl) (by rfl) T.z_len bt_len (pa_cons (pv 12) pa_nil)) pe_int (nomark _)) (pe_and (pe_cmpR op_eq (pe_ix (ixT (K := K) rfl) (pv 12) pe_int (fun _ _ => rfl)) (pv 10) (nomark _))
        (pe_one (pe_isi "tuple" (by rfl) T.z_isinstance (by rfl) T.z_tuple bt_tuple (pe_ix (ixT (K := K) rfl) (pv 12) pe_int (fun _ _ => rfl))))))))
      (pss_cons (ps_set (i := 13) nd rfl (.inl rfl) (pe_and (pv 13) (pe_and (pe_cmpR (inD (K := K) rfl hu) (pe_ix (ixT (K := K) rfl) (pv 12) pe_int (fun _ _ => rfl)) (pv 8) (by rfl))
        (pe_one (pe_cmpR op_eq (pe_ix (ixL (K := K) rfl) (pv 9) (pe_bm PySem.F.plainAttrs_list PySem.F.slot_list_index PySem.F.type_list_index (mt_indexD hu) (pv 8) (pa_cons (pe_ix (ixT (K := K) rfl) (pv 12) pe_int (fun _ _ => rfl)) pa_nil)) (fun _ _ => rfl)) (pv 10) (nomark _))))))
      (pss_one (ps_if (pt_not (pt_val (pe_call G5 (hr.mono (by decide)) (by rfl) T.g_l_alike T.F_l_alike.kp T.b_l_alike .nil pass0 (pa_cons (pe_call G4 hr (by rfl) T.g_shows_cheap_order T.F_shows_cheap_order.kp T.b_shows_cheap_order .nil pass0 (pa_cons (pv 3) (pa_cons (pv 4) (pa_cons (pv 12) pa_nil)))) (pa_cons (pv 13) pa_nil))))) (pss_one (ps_ret pe_bl)) pss_nil)))))
    hC))))), fun H1 da ca ta pa ds cs o5 tb y0 y1 y5 y8 y9 y10 y11 y12 y13 y14 y15 y16 y17 y18 y19 y20 pre hpa O hn4 => ?_⟩
  have hm6 := pre.D.most
  have hb1 := pre.D.pos
  have ocap := nodup_cap O.2 O.1
  -- the order's cost
  refine ⟨_, rfl, _, rfl, _, rfl, da, ca, pa, ds, cs, o5, rfl, pre.d, pre.c, hpa, pre.D, pre.C, O, pre.tbs, fun I1 r1 => ?_⟩
  refine ⟨_, rfl, _, rfl, _, rfl, da, ca, pa, ds, cs, o5, rfl, r1.tup pre.d, r1.tup pre.c, r1.tup hpa, pre.D, pre.C, O.1, by omega, fun I2 r2 => .inl ⟨_, _, rfl, fun I3 r3 => ⟨_, rfl, ifN (by simp) ?_⟩⟩⟩
  have p3 := pre.sm ((r1.trans r2).trans r3)
  clear r1 r2 r3 hpa O ocap
  -- all orders
  refine ⟨_, rfl, _, rfl, RgOk.of_le (by decide) (by omega) (by decide) (by omega), fun L nL => ?_⟩
  have r4 : Sm I3 (upd I3 L (.lst (rgV 0 (ds.length : Nat)))) := Sm.new nL
  have eL : (upd I3 L (.lst (rgV 0 (ds.length : Nat)))) L = some (.lst (vI (upTo ds.length))) := by
    rw [upd_same]
    unfold rgV vI upTo
    rw [List.map_map]
    congr 2
    rw [show ((ds.length : Nat) : Int) - 0 = (ds.length : Nat) by omega, Int.toNat_natCast]
    exact List.map_congr_left fun i _ => by show V.int (0 + (i : Int)) = V.int (Int.ofNat i); rw [Int.zero_add]; rfl
  generalize (upd I3 L (.lst (rgV 0 (ds.length : Nat)))) = I4 at r4 eL
  refine ⟨L, _, rfl, eL, by rw [upTo_len]; exact hn4, fun H2 lo ys s2 nlo elo its => ?_⟩
  have p2 := p3.sm (r4.trans s2)
  have oml : ∀ l, l ∈ ords 4 (upTo ds.length) ↔ l.Perm (upTo ds.length) := mem_ords 4 _ (by rw [upTo_len]; exact hn4)
  have hl64 : (ords 4 (upTo ds.length)).length ≤ 256 := ords_len 4 _ (by rw [upTo_len]; exact hn4)
  generalize hE : ords 4 (upTo ds.length) = ls at its oml hl64
  have hyl := paired_len its
  have hll := hl64
  -- the sums
  refine ⟨_, rfl, lo, rfl, ⟨_, SqL.of elo⟩, fun nt nnt => ?_⟩
  refine lc_list (xs := ys) (fun i H' => Sm H2 H' ∧ H' nt = some (.lst (vI ((ls.map (tot ds cs)).take i)))) ⟨Sm.new nnt, upd_same⟩ (fun i H' _ ⟨s', _⟩ => SqL.of (s'.lst elo)) (fun i x H' hx ⟨s4, ent⟩ => ?_) (fun H3 ⟨s4, ent⟩ => ?_)
  · obtain ⟨l, hl, tx, rfl, htx⟩ := paired_at its hx
    have lp := (oml l).mp (List.mem_of_getElem? hl)
    have p4 := p2.sm s4
    have ilt : i < ls.length := (List.getElem?_eq_some_iff.mp hl).1
    have lo2 := ord_perm.mpr lp
    refine ⟨rfl, yesT ⟨_, rfl, _, rfl, _, rfl, da, ca, tx, ds, cs, l, rfl, p4.d, p4.c, s4.tup htx, p4.D, p4.C, lo2.1.1, by omega, fun H5 s5 => ⟨_, s5.lst ent, ?_, (s4.trans s5).put nnt, ?_⟩⟩⟩
    · rw [vI_len, List.length_take, List.length_map]; exact small1000 (by omega)
    · have en : (ls.map (tot ds cs))[i]? = some (tot ds cs l) := by rw [List.getElem?_map, hl]; rfl
      rw [upd_same, List.take_add_one, en]
      unfold vI
      rw [List.map_append]
      rfl
  · rw [show (ls.map (tot ds cs)).take ys.length = ls.map (tot ds cs) from List.take_of_length_le (by rw [List.length_map, hyl]; exact Nat.le_refl _)] at ent
    have p3 := p2.sm s4
    have elo3 := s4.lst elo
    have its3 := its.sm s4
    -- best, found
    refine ⟨_, rfl, nt, _, rfl, SqL.of ent, ?_, fun m hm hle => ?_⟩
    · rw [List.length_map]
      exact List.length_pos_of_mem ((oml (upTo ds.length)).mpr (List.Perm.refl _))
    have top : Best ds cs m := by
      obtain ⟨l, hl, e⟩ := List.mem_map.mp hm
      exact ⟨⟨l, (oml l).mp hl, e⟩, fun l' hl' => hle _ (List.mem_map.mpr ⟨l', (oml l').mpr hl', rfl⟩)⟩
    refine ⟨_, rfl, _, rfl, da, ca, ds, cs, rfl, p3.d, p3.c, p3.D, p3.C, p3.tbs, fun H4 v0 m' l s5 tp hlot hn ht => ⟨by show 2 ≤ sizeLine; decide, fun q0 nq0 => ?_⟩⟩
    have em : m' = m := ht.uniq top
    subst em
    have s6 : Sm H4 (upd H4 q0 (.tup [.int m', v0])) := Sm.new nq0
    refine ⟨q0, _, rfl, SqT.of upd_same, rfl, _, _, rfl, _, _, rfl, rfl, ?_⟩
    obtain ⟨va, vb, rfl, h1, h2⟩ := tp
    replace h1 := s6.tup h1
    replace h2 := s6.tup h2
    have s56 := s5.trans s6
    generalize (upd H4 q0 (.tup [.int m', .ref va])) = H5 at s6 h1 h2 s56
    have elo5 := s56.lst elo3
    have its5 := its3.sm s56
    have ent5 := s56.lst ent
    have hin : l ∈ ls := (oml l).mpr hlot
    obtain ⟨j, hj, hfst⟩ := first_at hin
    have jn : (ls.map (tot ds cs))[j]? = some (tot ds cs l) := by rw [List.getElem?_map, hj]; rfl
    have p5' := p3.sm s56
    generalize hmm : m' = m at *
    refine ⟨_, rfl, _, isT_tt h1, _, rfl, iteF ⟨_, rfl, va, _, rfl, .inr (SqT.of h1), rfl, _, rfl, ifN (by rw [dec_int]; rfl) ⟨_, rfl, va, _, _, _, rfl, rfl, SqT.of h1, atI_nat (j := 0) rfl, _, rfl, rfl, _, rfl, ifN (by rw [dec_int]; simp) ⟨_, rfl, va, _, _, _, rfl, rfl, SqT.of h1, atI_nat (j := 1) rfl, _, rfl, dT l, ls.map dT, .tup (SqT.of h2) (dpAll_ints l), .lst (SqL.of elo5) (dpAll_ITs its5), shaped_tI _, shaped_ls _, _, rfl, ifN (by rw [any_tI, decide_eq_true hin]; rfl) ?_⟩⟩⟩⟩
    refine ⟨_, rfl, _, rfl, .inl ⟨rfl, _, SqL.of elo5⟩, _, rfl, va, _, _, _, rfl, rfl, SqT.of h1, atI_nat (j := 1) rfl, lo, _, dT l, ls.map dT, j, dT l, rfl, rfl, .lst (SqL.of elo5) (dpAll_ITs its5), .tup (SqT.of h2) (dpAll_ints l), shaped_ls _, shaped_tI _, (by rw [List.getElem?_map, hj]; rfl), (by rw [eqv_tI]; simp), ?_, nt, _, _, _, rfl, rfl, SqL.of ent5, atI_nat (vI_some jn), _, rfl, rfl, _, rfl, ifN (by rw [dec_int, hn]; simp) ?_⟩
    · intro k z hk hz
      rw [List.getElem?_map, Option.map_eq_some_iff] at hz
      obtain ⟨z', hz1, rfl⟩ := hz
      rw [eqv_tI]
      exact decide_eq_false (hfst k z' hk hz1)
    -- the values
    refine ⟨_, rfl, _, rfl, va, _, rfl, .inr (SqT.of h1), fun q1 nq1 => ?_⟩
    have t1 : Sm H5 (upd H5 q1 (.lst [.int m, .ref vb])) := Sm.new nq1
    have e1 : (upd H5 q1 (.lst [.int m, .ref vb])) q1 = some (.lst [.int m, .ref vb]) := upd_same
    generalize (upd H5 q1 (.lst [.int m, .ref vb])) = J1 at t1 e1
    refine ⟨_, rfl, _, _, rfl, rfl, _, rfl, va, _, _, _, rfl, rfl, SqT.of (t1.tup h1), atI_nat (j := 1) rfl, by show 2 ≤ sizeLine; decide, fun q2 nq2 => ?_⟩
    have t2 : Sm J1 (upd J1 q2 (.tup [.int (m + 1), .ref vb])) := Sm.new nq2
    have e2 : (upd J1 q2 (.tup [.int (m + 1), .ref vb])) q2 = some (.tup [.int (m + 1), .ref vb]) := upd_same
    generalize (upd J1 q2 (.tup [.int (m + 1), .ref vb])) = J2 at t2 e2
    have t12 := t1.trans t2
    refine ⟨_, rfl, _, rfl, va, _, _, _, rfl, rfl, SqT.of (t12.tup h1), atI_nat (j := 1) rfl, vb, _, rfl, .inr (SqT.of (t12.tup h2)), fun q3 nq3 => ⟨by show 2 ≤ sizeLine; decide, fun q4 nq4 => ?_⟩⟩
    have t3 : Sm J2 (upd J2 q3 (.lst (vI l))) := Sm.new nq3
    have e3 : (upd J2 q3 (.lst (vI l))) q3 = some (.lst (vI l)) := upd_same
    generalize (upd J2 q3 (.lst (vI l))) = J3 at t3 e3 nq4
    have t4 : Sm J3 (upd J3 q4 (.tup [.int m, .ref q3])) := Sm.new nq4
    have e4 : (upd J3 q4 (.tup [.int m, .ref q3])) q4 = some (.tup [.int m, .ref q3]) := upd_same
    generalize (upd J3 q4 (.tup [.int m, .ref q3])) = J4 at t4 e4
    have llen := hlot.length_eq
    rw [upTo_len] at llen
    have s1n : HT.sIx (vI l).length 0 (some 1) = min 1 (vI l).length := HT.sIx_nat (vI l).length 0 1
    refine ⟨_, rfl, _, rfl, va, _, _, _, rfl, rfl, SqT.of ((t12.trans (t3.trans t4)).tup h1), atI_nat (j := 1) rfl, _, rfl, vb, _, rfl, SqT.of ((t12.trans (t3.trans t4)).tup h2), (fun z => absurd z.1 (by rw [s1n, vI_len]; omega)), fun _ q5 nq5 => ⟨by show 2 ≤ sizeLine; decide, fun q6 nq6 => ?_⟩⟩
    rw [show cutV (vI l) (some 1) none = vI (l.drop 1) from cut_from (i := 1) (by omega)] at nq6 ⊢
    have t5 : Sm J4 (upd J4 q5 (.tup (vI (l.drop 1)))) := Sm.new nq5
    have e5 : (upd J4 q5 (.tup (vI (l.drop 1)))) q5 = some (.tup (vI (l.drop 1))) := upd_same
    generalize (upd J4 q5 (.tup (vI (l.drop 1)))) = J5 at t5 e5 nq6
    have t6 : Sm J5 (upd J5 q6 (.tup [.int m, .ref q5])) := Sm.new nq6
    have e6 : (upd J5 q6 (.tup [.int m, .ref q5])) q6 = some (.tup [.int m, .ref q5]) := upd_same
    generalize (upd J5 q6 (.tup [.int m, .ref q5])) = J6' at t6 e6
    refine ⟨_, rfl, Nat.zero_le _, fun q8 nq8 => ⟨by show 2 ≤ sizeLine; decide, fun q9 nq9 => ⟨by show 8 ≤ sizeLine; decide, fun q7 nq7 => ?_⟩⟩⟩
    have t8 : Sm J6' (upd J6' q8 (.tup [])) := Sm.new nq8
    have e8 : (upd J6' q8 (.tup [])) q8 = some (.tup (vI [])) := upd_same
    generalize (upd J6' q8 (.tup [])) = J8 at t8 e8 nq9 nq7
    have t9 : Sm J8 (upd J8 q9 (.tup [.int m, .ref q8])) := Sm.new nq9
    have e9 : (upd J8 q9 (.tup [.int m, .ref q8])) q9 = some (.tup [.int m, .ref q8]) := upd_same
    generalize (upd J8 q9 (.tup [.int m, .ref q8])) = J6 at t9 e9 nq7
    have t89 := t8.trans t9
    replace e6 := t89.tup e6
    replace t6 := t6.trans t89
    have t7 : Sm J6 (upd J6 q7 (.lst [.ref va, .ref q1, .ref q2, .ref q4, .ref q6, .ref q9, .non, .int 3])) := Sm.new nq7
    have e7 : (upd J6 q7 (.lst [.ref va, .ref q1, .ref q2, .ref q4, .ref q6, .ref q9, .non, .int 3])) q7 = some (.lst [.ref va, .ref q1, .ref q2, .ref q4, .ref q6, .ref q9, .non, .int 3]) := upd_same
    generalize (upd J6 q7 (.lst [.ref va, .ref q1, .ref q2, .ref q4, .ref q6, .ref q9, .non, .int 3])) = J7 at t7 e7
    have t17 := (((((t1.trans t2).trans t3).trans t4).trans t5).trans t6).trans t7
    refine ⟨_, rfl, lo, rfl, ⟨_, SqL.of (t17.lst elo5)⟩, fun D nD => ?_⟩
    refine lc_list (xs := ys) (fun j H' => Sm J7 H' ∧ ∃ es, H' D = some (.lst es) ∧ es.length = j ∧ ∀ v ∈ es, ∃ l2 : List Int, TP H' v m l2 ∧ l2.length ≤ 100) ⟨Sm.new nD, [], upd_same, rfl, fun v h => absurd h (by simp)⟩ (fun j H' _ ⟨s', _⟩ => SqL.of (s'.lst (t17.lst elo5))) (fun j x H' hx ⟨s', es, eD, el, hes⟩ => ?_) (fun H' ⟨s', es, eD, el, hes⟩ => ?_)
    · obtain ⟨l2, hl2, tx, rfl, htx⟩ := paired_at its5 hx
      have jlt : j < ls.length := (List.getElem?_eq_some_iff.mp hl2).1
      have l2len := show l2.length ≤ 100 by have := ((oml l2).mp (List.mem_of_getElem? hl2)).length_eq; rw [upTo_len] at this; omega
      refine ⟨rfl, yesT ⟨_, rfl, _, rfl, by show 2 ≤ sizeLine; decide, fun u nu => ⟨es, ?_, by rw [el]; exact small1000 (by omega), (s'.trans (Sm.new nu)).put nD, _, upd_same, by rw [List.length_append, List.length_singleton, el], fun v hv => ?_⟩⟩⟩
      · rw [upd_ne (ne_of_none eD nu)]; exact eD
      · have su : Sm H' (upd H' u (.tup [.int m, .ref tx])) := Sm.new nu
        have eu : (upd H' u (.tup [.int m, .ref tx])) u = some (.tup [.int m, .ref tx]) := upd_same
        generalize (upd H' u (.tup [.int m, .ref tx])) = H'' at su eu
        have eD2 := su.lst eD
        have ts : ∀ b xs, H'' b = some (.tup xs) → (upd H'' D (.lst (es ++ [.ref u]))) b = some (.tup xs) := fun b xs e => by
          rw [upd_ne (fun z => by rw [z, eD2] at e; cases e)]; exact e
        rcases List.mem_append.mp hv with hv | hv
        · obtain ⟨l3, h3, h4⟩ := hes v hv
          exact ⟨l3, tp_le ts _ _ _ (tp_sm su _ _ _ h3), h4⟩
        · rw [List.mem_singleton.mp hv]
          exact ⟨l2, ⟨u, tx, rfl, ts _ _ eu, ts _ _ (su.tup (s'.tup (t17.tup htx)))⟩, l2len⟩
    · have t18 := t17.trans s'
      refine ⟨q7, D, _, _, rfl, rfl, s'.lst e7, eD, ?_, fun LL nLL => ?_⟩
      · show 8 + es.length ≤ sizeLine
        rw [el, hyl]
        exact Nat.le_of_lt (small1000 (by omega))
      have sL : Sm H' (upd H' LL (.lst ([.ref va, .ref q1, .ref q2, .ref q4, .ref q6, .ref q9, .non, .int 3] ++ es))) := Sm.new nLL
      have eL : (upd H' LL (.lst ([.ref va, .ref q1, .ref q2, .ref q4, .ref q6, .ref q9, .non, .int 3] ++ es))) LL = some (.lst ([.ref va, .ref q1, .ref q2, .ref q4, .ref q6, .ref q9, .non, .int 3] ++ es)) := upd_same
      generalize (upd H' LL (.lst ([.ref va, .ref q1, .ref q2, .ref q4, .ref q6, .ref q9, .non, .int 3] ++ es))) = HL at sL eL
      have z27 := (((((t2.trans t3).trans t4).trans t5).trans t6).trans t7).trans (s'.trans sL)
      have z37 := ((((t3.trans t4).trans t5).trans t6).trans t7).trans (s'.trans sL)
      have z47 := (((t4.trans t5).trans t6).trans t7).trans (s'.trans sL)
      have z57 := ((t5.trans t6).trans t7).trans (s'.trans sL)
      have z67 := (t6.trans t7).trans (s'.trans sL)
      have z77 := t7.trans (s'.trans sL)
      have w17 := t1.trans z27
      have vks : ∀ v ∈ ([.ref va, .ref q1, .ref q2, .ref q4, .ref q6, .ref q9, .non, .int 3] ++ es : List V), ∃ o, VK2 HL v o := fun v hv => by
        rcases List.mem_append.mp hv with hv | hv
        · simp only [List.mem_cons, List.not_mem_nil, or_false] at hv
          rcases hv with rfl | rfl | rfl | rfl | rfl | rfl | rfl | rfl
          · exact ⟨_, .pair ⟨va, vb, rfl, w17.tup h1, w17.tup h2⟩ (by omega)⟩
          · exact ⟨_, .lst (z27.lst e1)⟩
          · exact ⟨_, .pair ⟨q2, vb, rfl, z37.tup e2, w17.tup h2⟩ (by omega)⟩
          · exact ⟨_, .plst (z57.tup e4) (z47.lst e3)⟩
          · exact ⟨_, .pair ⟨q6, q5, rfl, z77.tup e6, z67.tup e5⟩ (by rw [List.length_drop]; omega)⟩
          · exact ⟨_, .pair ⟨q9, q8, rfl, z77.tup e9, z77.tup (t9.tup e8)⟩ (by show 0 ≤ 100; decide)⟩
          · exact ⟨_, .non⟩
          · exact ⟨_, .int 3⟩
        · obtain ⟨l3, h3, h4⟩ := hes v hv
          exact ⟨_, .pair (tp_sm sL _ _ _ h3) h4⟩
      have p8 := p5'.sm w17
      have elo8 := w17.lst elo5
      have its8 := its5.sm w17
      have ent8 := w17.lst ent5
      refine ⟨LL, rfl, ⟨_, SqL.of eL⟩, for_list (xs := [.ref va, .ref q1, .ref q2, .ref q4, .ref q6, .ref q9, .non, .int 3] ++ es) (fun i σ H' => ∃ z12 z13, σ = [y0, y1, some (.int (ds.length : Nat)), some (.ref da), some (.ref ca), y5, some (.ref ta), some (.ref pa), some (.ref lo), some (.ref nt), some (.int m), some (.ref va), z12, z13, y14, y15, y16, y17, y18, y19, y20] ∧ Sm HL H') ⟨_, _, rfl, Sm.refl HL⟩ (fun i σ H' _ ⟨_, _, _, s'⟩ => SqL.of (s'.lst eL)) ?_ ?_⟩
      · rintro i v σ H8 hv ⟨z12, z13, rfl, s5⟩
        obtain ⟨o, vk⟩ := vks v (List.mem_of_getElem? hv)
        have vk5 := vk.sm s5
        have p5 := p8.sm s5
        have elo9 := s5.lst elo8
        have its9 := its8.sm s5
        have ent9 := s5.lst ent8
        cases vk5 with
        | non =>
          have vk5 : VK2 H8 .non none := .non
          have hdd : (false = true ↔ ∃ x l, (none : Option (Int × List Int)) = some (x, l) ∧ x = m ∧ l.Perm (upTo ds.length) ∧ tot ds cs l = m) := ⟨fun z => absurd z (by decide), fun z => by obtain ⟨_, _, z, _⟩ := z; cases z⟩
          refine ⟨_, rfl, _, isT_nt, _, rfl, iteF ⟨_, rfl, _, rfl, iteF ?_⟩⟩
          refine ⟨_, rfl, _, rfl, _, rfl, da, ca, ds, cs, _, _, m, rfl, p5.d, p5.c, p5.D, p5.C, p5.tbs, vk5, top, fun rr H6 s6 hrr => ⟨_, rfl, .inr ⟨rr, _, rfl, fun H7 s7 => ⟨_, rfl, ifN ?_ ⟨_, _, rfl, (s5.trans s6).trans s7⟩⟩⟩⟩⟩
          have erd := Bool.eq_iff_iff.mpr (hrr.trans hdd.symm)
          rw [decide_eq_true erd]
          rfl
        | int k =>
          have vk5 : VK2 H8 (.int k) none := .int k
          have hdd : (false = true ↔ ∃ x l, (none : Option (Int × List Int)) = some (x, l) ∧ x = m ∧ l.Perm (upTo ds.length) ∧ tot ds cs l = m) := ⟨fun z => absurd z (by decide), fun z => by obtain ⟨_, _, z, _⟩ := z; cases z⟩
          refine ⟨_, rfl, _, isT_it, _, rfl, iteF ⟨_, rfl, _, rfl, iteF ?_⟩⟩
          refine ⟨_, rfl, _, rfl, _, rfl, da, ca, ds, cs, _, _, m, rfl, p5.d, p5.c, p5.D, p5.C, p5.tbs, vk5, top, fun rr H6 s6 hrr => ⟨_, rfl, .inr ⟨rr, _, rfl, fun H7 s7 => ⟨_, rfl, ifN ?_ ⟨_, _, rfl, (s5.trans s6).trans s7⟩⟩⟩⟩⟩
          have erd := Bool.eq_iff_iff.mpr (hrr.trans hdd.symm)
          rw [decide_eq_true erd]
          rfl
        | @lst b xs hb =>
          have vk5 : VK2 H8 (.ref b) none := .lst hb
          have hdd : (false = true ↔ ∃ x l, (none : Option (Int × List Int)) = some (x, l) ∧ x = m ∧ l.Perm (upTo ds.length) ∧ tot ds cs l = m) := ⟨fun z => absurd z (by decide), fun z => by obtain ⟨_, _, z, _⟩ := z; cases z⟩
          refine ⟨_, rfl, _, isT_lt hb, _, rfl, iteF ⟨_, rfl, _, rfl, iteF ?_⟩⟩
          refine ⟨_, rfl, _, rfl, _, rfl, da, ca, ds, cs, _, _, m, rfl, p5.d, p5.c, p5.D, p5.C, p5.tbs, vk5, top, fun rr H6 s6 hrr => ⟨_, rfl, .inr ⟨rr, _, rfl, fun H7 s7 => ⟨_, rfl, ifN ?_ ⟨_, _, rfl, (s5.trans s6).trans s7⟩⟩⟩⟩⟩
          have erd := Bool.eq_iff_iff.mpr (hrr.trans hdd.symm)
          rw [decide_eq_true erd]
          rfl
        | @plst b r c xs g1 g2 =>
          have vk5 : VK2 H8 (.ref b) none := .plst g1 g2
          have hdd : (false = true ↔ ∃ x l, (none : Option (Int × List Int)) = some (x, l) ∧ x = m ∧ l.Perm (upTo ds.length) ∧ tot ds cs l = m) := ⟨fun z => absurd z (by decide), fun z => by obtain ⟨_, _, z, _⟩ := z; cases z⟩
          refine ⟨_, rfl, _, isT_tt g1, _, rfl, iteT ⟨_, rfl, b, _, rfl, .inr (SqT.of g1), rfl, _, rfl, ifY (by rw [dec_int]; rfl) ⟨_, rfl, b, _, _, _, rfl, rfl, SqT.of g1, atI_nat (j := 0) rfl, _, rfl, rfl, _, rfl, ite2 (fun _ => ?_) (fun _ => ?_)⟩⟩⟩
          · refine ⟨_, rfl, b, _, _, _, rfl, rfl, SqT.of g1, atI_nat (j := 1) rfl, _, isT_lt g2, ?_⟩
            refine ⟨_, rfl, _, rfl, iteF ?_⟩
            refine ⟨_, rfl, _, rfl, _, rfl, da, ca, ds, cs, _, _, m, rfl, p5.d, p5.c, p5.D, p5.C, p5.tbs, vk5, top, fun rr H6 s6 hrr => ⟨_, rfl, .inr ⟨rr, _, rfl, fun H7 s7 => ⟨_, rfl, ifN ?_ ⟨_, _, rfl, (s5.trans s6).trans s7⟩⟩⟩⟩⟩
            have erd := Bool.eq_iff_iff.mpr (hrr.trans hdd.symm)
            rw [decide_eq_true erd]
            rfl
          · refine ⟨_, rfl, _, rfl, iteF ?_⟩
            refine ⟨_, rfl, _, rfl, _, rfl, da, ca, ds, cs, _, _, m, rfl, p5.d, p5.c, p5.D, p5.C, p5.tbs, vk5, top, fun rr H6 s6 hrr => ⟨_, rfl, .inr ⟨rr, _, rfl, fun H7 s7 => ⟨_, rfl, ifN ?_ ⟨_, _, rfl, (s5.trans s6).trans s7⟩⟩⟩⟩⟩
            have erd := Bool.eq_iff_iff.mpr (hrr.trans hdd.symm)
            rw [decide_eq_true erd]
            rfl
        | @pair _ c l2 tp2 hl100 =>
          obtain ⟨b, r, rfl, g1, g2⟩ := tp2
          have vk5 : VK2 H8 (.ref b) (some (c, l2)) := .pair ⟨b, r, rfl, g1, g2⟩ hl100
          refine ⟨_, rfl, _, isT_tt g1, _, rfl, iteT ⟨_, rfl, b, _, rfl, .inr (SqT.of g1), rfl, _, rfl, ifY (by rw [dec_int]; rfl) ⟨_, rfl, b, _, _, _, rfl, rfl, SqT.of g1, atI_nat (j := 0) rfl, _, rfl, rfl, _, rfl, ite2 (fun ec => ?_) (fun ec => ?_)⟩⟩⟩
          · have ec' : c = m := by
              rw [dec_int] at ec
              exact beq_iff_eq.mp ec
            refine ⟨_, rfl, b, _, _, _, rfl, rfl, SqT.of g1, atI_nat (j := 1) rfl, _, isT_tt g2, ?_⟩
            refine ⟨_, rfl, _, rfl, iteT ⟨_, rfl, b, _, _, _, rfl, rfl, SqT.of g1, atI_nat (j := 1) rfl, _, rfl, dT l2, ls.map dT, .tup (SqT.of g2) (dpAll_ints l2), .lst (SqL.of elo9) (dpAll_ITs its9), shaped_tI _, shaped_ls _, _, rfl, ite2 (fun ei => ?_) (fun ei => ?_)⟩⟩
            · have hin2 : l2 ∈ ls := by
                rw [any_tI] at ei
                exact of_decide_eq_true ei
              obtain ⟨j2, hj2, hf2⟩ := first_at hin2
              have jn2 : (ls.map (tot ds cs))[j2]? = some (tot ds cs l2) := by rw [List.getElem?_map, hj2]; rfl
              refine ⟨_, rfl, _, rfl, .inl ⟨rfl, _, SqL.of elo9⟩, _, rfl, b, _, _, _, rfl, rfl, SqT.of g1, atI_nat (j := 1) rfl, lo, _, dT l2, ls.map dT, j2, dT l2, rfl, rfl, .lst (SqL.of elo9) (dpAll_ITs its9), .tup (SqT.of g2) (dpAll_ints l2), shaped_ls _, shaped_tI _, (by rw [List.getElem?_map, hj2]; rfl), (by rw [eqv_tI]; simp), ?_, nt, _, _, _, rfl, rfl, SqL.of ent9, atI_nat (vI_some jn2), _, rfl, rfl, ?_⟩
              · intro k z hk hz
                rw [List.getElem?_map, Option.map_eq_some_iff] at hz
                obtain ⟨z', hz1, rfl⟩ := hz
                rw [eqv_tI]
                exact decide_eq_false (hf2 k z' hk hz1)
              · have hdd : (decide (V.int (tot ds cs l2) = V.int m) = true ↔ ∃ x l, some (c, l2) = some (x, l) ∧ x = m ∧ l.Perm (upTo ds.length) ∧ tot ds cs l = m) := by
                  rw [dec_int, beq_iff_eq]
                  exact ⟨fun z => ⟨c, l2, rfl, ec', (oml _).mp hin2, z⟩, fun ⟨_, _, z, _, _, z2⟩ => by cases z; exact z2⟩
                refine ⟨_, rfl, _, rfl, _, rfl, da, ca, ds, cs, _, _, m, rfl, p5.d, p5.c, p5.D, p5.C, p5.tbs, vk5, top, fun rr H6 s6 hrr => ⟨_, rfl, .inr ⟨rr, _, rfl, fun H7 s7 => ⟨_, rfl, ifN ?_ ⟨_, _, rfl, (s5.trans s6).trans s7⟩⟩⟩⟩⟩
                have erd := Bool.eq_iff_iff.mpr (hrr.trans hdd.symm)
                rw [decide_eq_true erd]
                rfl
            · have hdd : (false = true ↔ ∃ x l, some (c, l2) = some (x, l) ∧ x = m ∧ l.Perm (upTo ds.length) ∧ tot ds cs l = m) := ⟨fun z => absurd z (by decide), fun ⟨_, _, z, _, z1, _⟩ => by
                cases z
                exact absurd (by rw [any_tI, decide_eq_true ((oml _).mpr z1)]) ei⟩
              refine ⟨_, rfl, _, rfl, _, rfl, da, ca, ds, cs, _, _, m, rfl, p5.d, p5.c, p5.D, p5.C, p5.tbs, vk5, top, fun rr H6 s6 hrr => ⟨_, rfl, .inr ⟨rr, _, rfl, fun H7 s7 => ⟨_, rfl, ifN ?_ ⟨_, _, rfl, (s5.trans s6).trans s7⟩⟩⟩⟩⟩
              have erd := Bool.eq_iff_iff.mpr (hrr.trans hdd.symm)
              rw [decide_eq_true erd]
              rfl
          · have hdd : (false = true ↔ ∃ x l, some (c, l2) = some (x, l) ∧ x = m ∧ l.Perm (upTo ds.length) ∧ tot ds cs l = m) := ⟨fun z => absurd z (by decide), fun ⟨_, _, z, z1, _⟩ => by
              cases z
              exact absurd (by rw [dec_int, z1]; simp) ec⟩
            refine ⟨_, rfl, _, rfl, iteF ?_⟩
            refine ⟨_, rfl, _, rfl, _, rfl, da, ca, ds, cs, _, _, m, rfl, p5.d, p5.c, p5.D, p5.C, p5.tbs, vk5, top, fun rr H6 s6 hrr => ⟨_, rfl, .inr ⟨rr, _, rfl, fun H7 s7 => ⟨_, rfl, ifN ?_ ⟨_, _, rfl, (s5.trans s6).trans s7⟩⟩⟩⟩⟩
            have erd := Bool.eq_iff_iff.mpr (hrr.trans hdd.symm)
            rw [decide_eq_true erd]
            rfl
      · rintro σ H8 ⟨z12, z13, rfl, s5⟩
        exact rC H8 da ca ta ds cs tb _ _ _ _ _ _ _ _ _ _ _ _ _ _ _ _ _ (p8.sm s5)
end
end G6
set_option Elab.async false
set_option linter.all false
set_option maxRecDepth 100000
set_option maxHeartbeats 8000000
namespace G6
open PySem PySem.Spec PyProof.Rows L2 NX GxR
/-- the scope of the table's outer comprehension -/
def tblSc : Scope := match (defBody s_law).getD 3 (.Pass ⟨0, 0, 0, 0⟩) with
  | .Assign _ (.Call _ [.ListComp _ _ sc _] _ _) _ => sc
  | _ => defScope s_law
/-- .. as it stands within: what the law holds in cells -/
def tblSc2 : Scope := { tblSc with names := tblSc.names.map fun (n, k) => if k == NameKind.free then (n, NameKind.cell) else (n, k) }
theorem IT.ts {H H' : Hp} (h : ∀ b xs, H b = some (.tup xs) → H' b = some (.tup xs)) {v : V} {l : List Int} (q : IT H v l) : IT H' v l := let ⟨t, e, g⟩ := q; ⟨t, e, h _ _ g⟩
theorem ITs.ts {H H' : Hp} (h : ∀ b xs, H b = some (.tup xs) → H' b = some (.tup xs)) {rs : List V} {ls : List (List Int)} (q : ITs H rs ls) : ITs H' rs ls := Paired.mapP q fun _ _ z => z.ts h
section
variable {P : Program} {w : World} {K : PySem.W.Frag} {mg : Str → Option Value} {base : Heap}
def sp_law (T : Txt K mg base) : Sp := fun vs H Q _ => ∃ (a : Addr) (ns : List Int), vs = [.ref a] ∧ SqL K H a (ns.map V.int) ∧ Tb T H ∧ ∀ H', Q (.bl true) H'
theorem ok_law (T : Txt K mg base) {f : Addr} {fd : FuncData} (F : Fun K "law" "law" s_law f fd) : FnOk P w K mg base CX0 8 f fd ["_law_script"] (sp_law T) := by
  have G1 : FnOk P w K mg base CX0 1 T.f_l_taken T.d_l_taken ["_law_row", "_law_many"] (sp_l_taken K) := ok_l_taken T
  have G2 : FnOk P w K mg base CX0 2 T.f_l_deputies T.d_l_deputies ["_law_row", "_law_size"] (sp_l_deputies K) := ok_l_deputies T
  have G3 : FnOk P w K mg base CX0 3 T.f_l_order T.d_l_order ["_law_row", "_law_size"] (sp_l_order K) := ok_l_order T
  refine F.ok c_law (fun vs H Q E h => ?_) (fun cdv A outer s H vs Q E hr h => ?_)
  · obtain ⟨a, ns, rfl, _⟩ := h
    rfl
  · obtain ⟨a, ns, rfl, hS, tbs, hQ⟩ := h
    have nd := c_law.nd
    obtain ⟨tB, hB, rB⟩ := partB (P := P) (w := w) (outer := outer) (H := H) (E := E) T hr hQ
    refine ⟨_, pss_cons (ps_set (i := 1) nd rfl (.inr rfl) (pe_lst (pa_cons (pv 0) (pa_cons pe_int (pa_cons pe_int (pa_cons pe_int pa_nil))))))
      (pss_cons (ps_set (i := 2) nd rfl (.inr rfl) (pe_op op_add pe_int (pe_call G1 (hr.mono (by decide)) (by rfl) T.g_l_taken T.F_l_taken.kp T.b_l_taken .nil pass0 (pa_cons (pv 1) (pa_cons pe_int pa_nil)))))
      (pss_cons (ps_asg (pe_tup (pa_cons (pe_call G2 (hr.mono (by decide)) (by rfl) T.g_l_deputies T.F_l_deputies.kp T.b_l_deputies .nil pass0 (pa_cons (pv 1) (pa_cons (pv 2) pa_nil)))
          (pa_cons (pe_callTy call_tuple_of (by rfl) T.z_tuple bt_tuple (pa_cons (pe_lc (own := [("_law_k", 18)]) (g := gName 18) (tt := tYes) (by rfl) nd (pi_range1 rfl T.z_range (pa_cons (pv 2) pa_nil))
            (blkOk_by (own := [("_law_k", 18)]) (N := NL) (sc := defScope s_law) (by decide +kernel)) (fun _ _ _ _ _ => pg_name (i := 18) nd rfl (Or.inl rfl)) (fun _ _ _ _ _ => pts_nil)
            (fun _ _ _ _ _ => pe_call G1 (hr.mono (by decide)) (by rfl) T.g_l_taken T.F_l_taken.kp T.b_l_taken .nil pass0 (pa_cons (pv 1) (pa_cons pe_int pa_nil)))) pa_nil))
          (pa_cons (pe_call G3 (hr.mono (by decide)) (by rfl) T.g_l_order T.F_l_order.kp T.b_l_order .nil pass0 (pa_cons (pv 1) (pa_cons (pv 2) pa_nil))) pa_nil))))
        (pgT (K := K) (n := 3) rfl rfl (pgs_cons (pg_name (i := 3) nd rfl (.inr rfl)) (pgs_cons (pg_name (i := 4) nd rfl (.inr rfl)) (pgs_cons (pg_name (i := 5) nd rfl (.inl rfl)) pgs_nil)))))
      (pss_cons (ps_set (i := 6) nd rfl (.inr rfl) (pe_callTy call_tuple_of (by rfl) T.z_tuple bt_tuple (pa_cons (pe_lc (own := [("_law_person", 19)]) (g := gName 19) (tt := tYes) (by rfl) nd (pi_range1 rfl T.z_range (pa_cons (pv 2) pa_nil))
            (blkOk_by (own := [("_law_person", 19)]) (N := NL) (sc := defScope s_law) (by decide +kernel)) (fun _ _ _ _ _ => pg_name (i := 19) nd rfl (Or.inl rfl)) (fun _ _ _ _ _ => pts_nil)
            (fun _ _ _ _ _ => pe_callTy (crTup (K := K) rfl) (by rfl) T.z_tuple bt_tuple (pa_cons (pe_lc (own := [("_law_k", 18)]) (g := gName 18) (tt := tYes) (by rfl) nd (pi_range1 rfl T.z_range (pa_cons (pe_op op_add (pv 2) pe_int) pa_nil))
              (blkOk_by (own := [("_law_k", 18)]) (N := NL) (sc := tblSc2) (by decide +kernel)) (fun _ _ _ _ _ => pg_name (i := 18) nd rfl (Or.inl rfl)) (fun _ _ _ _ _ => pts_nil)
              (fun _ _ _ _ _ => pe_op op_sub (pe_call G1 (hr.mono (by decide)) (by rfl) T.g_l_taken T.F_l_taken.kp T.b_l_taken .nil pass0 (pa_cons (pv 1) (pa_cons pe_int pa_nil))) pe_int)) pa_nil))) pa_nil)))
      (pss_cons (ps_set (i := 7) nd rfl (.inl rfl) (pe_slice (slT (K := K) rfl) (pv 5) po_none (po_some (pe_call G1 (hr.mono (by decide)) (by rfl) T.g_l_taken T.F_l_taken.kp T.b_l_taken .nil pass0 (pa_cons (pv 1) (pa_cons (pe_op op_add (pv 2) pe_int) pa_nil))))))
      hB)))), ?_⟩
    -- the row
    refine ⟨_, rfl, by show 4 ≤ sizeLine; decide, fun r nr => ?_⟩
    have s1 : Sm H (upd H r (.lst [.ref a, .int 0, .int 13821, .int 0])) := Sm.new nr
    have R1 : RowIs K (upd H r (.lst [.ref a, .int 0, .int 13821, .int 0])) r a ns 0 13821 0 := ⟨upd_same, s1.sL hS, Int.le_refl _⟩
    generalize (upd H r (.lst [.ref a, .int 0, .int 13821, .int 0])) = H1 at s1 R1
    have row1 : RowH K H1 r a ns := ⟨_, _, _, R1⟩
    have nrow : ∀ {H' : Hp} {q : Addr}, RowH K H' r a ns → H' q = none → q ≠ r := fun {H' q} R e z => by
      obtain ⟨_, e2⟩ := R.some
      rw [z, e2] at e; cases e
    -- the size
    refine ⟨_, rfl, r, a, ns, 4, rfl, by decide, by decide, row1, fun H2 x q2 x0 x1 => ⟨_, _, rfl, rfl, ?_⟩⟩
    obtain ⟨n, hn⟩ : ∃ n : Nat, (1 : Int) + x = n := ⟨(1 + x).toNat, by omega⟩
    show gName 2 (V.int (1 + x)) _ _ _
    rw [hn]
    have n1 : 1 ≤ n := by omega
    have n4 : n ≤ 4 := by omega
    clear hn
    -- deputies
    refine ⟨_, rfl, _, rfl, r, a, ns, n, rfl, n1, by omega, q2.row, fun H3 td ds q3 etd dl D => ?_⟩
    -- costs
    refine ⟨_, rfl, n, rfl, by omega, by omega, fun C1 nC1 => ?_⟩
    have nC1r := nrow q3.row nC1
    refine lc_range (n := ((n : Nat) : Int).toNat) (fun j H' => Sr K r a ns H3 H' ∧ ∃ l : List Int, H' C1 = some (.lst (vI l)) ∧ l.length = j ∧ ∀ x ∈ l, 0 ≤ x ∧ x ≤ 1000) ⟨(Sr.refl q3.row).put nC1 nC1r, [], upd_same, rfl, fun x h => absurd h (by simp)⟩ (fun j H' hj ⟨q4, l, eC, ll, lr⟩ => ?_) (fun H4 ⟨q4, cs, eC, cl, cr⟩ => ?_)
    · refine ⟨rfl, yesT ⟨_, rfl, r, a, ns, 9, rfl, by decide, by decide, q4.row, fun H5 x q5 x0 x1 => ⟨_, q5.lst nC1r eC, ?_, (q4.trans q5).put nC1 nC1r, l ++ [x], ?_, by rw [List.length_append, List.length_singleton, ll], fun y hy => ?_⟩⟩⟩
      · rw [vI_len]; exact small1000 (by omega)
      · rw [upd_same]; unfold vI; rw [List.map_append]; rfl
      · rcases List.mem_append.mp hy with hy | hy
        · exact lr y hy
        · rw [List.mem_singleton.mp hy]; omega
    refine ⟨C1, _, rfl, .inl ⟨SqL.of eC, fun tc ntc => ?_⟩⟩
    have s5 : Sm H4 (upd H4 tc (.tup (vI cs))) := Sm.new ntc
    have etc : (upd H4 tc (.tup (vI cs))) tc = some (.tup (vI cs)) := upd_same
    generalize (upd H4 tc (.tup (vI cs))) = H5 at s5 etc
    have row5 : RowH K H5 r a ns := q4.row.sm s5
    -- the order
    refine ⟨_, rfl, _, rfl, r, a, ns, n, rfl, by omega, row5, fun H6 to o q6 eto po => ⟨by show 3 ≤ sizeLine; decide, fun tt ntt => ?_⟩⟩
    have s7 : Sm H6 (upd H6 tt (.tup [.ref td, .ref tc, .ref to])) := Sm.new ntt
    refine ⟨tt, _, rfl, SqT.of upd_same, rfl, _, _, rfl, _, _, rfl, _, _, rfl, rfl, ?_⟩
    generalize (upd H6 tt (.tup [.ref td, .ref tc, .ref to])) = H7 at s7
    have q37 : Sr K r a ns H3 H7 := ((q4.trans (Sr.of_sm s5 q4.row)).trans q6).trans (Sr.of_sm s7 q6.row)
    have etd7 := q37.tup q3.row etd
    have etc7 := s7.tup (q6.tup row5 etc)
    have eto7 := s7.tup eto
    have q17 := (q2.trans q3).trans q37
    clear q37 s7 q6 row5 s5 q4 eC nC1 nC1r etd etc eto q3 q2 x0 x1 row1
    -- the table
    refine ⟨_, rfl, n, rfl, by omega, by omega, fun D1 nD1 => ?_⟩
    have nD1r := nrow q17.row nD1
    refine lc_range (n := ((n : Nat) : Int).toNat) (fun j H' => Sr K r a ns H7 H' ∧ ∃ (rs : List V) (tb : List (List Int)), H' D1 = some (.lst rs) ∧ ITs H' rs tb ∧ tb.length = j ∧ ∀ t ∈ tb, t.length = n + 1 ∧ ∀ x ∈ t, -100 ≤ x ∧ x ≤ 100) ⟨(Sr.refl q17.row).put nD1 nD1r, [], [], upd_same, .nil, rfl, fun t h => absurd h (by simp)⟩ (fun j H8 hj ⟨q8, rs, tb, eD, its, tl, tr⟩ => ?_) (fun H8 ⟨q8, rs, tb, eD, its, tl, tr⟩ => ?_)
    · refine ⟨rfl, yesT ⟨_, rfl, _, _, rfl, rfl, _, rfl, by omega, by omega, fun D2 nD2 => ?_⟩⟩
      have nD2r := nrow q8.row nD2
      have nD21 : D1 ≠ D2 := ne_of_none eD nD2
      refine lc_range (n := (((n : Nat) : Int) + 1).toNat) (fun k H' => Sr K r a ns H8 H' ∧ ∃ l : List Int, H' D2 = some (.lst (vI l)) ∧ l.length = k ∧ ∀ x ∈ l, -100 ≤ x ∧ x ≤ 100) ⟨(Sr.refl q8.row).put nD2 nD2r, [], upd_same, rfl, fun x h => absurd h (by simp)⟩ (fun k H9 hk ⟨q9, l, eC, ll, lr⟩ => ?_) (fun H9 ⟨q9, l, eC, ll, lr⟩ => ?_)
      · refine ⟨rfl, yesT ⟨_, rfl, r, a, ns, 17, rfl, by decide, by decide, q9.row, fun H10 x q10 x0 x1 => ⟨_, _, rfl, rfl, _, q10.lst nD2r eC, ?_, (q9.trans q10).put nD2 nD2r, l ++ [x - 8], ?_, by rw [List.length_append, List.length_singleton, ll], fun y hy => ?_⟩⟩⟩
        · rw [vI_len]; exact small1000 (by omega)
        · rw [upd_same]; unfold vI; rw [List.map_append]; rfl
        · rcases List.mem_append.mp hy with hy | hy
          · exact lr y hy
          · rw [List.mem_singleton.mp hy]; omega
      · refine ⟨D2, _, rfl, .inl ⟨SqL.of eC, fun tr1 ntr => ?_⟩⟩
        have s10 : Sm H9 (upd H9 tr1 (.tup (vI l))) := Sm.new ntr
        have etr : (upd H9 tr1 (.tup (vI l))) tr1 = some (.tup (vI l)) := upd_same
        generalize (upd H9 tr1 (.tup (vI l))) = H10 at s10 etr
        have q810 : Sr K r a ns H8 H10 := q9.trans (Sr.of_sm s10 q9.row)
        have eD10 := q810.lst nD1r eD
        have ts1 : ∀ b xs, H8 b = some (.tup xs) → H10 b = some (.tup xs) := fun b xs e => q810.tup q8.row e
        have ts2 : ∀ b xs, H10 b = some (.tup xs) → (upd H10 D1 (.lst (rs ++ [.ref tr1]))) b = some (.tup xs) := fun b xs e => by
          rw [upd_ne (fun z => by rw [z, eD10] at e; cases e)]; exact e
        have rl := paired_len its
        refine ⟨_, eD10, by rw [rl, tl]; exact small1000 (by omega), (q8.trans q810).put nD1 nD1r, _, tb ++ [l], upd_same, paired_app ((its.ts ts1).ts ts2) (.cons ⟨tr1, rfl, ts2 _ _ etr⟩ .nil), by rw [List.length_append, List.length_singleton, tl], fun t ht => ?_⟩
        rcases List.mem_append.mp ht with ht | ht
        · exact tr t ht
        · rw [List.mem_singleton.mp ht]; exact ⟨by omega, lr⟩
    refine ⟨D1, _, rfl, .inl ⟨SqL.of eD, fun ta nta => ?_⟩⟩
    have s9 : Sm H8 (upd H8 ta (.tup rs)) := Sm.new nta
    have eta : (upd H8 ta (.tup rs)) ta = some (.tup rs) := upd_same
    generalize (upd H8 ta (.tup rs)) = H9 at s9 eta
    have q79 : Sr K r a ns H7 H9 := q8.trans (Sr.of_sm s9 q8.row)
    have etd9 := q79.tup q17.row etd7
    have etc9 := q79.tup q17.row etc7
    have eto9 := q79.tup q17.row eto7
    have q19 := q17.trans q79
    have tbh : TbH H9 ta tb := ⟨rs, eta, its.sm s9⟩
    -- the part
    refine ⟨_, rfl, _, rfl, _, rfl, _, _, rfl, rfl, r, a, ns, ((n : Nat) : Int) + 1, rfl, by omega, by omega, q19.row, fun H10 x q10 x0 x1 => ?_⟩
    obtain ⟨k, rfl⟩ : ∃ k : Nat, x = (k : Int) := ⟨x.toNat, by omega⟩
    have ol : o.length = n := by rw [po.length_eq, upTo_len]
    have ts10 : ∀ b xs, H9 b = some (.tup xs) → H10 b = some (.tup xs) := fun b xs e => q10.tup q19.row e
    have sm10 : Sm H H10 := Sr.sm s1 nr (q19.trans q10)
    subst dl
    have pre : PreC T H10 td tc ta ds cs tb := by
      obtain ⟨rs', e1, e2⟩ := tbh
      exact ⟨ts10 _ _ etd9, ts10 _ _ etc9, ⟨rs', ts10 _ _ e1, e2.ts ts10⟩, D, ⟨by omega, cr⟩, ⟨by omega, tr⟩, sm10.tb tbs⟩
    have ordp : OrdP ds.length (o.take k) := by
      have h1 := (ord_perm.mpr po).1
      exact ⟨fun x hx => h1.1 x (List.mem_of_mem_take hx), h1.2.sublist (List.take_sublist _ _)⟩
    refine ⟨_, rfl, to, _, rfl, SqT.of (ts10 _ _ eto9), fun z => ?_, fun z pa npa => ?_⟩
    · have e1 : o.take k = o := by
        have := z.2
        rw [HT.sIx_nat, vI_len] at this
        exact List.take_of_length_le (by omega)
      rw [e1] at ordp
      exact rB H10 td tc ta to ds cs o tb _ _ _ _ _ _ _ _ _ _ _ _ _ _ _ _ pre (ts10 _ _ eto9) ordp n4
    · rw [cut_to (by omega)]
      have s11 : Sm H10 (upd H10 pa (.tup (vI (o.take k)))) := Sm.new npa
      exact rB _ td tc ta pa ds cs (o.take k) tb _ _ _ _ _ _ _ _ _ _ _ _ _ _ _ _ (pre.sm s11) upd_same ordp n4
end
end G6
set_option Elab.async false
set_option linter.all false
set_option maxRecDepth 100000
set_option maxHeartbeats 8000000
namespace G6
open PySem PySem.Spec PyProof.Rows L2 NX GxR
/-! ### the end: what the top has written -/
theorem tab_in {K : PySem.W.Frag} {x : Str} {f c P : Addr} {oc e : Value} {od ed : Option Addr} {fd : FuncData} {sl es : Array (Option Value)} {vs : Array Value} (h1 : PySem.W.nsIn K mainGlobals x = some (some (.ref f))) (h2 : K.lookup f = some ⟨oc, od, .func fd, sl⟩) (h3 : fd.code = .ref c)
    (h4 : K.lookup c = some ⟨e, ed, .fields vs, es⟩) (h5 : (vs[11]? : Option Value) = some (.ref P)) : PySem.W.tabIn K x = some (c, P) := by
  unfold PySem.W.tabIn
  rw [h1]
  show (match K.lookup f with | some ⟨_, _, .func fd, _⟩ => _ | _ => none) = _
  rw [h2]
  show (match fd.code with | .ref c => _ | _ => none) = _
  rw [h3]
  show (match K.lookup c with | some ⟨_, _, .fields vs, _⟩ => _ | _ => none) = _
  rw [h4]
  show (match (vs[11]? : Option Value) with | some (.ref P) => some (c, P) | _ => none) = _
  rw [h5]
theorem tbx {base : Heap} {mg : Str → Option Value} {c P : Addr} (z : LamX.TabB base mg c P) : TabB base mg c P := ⟨z.code, z.bm, z.gP⟩
theorem trip0 {H : Hp} {P : Addr} (h : H P = some (.tbl #[])) : TabG H P := ⟨#[], h, by first | exact .nil | constructor | (intro x hx; simp at hx) | trivial⟩
theorem walk_tops {l : PySem.W.OpenLaw} {n k : Nat} {q : Program} {loose : List Str} {XP : (Str → Option Value) → Heap → Prop} {YP : World → Heap → Prop} {d : DefRec} {K : Params → PySem.W.Frag} {CX : World → CXT} {x : Str}
    (hn : l.most = some n) (hn2 : n ≤ sizeLine) (hdf : d.params.defaults = []) (hr : Room k callerA) (hY : ∀ (w : World) (h : Heap), YP w h → (K w.params).In h)
    (F : ∀ (w : World) (mg : Str → Option Value) (fa : Addr) (h : Heap), YP w h → (K w.params).In h → h.Ns mainGlobals mg → mg d.name = some (.ref fa) →
      (∀ (x : Str) (c P : Addr), ((recsOf q).any fun e => e.name == x) = true → PySem.W.tabIn (K w.params) x = some (c, P) → PySem.W.CodeHd h c P ∧ h.get? P = some { cls := .none, data := .fields #[] }) → LamX.LawAtS l w (K w.params) (CX w) k n x mg fa h)
    (hCX : ∀ (w : World) (H : Hp) (s : Shared) (e : Value) (s' : Shared), CX w [] H s (fun _ _ _ => False) e s' → False) :
    PySem.W.WalkO q loose XP YP l.row.toRowW d [] (fun f vs => PySem.call f vs) := by
  refine Att.attach_callB hn hdf fun w s₀ s₁ mg mb fa o pm cd doc a vs ns G Y ho hd hcd hmg hobj hints hlen hbits hg => ?_
  have KX := hY w _ Y
  obtain ⟨fd, cs, sp, hT, nT, C, hb, hsp, hF⟩ := F w mg fa _ Y KX G.T.g hmg fun x c P hx ht => by
    obtain ⟨d2, hd2⟩ : ∃ d2, (recsOf q).find? (fun e => e.name == x) = some d2 := by
      have : ((recsOf q).find? (fun e => e.name == x)).isSome = true := by rw [List.find?_isSome]; exact List.any_eq_true.mp hx
      exact Option.isSome_iff_exists.mp this
    exact PySem.W.tab_of G.T KX hd2 ht
  exact LamX.law_callTs KX G.T.g G.T.b G.T.builtins G.T.nolimit hg hT nT C G.T.bmain hobj hints (Nat.le_trans hlen hn2) hr hF hb (fun H hH hS => hsp H a ns hlen hbits hH hS) fun H e s' => hCX w H s₁ e s'

theorem all_mk {l : PySem.W.OpenLaw} {w : World} {q : Program} {K : PySem.W.Frag} {h : Heap} {mg : Str → Option Value} {fa : Addr} (X : K.In h) (G : h.Ns mainGlobals mg) (hfa : mg "law" = some (.ref fa))
    (tabs : ∀ (x : Str) (c P : Addr), ((recsOf q).any fun e => e.name == x) = true → PySem.W.tabIn K x = some (c, P) → PySem.W.CodeHd h c P ∧ h.get? P = some { cls := .none, data := .fields #[] })
    {f_is_in : Addr} {oc_is_in kV_is_in dc_is_in pm_is_in ct_is_in : Value} {od_is_in an_is_in : Option Addr} {sl_is_in : Array (Option Value)} {cd_is_in : Value}
    {f_are_deputies : Addr} {oc_are_deputies kV_are_deputies dc_are_deputies pm_are_deputies ct_are_deputies : Value} {od_are_deputies an_are_deputies : Option Addr} {sl_are_deputies : Array (Option Value)} {q_are_deputies P_are_deputies : Addr} {ec_are_deputies : Value} {ed_are_deputies : Option Addr} {ev_are_deputies : Array Value} {es_are_deputies : Array (Option Value)}
    {f_need_deputies : Addr} {oc_need_deputies kV_need_deputies dc_need_deputies pm_need_deputies ct_need_deputies : Value} {od_need_deputies an_need_deputies : Option Addr} {sl_need_deputies : Array (Option Value)} {cd_need_deputies : Value}
    {f_is_lot : Addr} {oc_is_lot kV_is_lot dc_is_lot pm_is_lot ct_is_lot : Value} {od_is_lot an_is_lot : Option Addr} {sl_is_lot : Array (Option Value)} {q_is_lot P_is_lot : Addr} {ec_is_lot : Value} {ed_is_lot : Option Addr} {ev_is_lot : Array Value} {es_is_lot : Array (Option Value)}
    {f_chain_of : Addr} {oc_chain_of kV_chain_of dc_chain_of pm_chain_of ct_chain_of : Value} {od_chain_of an_chain_of : Option Addr} {sl_chain_of : Array (Option Value)} {cd_chain_of : Value}
    {f_holder_of : Addr} {oc_holder_of kV_holder_of dc_holder_of pm_holder_of ct_holder_of : Value} {od_holder_of an_holder_of : Option Addr} {sl_holder_of : Array (Option Value)} {cd_holder_of : Value}
    {f_all_holders : Addr} {oc_all_holders kV_all_holders dc_all_holders pm_all_holders ct_all_holders : Value} {od_all_holders an_all_holders : Option Addr} {sl_all_holders : Array (Option Value)} {cd_all_holders : Value}
    {f_all_lots : Addr} {oc_all_lots kV_all_lots dc_all_lots pm_all_lots ct_all_lots : Value} {od_all_lots an_all_lots : Option Addr} {sl_all_lots : Array (Option Value)} {cd_all_lots : Value}
    {f_need_costs : Addr} {oc_need_costs kV_need_costs dc_need_costs pm_need_costs ct_need_costs : Value} {od_need_costs an_need_costs : Option Addr} {sl_need_costs : Array (Option Value)} {q_need_costs P_need_costs : Addr} {ec_need_costs : Value} {ed_need_costs : Option Addr} {ev_need_costs : Array Value} {es_need_costs : Array (Option Value)}
    {f_cost_of : Addr} {oc_cost_of kV_cost_of dc_cost_of pm_cost_of ct_cost_of : Value} {od_cost_of an_cost_of : Option Addr} {sl_cost_of : Array (Option Value)} {q_cost_of P_cost_of : Addr} {ec_cost_of : Value} {ed_cost_of : Option Addr} {ev_cost_of : Array Value} {es_cost_of : Array (Option Value)}
    {f_is_order : Addr} {oc_is_order kV_is_order dc_is_order pm_is_order ct_is_order : Value} {od_is_order an_is_order : Option Addr} {sl_is_order : Array (Option Value)} {q_is_order P_is_order : Addr} {ec_is_order : Value} {ed_is_order : Option Addr} {ev_is_order : Array Value} {es_is_order : Array (Option Value)}
    {f_need_table : Addr} {oc_need_table kV_need_table dc_need_table pm_need_table ct_need_table : Value} {od_need_table an_need_table : Option Addr} {sl_need_table : Array (Option Value)} {q_need_table P_need_table : Addr} {ec_need_table : Value} {ed_need_table : Option Addr} {ev_need_table : Array Value} {es_need_table : Array (Option Value)}
    {f_need_valued : Addr} {oc_need_valued kV_need_valued dc_need_valued pm_need_valued ct_need_valued : Value} {od_need_valued an_need_valued : Option Addr} {sl_need_valued : Array (Option Value)} {cd_need_valued : Value}
    {f_worth_of : Addr} {oc_worth_of kV_worth_of dc_worth_of pm_worth_of ct_worth_of : Value} {od_worth_of an_worth_of : Option Addr} {sl_worth_of : Array (Option Value)} {q_worth_of P_worth_of : Addr} {ec_worth_of : Value} {ed_worth_of : Option Addr} {ev_worth_of : Array Value} {es_worth_of : Array (Option Value)}
    {f_price_of : Addr} {oc_price_of kV_price_of dc_price_of pm_price_of ct_price_of : Value} {od_price_of an_price_of : Option Addr} {sl_price_of : Array (Option Value)} {cd_price_of : Value}
    {f_total_of : Addr} {oc_total_of kV_total_of dc_total_of pm_total_of ct_total_of : Value} {od_total_of an_total_of : Option Addr} {sl_total_of : Array (Option Value)} {q_total_of P_total_of : Addr} {ec_total_of : Value} {ed_total_of : Option Addr} {ev_total_of : Array Value} {es_total_of : Array (Option Value)}
    {f_order_cost : Addr} {oc_order_cost kV_order_cost dc_order_cost pm_order_cost ct_order_cost : Value} {od_order_cost an_order_cost : Option Addr} {sl_order_cost : Array (Option Value)} {cd_order_cost : Value}
    {f_cheapest_row : Addr} {oc_cheapest_row kV_cheapest_row dc_cheapest_row pm_cheapest_row ct_cheapest_row : Value} {od_cheapest_row an_cheapest_row : Option Addr} {sl_cheapest_row : Array (Option Value)} {cd_cheapest_row : Value}
    {f_cheap_order : Addr} {oc_cheap_order kV_cheap_order dc_cheap_order pm_cheap_order ct_cheap_order : Value} {od_cheap_order an_cheap_order : Option Addr} {sl_cheap_order : Array (Option Value)} {cd_cheap_order : Value}
    {f_shows_cheap_order : Addr} {oc_shows_cheap_order kV_shows_cheap_order dc_shows_cheap_order pm_shows_cheap_order ct_shows_cheap_order : Value} {od_shows_cheap_order an_shows_cheap_order : Option Addr} {sl_shows_cheap_order : Array (Option Value)} {cd_shows_cheap_order : Value}
    {f_need_net : Addr} {oc_need_net kV_need_net dc_need_net pm_need_net ct_need_net : Value} {od_need_net an_need_net : Option Addr} {sl_need_net : Array (Option Value)} {cd_need_net : Value}
    {f_net_of : Addr} {oc_net_of kV_net_of dc_net_of pm_net_of ct_net_of : Value} {od_net_of an_net_of : Option Addr} {sl_net_of : Array (Option Value)} {cd_net_of : Value}
    {f_best_of : Addr} {oc_best_of kV_best_of dc_best_of pm_best_of ct_best_of : Value} {od_best_of an_best_of : Option Addr} {sl_best_of : Array (Option Value)} {cd_best_of : Value}
    {f_best_lot : Addr} {oc_best_lot kV_best_lot dc_best_lot pm_best_lot ct_best_lot : Value} {od_best_lot an_best_lot : Option Addr} {sl_best_lot : Array (Option Value)} {cd_best_lot : Value}
    {f_shows_best_lot : Addr} {oc_shows_best_lot kV_shows_best_lot dc_shows_best_lot pm_shows_best_lot ct_shows_best_lot : Value} {od_shows_best_lot an_shows_best_lot : Option Addr} {sl_shows_best_lot : Array (Option Value)} {cd_shows_best_lot : Value}
    {f_l_taken : Addr} {oc_l_taken kV_l_taken dc_l_taken pm_l_taken ct_l_taken : Value} {od_l_taken an_l_taken : Option Addr} {sl_l_taken : Array (Option Value)} {cd_l_taken : Value}
    {f_l_pick : Addr} {oc_l_pick kV_l_pick dc_l_pick pm_l_pick ct_l_pick : Value} {od_l_pick an_l_pick : Option Addr} {sl_l_pick : Array (Option Value)} {cd_l_pick : Value}
    {f_l_alike : Addr} {oc_l_alike kV_l_alike dc_l_alike pm_l_alike ct_l_alike : Value} {od_l_alike an_l_alike : Option Addr} {sl_l_alike : Array (Option Value)} {cd_l_alike : Value}
    {f_l_deputies : Addr} {oc_l_deputies kV_l_deputies dc_l_deputies pm_l_deputies ct_l_deputies : Value} {od_l_deputies an_l_deputies : Option Addr} {sl_l_deputies : Array (Option Value)} {cd_l_deputies : Value}
    {f_l_holder : Addr} {oc_l_holder kV_l_holder dc_l_holder pm_l_holder ct_l_holder : Value} {od_l_holder an_l_holder : Option Addr} {sl_l_holder : Array (Option Value)} {cd_l_holder : Value}
    {f_l_holders : Addr} {oc_l_holders kV_l_holders dc_l_holders pm_l_holders ct_l_holders : Value} {od_l_holders an_l_holders : Option Addr} {sl_l_holders : Array (Option Value)} {cd_l_holders : Value}
    {f_l_lots : Addr} {oc_l_lots kV_l_lots dc_l_lots pm_l_lots ct_l_lots : Value} {od_l_lots an_l_lots : Option Addr} {sl_l_lots : Array (Option Value)} {cd_l_lots : Value}
    {f_l_orders : Addr} {oc_l_orders kV_l_orders dc_l_orders pm_l_orders ct_l_orders : Value} {od_l_orders an_l_orders : Option Addr} {sl_l_orders : Array (Option Value)} {cd_l_orders : Value}
    {f_l_order : Addr} {oc_l_order kV_l_order dc_l_order pm_l_order ct_l_order : Value} {od_l_order an_l_order : Option Addr} {sl_l_order : Array (Option Value)} {cd_l_order : Value}
    {f_l_handed : Addr} {oc_l_handed kV_l_handed dc_l_handed pm_l_handed ct_l_handed : Value} {od_l_handed an_l_handed : Option Addr} {sl_l_handed : Array (Option Value)} {cd_l_handed : Value}
    {f_l_cost : Addr} {oc_l_cost kV_l_cost dc_l_cost pm_l_cost ct_l_cost : Value} {od_l_cost an_l_cost : Option Addr} {sl_l_cost : Array (Option Value)} {cd_l_cost : Value}
    {f_law : Addr} {oc_law kV_law dc_law pm_law ct_law : Value} {od_law an_law : Option Addr} {sl_law : Array (Option Value)} {cd_law : Value}
    {tk_MOST_PEOPLE : Tok}
    {tk_MOST_COST : Tok}
    {tk_MOST_WORTH : Tok}
    (a_is_in : PySem.W.nsIn K mainGlobals "is_in" = some (some (.ref f_is_in))) (l_is_in : K.lookup f_is_in = some ⟨oc_is_in, od_is_in, .func (PySem.W.fnOf "is_in" "is_in" (defArgs s_is_in) (defBody s_is_in) (defScope s_is_in) .none kV_is_in dc_is_in pm_is_in an_is_in cd_is_in ct_is_in), sl_is_in⟩) (c_is_in : PySem.W.codeIn K cd_is_in "is_in" = true) (k_is_in : PySem.W.keepIn K (.ref f_is_in) = true)
    (a_are_deputies : PySem.W.nsIn K mainGlobals "are_deputies" = some (some (.ref f_are_deputies))) (l_are_deputies : K.lookup f_are_deputies = some ⟨oc_are_deputies, od_are_deputies, .func (PySem.W.fnOf "are_deputies" "are_deputies" (defArgs s_are_deputies) (defBody s_are_deputies) (defScope s_are_deputies) .none kV_are_deputies dc_are_deputies pm_are_deputies an_are_deputies (.ref q_are_deputies) ct_are_deputies), sl_are_deputies⟩) (c_are_deputies : PySem.W.codeIn K (.ref q_are_deputies) "are_deputies" = true) (k_are_deputies : PySem.W.keepIn K (.ref f_are_deputies) = true) (e_are_deputies : K.lookup q_are_deputies = some ⟨ec_are_deputies, ed_are_deputies, .fields ev_are_deputies, es_are_deputies⟩) (p_are_deputies : (ev_are_deputies[11]? : Option Value) = some (.ref P_are_deputies)) (n_are_deputies : K.lookup P_are_deputies = none) (r_are_deputies : ((recsOf q).any fun e => e.name == ("are_deputies" : Str)) = true)
    (a_need_deputies : PySem.W.nsIn K mainGlobals "need_deputies" = some (some (.ref f_need_deputies))) (l_need_deputies : K.lookup f_need_deputies = some ⟨oc_need_deputies, od_need_deputies, .func (PySem.W.fnOf "need_deputies" "need_deputies" (defArgs s_need_deputies) (defBody s_need_deputies) (defScope s_need_deputies) .none kV_need_deputies dc_need_deputies pm_need_deputies an_need_deputies cd_need_deputies ct_need_deputies), sl_need_deputies⟩) (c_need_deputies : PySem.W.codeIn K cd_need_deputies "need_deputies" = true) (k_need_deputies : PySem.W.keepIn K (.ref f_need_deputies) = true)
    (a_is_lot : PySem.W.nsIn K mainGlobals "is_lot" = some (some (.ref f_is_lot))) (l_is_lot : K.lookup f_is_lot = some ⟨oc_is_lot, od_is_lot, .func (PySem.W.fnOf "is_lot" "is_lot" (defArgs s_is_lot) (defBody s_is_lot) (defScope s_is_lot) .none kV_is_lot dc_is_lot pm_is_lot an_is_lot (.ref q_is_lot) ct_is_lot), sl_is_lot⟩) (c_is_lot : PySem.W.codeIn K (.ref q_is_lot) "is_lot" = true) (k_is_lot : PySem.W.keepIn K (.ref f_is_lot) = true) (e_is_lot : K.lookup q_is_lot = some ⟨ec_is_lot, ed_is_lot, .fields ev_is_lot, es_is_lot⟩) (p_is_lot : (ev_is_lot[11]? : Option Value) = some (.ref P_is_lot)) (n_is_lot : K.lookup P_is_lot = none) (r_is_lot : ((recsOf q).any fun e => e.name == ("is_lot" : Str)) = true)
    (a_chain_of : PySem.W.nsIn K mainGlobals "chain_of" = some (some (.ref f_chain_of))) (l_chain_of : K.lookup f_chain_of = some ⟨oc_chain_of, od_chain_of, .func (PySem.W.fnOf "chain_of" "chain_of" (defArgs s_chain_of) (defBody s_chain_of) (defScope s_chain_of) .none kV_chain_of dc_chain_of pm_chain_of an_chain_of cd_chain_of ct_chain_of), sl_chain_of⟩) (c_chain_of : PySem.W.codeIn K cd_chain_of "chain_of" = true) (k_chain_of : PySem.W.keepIn K (.ref f_chain_of) = true)
    (a_holder_of : PySem.W.nsIn K mainGlobals "holder_of" = some (some (.ref f_holder_of))) (l_holder_of : K.lookup f_holder_of = some ⟨oc_holder_of, od_holder_of, .func (PySem.W.fnOf "holder_of" "holder_of" (defArgs s_holder_of) (defBody s_holder_of) (defScope s_holder_of) .none kV_holder_of dc_holder_of pm_holder_of an_holder_of cd_holder_of ct_holder_of), sl_holder_of⟩) (c_holder_of : PySem.W.codeIn K cd_holder_of "holder_of" = true) (k_holder_of : PySem.W.keepIn K (.ref f_holder_of) = true)
    (a_all_holders : PySem.W.nsIn K mainGlobals "all_holders" = some (some (.ref f_all_holders))) (l_all_holders : K.lookup f_all_holders = some ⟨oc_all_holders, od_all_holders, .func (PySem.W.fnOf "all_holders" "all_holders" (defArgs s_all_holders) (defBody s_all_holders) (defScope s_all_holders) .none kV_all_holders dc_all_holders pm_all_holders an_all_holders cd_all_holders ct_all_holders), sl_all_holders⟩) (c_all_holders : PySem.W.codeIn K cd_all_holders "all_holders" = true) (k_all_holders : PySem.W.keepIn K (.ref f_all_holders) = true)
    (a_all_lots : PySem.W.nsIn K mainGlobals "all_lots" = some (some (.ref f_all_lots))) (l_all_lots : K.lookup f_all_lots = some ⟨oc_all_lots, od_all_lots, .func (PySem.W.fnOf "all_lots" "all_lots" (defArgs s_all_lots) (defBody s_all_lots) (defScope s_all_lots) .none kV_all_lots dc_all_lots pm_all_lots an_all_lots cd_all_lots ct_all_lots), sl_all_lots⟩) (c_all_lots : PySem.W.codeIn K cd_all_lots "all_lots" = true) (k_all_lots : PySem.W.keepIn K (.ref f_all_lots) = true)
    (a_need_costs : PySem.W.nsIn K mainGlobals "need_costs" = some (some (.ref f_need_costs))) (l_need_costs : K.lookup f_need_costs = some ⟨oc_need_costs, od_need_costs, .func (PySem.W.fnOf "need_costs" "need_costs" (defArgs s_need_costs) (defBody s_need_costs) (defScope s_need_costs) .none kV_need_costs dc_need_costs pm_need_costs an_need_costs (.ref q_need_costs) ct_need_costs), sl_need_costs⟩) (c_need_costs : PySem.W.codeIn K (.ref q_need_costs) "need_costs" = true) (k_need_costs : PySem.W.keepIn K (.ref f_need_costs) = true) (e_need_costs : K.lookup q_need_costs = some ⟨ec_need_costs, ed_need_costs, .fields ev_need_costs, es_need_costs⟩) (p_need_costs : (ev_need_costs[11]? : Option Value) = some (.ref P_need_costs)) (n_need_costs : K.lookup P_need_costs = none) (r_need_costs : ((recsOf q).any fun e => e.name == ("need_costs" : Str)) = true)
    (a_cost_of : PySem.W.nsIn K mainGlobals "cost_of" = some (some (.ref f_cost_of))) (l_cost_of : K.lookup f_cost_of = some ⟨oc_cost_of, od_cost_of, .func (PySem.W.fnOf "cost_of" "cost_of" (defArgs s_cost_of) (defBody s_cost_of) (defScope s_cost_of) .none kV_cost_of dc_cost_of pm_cost_of an_cost_of (.ref q_cost_of) ct_cost_of), sl_cost_of⟩) (c_cost_of : PySem.W.codeIn K (.ref q_cost_of) "cost_of" = true) (k_cost_of : PySem.W.keepIn K (.ref f_cost_of) = true) (e_cost_of : K.lookup q_cost_of = some ⟨ec_cost_of, ed_cost_of, .fields ev_cost_of, es_cost_of⟩) (p_cost_of : (ev_cost_of[11]? : Option Value) = some (.ref P_cost_of)) (n_cost_of : K.lookup P_cost_of = none) (r_cost_of : ((recsOf q).any fun e => e.name == ("cost_of" : Str)) = true)
    (a_is_order : PySem.W.nsIn K mainGlobals "is_order" = some (some (.ref f_is_order))) (l_is_order : K.lookup f_is_order = some ⟨oc_is_order, od_is_order, .func (PySem.W.fnOf "is_order" "is_order" (defArgs s_is_order) (defBody s_is_order) (defScope s_is_order) .none kV_is_order dc_is_order pm_is_order an_is_order (.ref q_is_order) ct_is_order), sl_is_order⟩) (c_is_order : PySem.W.codeIn K (.ref q_is_order) "is_order" = true) (k_is_order : PySem.W.keepIn K (.ref f_is_order) = true) (e_is_order : K.lookup q_is_order = some ⟨ec_is_order, ed_is_order, .fields ev_is_order, es_is_order⟩) (p_is_order : (ev_is_order[11]? : Option Value) = some (.ref P_is_order)) (n_is_order : K.lookup P_is_order = none) (r_is_order : ((recsOf q).any fun e => e.name == ("is_order" : Str)) = true)
    (a_need_table : PySem.W.nsIn K mainGlobals "need_table" = some (some (.ref f_need_table))) (l_need_table : K.lookup f_need_table = some ⟨oc_need_table, od_need_table, .func (PySem.W.fnOf "need_table" "need_table" (defArgs s_need_table) (defBody s_need_table) (defScope s_need_table) .none kV_need_table dc_need_table pm_need_table an_need_table (.ref q_need_table) ct_need_table), sl_need_table⟩) (c_need_table : PySem.W.codeIn K (.ref q_need_table) "need_table" = true) (k_need_table : PySem.W.keepIn K (.ref f_need_table) = true) (e_need_table : K.lookup q_need_table = some ⟨ec_need_table, ed_need_table, .fields ev_need_table, es_need_table⟩) (p_need_table : (ev_need_table[11]? : Option Value) = some (.ref P_need_table)) (n_need_table : K.lookup P_need_table = none) (r_need_table : ((recsOf q).any fun e => e.name == ("need_table" : Str)) = true)
    (a_need_valued : PySem.W.nsIn K mainGlobals "need_valued" = some (some (.ref f_need_valued))) (l_need_valued : K.lookup f_need_valued = some ⟨oc_need_valued, od_need_valued, .func (PySem.W.fnOf "need_valued" "need_valued" (defArgs s_need_valued) (defBody s_need_valued) (defScope s_need_valued) .none kV_need_valued dc_need_valued pm_need_valued an_need_valued cd_need_valued ct_need_valued), sl_need_valued⟩) (c_need_valued : PySem.W.codeIn K cd_need_valued "need_valued" = true) (k_need_valued : PySem.W.keepIn K (.ref f_need_valued) = true)
    (a_worth_of : PySem.W.nsIn K mainGlobals "worth_of" = some (some (.ref f_worth_of))) (l_worth_of : K.lookup f_worth_of = some ⟨oc_worth_of, od_worth_of, .func (PySem.W.fnOf "worth_of" "worth_of" (defArgs s_worth_of) (defBody s_worth_of) (defScope s_worth_of) .none kV_worth_of dc_worth_of pm_worth_of an_worth_of (.ref q_worth_of) ct_worth_of), sl_worth_of⟩) (c_worth_of : PySem.W.codeIn K (.ref q_worth_of) "worth_of" = true) (k_worth_of : PySem.W.keepIn K (.ref f_worth_of) = true) (e_worth_of : K.lookup q_worth_of = some ⟨ec_worth_of, ed_worth_of, .fields ev_worth_of, es_worth_of⟩) (p_worth_of : (ev_worth_of[11]? : Option Value) = some (.ref P_worth_of)) (n_worth_of : K.lookup P_worth_of = none) (r_worth_of : ((recsOf q).any fun e => e.name == ("worth_of" : Str)) = true)
    (a_price_of : PySem.W.nsIn K mainGlobals "price_of" = some (some (.ref f_price_of))) (l_price_of : K.lookup f_price_of = some ⟨oc_price_of, od_price_of, .func (PySem.W.fnOf "price_of" "price_of" (defArgs s_price_of) (defBody s_price_of) (defScope s_price_of) .none kV_price_of dc_price_of pm_price_of an_price_of cd_price_of ct_price_of), sl_price_of⟩) (c_price_of : PySem.W.codeIn K cd_price_of "price_of" = true) (k_price_of : PySem.W.keepIn K (.ref f_price_of) = true)
    (a_total_of : PySem.W.nsIn K mainGlobals "total_of" = some (some (.ref f_total_of))) (l_total_of : K.lookup f_total_of = some ⟨oc_total_of, od_total_of, .func (PySem.W.fnOf "total_of" "total_of" (defArgs s_total_of) (defBody s_total_of) (defScope s_total_of) .none kV_total_of dc_total_of pm_total_of an_total_of (.ref q_total_of) ct_total_of), sl_total_of⟩) (c_total_of : PySem.W.codeIn K (.ref q_total_of) "total_of" = true) (k_total_of : PySem.W.keepIn K (.ref f_total_of) = true) (e_total_of : K.lookup q_total_of = some ⟨ec_total_of, ed_total_of, .fields ev_total_of, es_total_of⟩) (p_total_of : (ev_total_of[11]? : Option Value) = some (.ref P_total_of)) (n_total_of : K.lookup P_total_of = none) (r_total_of : ((recsOf q).any fun e => e.name == ("total_of" : Str)) = true)
    (a_order_cost : PySem.W.nsIn K mainGlobals "order_cost" = some (some (.ref f_order_cost))) (l_order_cost : K.lookup f_order_cost = some ⟨oc_order_cost, od_order_cost, .func (PySem.W.fnOf "order_cost" "order_cost" (defArgs s_order_cost) (defBody s_order_cost) (defScope s_order_cost) .none kV_order_cost dc_order_cost pm_order_cost an_order_cost cd_order_cost ct_order_cost), sl_order_cost⟩) (c_order_cost : PySem.W.codeIn K cd_order_cost "order_cost" = true) (k_order_cost : PySem.W.keepIn K (.ref f_order_cost) = true)
    (a_cheapest_row : PySem.W.nsIn K mainGlobals "cheapest_row" = some (some (.ref f_cheapest_row))) (l_cheapest_row : K.lookup f_cheapest_row = some ⟨oc_cheapest_row, od_cheapest_row, .func (PySem.W.fnOf "cheapest_row" "cheapest_row" (defArgs s_cheapest_row) (defBody s_cheapest_row) (defScope s_cheapest_row) .none kV_cheapest_row dc_cheapest_row pm_cheapest_row an_cheapest_row cd_cheapest_row ct_cheapest_row), sl_cheapest_row⟩) (c_cheapest_row : PySem.W.codeIn K cd_cheapest_row "cheapest_row" = true) (k_cheapest_row : PySem.W.keepIn K (.ref f_cheapest_row) = true)
    (a_cheap_order : PySem.W.nsIn K mainGlobals "cheap_order" = some (some (.ref f_cheap_order))) (l_cheap_order : K.lookup f_cheap_order = some ⟨oc_cheap_order, od_cheap_order, .func (PySem.W.fnOf "cheap_order" "cheap_order" (defArgs s_cheap_order) (defBody s_cheap_order) (defScope s_cheap_order) .none kV_cheap_order dc_cheap_order pm_cheap_order an_cheap_order cd_cheap_order ct_cheap_order), sl_cheap_order⟩) (c_cheap_order : PySem.W.codeIn K cd_cheap_order "cheap_order" = true) (k_cheap_order : PySem.W.keepIn K (.ref f_cheap_order) = true)
    (a_shows_cheap_order : PySem.W.nsIn K mainGlobals "shows_cheap_order" = some (some (.ref f_shows_cheap_order))) (l_shows_cheap_order : K.lookup f_shows_cheap_order = some ⟨oc_shows_cheap_order, od_shows_cheap_order, .func (PySem.W.fnOf "shows_cheap_order" "shows_cheap_order" (defArgs s_shows_cheap_order) (defBody s_shows_cheap_order) (defScope s_shows_cheap_order) .none kV_shows_cheap_order dc_shows_cheap_order pm_shows_cheap_order an_shows_cheap_order cd_shows_cheap_order ct_shows_cheap_order), sl_shows_cheap_order⟩) (c_shows_cheap_order : PySem.W.codeIn K cd_shows_cheap_order "shows_cheap_order" = true) (k_shows_cheap_order : PySem.W.keepIn K (.ref f_shows_cheap_order) = true)
    (a_need_net : PySem.W.nsIn K mainGlobals "need_net" = some (some (.ref f_need_net))) (l_need_net : K.lookup f_need_net = some ⟨oc_need_net, od_need_net, .func (PySem.W.fnOf "need_net" "need_net" (defArgs s_need_net) (defBody s_need_net) (defScope s_need_net) .none kV_need_net dc_need_net pm_need_net an_need_net cd_need_net ct_need_net), sl_need_net⟩) (c_need_net : PySem.W.codeIn K cd_need_net "need_net" = true) (k_need_net : PySem.W.keepIn K (.ref f_need_net) = true)
    (a_net_of : PySem.W.nsIn K mainGlobals "net_of" = some (some (.ref f_net_of))) (l_net_of : K.lookup f_net_of = some ⟨oc_net_of, od_net_of, .func (PySem.W.fnOf "net_of" "net_of" (defArgs s_net_of) (defBody s_net_of) (defScope s_net_of) .none kV_net_of dc_net_of pm_net_of an_net_of cd_net_of ct_net_of), sl_net_of⟩) (c_net_of : PySem.W.codeIn K cd_net_of "net_of" = true) (k_net_of : PySem.W.keepIn K (.ref f_net_of) = true)
    (a_best_of : PySem.W.nsIn K mainGlobals "best_of" = some (some (.ref f_best_of))) (l_best_of : K.lookup f_best_of = some ⟨oc_best_of, od_best_of, .func (PySem.W.fnOf "best_of" "best_of" (defArgs s_best_of) (defBody s_best_of) (defScope s_best_of) .none kV_best_of dc_best_of pm_best_of an_best_of cd_best_of ct_best_of), sl_best_of⟩) (c_best_of : PySem.W.codeIn K cd_best_of "best_of" = true) (k_best_of : PySem.W.keepIn K (.ref f_best_of) = true)
    (a_best_lot : PySem.W.nsIn K mainGlobals "best_lot" = some (some (.ref f_best_lot))) (l_best_lot : K.lookup f_best_lot = some ⟨oc_best_lot, od_best_lot, .func (PySem.W.fnOf "best_lot" "best_lot" (defArgs s_best_lot) (defBody s_best_lot) (defScope s_best_lot) .none kV_best_lot dc_best_lot pm_best_lot an_best_lot cd_best_lot ct_best_lot), sl_best_lot⟩) (c_best_lot : PySem.W.codeIn K cd_best_lot "best_lot" = true) (k_best_lot : PySem.W.keepIn K (.ref f_best_lot) = true)
    (a_shows_best_lot : PySem.W.nsIn K mainGlobals "shows_best_lot" = some (some (.ref f_shows_best_lot))) (l_shows_best_lot : K.lookup f_shows_best_lot = some ⟨oc_shows_best_lot, od_shows_best_lot, .func (PySem.W.fnOf "shows_best_lot" "shows_best_lot" (defArgs s_shows_best_lot) (defBody s_shows_best_lot) (defScope s_shows_best_lot) .none kV_shows_best_lot dc_shows_best_lot pm_shows_best_lot an_shows_best_lot cd_shows_best_lot ct_shows_best_lot), sl_shows_best_lot⟩) (c_shows_best_lot : PySem.W.codeIn K cd_shows_best_lot "shows_best_lot" = true) (k_shows_best_lot : PySem.W.keepIn K (.ref f_shows_best_lot) = true)
    (a_l_taken : PySem.W.nsIn K mainGlobals "_law_taken" = some (some (.ref f_l_taken))) (l_l_taken : K.lookup f_l_taken = some ⟨oc_l_taken, od_l_taken, .func (PySem.W.fnOf "_law_taken" "_law_taken" (defArgs s_l_taken) (defBody s_l_taken) (defScope s_l_taken) .none kV_l_taken dc_l_taken pm_l_taken an_l_taken cd_l_taken ct_l_taken), sl_l_taken⟩) (c_l_taken : PySem.W.codeIn K cd_l_taken "_law_taken" = true) (k_l_taken : PySem.W.keepIn K (.ref f_l_taken) = true)
    (a_l_pick : PySem.W.nsIn K mainGlobals "_law_pick" = some (some (.ref f_l_pick))) (l_l_pick : K.lookup f_l_pick = some ⟨oc_l_pick, od_l_pick, .func (PySem.W.fnOf "_law_pick" "_law_pick" (defArgs s_l_pick) (defBody s_l_pick) (defScope s_l_pick) .none kV_l_pick dc_l_pick pm_l_pick an_l_pick cd_l_pick ct_l_pick), sl_l_pick⟩) (c_l_pick : PySem.W.codeIn K cd_l_pick "_law_pick" = true) (k_l_pick : PySem.W.keepIn K (.ref f_l_pick) = true)
    (a_l_alike : PySem.W.nsIn K mainGlobals "_law_alike" = some (some (.ref f_l_alike))) (l_l_alike : K.lookup f_l_alike = some ⟨oc_l_alike, od_l_alike, .func (PySem.W.fnOf "_law_alike" "_law_alike" (defArgs s_l_alike) (defBody s_l_alike) (defScope s_l_alike) .none kV_l_alike dc_l_alike pm_l_alike an_l_alike cd_l_alike ct_l_alike), sl_l_alike⟩) (c_l_alike : PySem.W.codeIn K cd_l_alike "_law_alike" = true) (k_l_alike : PySem.W.keepIn K (.ref f_l_alike) = true)
    (a_l_deputies : PySem.W.nsIn K mainGlobals "_law_deputies" = some (some (.ref f_l_deputies))) (l_l_deputies : K.lookup f_l_deputies = some ⟨oc_l_deputies, od_l_deputies, .func (PySem.W.fnOf "_law_deputies" "_law_deputies" (defArgs s_l_deputies) (defBody s_l_deputies) (defScope s_l_deputies) .none kV_l_deputies dc_l_deputies pm_l_deputies an_l_deputies cd_l_deputies ct_l_deputies), sl_l_deputies⟩) (c_l_deputies : PySem.W.codeIn K cd_l_deputies "_law_deputies" = true) (k_l_deputies : PySem.W.keepIn K (.ref f_l_deputies) = true)
    (a_l_holder : PySem.W.nsIn K mainGlobals "_law_holder" = some (some (.ref f_l_holder))) (l_l_holder : K.lookup f_l_holder = some ⟨oc_l_holder, od_l_holder, .func (PySem.W.fnOf "_law_holder" "_law_holder" (defArgs s_l_holder) (defBody s_l_holder) (defScope s_l_holder) .none kV_l_holder dc_l_holder pm_l_holder an_l_holder cd_l_holder ct_l_holder), sl_l_holder⟩) (c_l_holder : PySem.W.codeIn K cd_l_holder "_law_holder" = true) (k_l_holder : PySem.W.keepIn K (.ref f_l_holder) = true)
    (a_l_holders : PySem.W.nsIn K mainGlobals "_law_holders" = some (some (.ref f_l_holders))) (l_l_holders : K.lookup f_l_holders = some ⟨oc_l_holders, od_l_holders, .func (PySem.W.fnOf "_law_holders" "_law_holders" (defArgs s_l_holders) (defBody s_l_holders) (defScope s_l_holders) .none kV_l_holders dc_l_holders pm_l_holders an_l_holders cd_l_holders ct_l_holders), sl_l_holders⟩) (c_l_holders : PySem.W.codeIn K cd_l_holders "_law_holders" = true) (k_l_holders : PySem.W.keepIn K (.ref f_l_holders) = true)
    (a_l_lots : PySem.W.nsIn K mainGlobals "_law_lots" = some (some (.ref f_l_lots))) (l_l_lots : K.lookup f_l_lots = some ⟨oc_l_lots, od_l_lots, .func (PySem.W.fnOf "_law_lots" "_law_lots" (defArgs s_l_lots) (defBody s_l_lots) (defScope s_l_lots) .none kV_l_lots dc_l_lots pm_l_lots an_l_lots cd_l_lots ct_l_lots), sl_l_lots⟩) (c_l_lots : PySem.W.codeIn K cd_l_lots "_law_lots" = true) (k_l_lots : PySem.W.keepIn K (.ref f_l_lots) = true)
    (a_l_orders : PySem.W.nsIn K mainGlobals "_law_orders" = some (some (.ref f_l_orders))) (l_l_orders : K.lookup f_l_orders = some ⟨oc_l_orders, od_l_orders, .func (PySem.W.fnOf "_law_orders" "_law_orders" (defArgs s_l_orders) (defBody s_l_orders) (defScope s_l_orders) .none kV_l_orders dc_l_orders pm_l_orders an_l_orders cd_l_orders ct_l_orders), sl_l_orders⟩) (c_l_orders : PySem.W.codeIn K cd_l_orders "_law_orders" = true) (k_l_orders : PySem.W.keepIn K (.ref f_l_orders) = true)
    (a_l_order : PySem.W.nsIn K mainGlobals "_law_order" = some (some (.ref f_l_order))) (l_l_order : K.lookup f_l_order = some ⟨oc_l_order, od_l_order, .func (PySem.W.fnOf "_law_order" "_law_order" (defArgs s_l_order) (defBody s_l_order) (defScope s_l_order) .none kV_l_order dc_l_order pm_l_order an_l_order cd_l_order ct_l_order), sl_l_order⟩) (c_l_order : PySem.W.codeIn K cd_l_order "_law_order" = true) (k_l_order : PySem.W.keepIn K (.ref f_l_order) = true)
    (a_l_handed : PySem.W.nsIn K mainGlobals "_law_handed" = some (some (.ref f_l_handed))) (l_l_handed : K.lookup f_l_handed = some ⟨oc_l_handed, od_l_handed, .func (PySem.W.fnOf "_law_handed" "_law_handed" (defArgs s_l_handed) (defBody s_l_handed) (defScope s_l_handed) .none kV_l_handed dc_l_handed pm_l_handed an_l_handed cd_l_handed ct_l_handed), sl_l_handed⟩) (c_l_handed : PySem.W.codeIn K cd_l_handed "_law_handed" = true) (k_l_handed : PySem.W.keepIn K (.ref f_l_handed) = true)
    (a_l_cost : PySem.W.nsIn K mainGlobals "_law_cost" = some (some (.ref f_l_cost))) (l_l_cost : K.lookup f_l_cost = some ⟨oc_l_cost, od_l_cost, .func (PySem.W.fnOf "_law_cost" "_law_cost" (defArgs s_l_cost) (defBody s_l_cost) (defScope s_l_cost) .none kV_l_cost dc_l_cost pm_l_cost an_l_cost cd_l_cost ct_l_cost), sl_l_cost⟩) (c_l_cost : PySem.W.codeIn K cd_l_cost "_law_cost" = true) (k_l_cost : PySem.W.keepIn K (.ref f_l_cost) = true)
    (a_law : PySem.W.nsIn K mainGlobals "law" = some (some (.ref f_law))) (l_law : K.lookup f_law = some ⟨oc_law, od_law, .func (PySem.W.fnOf "law" "law" (defArgs s_law) (defBody s_law) (defScope s_law) .none kV_law dc_law pm_law an_law cd_law ct_law), sl_law⟩) (c_law : PySem.W.codeIn K cd_law "law" = true) (k_law : PySem.W.keepIn K (.ref f_law) = true)
    (z_len : PySem.W.nsIn K mainGlobals "len" = some none)
    (z_range : PySem.W.nsIn K mainGlobals "range" = some none)
    (z_tuple : PySem.W.nsIn K mainGlobals "tuple" = some none)
    (z_list : PySem.W.nsIn K mainGlobals "list" = some none)
    (z_isinstance : PySem.W.nsIn K mainGlobals "isinstance" = some none)
    (z_int : PySem.W.nsIn K mainGlobals "int" = some none)
    (z_bool : PySem.W.nsIn K mainGlobals "bool" = some none)
    (z_all : PySem.W.nsIn K mainGlobals "all" = some none)
    (z_sum : PySem.W.nsIn K mainGlobals "sum" = some none)
    (z_sorted : PySem.W.nsIn K mainGlobals "sorted" = some none)
    (z_enumerate : PySem.W.nsIn K mainGlobals "enumerate" = some none)
    (z_zip : PySem.W.nsIn K mainGlobals "zip" = some none)
    (z_min : PySem.W.nsIn K mainGlobals "min" = some none)
    (z_max : PySem.W.nsIn K mainGlobals "max" = some none)
    (z_str : PySem.W.nsIn K mainGlobals "str" = some none)
    (v_MOST_PEOPLE : PySem.W.nsIn K mainGlobals "MOST_PEOPLE" = some (some (.int 6 tk_MOST_PEOPLE)))
    (v_MOST_COST : PySem.W.nsIn K mainGlobals "MOST_COST" = some (some (.int 1000 tk_MOST_COST)))
    (v_MOST_WORTH : PySem.W.nsIn K mainGlobals "MOST_WORTH" = some (some (.int 100 tk_MOST_WORTH)))
    : LamX.LawAtS l w K CX0 8 63 "_law_script" mg fa h := by
  have e := hfa.symm.trans (PySem.W.mg_of X G a_law)
  cases e
  have t_are_deputies := tabs _ _ _ r_are_deputies (tab_in a_are_deputies l_are_deputies rfl e_are_deputies p_are_deputies)
  have t_is_lot := tabs _ _ _ r_is_lot (tab_in a_is_lot l_is_lot rfl e_is_lot p_is_lot)
  have t_need_costs := tabs _ _ _ r_need_costs (tab_in a_need_costs l_need_costs rfl e_need_costs p_need_costs)
  have t_cost_of := tabs _ _ _ r_cost_of (tab_in a_cost_of l_cost_of rfl e_cost_of p_cost_of)
  have t_is_order := tabs _ _ _ r_is_order (tab_in a_is_order l_is_order rfl e_is_order p_is_order)
  have t_need_table := tabs _ _ _ r_need_table (tab_in a_need_table l_need_table rfl e_need_table p_need_table)
  have t_worth_of := tabs _ _ _ r_worth_of (tab_in a_worth_of l_worth_of rfl e_worth_of p_worth_of)
  have t_total_of := tabs _ _ _ r_total_of (tab_in a_total_of l_total_of rfl e_total_of p_total_of)
  have memT : ∀ (p : Addr × Addr → Prop), p (q_are_deputies, P_are_deputies) → p (q_is_lot, P_is_lot) → p (q_need_costs, P_need_costs) → p (q_cost_of, P_cost_of) → p (q_is_order, P_is_order) → p (q_need_table, P_need_table) → p (q_worth_of, P_worth_of) → p (q_total_of, P_total_of) → ∀ z ∈ ([(q_are_deputies, P_are_deputies), (q_is_lot, P_is_lot), (q_need_costs, P_need_costs), (q_cost_of, P_cost_of), (q_is_order, P_is_order), (q_need_table, P_need_table), (q_worth_of, P_worth_of), (q_total_of, P_total_of)] : List (Addr × Addr)), p z := fun p h0 h1 h2 h3 h4 h5 h6 h7 z hz => by
    simp only [List.mem_cons, List.not_mem_nil, or_false] at hz
    rcases hz with rfl | rfl | rfl | rfl | rfl | rfl | rfl | rfl <;> assumption
  refine ⟨PySem.W.fnOf "law" "law" (defArgs s_law) (defBody s_law) (defScope s_law) .none kV_law dc_law pm_law an_law cd_law ct_law, [(q_are_deputies, P_are_deputies), (q_is_lot, P_is_lot), (q_need_costs, P_need_costs), (q_cost_of, P_cost_of), (q_is_order, P_is_order), (q_need_table, P_need_table), (q_worth_of, P_worth_of), (q_total_of, P_total_of)], fun vs H Q _ => ∃ (a : Addr) (ns : List Int), vs = [.ref a] ∧ SqL K H a (ns.map V.int) ∧ (TabG H P_are_deputies ∧ TabG H P_is_lot ∧ TabG H P_need_costs ∧ TabG H P_cost_of ∧ TabG H P_is_order ∧ TabG H P_need_table ∧ TabG H P_worth_of ∧ TabG H P_total_of) ∧ ∀ H', Q (.bl true) H', memT _ t_are_deputies.2 t_is_lot.2 t_need_costs.2 t_cost_of.2 t_is_order.2 t_need_table.2 t_worth_of.2 t_total_of.2, memT _ n_are_deputies n_is_lot n_need_costs n_cost_of n_is_order n_need_table n_worth_of n_total_of, memT _ t_are_deputies.1 t_is_lot.1 t_need_costs.1 t_cost_of.1 t_is_order.1 t_need_table.1 t_worth_of.1 t_total_of.1, fun s v => .of_eq rfl, fun H a ns _ _ hH hS => ⟨a, ns, rfl, hS, ⟨trip0 (hH (q_are_deputies, P_are_deputies) (by simp)), trip0 (hH (q_is_lot, P_is_lot) (by simp)), trip0 (hH (q_need_costs, P_need_costs) (by simp)), trip0 (hH (q_cost_of, P_cost_of) (by simp)), trip0 (hH (q_is_order, P_is_order) (by simp)), trip0 (hH (q_need_table, P_need_table) (by simp)), trip0 (hH (q_worth_of, P_worth_of) (by simp)), trip0 (hH (q_total_of, P_total_of) (by simp))⟩, fun _ => rfl⟩, fun base _ _ TB => ?_⟩
  exact (ok_law (P := l.prog) (w := w) ({
    f_is_in := f_is_in, d_is_in := PySem.W.fnOf "is_in" "is_in" (defArgs s_is_in) (defBody s_is_in) (defScope s_is_in) .none kV_is_in dc_is_in pm_is_in an_is_in cd_is_in ct_is_in, F_is_in := fun_mk l_is_in c_is_in k_is_in, b_is_in := (fun_mk (st := s_is_in) l_is_in c_is_in k_is_in).binds (ps := ["value", "least", "most"]) fun _ _ _ _ _ _ us hl => match us, hl with | [_, _, _], _ => rfl, g_is_in := PySem.W.mg_of X G a_is_in,
    f_are_deputies := f_are_deputies, k_are_deputies := q_are_deputies, t_are_deputies := P_are_deputies, d_are_deputies := PySem.W.fnOf "are_deputies" "are_deputies" (defArgs s_are_deputies) (defBody s_are_deputies) (defScope s_are_deputies) .none kV_are_deputies dc_are_deputies pm_are_deputies an_are_deputies (.ref q_are_deputies) ct_are_deputies, F_are_deputies := func_mk l_are_deputies c_are_deputies k_are_deputies, B_are_deputies := tbx (TB (q_are_deputies, P_are_deputies) (by simp)), b_are_deputies := (func_mk (st := s_are_deputies) l_are_deputies c_are_deputies k_are_deputies).plain.binds (ps := ["value"]) fun _ _ _ _ _ _ us hl => match us, hl with | [_], _ => rfl, g_are_deputies := PySem.W.mg_of X G a_are_deputies,
    f_need_deputies := f_need_deputies, d_need_deputies := PySem.W.fnOf "need_deputies" "need_deputies" (defArgs s_need_deputies) (defBody s_need_deputies) (defScope s_need_deputies) .none kV_need_deputies dc_need_deputies pm_need_deputies an_need_deputies cd_need_deputies ct_need_deputies, F_need_deputies := fun_mk l_need_deputies c_need_deputies k_need_deputies, b_need_deputies := (fun_mk (st := s_need_deputies) l_need_deputies c_need_deputies k_need_deputies).binds (ps := ["deputies"]) fun _ _ _ _ _ _ us hl => match us, hl with | [_], _ => rfl, g_need_deputies := PySem.W.mg_of X G a_need_deputies,
    f_is_lot := f_is_lot, k_is_lot := q_is_lot, t_is_lot := P_is_lot, d_is_lot := PySem.W.fnOf "is_lot" "is_lot" (defArgs s_is_lot) (defBody s_is_lot) (defScope s_is_lot) .none kV_is_lot dc_is_lot pm_is_lot an_is_lot (.ref q_is_lot) ct_is_lot, F_is_lot := func_mk l_is_lot c_is_lot k_is_lot, B_is_lot := tbx (TB (q_is_lot, P_is_lot) (by simp)), b_is_lot := (func_mk (st := s_is_lot) l_is_lot c_is_lot k_is_lot).plain.binds (ps := ["size", "value"]) fun _ _ _ _ _ _ us hl => match us, hl with | [_, _], _ => rfl, g_is_lot := PySem.W.mg_of X G a_is_lot,
    f_chain_of := f_chain_of, d_chain_of := PySem.W.fnOf "chain_of" "chain_of" (defArgs s_chain_of) (defBody s_chain_of) (defScope s_chain_of) .none kV_chain_of dc_chain_of pm_chain_of an_chain_of cd_chain_of ct_chain_of, F_chain_of := fun_mk l_chain_of c_chain_of k_chain_of, b_chain_of := (fun_mk (st := s_chain_of) l_chain_of c_chain_of k_chain_of).binds (ps := ["deputies", "person"]) fun _ _ _ _ _ _ us hl => match us, hl with | [_, _], _ => rfl, g_chain_of := PySem.W.mg_of X G a_chain_of,
    f_holder_of := f_holder_of, d_holder_of := PySem.W.fnOf "holder_of" "holder_of" (defArgs s_holder_of) (defBody s_holder_of) (defScope s_holder_of) .none kV_holder_of dc_holder_of pm_holder_of an_holder_of cd_holder_of ct_holder_of, F_holder_of := fun_mk l_holder_of c_holder_of k_holder_of, b_holder_of := (fun_mk (st := s_holder_of) l_holder_of c_holder_of k_holder_of).binds (ps := ["deputies", "gone", "person"]) fun _ _ _ _ _ _ us hl => match us, hl with | [_, _, _], _ => rfl, g_holder_of := PySem.W.mg_of X G a_holder_of,
    f_all_holders := f_all_holders, d_all_holders := PySem.W.fnOf "all_holders" "all_holders" (defArgs s_all_holders) (defBody s_all_holders) (defScope s_all_holders) .none kV_all_holders dc_all_holders pm_all_holders an_all_holders cd_all_holders ct_all_holders, F_all_holders := fun_mk l_all_holders c_all_holders k_all_holders, b_all_holders := (fun_mk (st := s_all_holders) l_all_holders c_all_holders k_all_holders).binds (ps := ["deputies", "gone"]) fun _ _ _ _ _ _ us hl => match us, hl with | [_, _], _ => rfl, g_all_holders := PySem.W.mg_of X G a_all_holders,
    f_all_lots := f_all_lots, d_all_lots := PySem.W.fnOf "all_lots" "all_lots" (defArgs s_all_lots) (defBody s_all_lots) (defScope s_all_lots) .none kV_all_lots dc_all_lots pm_all_lots an_all_lots cd_all_lots ct_all_lots, F_all_lots := fun_mk l_all_lots c_all_lots k_all_lots, b_all_lots := (fun_mk (st := s_all_lots) l_all_lots c_all_lots k_all_lots).binds (ps := ["size"]) fun _ _ _ _ _ _ us hl => match us, hl with | [_], _ => rfl, g_all_lots := PySem.W.mg_of X G a_all_lots,
    f_need_costs := f_need_costs, k_need_costs := q_need_costs, t_need_costs := P_need_costs, d_need_costs := PySem.W.fnOf "need_costs" "need_costs" (defArgs s_need_costs) (defBody s_need_costs) (defScope s_need_costs) .none kV_need_costs dc_need_costs pm_need_costs an_need_costs (.ref q_need_costs) ct_need_costs, F_need_costs := func_mk l_need_costs c_need_costs k_need_costs, B_need_costs := tbx (TB (q_need_costs, P_need_costs) (by simp)), b_need_costs := (func_mk (st := s_need_costs) l_need_costs c_need_costs k_need_costs).plain.binds (ps := ["deputies", "costs"]) fun _ _ _ _ _ _ us hl => match us, hl with | [_, _], _ => rfl, g_need_costs := PySem.W.mg_of X G a_need_costs,
    f_cost_of := f_cost_of, k_cost_of := q_cost_of, t_cost_of := P_cost_of, d_cost_of := PySem.W.fnOf "cost_of" "cost_of" (defArgs s_cost_of) (defBody s_cost_of) (defScope s_cost_of) .none kV_cost_of dc_cost_of pm_cost_of an_cost_of (.ref q_cost_of) ct_cost_of, F_cost_of := func_mk l_cost_of c_cost_of k_cost_of, B_cost_of := tbx (TB (q_cost_of, P_cost_of) (by simp)), b_cost_of := (func_mk (st := s_cost_of) l_cost_of c_cost_of k_cost_of).plain.binds (ps := ["costs", "lot"]) fun _ _ _ _ _ _ us hl => match us, hl with | [_, _], _ => rfl, g_cost_of := PySem.W.mg_of X G a_cost_of,
    f_is_order := f_is_order, k_is_order := q_is_order, t_is_order := P_is_order, d_is_order := PySem.W.fnOf "is_order" "is_order" (defArgs s_is_order) (defBody s_is_order) (defScope s_is_order) .none kV_is_order dc_is_order pm_is_order an_is_order (.ref q_is_order) ct_is_order, F_is_order := func_mk l_is_order c_is_order k_is_order, B_is_order := tbx (TB (q_is_order, P_is_order) (by simp)), b_is_order := (func_mk (st := s_is_order) l_is_order c_is_order k_is_order).plain.binds (ps := ["size", "value"]) fun _ _ _ _ _ _ us hl => match us, hl with | [_, _], _ => rfl, g_is_order := PySem.W.mg_of X G a_is_order,
    f_need_table := f_need_table, k_need_table := q_need_table, t_need_table := P_need_table, d_need_table := PySem.W.fnOf "need_table" "need_table" (defArgs s_need_table) (defBody s_need_table) (defScope s_need_table) .none kV_need_table dc_need_table pm_need_table an_need_table (.ref q_need_table) ct_need_table, F_need_table := func_mk l_need_table c_need_table k_need_table, B_need_table := tbx (TB (q_need_table, P_need_table) (by simp)), b_need_table := (func_mk (st := s_need_table) l_need_table c_need_table k_need_table).plain.binds (ps := ["size", "table"]) fun _ _ _ _ _ _ us hl => match us, hl with | [_, _], _ => rfl, g_need_table := PySem.W.mg_of X G a_need_table,
    f_need_valued := f_need_valued, d_need_valued := PySem.W.fnOf "need_valued" "need_valued" (defArgs s_need_valued) (defBody s_need_valued) (defScope s_need_valued) .none kV_need_valued dc_need_valued pm_need_valued an_need_valued cd_need_valued ct_need_valued, F_need_valued := fun_mk l_need_valued c_need_valued k_need_valued, b_need_valued := (fun_mk (st := s_need_valued) l_need_valued c_need_valued k_need_valued).binds (ps := ["deputies", "table"]) fun _ _ _ _ _ _ us hl => match us, hl with | [_, _], _ => rfl, g_need_valued := PySem.W.mg_of X G a_need_valued,
    f_worth_of := f_worth_of, k_worth_of := q_worth_of, t_worth_of := P_worth_of, d_worth_of := PySem.W.fnOf "worth_of" "worth_of" (defArgs s_worth_of) (defBody s_worth_of) (defScope s_worth_of) .none kV_worth_of dc_worth_of pm_worth_of an_worth_of (.ref q_worth_of) ct_worth_of, F_worth_of := func_mk l_worth_of c_worth_of k_worth_of, B_worth_of := tbx (TB (q_worth_of, P_worth_of) (by simp)), b_worth_of := (func_mk (st := s_worth_of) l_worth_of c_worth_of k_worth_of).plain.binds (ps := ["deputies", "table", "gone"]) fun _ _ _ _ _ _ us hl => match us, hl with | [_, _, _], _ => rfl, g_worth_of := PySem.W.mg_of X G a_worth_of,
    f_price_of := f_price_of, d_price_of := PySem.W.fnOf "price_of" "price_of" (defArgs s_price_of) (defBody s_price_of) (defScope s_price_of) .none kV_price_of dc_price_of pm_price_of an_price_of cd_price_of ct_price_of, F_price_of := fun_mk l_price_of c_price_of k_price_of, b_price_of := (fun_mk (st := s_price_of) l_price_of c_price_of k_price_of).binds (ps := ["deputies", "costs", "gone", "person"]) fun _ _ _ _ _ _ us hl => match us, hl with | [_, _, _, _], _ => rfl, g_price_of := PySem.W.mg_of X G a_price_of,
    f_total_of := f_total_of, k_total_of := q_total_of, t_total_of := P_total_of, d_total_of := PySem.W.fnOf "total_of" "total_of" (defArgs s_total_of) (defBody s_total_of) (defScope s_total_of) .none kV_total_of dc_total_of pm_total_of an_total_of (.ref q_total_of) ct_total_of, F_total_of := func_mk l_total_of c_total_of k_total_of, B_total_of := tbx (TB (q_total_of, P_total_of) (by simp)), b_total_of := (func_mk (st := s_total_of) l_total_of c_total_of k_total_of).plain.binds (ps := ["deputies", "costs", "order"]) fun _ _ _ _ _ _ us hl => match us, hl with | [_, _, _], _ => rfl, g_total_of := PySem.W.mg_of X G a_total_of,
    f_order_cost := f_order_cost, d_order_cost := PySem.W.fnOf "order_cost" "order_cost" (defArgs s_order_cost) (defBody s_order_cost) (defScope s_order_cost) .none kV_order_cost dc_order_cost pm_order_cost an_order_cost cd_order_cost ct_order_cost, F_order_cost := fun_mk l_order_cost c_order_cost k_order_cost, b_order_cost := (fun_mk (st := s_order_cost) l_order_cost c_order_cost k_order_cost).binds (ps := ["deputies", "costs", "order"]) fun _ _ _ _ _ _ us hl => match us, hl with | [_, _, _], _ => rfl, g_order_cost := PySem.W.mg_of X G a_order_cost,
    f_cheapest_row := f_cheapest_row, d_cheapest_row := PySem.W.fnOf "cheapest_row" "cheapest_row" (defArgs s_cheapest_row) (defBody s_cheapest_row) (defScope s_cheapest_row) .none kV_cheapest_row dc_cheapest_row pm_cheapest_row an_cheapest_row cd_cheapest_row ct_cheapest_row, F_cheapest_row := fun_mk l_cheapest_row c_cheapest_row k_cheapest_row, b_cheapest_row := (fun_mk (st := s_cheapest_row) l_cheapest_row c_cheapest_row k_cheapest_row).binds (ps := ["deputies", "costs"]) fun _ _ _ _ _ _ us hl => match us, hl with | [_, _], _ => rfl, g_cheapest_row := PySem.W.mg_of X G a_cheapest_row,
    f_cheap_order := f_cheap_order, d_cheap_order := PySem.W.fnOf "cheap_order" "cheap_order" (defArgs s_cheap_order) (defBody s_cheap_order) (defScope s_cheap_order) .none kV_cheap_order dc_cheap_order pm_cheap_order an_cheap_order cd_cheap_order ct_cheap_order, F_cheap_order := fun_mk l_cheap_order c_cheap_order k_cheap_order, b_cheap_order := (fun_mk (st := s_cheap_order) l_cheap_order c_cheap_order k_cheap_order).binds (ps := ["deputies", "costs"]) fun _ _ _ _ _ _ us hl => match us, hl with | [_, _], _ => rfl, g_cheap_order := PySem.W.mg_of X G a_cheap_order,
    f_shows_cheap_order := f_shows_cheap_order, d_shows_cheap_order := PySem.W.fnOf "shows_cheap_order" "shows_cheap_order" (defArgs s_shows_cheap_order) (defBody s_shows_cheap_order) (defScope s_shows_cheap_order) .none kV_shows_cheap_order dc_shows_cheap_order pm_shows_cheap_order an_shows_cheap_order cd_shows_cheap_order ct_shows_cheap_order, F_shows_cheap_order := fun_mk l_shows_cheap_order c_shows_cheap_order k_shows_cheap_order, b_shows_cheap_order := (fun_mk (st := s_shows_cheap_order) l_shows_cheap_order c_shows_cheap_order k_shows_cheap_order).binds (ps := ["deputies", "costs", "value"]) fun _ _ _ _ _ _ us hl => match us, hl with | [_, _, _], _ => rfl, g_shows_cheap_order := PySem.W.mg_of X G a_shows_cheap_order,
    f_need_net := f_need_net, d_need_net := PySem.W.fnOf "need_net" "need_net" (defArgs s_need_net) (defBody s_need_net) (defScope s_need_net) .none kV_need_net dc_need_net pm_need_net an_need_net cd_need_net ct_need_net, F_need_net := fun_mk l_need_net c_need_net k_need_net, b_need_net := (fun_mk (st := s_need_net) l_need_net c_need_net k_need_net).binds (ps := ["deputies", "table", "costs"]) fun _ _ _ _ _ _ us hl => match us, hl with | [_, _, _], _ => rfl, g_need_net := PySem.W.mg_of X G a_need_net,
    f_net_of := f_net_of, d_net_of := PySem.W.fnOf "net_of" "net_of" (defArgs s_net_of) (defBody s_net_of) (defScope s_net_of) .none kV_net_of dc_net_of pm_net_of an_net_of cd_net_of ct_net_of, F_net_of := fun_mk l_net_of c_net_of k_net_of, b_net_of := (fun_mk (st := s_net_of) l_net_of c_net_of k_net_of).binds (ps := ["deputies", "table", "costs", "lot"]) fun _ _ _ _ _ _ us hl => match us, hl with | [_, _, _, _], _ => rfl, g_net_of := PySem.W.mg_of X G a_net_of,
    f_best_of := f_best_of, d_best_of := PySem.W.fnOf "best_of" "best_of" (defArgs s_best_of) (defBody s_best_of) (defScope s_best_of) .none kV_best_of dc_best_of pm_best_of an_best_of cd_best_of ct_best_of, F_best_of := fun_mk l_best_of c_best_of k_best_of, b_best_of := (fun_mk (st := s_best_of) l_best_of c_best_of k_best_of).binds (ps := ["deputies", "table", "costs"]) fun _ _ _ _ _ _ us hl => match us, hl with | [_, _, _], _ => rfl, g_best_of := PySem.W.mg_of X G a_best_of,
    f_best_lot := f_best_lot, d_best_lot := PySem.W.fnOf "best_lot" "best_lot" (defArgs s_best_lot) (defBody s_best_lot) (defScope s_best_lot) .none kV_best_lot dc_best_lot pm_best_lot an_best_lot cd_best_lot ct_best_lot, F_best_lot := fun_mk l_best_lot c_best_lot k_best_lot, b_best_lot := (fun_mk (st := s_best_lot) l_best_lot c_best_lot k_best_lot).binds (ps := ["deputies", "table", "costs"]) fun _ _ _ _ _ _ us hl => match us, hl with | [_, _, _], _ => rfl, g_best_lot := PySem.W.mg_of X G a_best_lot,
    f_shows_best_lot := f_shows_best_lot, d_shows_best_lot := PySem.W.fnOf "shows_best_lot" "shows_best_lot" (defArgs s_shows_best_lot) (defBody s_shows_best_lot) (defScope s_shows_best_lot) .none kV_shows_best_lot dc_shows_best_lot pm_shows_best_lot an_shows_best_lot cd_shows_best_lot ct_shows_best_lot, F_shows_best_lot := fun_mk l_shows_best_lot c_shows_best_lot k_shows_best_lot, b_shows_best_lot := (fun_mk (st := s_shows_best_lot) l_shows_best_lot c_shows_best_lot k_shows_best_lot).binds (ps := ["deputies", "table", "costs", "value"]) fun _ _ _ _ _ _ us hl => match us, hl with | [_, _, _, _], _ => rfl, g_shows_best_lot := PySem.W.mg_of X G a_shows_best_lot,
    f_l_taken := f_l_taken, d_l_taken := PySem.W.fnOf "_law_taken" "_law_taken" (defArgs s_l_taken) (defBody s_l_taken) (defScope s_l_taken) .none kV_l_taken dc_l_taken pm_l_taken an_l_taken cd_l_taken ct_l_taken, F_l_taken := fun_mk l_l_taken c_l_taken k_l_taken, b_l_taken := (fun_mk (st := s_l_taken) l_l_taken c_l_taken k_l_taken).binds (ps := ["_law_row", "_law_many"]) fun _ _ _ _ _ _ us hl => match us, hl with | [_, _], _ => rfl, g_l_taken := PySem.W.mg_of X G a_l_taken,
    f_l_pick := f_l_pick, d_l_pick := PySem.W.fnOf "_law_pick" "_law_pick" (defArgs s_l_pick) (defBody s_l_pick) (defScope s_l_pick) .none kV_l_pick dc_l_pick pm_l_pick an_l_pick cd_l_pick ct_l_pick, F_l_pick := fun_mk l_l_pick c_l_pick k_l_pick, b_l_pick := (fun_mk (st := s_l_pick) l_l_pick c_l_pick k_l_pick).binds (ps := ["_law_row", "_law_things"]) fun _ _ _ _ _ _ us hl => match us, hl with | [_, _], _ => rfl, g_l_pick := PySem.W.mg_of X G a_l_pick,
    f_l_alike := f_l_alike, d_l_alike := PySem.W.fnOf "_law_alike" "_law_alike" (defArgs s_l_alike) (defBody s_l_alike) (defScope s_l_alike) .none kV_l_alike dc_l_alike pm_l_alike an_l_alike cd_l_alike ct_l_alike, F_l_alike := fun_mk l_l_alike c_l_alike k_l_alike, b_l_alike := (fun_mk (st := s_l_alike) l_l_alike c_l_alike k_l_alike).binds (ps := ["_law_found", "_law_due"]) fun _ _ _ _ _ _ us hl => match us, hl with | [_, _], _ => rfl, g_l_alike := PySem.W.mg_of X G a_l_alike,
    f_l_deputies := f_l_deputies, d_l_deputies := PySem.W.fnOf "_law_deputies" "_law_deputies" (defArgs s_l_deputies) (defBody s_l_deputies) (defScope s_l_deputies) .none kV_l_deputies dc_l_deputies pm_l_deputies an_l_deputies cd_l_deputies ct_l_deputies, F_l_deputies := fun_mk l_l_deputies c_l_deputies k_l_deputies, b_l_deputies := (fun_mk (st := s_l_deputies) l_l_deputies c_l_deputies k_l_deputies).binds (ps := ["_law_row", "_law_size"]) fun _ _ _ _ _ _ us hl => match us, hl with | [_, _], _ => rfl, g_l_deputies := PySem.W.mg_of X G a_l_deputies,
    f_l_holder := f_l_holder, d_l_holder := PySem.W.fnOf "_law_holder" "_law_holder" (defArgs s_l_holder) (defBody s_l_holder) (defScope s_l_holder) .none kV_l_holder dc_l_holder pm_l_holder an_l_holder cd_l_holder ct_l_holder, F_l_holder := fun_mk l_l_holder c_l_holder k_l_holder, b_l_holder := (fun_mk (st := s_l_holder) l_l_holder c_l_holder k_l_holder).binds (ps := ["_law_deputies_here", "_law_gone", "_law_person"]) fun _ _ _ _ _ _ us hl => match us, hl with | [_, _, _], _ => rfl, g_l_holder := PySem.W.mg_of X G a_l_holder,
    f_l_holders := f_l_holders, d_l_holders := PySem.W.fnOf "_law_holders" "_law_holders" (defArgs s_l_holders) (defBody s_l_holders) (defScope s_l_holders) .none kV_l_holders dc_l_holders pm_l_holders an_l_holders cd_l_holders ct_l_holders, F_l_holders := fun_mk l_l_holders c_l_holders k_l_holders, b_l_holders := (fun_mk (st := s_l_holders) l_l_holders c_l_holders k_l_holders).binds (ps := ["_law_deputies_here", "_law_gone"]) fun _ _ _ _ _ _ us hl => match us, hl with | [_, _], _ => rfl, g_l_holders := PySem.W.mg_of X G a_l_holders,
    f_l_lots := f_l_lots, d_l_lots := PySem.W.fnOf "_law_lots" "_law_lots" (defArgs s_l_lots) (defBody s_l_lots) (defScope s_l_lots) .none kV_l_lots dc_l_lots pm_l_lots an_l_lots cd_l_lots ct_l_lots, F_l_lots := fun_mk l_l_lots c_l_lots k_l_lots, b_l_lots := (fun_mk (st := s_l_lots) l_l_lots c_l_lots k_l_lots).binds (ps := ["_law_size"]) fun _ _ _ _ _ _ us hl => match us, hl with | [_], _ => rfl, g_l_lots := PySem.W.mg_of X G a_l_lots,
    f_l_orders := f_l_orders, d_l_orders := PySem.W.fnOf "_law_orders" "_law_orders" (defArgs s_l_orders) (defBody s_l_orders) (defScope s_l_orders) .none kV_l_orders dc_l_orders pm_l_orders an_l_orders cd_l_orders ct_l_orders, F_l_orders := fun_mk l_l_orders c_l_orders k_l_orders, b_l_orders := (fun_mk (st := s_l_orders) l_l_orders c_l_orders k_l_orders).binds (ps := ["_law_some"]) fun _ _ _ _ _ _ us hl => match us, hl with | [_], _ => rfl, g_l_orders := PySem.W.mg_of X G a_l_orders,
    f_l_order := f_l_order, d_l_order := PySem.W.fnOf "_law_order" "_law_order" (defArgs s_l_order) (defBody s_l_order) (defScope s_l_order) .none kV_l_order dc_l_order pm_l_order an_l_order cd_l_order ct_l_order, F_l_order := fun_mk l_l_order c_l_order k_l_order, b_l_order := (fun_mk (st := s_l_order) l_l_order c_l_order k_l_order).binds (ps := ["_law_row", "_law_size"]) fun _ _ _ _ _ _ us hl => match us, hl with | [_, _], _ => rfl, g_l_order := PySem.W.mg_of X G a_l_order,
    f_l_handed := f_l_handed, d_l_handed := PySem.W.fnOf "_law_handed" "_law_handed" (defArgs s_l_handed) (defBody s_l_handed) (defScope s_l_handed) .none kV_l_handed dc_l_handed pm_l_handed an_l_handed cd_l_handed ct_l_handed, F_l_handed := fun_mk l_l_handed c_l_handed k_l_handed, b_l_handed := (fun_mk (st := s_l_handed) l_l_handed c_l_handed k_l_handed).binds (ps := ["_law_deputies_here", "_law_order_here", "_law_person"]) fun _ _ _ _ _ _ us hl => match us, hl with | [_, _, _], _ => rfl, g_l_handed := PySem.W.mg_of X G a_l_handed,
    f_l_cost := f_l_cost, d_l_cost := PySem.W.fnOf "_law_cost" "_law_cost" (defArgs s_l_cost) (defBody s_l_cost) (defScope s_l_cost) .none kV_l_cost dc_l_cost pm_l_cost an_l_cost cd_l_cost ct_l_cost, F_l_cost := fun_mk l_l_cost c_l_cost k_l_cost, b_l_cost := (fun_mk (st := s_l_cost) l_l_cost c_l_cost k_l_cost).binds (ps := ["_law_deputies_here", "_law_costs", "_law_order_here"]) fun _ _ _ _ _ _ us hl => match us, hl with | [_, _, _], _ => rfl, g_l_cost := PySem.W.mg_of X G a_l_cost,
    z_len := PySem.W.mg_none_of X G z_len,
    z_range := PySem.W.mg_none_of X G z_range,
    z_tuple := PySem.W.mg_none_of X G z_tuple,
    z_list := PySem.W.mg_none_of X G z_list,
    z_isinstance := PySem.W.mg_none_of X G z_isinstance,
    z_int := PySem.W.mg_none_of X G z_int,
    z_bool := PySem.W.mg_none_of X G z_bool,
    z_all := PySem.W.mg_none_of X G z_all,
    z_sum := PySem.W.mg_none_of X G z_sum,
    z_sorted := PySem.W.mg_none_of X G z_sorted,
    z_enumerate := PySem.W.mg_none_of X G z_enumerate,
    z_zip := PySem.W.mg_none_of X G z_zip,
    z_min := PySem.W.mg_none_of X G z_min,
    z_max := PySem.W.mg_none_of X G z_max,
    z_str := PySem.W.mg_none_of X G z_str,
    v_MOST_PEOPLE := ⟨_, PySem.W.mg_of X G v_MOST_PEOPLE⟩, v_MOST_COST := ⟨_, PySem.W.mg_of X G v_MOST_COST⟩, v_MOST_WORTH := ⟨_, PySem.W.mg_of X G v_MOST_WORTH⟩ } : Txt K mg base) (fun_mk l_law c_law k_law)).imp fun vs H Q E ⟨a, ns, h1, h2, ⟨t1, t2, t3, t4, t5, t6, t7, t8⟩, h4⟩ => ⟨a, ns, h1, h2, ⟨t1, t2, t3, t4, t5, t6, t7, t8⟩, h4⟩
end G6
open PySem PySem.W PyProof.Rows
set_option maxHeartbeats 0 in
theorem PySem.Challenge.cw_firstthere_k21_whole_nets_holds : PySem.Challenge.rw_firstthere_k21_whole_nets.Holds := by
  w_on; o_law; k_head; (case hw => w_witness2)
  k_fill
  refine G6.walk_tops (l := PySem.Challenge.rw_firstthere_k21_whole_nets) (n := 63) (k := 8) (x := "_law_script") (CX := fun _ => L2.CX0) rfl (by decide) rfl ⟨rfl, by decide, by decide⟩ (fun w h Y => PySem.W.kIn_of Y) ?F (fun _ _ _ _ _ h => h)
  case F =>
    intro w mg fa h Y KX G hmg tabs
    refine' G6.all_mk KX G hmg tabs ?a_is_in ?l_is_in ?c_is_in ?k_is_in ?a_are_deputies ?l_are_deputies ?c_are_deputies ?k_are_deputies ?e_are_deputies ?p_are_deputies ?n_are_deputies ?r_are_deputies ?a_need_deputies ?l_need_deputies ?c_need_deputies ?k_need_deputies ?a_is_lot ?l_is_lot ?c_is_lot ?k_is_lot ?e_is_lot ?p_is_lot ?n_is_lot ?r_is_lot ?a_chain_of ?l_chain_of ?c_chain_of ?k_chain_of ?a_holder_of ?l_holder_of ?c_holder_of ?k_holder_of ?a_all_holders ?l_all_holders ?c_all_holders ?k_all_holders ?a_all_lots ?l_all_lots ?c_all_lots ?k_all_lots ?a_need_costs ?l_need_costs ?c_need_costs ?k_need_costs ?e_need_costs ?p_need_costs ?n_need_costs ?r_need_costs ?a_cost_of ?l_cost_of ?c_cost_of ?k_cost_of ?e_cost_of ?p_cost_of ?n_cost_of ?r_cost_of ?a_is_order ?l_is_order ?c_is_order ?k_is_order ?e_is_order ?p_is_order ?n_is_order ?r_is_order ?a_need_table ?l_need_table ?c_need_table ?k_need_table ?e_need_table ?p_need_table ?n_need_table ?r_need_table ?a_need_valued ?l_need_valued ?c_need_valued ?k_need_valued ?a_worth_of ?l_worth_of ?c_worth_of ?k_worth_of ?e_worth_of ?p_worth_of ?n_worth_of ?r_worth_of ?a_price_of ?l_price_of ?c_price_of ?k_price_of ?a_total_of ?l_total_of ?c_total_of ?k_total_of ?e_total_of ?p_total_of ?n_total_of ?r_total_of ?a_order_cost ?l_order_cost ?c_order_cost ?k_order_cost ?a_cheapest_row ?l_cheapest_row ?c_cheapest_row ?k_cheapest_row ?a_cheap_order ?l_cheap_order ?c_cheap_order ?k_cheap_order ?a_shows_cheap_order ?l_shows_cheap_order ?c_shows_cheap_order ?k_shows_cheap_order ?a_need_net ?l_need_net ?c_need_net ?k_need_net ?a_net_of ?l_net_of ?c_net_of ?k_net_of ?a_best_of ?l_best_of ?c_best_of ?k_best_of ?a_best_lot ?l_best_lot ?c_best_lot ?k_best_lot ?a_shows_best_lot ?l_shows_best_lot ?c_shows_best_lot ?k_shows_best_lot ?a_l_taken ?l_l_taken ?c_l_taken ?k_l_taken ?a_l_pick ?l_l_pick ?c_l_pick ?k_l_pick ?a_l_alike ?l_l_alike ?c_l_alike ?k_l_alike ?a_l_deputies ?l_l_deputies ?c_l_deputies ?k_l_deputies ?a_l_holder ?l_l_holder ?c_l_holder ?k_l_holder ?a_l_holders ?l_l_holders ?c_l_holders ?k_l_holders ?a_l_lots ?l_l_lots ?c_l_lots ?k_l_lots ?a_l_orders ?l_l_orders ?c_l_orders ?k_l_orders ?a_l_order ?l_l_order ?c_l_order ?k_l_order ?a_l_handed ?l_l_handed ?c_l_handed ?k_l_handed ?a_l_cost ?l_l_cost ?c_l_cost ?k_l_cost ?a_law ?l_law ?c_law ?k_law ?z_len ?z_range ?z_tuple ?z_list ?z_isinstance ?z_int ?z_bool ?z_all ?z_sum ?z_sorted ?z_enumerate ?z_zip ?z_min ?z_max ?z_str ?v_MOST_PEOPLE ?v_MOST_COST ?v_MOST_WORTH
    (case a_is_in => k_is)
    (case l_is_in => k_is)
    (case c_is_in => k_is)
    (case k_is_in => k_is)
    (case a_are_deputies => k_is)
    (case l_are_deputies => k_is)
    (case c_are_deputies => k_is)
    (case k_are_deputies => k_is)
    (case e_are_deputies => k_is)
    (case p_are_deputies => rfl)
    (case n_are_deputies => rfl)
    (case r_are_deputies => decide +kernel)
    (case a_need_deputies => k_is)
    (case l_need_deputies => k_is)
    (case c_need_deputies => k_is)
    (case k_need_deputies => k_is)
    (case a_is_lot => k_is)
    (case l_is_lot => k_is)
    (case c_is_lot => k_is)
    (case k_is_lot => k_is)
    (case e_is_lot => k_is)
    (case p_is_lot => rfl)
    (case n_is_lot => rfl)
    (case r_is_lot => decide +kernel)
    (case a_chain_of => k_is)
    (case l_chain_of => k_is)
    (case c_chain_of => k_is)
    (case k_chain_of => k_is)
    (case a_holder_of => k_is)
    (case l_holder_of => k_is)
    (case c_holder_of => k_is)
    (case k_holder_of => k_is)
    (case a_all_holders => k_is)
    (case l_all_holders => k_is)
    (case c_all_holders => k_is)
    (case k_all_holders => k_is)
    (case a_all_lots => k_is)
    (case l_all_lots => k_is)
    (case c_all_lots => k_is)
    (case k_all_lots => k_is)
    (case a_need_costs => k_is)
    (case l_need_costs => k_is)
    (case c_need_costs => k_is)
    (case k_need_costs => k_is)
    (case e_need_costs => k_is)
    (case p_need_costs => rfl)
    (case n_need_costs => rfl)
    (case r_need_costs => decide +kernel)
    (case a_cost_of => k_is)
    (case l_cost_of => k_is)
    (case c_cost_of => k_is)
    (case k_cost_of => k_is)
    (case e_cost_of => k_is)
    (case p_cost_of => rfl)
    (case n_cost_of => rfl)
    (case r_cost_of => decide +kernel)
    (case a_is_order => k_is)
    (case l_is_order => k_is)
    (case c_is_order => k_is)
    (case k_is_order => k_is)
    (case e_is_order => k_is)
    (case p_is_order => rfl)
    (case n_is_order => rfl)
    (case r_is_order => decide +kernel)
    (case a_need_table => k_is)
    (case l_need_table => k_is)
    (case c_need_table => k_is)
    (case k_need_table => k_is)
    (case e_need_table => k_is)
    (case p_need_table => rfl)
    (case n_need_table => rfl)
    (case r_need_table => decide +kernel)
    (case a_need_valued => k_is)
    (case l_need_valued => k_is)
    (case c_need_valued => k_is)
    (case k_need_valued => k_is)
    (case a_worth_of => k_is)
    (case l_worth_of => k_is)
    (case c_worth_of => k_is)
    (case k_worth_of => k_is)
    (case e_worth_of => k_is)
    (case p_worth_of => rfl)
    (case n_worth_of => rfl)
    (case r_worth_of => decide +kernel)
    (case a_price_of => k_is)
    (case l_price_of => k_is)
    (case c_price_of => k_is)
    (case k_price_of => k_is)
    (case a_total_of => k_is)
    (case l_total_of => k_is)
    (case c_total_of => k_is)
    (case k_total_of => k_is)
    (case e_total_of => k_is)
    (case p_total_of => rfl)
    (case n_total_of => rfl)
    (case r_total_of => decide +kernel)
    (case a_order_cost => k_is)
    (case l_order_cost => k_is)
    (case c_order_cost => k_is)
    (case k_order_cost => k_is)
    (case a_cheapest_row => k_is)
    (case l_cheapest_row => k_is)
    (case c_cheapest_row => k_is)
    (case k_cheapest_row => k_is)
    (case a_cheap_order => k_is)
    (case l_cheap_order => k_is)
    (case c_cheap_order => k_is)
    (case k_cheap_order => k_is)
    (case a_shows_cheap_order => k_is)
    (case l_shows_cheap_order => k_is)
    (case c_shows_cheap_order => k_is)
    (case k_shows_cheap_order => k_is)
    (case a_need_net => k_is)
    (case l_need_net => k_is)
    (case c_need_net => k_is)
    (case k_need_net => k_is)
    (case a_net_of => k_is)
    (case l_net_of => k_is)
    (case c_net_of => k_is)
    (case k_net_of => k_is)
    (case a_best_of => k_is)
    (case l_best_of => k_is)
    (case c_best_of => k_is)
    (case k_best_of => k_is)
    (case a_best_lot => k_is)
    (case l_best_lot => k_is)
    (case c_best_lot => k_is)
    (case k_best_lot => k_is)
    (case a_shows_best_lot => k_is)
    (case l_shows_best_lot => k_is)
    (case c_shows_best_lot => k_is)
    (case k_shows_best_lot => k_is)
    (case a_l_taken => k_is)
    (case l_l_taken => k_is)
    (case c_l_taken => k_is)
    (case k_l_taken => k_is)
    (case a_l_pick => k_is)
    (case l_l_pick => k_is)
    (case c_l_pick => k_is)
    (case k_l_pick => k_is)
    (case a_l_alike => k_is)
    (case l_l_alike => k_is)
    (case c_l_alike => k_is)
    (case k_l_alike => k_is)
    (case a_l_deputies => k_is)
    (case l_l_deputies => k_is)
    (case c_l_deputies => k_is)
    (case k_l_deputies => k_is)
    (case a_l_holder => k_is)
    (case l_l_holder => k_is)
    (case c_l_holder => k_is)
    (case k_l_holder => k_is)
    (case a_l_holders => k_is)
    (case l_l_holders => k_is)
    (case c_l_holders => k_is)
    (case k_l_holders => k_is)
    (case a_l_lots => k_is)
    (case l_l_lots => k_is)
    (case c_l_lots => k_is)
    (case k_l_lots => k_is)
    (case a_l_orders => k_is)
    (case l_l_orders => k_is)
    (case c_l_orders => k_is)
    (case k_l_orders => k_is)
    (case a_l_order => k_is)
    (case l_l_order => k_is)
    (case c_l_order => k_is)
    (case k_l_order => k_is)
    (case a_l_handed => k_is)
    (case l_l_handed => k_is)
    (case c_l_handed => k_is)
    (case k_l_handed => k_is)
    (case a_l_cost => k_is)
    (case l_l_cost => k_is)
    (case c_l_cost => k_is)
    (case k_l_cost => k_is)
    (case a_law => k_is)
    (case l_law => k_is)
    (case c_law => k_is)
    (case k_law => k_is)
    (case z_len => k_is)
    (case z_range => k_is)
    (case z_tuple => k_is)
    (case z_list => k_is)
    (case z_isinstance => k_is)
    (case z_int => k_is)
    (case z_bool => k_is)
    (case z_all => k_is)
    (case z_sum => k_is)
    (case z_sorted => k_is)
    (case z_enumerate => k_is)
    (case z_zip => k_is)
    (case z_min => k_is)
    (case z_max => k_is)
    (case z_str => k_is)
    (case v_MOST_PEOPLE => k_is)
    (case v_MOST_COST => k_is)
    (case v_MOST_WORTH => k_is)
