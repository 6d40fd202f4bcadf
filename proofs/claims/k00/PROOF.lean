import PyProof.Rows.All
import Wide.All
import OpenK.AllK
import Wide.FinOn
import HandS.ForMost
import HandS.AnyAll
import HandS.EndTab
import HandS.GenList
import PyProof.GenArm
import PyProof.GenCompT
import PyProof.SumAny
import HandS.IsInst
import HandS.TupAny
import HandS.DictComp
import PyProof.NeKinds
import HandS.Words
import HandS.WordsDict
import HandS.Text
import HandS.Walk
import HandS.Codes
import PySem.Challenge.RW_staged_k00_whole_programs
import KE.KDictCopyH
import KE.KTupTabMore
import KE.KNest
set_option Elab.async false
set_option linter.all false
set_option maxRecDepth 100000
set_option maxHeartbeats 4000000
namespace GX
open PySem PySem.Spec PyProof.Rows L2 GenW
open Sem (wp)

/-! ## A generator expression whose element may do anything that keeps the context's invariant -/

/-- the frame of the generator expression -/
abbrev gEnv (X : Cx) (scope : Scope) (C : Addr) (code : Value) : Env := genEnv scope (cloFrom X.env.cells scope.names []) C code builtinsNs X.env
/-- the context in which the element is evaluated; B: what runs around the generator's frame -/
abbrev gCx (X : Cx) (B : Around) (s : Shared) (H : Hp) (scope : Scope) (C : Addr) (code : Value) (fp : List Addr) (pn : List (Addr × Obj)) : Cx :=
  { X with
    A := B.deeper (gEnv X scope C code)
    s_0 := s
    H_0 := H
    env := gEnv X scope C code
    outer := X.stack
    stack := gEnv X scope C code :: X.stack
    ex := fp
    fn := fun _ => false
    calm := true
    pn := pn
    xe := fun _ _ => False }
/-- the names of the generator expression's scope -/
structure GenOk (N : List Str) (sc scope : Scope) (own : List (Str × Nat)) : Prop where
  kind : scope.kind = .function
  co : scope.isCoroutine = false
  cell : ∀ y ∈ scope.names, y.2 ≠ .cell
  dot : scope.names.lookup (".0" : Str) = some NameKind.local
  ix : ∀ p ∈ own, N[p.2]? = some p.1
  free : ∀ y ∈ scope.names, y.2 = .free → sc.names.lookup y.1 = some .cell ∨ sc.names.lookup y.1 = some .free
  own : ∀ y ∈ scope.names, y.2 = .local → y.1 ∈ own.map (·.1) ∨ y.1 ∉ N
def genB (N : List Str) (sc scope : Scope) (own : List (Str × Nat)) : Bool :=
  decide (scope.kind = .function) && !scope.isCoroutine && (scope.names.all fun y => !decide (y.2 = .cell)) && decide (scope.names.lookup (".0" : Str) = some NameKind.local) && (own.all fun p => decide (N[p.2]? = some p.1)) &&
    (scope.names.all fun y => !decide (y.2 = .free) || decide (sc.names.lookup y.1 = some .cell) || decide (sc.names.lookup y.1 = some .free)) && (scope.names.all fun y => !decide (y.2 = .local) || decide (y.1 ∈ own.map (·.1)) || decide (y.1 ∉ N))
theorem genOk_by {N : List Str} {sc scope : Scope} {own : List (Str × Nat)} (h : genB N sc scope own = true) : GenOk N sc scope own := by
  unfold genB at h
  simp only [Bool.and_eq_true, List.all_eq_true, decide_eq_true_eq, Bool.or_eq_true, Bool.not_eq_true', decide_eq_false_iff_not] at h
  obtain ⟨⟨⟨⟨⟨⟨h1, h2⟩, h3⟩, h4⟩, h5⟩, h6⟩, h7⟩ := h
  refine ⟨h1, h2, h3, h4, h5, fun y hy e => ?_, fun y hy e => ?_⟩
  · rcases h6 y hy with (z | z) | z
    · exact absurd e z
    · exact .inl z
    · exact .inr z
  · rcases h7 y hy with (z | z) | z
    · exact absurd e z
    · exact .inl z
    · exact .inr z

section
variable {X : Cx} {pins : List (Addr × Obj)} {σ : L2.St} {H : Hp} {s : Shared}
theorem inv_gens {G : Array GenState} (I : Inv X pins σ H s) (hb : AllBare G) : Inv X pins σ H { s with gens := G } :=
  I.call (g' := G) (d' := s.drawn) (t' := s.toks) (ch := []) Un.refl I.hok hb fun b z => by simp at z

/-- the generator is made: its frame at C, itself behind it; the element's context holds -/
theorem gen_start {B : Around} {scope : Scope} {own : List (Str × Nat)} {fp : List Addr} {code : Value} {h' : Heap} {m : Str → Option Value} {go : Obj} {tk : Nat} {gs : GenState}
    (I : Inv X pins σ H s) (ok : GenOk X.N X.env.scope scope own) (hN : X.N.Nodup) (hfp : ∀ b ∈ fp, FpOk X pins H b ∧ b < s.heap.objs.size) (hB : B.frames = some X.stack) (hBh : B.handled = none)
    (hns : h'.Ns s.heap.objs.size m) (kp : ∀ b o, s.heap.get? b = some o → h'.get? b = some o) (hsz : h'.objs.size = s.heap.objs.size + 1) (hgo : ∀ v, go.data ≠ .cell v) (hgp : (h'.push go).get? h'.objs.size = some go) (hgs : gs.bare = true) :
    Inv (gCx X B s H scope s.heap.objs.size code fp [(h'.objs.size, go)]) [] (wipe σ (own.map (·.2))) H { s with gens := s.gens.push gs, toks := tk, heap := h'.push go } := by
  have hfree : ∀ y ∈ scope.names, y.2 = .free → ∃ c, X.env.cells.lookup y.1 = some c := fun y hy e => by
    rcases ok.free y hy e with k | k
    · exact I.ok.has _ (.inl k)
    · exact I.ok.has _ (.inr k)
  have kp2 : ∀ b o, s.heap.get? b = some o → (h'.push go).get? b = some o := fun b o e => Heap.get?_push_of_some _ (kp b o e)
  have cm : ∀ {y c}, (cloFrom X.env.cells scope.names []).lookup y = some c → X.env.cells.lookup y = some c ∧ c < s.heap.objs.size := fun {y c} e => by
    rcases cloFrom_mem (PySem.mem_of_lookup e) with hm | ⟨h1, h2⟩
    · cases hm
    · obtain ⟨c1, hc⟩ := hfree _ h1 rfl
      have hc1 : X.env.cells.lookup y = some c1 := hc
      have e2 : c = c1 := by
        rw [h2, hc1] <;> rfl
      obtain ⟨w, z⟩ := I.cell _ _ hc1
      rw [e2]
      exact ⟨hc1, z.lt⟩
  have look : ∀ {y}, scope.names.lookup y = some .free → ∃ c, (cloFrom X.env.cells scope.names []).lookup y = some c := fun {y} hl => by
    have hy : (y, NameKind.free) ∈ scope.names := PySem.mem_of_lookup hl
    exact mem_lookup (cloFrom_has (cells := X.env.cells) (acc := []) hy)
  have nocell : ∀ {y}, scope.names.lookup y ≠ some .cell := fun {y} hl => ok.cell _ (PySem.mem_of_lookup hl) rfl
  have okB : (gCx X B s H scope s.heap.objs.size code fp [(h'.objs.size, go)]).Ok := by
    refine ⟨I.ok.mod, ok.kind, I.ok.glob, rfl, Nat.le_refl _, fun y z c e1 e2 => I.ok.inj y z c (cm e1).1 (cm e2).1, fun y hy => ?_, fun y c z e => ?_, fun _ => hBh, Around.frames_deeper hB, .inr ⟨rfl, rfl⟩,
      fun b hb => ⟨Nat.ne_of_lt (hfp b hb).2, fun y c e => (hfp b hb).1.2.2.2.2.1 y c (cm e).1⟩, I.bs, Nat.le_trans I.ok.bsz I.sz, fun b o e hb => ?_, fun b hb z => ?_, I.stack, I.stkFree⟩
    · have hy : scope.names.lookup y = some .cell ∨ scope.names.lookup y = some .free := hy
      rcases hy with hy | hy
      · exact absurd hy nocell
      · exact look hy
    · have z : false = true := z
      cases z
    · rcases (hfp b hb).1.2.2.2.1 with z | z
      · exact I.ok.noex b o e z
      · exact absurd (Nat.lt_of_lt_of_le (Heap.lt_size e) (Nat.le_trans I.ok.bsz z)) (Nat.lt_irrefl _)
    · rcases List.mem_cons.mp (I.stkSub b z) with z | z
      · exact (hfp b hb).1.2.1 z
      · exact (hfp b hb).1.2.2.1 z
  refine ⟨okB, rfl, I.bare.push hgs, Un.kept kp2, ⟨m, hns.keeps fun b o e => Heap.get?_push_of_some _ e, fun i y av e1 e2 e3 => ?_⟩, fun y c e => ?_, I.hok.fresh (Nat.le_refl _), fun y c e => I.freeC y c (cm e).1, fun p hp => ?_, I.hok.kept kp2, by rw [wipe_length]; exact I.len⟩
  · obtain ⟨e2, hne⟩ := wipe_some e2
    have e3 : Vis scope y := e3
    have hfr : scope.names.lookup y = some .free := by
      rcases e3 with e3 | e3 | e3
      · rcases ok.own _ (PySem.mem_of_lookup e3) rfl with e' | e'
        · obtain ⟨p, hp, hpy⟩ := List.mem_map.mp e'
          have e4 := ok.ix p hp
          have e5 : p.1 = y := hpy
          rw [e5] at e4
          exact absurd (List.mem_map.mpr ⟨p, hp, nodup_ix hN e4 e1⟩) hne
        · exact absurd (List.mem_of_getElem? e1) e'
      · exact absurd e3 nocell
      · exact e3
    obtain ⟨m1, hn, hl⟩ := I.loc
    have hvis : Vis X.env.scope y := (ok.free _ (PySem.mem_of_lookup hfr) rfl).elim (fun k => .inr (.inl k)) (fun k => .inr (.inr k))
    obtain ⟨w, r, q⟩ := hl i y av e1 e2 hvis
    refine ⟨w, r, .inr ⟨.inr hfr, ?_⟩⟩
    obtain ⟨c, h1⟩ := look hfr
    rcases q with ⟨k, _⟩ | ⟨_, c', e', z⟩
    · have k : X.env.scope.names.lookup y = some .local := k
      rcases ok.free _ (PySem.mem_of_lookup hfr) rfl with k' | k' <;> rw [show X.env.scope.names.lookup y = _ from k'] at k <;> cases k
    · have h2 := (cm h1).1
      rw [h2] at e'; cases e'
      exact ⟨c, h1, z.keeps kp2⟩
  · obtain ⟨w, z⟩ := I.cell y c (cm e).1
    exact ⟨w, z.keeps kp2⟩
  · have hp : p ∈ [(h'.objs.size, go)] ++ [] := hp
    rw [List.append_nil] at hp
    rw [List.mem_singleton.mp hp]
    have hle : s.heap.objs.size ≤ h'.objs.size := by rw [hsz]; exact Nat.le_succ _
    refine ⟨hgp, I.hok.fresh hle, ?_, fun z => ?_, hgo⟩
    · show h'.objs.size ≠ s.heap.objs.size
      rw [hsz]
      exact Nat.succ_ne_self _
    · rcases List.mem_cons.mp (I.stkSub _ z) with z | z
      · have z2 : h'.objs.size = X.env.locals := z
        have h1 := I.lt
        rw [← z2] at h1
        exact Nat.lt_irrefl _ (Nat.lt_of_lt_of_le h1 hle)
      · exact I.nofs hle z
end
end GX

set_option Elab.async false
set_option linter.all false
set_option maxRecDepth 100000
set_option maxHeartbeats 4000000
namespace GX
open PySem PySem.Spec PyProof.Rows L2 GenW
open Sem (wp)

theorem over_start {A : Around} {elt iter tg : Expr} {scope : Scope} {pos : Pos} {it : Value} {env : Env} : A.over (.compStart (.GeneratorExp elt [⟨tg, iter, [], 0⟩] scope pos) 0 it .none env) [] = A.deeper env := by
  first
    | rfl
    | (obtain ⟨hd, d, fr, gs, u⟩ := A; simp [Around.over, Around.deeper, marksOver, frameCount, unitsOf, envsOf, guardsOf, pushEnvs, pushGuards, Code.envs, Code.env?, Code.isFrame, Code.guards, Code.isGuard, Code.weight, Code.frames, Code.isCreation, Code.isCaller, Code.cUnits])
theorem over_turn {A : Around} {elt iter tg : Expr} {scope : Scope} {pos : Pos} {it : Value} {env : Env} : A.over (.compLoop (.GeneratorExp elt [⟨tg, iter, [], 0⟩] scope pos) 0 it .none env) [] = A.deeper env := by
  first
    | rfl
    | (obtain ⟨hd, d, fr, gs, u⟩ := A; simp [Around.over, Around.deeper, marksOver, frameCount, unitsOf, envsOf, guardsOf, pushEnvs, pushGuards, Code.envs, Code.env?, Code.isFrame, Code.guards, Code.isGuard, Code.weight, Code.frames, Code.isCreation, Code.isCaller, Code.cUnits])

/-- what the walk of one generator is about: its words and its iterator -/
structure GW where
  X : Cx
  B : Around
  s : Shared
  H : Hp
  scope : Scope
  C : Addr
  code : Value
  fp : List Addr
  pn : List (Addr × Obj)
  sl : L2.St
  vs : List Nat
  elt : Expr
  tg : Expr
  iter : Expr
  pos : Pos
  it : Addr
  tn : Nat → Heap → Prop
  J : It
  Z : Heap → Int
  T : Nat → Nat → Int → Hp → Prop
  Fin : Int → Hp → Prop
  Aft : Nat → Nat → Int → V → Hp → Prop
abbrev GW.cx (w : GW) : Cx := gCx w.X w.B w.s w.H w.scope w.C w.code w.fp w.pn
abbrev GW.ex (w : GW) : Expr := .GeneratorExp w.elt [⟨w.tg, w.iter, [], 0⟩] w.scope w.pos
abbrev GW.env (w : GW) : Env := gEnv w.X w.scope w.C w.code
abbrev GW.loop (w : GW) : Code := .compLoop w.ex 0 (.ref w.it) .none w.env
abbrev GW.begin (w : GW) : Code := .compStart w.ex 0 (.ref w.it) .none w.env
/-- between two turns: ahead of turn i -/
def GW.At (w : GW) (i : Nat) (H' : Hp) (s' : Shared) : Prop := Inv w.cx [] (wipe w.sl w.vs) H' s' ∧ w.tn i s'.heap ∧ ∀ b ∈ w.fp, H' b = none
def GW.end_ (w : GW) : GenEnd := fun _ s₀ r s' => r = .ok .next ∧ ∃ H', Inv w.cx [] (wipe w.sl w.vs) H' s' ∧ w.Fin (w.Z s₀.heap) H'
def GW.out (w : GW) : Protocol := fun n s₀ v s' kap => ∃ i m x H', w.At (i + 1) H' s' ∧ RelV x v ∧ w.Aft i m (w.Z s₀.heap) x H' ∧ m ≤ n + 1 ∧ ∀ s'' H'' m', w.At (i + 1) H'' s'' → w.T (i + 1) m' (w.Z s''.heap) H'' → m' < m → kap (.send .none) s''
/-- the turns' rules -/
structure GW.Ok (w : GW) (g : TG) (te : TE) : Prop where
  calm : w.X.calm = true
  hd : w.B.handled = none
  apart : ∀ p ∈ w.pn, p.1 ∉ w.fp
  co : w.scope.isCoroutine = false
  turn : Turn w.X.prog w.X.w w.X.K w.tg w.J w.fp w.it w.tn
  pg : PG w.cx w.tg g
  pe : PE w.cx w.elt te
  word : ∀ i m z H', w.T i m z H' → (w.J.stop i H' ∧ w.Fin z H') ∨ (w.J.go i H' ∧ 0 < m ∧ ∀ x H'', w.J.yld i H' x H'' → g x (wipe w.sl w.vs) H'' fun σ2 H2 => wipe σ2 w.vs = wipe w.sl w.vs ∧ te σ2 H2 fun v H3 => w.Aft i m z v H3)
theorem GW.Ok.fpo {w : GW} {g : TG} {te : TE} (ok : w.Ok g te) {i : Nat} {H' : Hp} {s' : Shared} (a : w.At i H' s') : ∀ b ∈ w.fp, FpOk w.cx [] H' b := fun b hb =>
  ⟨a.2.2 b hb, (a.1.ok.exf b hb).1, a.1.ok.exfs b hb, .inl hb, fun x c e => (a.1.ok.exf b hb).2 x c e, fun p hp z => by
    have hp : p ∈ w.pn ++ [] := hp
    rw [List.append_nil] at hp
    exact ok.apart p hp (by rw [z]; exact hb)⟩
/-- one turn's end, behind the element -/
theorem GW.Ok.next {w : GW} {g : TG} {te : TE} (ok : w.Ok g te) {i : Nat} {h1 : Heap} {σ2 : L2.St} {H2 H1 : Hp} {s2 : Shared} (st : w.tn i h1) (hw : wipe σ2 w.vs = wipe w.sl w.vs) (I : Inv w.cx ([] ++ pinsAt w.fp h1) σ2 H2 s2) : w.At i H2 s2 := by
  have pin' : ∀ b ∈ w.fp, ∀ o, h1.get? b = some o → s2.heap.get? b = some o ∧ H2 b = none := fun b hb o e =>
    let z := I.pin (b, o) (List.mem_append_right _ (List.mem_append_right _ (mem_pinsAt hb e)))
    ⟨z.1, z.2.1⟩
  have hl : (wipe w.sl w.vs).length = σ2.length := by rw [← hw, wipe_length]
  refine ⟨(I.unpinned (pins := [])).weak hl fun j v e => ?_, ok.turn.keep _ _ _ st fun b hb o e => (pin' b hb o e).1, fun b hb => ?_⟩
  · rw [← hw] at e
    exact (wipe_some e).1
  · obtain ⟨o, e, _⟩ := ok.turn.obj _ _ st b hb
    exact (pin' b hb o e).2
theorem seg_turn {w : GW} {g : TG} {te : TE} (ok : w.Ok g te) : ∀ (n i m : Nat) (s₀ s : Shared) (H' : Hp), m ≤ n → w.At i H' s → w.T i m (w.Z s₀.heap) H' →
    Seg (model w.X.prog w.X.w) w.B w.end_ w.out n s₀ w.loop ((model w.X.prog w.X.w).den w.loop) [] s := by
  intro n
  induction n with
  | zero =>
    intro i m s₀ s H' hm a t
    have hov : w.B.over w.loop [] = w.cx.A := over_turn
    show Seg _ w.B _ _ _ s₀ _ ((compTurn w.ex 0 (.ref w.it) .none w.env).onRaise (leaving w.env)) [] s
    rw [compTurn_gen, Sem.onRaise_eq_wrap]
    refine seg_bind_wrap (wpAny_standAt ?_)
    rcases ok.word i m _ H' t with ⟨hs, hf⟩ | ⟨_, h0, _⟩
    · refine seg_bind_wrap ?_
      rw [hov]
      refine thnF (ok.turn.done w.cx rfl rfl rfl rfl i [] s _ H' (fun _ _ => False) a.1 (ok.fpo a) a.2.1 hs) fun r s1 hr => ?_
      obtain ⟨hr, I1⟩ := hr
      subst hr
      exact seg_end (.ok .next) ⟨rfl, H', I1, hf⟩
    · exact absurd h0 (by omega)
  | succ n ih =>
    intro i m s₀ s H' hm a t
    have hov : w.B.over w.loop [] = w.cx.A := over_turn
    show Seg _ w.B _ _ _ s₀ _ ((compTurn w.ex 0 (.ref w.it) .none w.env).onRaise (leaving w.env)) [] s
    rw [compTurn_gen, Sem.onRaise_eq_wrap]
    refine seg_bind_wrap (wpAny_standAt ?_)
    rcases ok.word i m _ H' t with ⟨hs, hf⟩ | ⟨hgo, h0, step⟩
    · refine seg_bind_wrap ?_
      rw [hov]
      refine thnF (ok.turn.done w.cx rfl rfl rfl rfl i [] s _ H' (fun _ _ => False) a.1 (ok.fpo a) a.2.1 hs) fun r s1 hr => ?_
      obtain ⟨hr, I1⟩ := hr
      subst hr
      exact seg_end (.ok .next) ⟨rfl, H', I1, hf⟩
    · refine seg_bind_wrap ?_
      rw [hov]
      refine thnF (ok.turn.item w.cx rfl rfl rfl rfl i [] s _ H' (fun _ _ => False) a.1 (ok.fpo a) a.2.1 hgo) fun r s1 h1 => ?_
      obtain ⟨u, hr, h1⟩ := h1
      subst hr
      refine seg_bind_wrap ?_
      rw [hov]
      refine thnF h1 fun _ s2 h2 => ?_
      obtain ⟨x, H2, I2, r2, y2, st2, n2⟩ := h2
      have I2' := I2.pinned (ok.fpo ⟨I2, st2, n2⟩) (ok.turn.obj _ _ st2)
      refine seg_bind_wrap ?_
      rw [hov]
      refine thnF (ok.pg.run _ s2 _ H2 x u _ I2' r2 (step x H2 y2)) fun _ s3 h3 => ?_
      obtain ⟨σ3, H3, I3, hw3, q3⟩ := h3
      refine seg_bind_wrap (wpAny_tests_nil ?_)
      simp only [if_true]
      have hy : ∀ v, yieldOut w.env v = yieldValue v := fun v => by
        have hco : w.env.scope.isCoroutine = false := ok.co
        simp only [yieldOut, hco, Bool.false_eq_true, if_false]
      simp only [hy]
      rw [Sem.bind_eq_wrap', Sem.bind_eq_wrap', Sem.wrap_wrap, Sem.wrap_wrap]
      refine seg_wrap ?_
      rw [hov]
      refine thnF (ok.pe.run _ s3 σ3 H3 _ I3 q3) fun v s4 h4 => ?_
      obtain ⟨y, H4, I4, r4, q4⟩ := h4
      have a4 : w.At (i + 1) H4 s4 := ok.next (H1 := H4) st2 hw3 I4
      refine seg_at (seg_yield rfl rfl rfl ?_)
      refine ⟨i, m, y, H4, a4, r4, q4, by omega, fun s5 H5 m' a5 t5 hlt => ?_⟩
      exact seg_again rfl (ih (i + 1) m' s5 s5 H5 (by omega) a5 t5)
theorem seg_begin {w : GW} {g : TG} {te : TE} (ok : w.Ok g te) {n m : Nat} {s₀ s : Shared} {H' : Hp} (hm : m ≤ n) (a : w.At 0 H' s) (t : w.T 0 m (w.Z s₀.heap) H') :
    Seg (model w.X.prog w.X.w) w.B w.end_ w.out n s₀ w.begin ((model w.X.prog w.X.w).den w.begin) [] s := by
  have loop := seg_turn ok n 0 m s₀ s H' hm a t
  show Seg _ w.B _ _ _ s₀ _ ((compStart w.ex 0 (.ref w.it) .none w.env).onRaise (leaving w.env)) [] s
  unfold compStart
  rw [Sem.onRaise_eq_wrap]
  show Seg _ w.B _ _ _ s₀ _ ((ask >>= _).wrap _ _ _ _) [] s
  refine seg_bind_wrap (wpAny_askSetting ?_)
  split
  · exact seg_again rfl loop
  · refine seg_bind_wrap (wpAny_rule ?_)
    show Seg _ w.B _ _ _ s₀ _ ((standAt w.iter.pos >>= _).wrap _ _ _ _) [] s
    exact seg_bind_wrap (wpAny_standAt (seg_bind_wrap (ok.turn.self _ 0 s _ _ a.2.1 (seg_again rfl loop))))
end GX

set_option Elab.async false
set_option linter.all false
set_option maxRecDepth 100000
set_option maxHeartbeats 4000000
namespace GX
open PySem PySem.Spec PyProof.Rows L2 GenW
open Sem (wp)

/-- the generator at a, number g, is ready for another turn -/
def GW.Ready (w : GW) (a : Addr) (g n : Nat) (s' : Shared) : Prop :=
  s'.heap.IsGen a g ∧ ∃ gs : GenState, s'.gens[g]? = some gs ∧ gs.Goes (model w.X.prog w.X.w) w.B w.end_ w.out n (.send .none) (s'.setGen g .running)
theorem GW.At.gens {w : GW} {i : Nat} {H' : Hp} {s' : Shared} {g : Nat} {x : GenState} (a : w.At i H' s') (hx : x.bare = true) : w.At i H' (s'.setGen g x) :=
  ⟨inv_gens a.1 (allBare_setGen a.1.bare hx), a.2.1, a.2.2⟩

theorem fin_gen {w : GW} {H' : Hp} {s' : Shared} {g : Nat} {h' : Heap} (I : Inv w.cx [] (wipe w.sl w.vs) H' s') (hk : ∀ b o, s'.heap.get? b = some o → h'.get? b = some o) : Inv w.cx [] (wipe w.sl w.vs) H' { s'.setGen g .finished with heap := h' } :=
  (inv_gens I (allBare_setGen (g := g) (x := .finished) I.bare rfl)).kept (t' := s'.toks) hk
/-- one call of next: a value and the generator ready again (for whoever restores the word), or the end -/
theorem next_turn {w : GW} {A : Around} {a : Addr} {g n : Nat} {s : Shared} {Q : Option Value → Shared → Prop} {E : Value → Shared → Prop} (hB : w.B = A.in1) (hh : A.handled = none) (hd : A.depth < recursionLimit) (hl : s.heap.NoLimit) (hr : w.Ready a g n s)
    (hpin : ∀ (s' : Shared) (H' : Hp), Inv w.cx [] (wipe w.sl w.vs) H' s' → s'.heap.IsGen a g)
    (hY : ∀ v s' i m x H', w.At (i + 1) H' s' → RelV x v → w.Aft i m (w.Z s.heap) x H' →
      (∀ s'' H'' m', s''.gens = s'.gens → w.At (i + 1) H'' s'' → w.T (i + 1) m' (w.Z s''.heap) H'' → m' < m → ∃ n', n = n' + 1 ∧ w.Ready a g n' s'') → Q (some v) s')
    (hP : ∀ s' H', Inv w.cx [] (wipe w.sl w.vs) H' s' → w.Fin (w.Z s.heap) H' → Q none s') :
    wpAny (model w.X.prog w.X.w) A (pyNext (.ref a)) Q E s := by
  obtain ⟨hg, gs, hgs, hgo⟩ := hr
  have hgl : g < s.gens.size := (Array.getElem?_eq_some_iff.mp hgs).1
  rw [hB] at hgo
  refine wpAny_gsz (n := g + 1) hgl (wpAny_pyNext_genexpQ (P := fun _ s₀ s₁ => ∃ H', Inv w.cx [] (wipe w.sl w.vs) H' s₁ ∧ w.Fin (w.Z s₀.heap) H') hh hl hd hg hgs hgo (fun v s₁ gs' hb hv => ?_) fun s₁ hp h' hk => ?_)
  · intro hsz
    obtain ⟨i, m, x, H', a1, r1, q1, hm, hk⟩ := hv
    have hsz1 : g < s₁.gens.size := by
      have q : (s₁.setGen g gs').gens.size = s₁.gens.size := setGen_size _ _ _
      have hsz' : g + 1 ≤ (s₁.setGen g gs').gens.size := hsz
      omega
    refine hY v _ i m x H' (a1.gens hb) r1 q1 fun s'' H'' m' hg2 a2 t2 hlt => ?_
    have kk := hk _ H'' m' (a2.gens (g := g) (x := .running) rfl) t2 hlt
    cases n with
    | zero => exact False.elim kk
    | succ n =>
      refine ⟨n, rfl, hpin s'' H'' a2.1, gs', ?_, ?_⟩
      · rw [hg2]
        exact setGen_at hsz1
      · rw [hB]
        exact kk
  · intro _
    obtain ⟨H', I', hf⟩ := hp
    exact hP _ H' (fin_gen I' hk) hf
theorem GW.Ready.lim {w : GW} {i : Nat} {H' : Hp} {s' : Shared} (a : w.At i H' s') : s'.heap.NoLimit := a.1.nolimit

/-- all(generator) -/
theorem all_loop {w : GW} {A : Around} {R : Result → Shared → Prop} {a : Addr} {g : Nat} {QF : Hp → Prop} (hB : w.B = A.in1.in1) (hh : A.handled = none) (hd : A.depth < recursionLimit)
    (hpin : ∀ (s' : Shared) (H' : Hp), Inv w.cx [] (wipe w.sl w.vs) H' s' → s'.heap.IsGen a g)
    (haft : ∀ i m z x H', w.Aft i m z x H' → ∃ b, x = .bl b ∧ if b = true then ∃ m', m' < m ∧ ∀ z', w.T (i + 1) m' z' H' else QF H')
    (hT : ∀ s' H' z, Inv w.cx [] (wipe w.sl w.vs) H' s' → w.Fin z H' → R (.ok (.ret (.bool true))) s') (hF : ∀ s' H', Inv w.cx [] (wipe w.sl w.vs) H' s' → QF H' → R (.ok (.ret (.bool false))) s') :
    ∀ (n : Nat) (s : Shared), s.heap.NoLimit → w.Ready a g n s → codeAny (model w.X.prog w.X.w) A (.builtin "all.loop" ⟨[.ref a], []⟩) R s := by
  intro n
  induction n using Nat.strongRecOn with
  | ind n ih =>
    intro s hl hr
    refine codeAny_builtin F.entry_all_loop ?_
    rw [Around.under_plainId F.plain_all_loop _]
    show wpAny _ A.in1 (pyNext (.ref a) >>= _) _ _ s
    refine wpAny_bind (next_turn hB hh hd hl hr hpin (fun v s' i m x H' a1 r1 q1 k => ?_) fun s' H' I' hf => ?_)
    · obtain ⟨b, rfl, hq⟩ := haft i m _ x H' q1
      obtain rfl : v = Value.bool b := r1
      refine wpAny_bind (wpAny_holding (wpAny_truthy_bool ?_))
      refine wpAny_bind (wpAny_letGo ?_)
      cases b with
      | true =>
        obtain ⟨m', hm, t'⟩ := hq
        obtain ⟨n', hn, r'⟩ := k s' H' m' rfl a1 (t' _) hm
        exact wpAny_pure ⟨plainId_quiet F.plain_all_loop _, ih n' (by omega) s' (GW.Ready.lim a1) r'⟩
      | false => exact wpAny_bind (wpAny_rule (wpAny_pure (hF s' H' a1.1 hq)))
    · exact wpAny_bind (wpAny_rule (wpAny_pure (hT s' H' _ I' hf)))

/-- sum(generator): the running total is a tracked list at S -/
def totD : Data → Int
  | .seq its _ => (match its.toList with
    | [.int z _] => z
    | _ => 0)
  | _ => 0
def totOf (S : Addr) (h : Heap) : Int := ((h.get? S).map fun o => totD o.data).getD 0
theorem tot_of {X : Cx} {pins : List (Addr × Obj)} {σ : L2.St} {H : Hp} {s : Shared} {S : Addr} {k : Int} (I : Inv X pins σ H s) (h : H S = some (.lst [.int k])) :
    ∃ (t : Tok) (c : Nat), s.heap.get? S = some { cls := .type "list", data := .seq #[.int k t] c } ∧ totOf S s.heap = k := by
  obtain ⟨_, its, n, r, e⟩ := I.hok S _ h
  cases r with
  | cons r1 r2 =>
    cases r2
    obtain ⟨t, rfl⟩ := r1
    refine ⟨t, n, e, ?_⟩
    unfold totOf
    rw [e]
    rfl
theorem tot_upd {X : Cx} {pins : List (Addr × Obj)} {σ : L2.St} {H : Hp} {s : Shared} {S : Addr} {k j : Int} {t : Tok} {h' : Heap} {c tk : Nat} (I : Inv X pins σ H s) (h : H S = some (.lst [.int k])) (kp : ∀ b o, b ≠ S → s.heap.get? b = some o → h'.get? b = some o)
    (e : h'.get? S = some { cls := .type "list", data := .seq #[.int j t] c }) : Inv X pins σ (upd H S (.lst [.int j])) { s with heap := h', toks := tk } ∧ totOf S h' = j := by
  refine ⟨I.write (x := S) (e := S) (t' := tk) (by rw [h]; trivial) (.inl rfl) kp ⟨_, e⟩ ⟨by show 1 ≤ sizeLine; decide, [.int j t], c, .cons ⟨t, rfl⟩ .nil, e⟩, ?_⟩
  unfold totOf
  rw [e]
  rfl
/-- what one item of a sum does -/
theorem GW.At.total {w : GW} {i : Nat} {H' : Hp} {s : Shared} {S : Addr} {k j : Int} {t : Tok} {h' : Heap} {c tk : Nat} (tnk : ∀ i h h', w.tn i h → (∀ b ∈ w.fp, ∀ o, h.get? b = some o → h'.get? b = some o) → w.tn i h') (a : w.At i H' s) (h : H' S = some (.lst [.int k])) (kp : ∀ b o, b ≠ S → s.heap.get? b = some o → h'.get? b = some o)
    (e : h'.get? S = some { cls := .type "list", data := .seq #[.int j t] c }) : w.At i (upd H' S (.lst [.int j])) { s with heap := h', toks := tk } ∧ totOf S h' = j := by
  obtain ⟨I1, e1⟩ := tot_upd (tk := tk) a.1 h kp e
  have nS : ∀ b ∈ w.fp, b ≠ S := fun b hb z => by
    have q := a.2.2 b hb
    rw [z, h] at q
    cases q
  exact ⟨⟨I1, tnk _ _ _ a.2.1 fun b hb o q => kp b o (nS b hb) q, fun b hb => by rw [upd_ne (nS b hb)]; exact a.2.2 b hb⟩, e1⟩
theorem sum_loop {w : GW} {A : Around} {R : Result → Shared → Prop} {a S : Addr} {g : Nat} {QT : Int → Hp → Prop} (hB : w.B = A.in1.in1) (hh : A.handled = none) (hd : A.depth < recursionLimit)
    (tnk : ∀ i h h', w.tn i h → (∀ b ∈ w.fp, ∀ o, h.get? b = some o → h'.get? b = some o) → w.tn i h')
    (hpin : ∀ (s' : Shared) (H' : Hp), Inv w.cx [] (wipe w.sl w.vs) H' s' → s'.heap.IsGen a g) (hZ : w.Z = totOf S)
    (hw : ∀ i m z H', w.T i m z H' → H' S = some (.lst [.int z]))
    (haft : ∀ i m z x H', w.Aft i m z x H' → H' S = some (.lst [.int z]) ∧ ∃ k, x = .int k ∧ ∃ m', m' < m ∧ w.T (i + 1) m' (z + k) (upd H' S (.lst [.int (z + k)])))
    (hT : ∀ s' H' z t, Inv w.cx [] (wipe w.sl w.vs) H' s' → w.Fin z H' → R (.ok (.ret (.int z t))) s') :
    ∀ (n : Nat) (s : Shared) (i m : Nat) (H' : Hp) (z st : Int), (st = 0 ∨ st = 2) → w.At i H' s → w.T i m z H' → w.Ready a g n s → codeAny (model w.X.prog w.X.w) A (.builtin "sum.loop" ⟨[.ref a, .ref S, rawInt st, rawInt 0], []⟩) R s := by
  intro n
  induction n using Nat.strongRecOn with
  | ind n ih =>
    intro s i m H' z st hst a0 t0 hr
    obtain ⟨tA, c, hS, hz⟩ := tot_of a0.1 (hw _ _ _ _ t0)
    refine codeAny_builtin F.entry_sum_loop ?_
    rw [Around.under_plainId F.plain_sum_loop _]
    show wpAny _ A.in1 (seqItems? (.ref S) >>= _) _ _ s
    refine wpAny_bind (wpAny_seqItems hS rfl ?_)
    show wpAny _ A.in1 (tryCatch (pyNext (.ref a)) _ >>= _) _ _ s
    refine wpAny_bind (wpAny_tryCatch (next_turn hB hh hd a0.1.nolimit hr hpin (fun v s' i1 m1 x H1 a1 r1 q1 k => ?_) fun s' H1 I1 hf => ?_))
    · rw [hZ, hz] at q1
      obtain ⟨hS1, kk, rfl, m', hm, t'⟩ := haft i1 m1 z x H1 q1
      obtain ⟨t, rfl⟩ := r1
      obtain ⟨tB, c1, hS', hz1⟩ := tot_of a1.1 hS1
      have go : ∀ {h' : Heap} {tk c2 : Nat} {t2 : Tok} {st' : Int}, (st' = 0 ∨ st' = 2) → (∀ b o, b ≠ S → s'.heap.get? b = some o → h'.get? b = some o) → h'.get? S = some { cls := .type "list", data := .seq #[.int (z + kk) t2] c2 } →
          codeAny (model w.X.prog w.X.w) A (.builtin "sum.loop" ⟨[.ref a, .ref S, rawInt st', rawInt 0], []⟩) R { s' with heap := h', toks := tk } := fun {h' tk c2 t2 st'} hst' kp e => by
        obtain ⟨a2, e2⟩ := GW.At.total (tk := tk) tnk a1 hS1 kp e
        have t2' : w.T (i1 + 1) m' (w.Z h') (upd H1 S (.lst [.int (z + kk)])) := by
          rw [hZ, e2]
          exact t'
        obtain ⟨n', hn, r'⟩ := k { s' with heap := h', toks := tk } _ m' rfl a2 t2' hm
        rw [hZ, e2] at t2'
        exact ih n' (by omega) _ (i1 + 1) m' _ (z + kk) st' hst' a2 t2' r'
      have other : ∀ (f : Obj → Obj) (h : Heap) (b : Addr) (o : Obj), b ≠ S → h.get? b = some o → (h.update S f).get? b = some o := fun f h b o hb e => (Heap.get?_update_other _ _ (Ne.symm hb)).trans e
      rcases hst with rfl | rfl
      · show wpAny _ A.in1 (if (_ : Bool) = true then (mkInt (z + kk) >>= _) else _) _ _ _
        split
        · refine wpAny_bind (wpAny_mkInt ?_)
          show wpAny _ A.in1 (updateSeq S (fun _ => #[Value.int (z + kk) s'.toks]) >>= _) _ _ _
          refine wpAny_bind ?_
          exact wpAny_updateSeq hS' rfl (wpAny_pure ⟨plainId_quiet F.plain_sum_loop _, go (st' := 0) (.inl rfl) (fun b o hb e => other _ _ b o hb e) (Heap.get?_update_self _ hS' rfl)⟩)
        · refine wpAny_bind (wpAny_rule ?_)
          refine wpAny_bind (wpAny_attempt (wpAny_holding (wpAny_add_int ?_)))
          show wpAny _ A.in1 (updateSeq S (fun _ => #[Value.int (z + kk) s'.toks]) >>= _) _ _ _
          refine wpAny_bind (wpAny_updateSeq hS' rfl ?_)
          have hS2 := Heap.get?_update_self (Obj.mapSeq fun _ => #[Value.int (z + kk) s'.toks]) hS' rfl
          refine wpAny_bind (wpAny_letGo ?_)
          exact wpAny_bind (wpAny_updateSeq hS2 rfl (wpAny_pure ⟨plainId_quiet F.plain_sum_loop _, go (st' := 2) (.inr rfl) (fun b o hb e => other _ _ b o hb (other _ _ b o hb e)) (Heap.get?_update_self _ hS2 rfl)⟩))
      · show wpAny _ A.in1 ((holding [Value.int kk t] (binaryOp .Add (.int z tA) (.int kk t))).attempt >>= _) _ _ _
        refine wpAny_bind (wpAny_attempt (wpAny_holding (wpAny_add_int ?_)))
        show wpAny _ A.in1 (updateSeq S (fun _ => #[Value.int (z + kk) s'.toks]) >>= _) _ _ _
        refine wpAny_bind (wpAny_updateSeq hS' rfl ?_)
        have hS2 := Heap.get?_update_self (Obj.mapSeq fun _ => #[Value.int (z + kk) s'.toks]) hS' rfl
        refine wpAny_bind (wpAny_letGo ?_)
        exact wpAny_bind (wpAny_updateSeq hS2 rfl (wpAny_pure ⟨plainId_quiet F.plain_sum_loop _, go (st' := 2) (.inr rfl) (fun b o hb e => other _ _ b o hb (other _ _ b o hb e)) (Heap.get?_update_self _ hS2 rfl)⟩))
    · rw [hZ, hz] at hf
      exact wpAny_pure (hT s' H1 z tA I1 hf)
end GX

set_option Elab.async false
set_option linter.all false
set_option maxRecDepth 100000
set_option maxHeartbeats 4000000
namespace GX
open PySem PySem.Spec PyProof.Rows L2 GenW
open Sem (wp)
open GxR (TabG Tabbed inv_tab)

/-- a generator that has not begun -/
structure Made (X : Cx) (pins : List (Addr × Obj)) (σ : L2.St) (vs : List Nat) (elt tg iter : Expr) (scope : Scope) (pos : Pos) (P : Addr) (RR : It → Hp → Prop) (v : Value) (s5 : Shared) : Prop where
  ex : ∃ (s3 : Shared) (H1 H2 : Hp) (code : Value) (fp : List Addr) (go : Obj) (a it : Addr) (g : Nat) (tn : Nat → Heap → Prop) (J : It),
    v = .ref a ∧ Inv X pins σ H2 s3 ∧ Tabbed P H1 H2 ∧ RR J H1 ∧ Turn X.prog X.w X.K tg J fp it tn ∧ (∀ b ∈ fp, FpOk X pins H2 b ∧ b < s3.heap.objs.size) ∧ tn 0 s5.heap ∧ a ∉ fp ∧
    Inv (gCx X X.A.in1.in1 s3 H2 scope s3.heap.objs.size code fp [(a, go)]) [] (wipe σ vs) H2 s5 ∧ (∀ h : Heap, h.get? a = some go → h.IsGen a g) ∧
    s5.gens[g]? = some (.fresh (.compStart (.GeneratorExp elt [⟨tg, iter, [], 0⟩] scope pos) 0 (.ref it) .none (gEnv X scope s3.heap.objs.size code)))
section
variable {X : Cx} {pins : List (Addr × Obj)} {σ : L2.St} {H : Hp} {s : Shared}
theorem gen_make {c P : Addr} {elt tg iter : Expr} {scope : Scope} {own : List (Str × Nat)} {pos : Pos} {wi : TI} {k : Nat} {RR : It → Hp → Prop}
    (hr : Room k X.A) (hN : X.N.Nodup) (TB : LamX.TabB X.base X.mg c P) (hcode : X.env.code = .ref c) (ok : GenOk X.N X.env.scope scope own) (hi : PI X tg iter wi) (hs : ∀ v, genFold iter X.env v = pure v)
    (I : Inv X pins σ H s) (h : wi σ H fun J H1 => TabG H1 P ∧ RR J H1) :
    wpAny (model X.prog X.w) X.A (eval (.GeneratorExp elt [⟨tg, iter, [], 0⟩] scope pos) X.env) (Made X pins σ (own.map (·.2)) elt tg iter scope pos P RR) X.xe s := by
  have hfree : ∀ y ∈ scope.names, y.2 = .free → ∃ c, X.env.cells.lookup y.1 = some c := fun y hy e => by
    rcases ok.free y hy e with k | k
    · exact I.ok.has _ (.inl k)
    · exact I.ok.has _ (.inr k)
  refine wpAny_GeneratorExp_make ok.co (closure_ok hfree) ok.cell ok.dot ok.kind (by have := hr.dp; omega) ?_ hs
  refine thn (hi.run pins s σ H _ I h) fun xv s1 hx => thn hx fun itv s2 h2 => ?_
  obtain ⟨it, fp, tn, J, H1, e, I1, T, st2, f2, ⟨ps, hP, ht⟩, q⟩ := h2
  subst e
  have hPs : s2.heap.get? P = some { cls := .none, data := .fields ps } := I1.hok P _ hP
  have cd : PySem.W.CodeHd s2.heap c P := TB.code.keeps I1.bk
  have szf : ∀ b ∈ fp, b < s2.heap.objs.size := fun b hb => by
    obtain ⟨o, e, _⟩ := T.obj _ _ st2 b hb
    exact Heap.lt_size e
  have nPf : ∀ b ∈ fp, b ≠ P := fun b hb z => by
    have q := (f2 b hb).1
    rw [z, hP] at q
    cases q
  have cont : ∀ (code : Value) (h3 : Heap) (tk : Nat) (ps' : Array Value), Heap.ExtBut P s2.heap h3 → s2.heap.objs.size ≤ h3.objs.size → h3.get? P = some { cls := .none, data := .fields ps' } → (∃ more, ps' = ps ++ more) → TriplesOk ps'.toList →
      wpAny (model X.prog X.w) X.A (builtinsFor X.env.globals X.env.builtins) (fun bi s4 =>
        ∀ h', h'.Ns s4.heap.objs.size (fun y => if y = ".0" then some (Value.ref it) else none) → Heap.SameBut s4.heap.objs.size (s4.heap.push { cls := .type "frame", data := .dict #[] }) h' →
          Made X pins σ (own.map (·.2)) elt tg iter scope pos P RR (.ref h'.objs.size) { s4 with
            gens := s4.gens.push (.fresh (.compStart (.GeneratorExp elt [⟨tg, iter, [], 0⟩] scope pos) 0 (.ref it) .none (genEnv scope (cloFrom X.env.cells scope.names []) s4.heap.objs.size code bi X.env))),
            toks := s4.toks + 1 + 1 + 1,
            heap := h'.push { cls := .type "generator", data := .fields #[.int s4.gens.size 0, .str "<genexpr>" (s4.toks + 1), .str (X.env.qual ++ "<genexpr>") (s4.toks + 1 + 1)] } }) X.xe { s2 with heap := h3, toks := tk } := by
    intro code h3 tk ps' hx hsz hP3 hmore ht3
    obtain ⟨bm, ob, e1, e2, e3, e4, e5, e6, e7, e8⟩ := TB.bm
    have keep3 : ∀ b u, b ≠ P → s2.heap.get? b = some u → h3.get? b = some u := fun b u hb e => hx b u hb e
    refine wpAny_builtinsFor (m := X.mg) (by rw [I1.ok.glob]; exact (I1.mod.glob.keeps I1.bk).extBut hx TB.gP) e1 e2 (keep3 _ _ e4 (I1.bk _ _ e5)) e6 e7 e8 ?_
    obtain ⟨more, em⟩ := hmore
    have I3 : Inv X pins σ (upd H1 P (.tbl (ps ++ more))) { s2 with heap := h3, toks := tk } := inv_tab (g' := s2.gens) (d' := s2.drawn) (t' := tk) I1 hP keep3 (by rw [← em]; exact hP3) I1.bare
    intro h' hn' hs'
    have hsz' : h'.objs.size = h3.objs.size + 1 := by rw [hs'.1, Heap.size_push]
    have keep' : ∀ b o, h3.get? b = some o → h'.get? b = some o := fun b o e => hs'.extBut b o (Nat.ne_of_lt (Heap.lt_size e)) (Heap.get?_push_of_some _ e)
    have f3 : ∀ b ∈ fp, FpOk X pins (upd H1 P (.tbl (ps ++ more))) b ∧ b < h3.objs.size := fun b hb => ⟨⟨by rw [upd_ne (nPf b hb)]; exact (f2 b hb).1, (f2 b hb).2⟩, Nat.lt_of_lt_of_le (szf b hb) hsz⟩
    have af : h'.objs.size ∉ fp := fun z => by
      have q := (f3 _ z).2
      rw [hsz'] at q
      exact absurd q (Nat.not_lt.mpr (Nat.le_succ _))
    have I5 := gen_start (B := X.A.in1.in1) (code := code) (go := { cls := .type "generator", data := .fields #[.int s2.gens.size 0, .str "<genexpr>" (tk + 1), .str (X.env.qual ++ "<genexpr>") (tk + 1 + 1)] }) (tk := tk + 1 + 1 + 1)
      (gs := .fresh (.compStart (.GeneratorExp elt [⟨tg, iter, [], 0⟩] scope pos) 0 (.ref it) .none (gEnv X scope h3.objs.size code))) I3 ok hN f3 I3.ok.frames hr.hd hn' keep' hsz' (fun v z => by cases z) (Heap.get?_push_size _ rfl) rfl
    refine ⟨⟨{ s2 with heap := h3, toks := tk }, H1, upd H1 P (.tbl (ps ++ more)), code, fp, _, h'.objs.size, it, s2.gens.size, tn, J, rfl, I3, ⟨⟨ps ++ more, upd_same, by rw [← em]; exact ht3⟩, fun b hb => upd_ne hb⟩, q, T, f3, ?_, af, I5, fun h e => ⟨_, _, _, e, rfl, rfl, rfl⟩, Array.getElem?_push_size ..⟩⟩
    exact T.keep _ _ _ st2 fun b hb o e => Heap.get?_push_of_some _ (keep' b o (keep3 b o (nPf b hb) e))
  refine ⟨I1.nolimit, ?_⟩
  cases hf : codeAmong pos ps.toList with
  | none =>
    refine wpAny_genexprCodeX hcode (cd.code hPs ht) (cd.tab hPs) hf fun c' h' tk hx hge hlt hco' _ htab' _ => ?_
    obtain ⟨o1, vs1, f1, tf, fl, tg1, inF, tx, tt, op, _, _, _, _, _, _, _, _, _, htr, _⟩ := hco'
    exact cont _ h' tk _ hx (Nat.le_trans hge (Nat.le_of_lt hlt)) htab'.2 ⟨_, rfl⟩ htr
  | some cv =>
    refine wpAny_genexprCode_hit hcode (cd.code hPs ht) hf ?_
    exact cont cv s2.heap s2.toks ps (Heap.ExtBut.refl _ _) (Nat.le_refl _) hPs ⟨#[], by simp⟩ ht
end
/-- behind the walk: back in the maker's context -/
theorem back {X : Cx} {pins : List (Addr × Obj)} {σ σ' : L2.St} {H H' : Hp} {s s' : Shared} {scope : Scope} {C : Addr} {code : Value} {fp : List Addr} {B : Around} {pn pins' : List (Addr × Obj)} (I : Inv X pins σ H s) (f3 : ∀ b ∈ fp, FpOk X pins H b ∧ b < s.heap.objs.size)
    (J : Inv (gCx X B s H scope C code fp pn) pins' σ' H' s') : Inv X pins σ H' s' :=
  I.call' (ch := fp) J.os J.base J.hok J.bare fun b hb => ⟨(f3 b hb).1.2.2.2.1, (f3 b hb).1.2.1, (f3 b hb).1.2.2.2.2.1, (f3 b hb).1.2.2.2.2.2⟩
/-- all(elt for tg in iter): W by the turn and a measure -/
def tAllG (P : Addr) (wi : TI) (g : TG) (te : TE) (vs : List Nat) : TE := fun σ H Q => wi σ H fun J H1 => TabG H1 P ∧ ∀ H2, Tabbed P H1 H2 → ∃ W : Nat → Nat → Hp → Prop, (∃ m, W 0 m H2) ∧ ∀ i m H', W i m H' →
  (J.stop i H' ∧ Q (.bl true) H') ∨ (J.go i H' ∧ 0 < m ∧ ∀ x H'', J.yld i H' x H'' → g x (wipe σ vs) H'' fun σ2 H3 => wipe σ2 vs = wipe σ vs ∧ te σ2 H3 fun v H4 => ∃ b, v = .bl b ∧ if b = true then ∃ m', m' < m ∧ W (i + 1) m' H4 else Q (.bl false) H4)
/-- sum(elt for tg in iter): the running total stands at S -/
def tSumG (P : Addr) (wi : TI) (g : TG) (te : TE) (vs : List Nat) : TE := fun σ H Q => wi σ H fun J H1 => TabG H1 P ∧ ∀ H2, Tabbed P H1 H2 → ∀ S, H2 S = none → ∃ W : Nat → Nat → Int → Hp → Prop, (∃ m, W 0 m 0 (upd H2 S (.lst [.int 0]))) ∧
  (∀ i m z H', W i m z H' → H' S = some (.lst [.int z])) ∧ ∀ i m z H', W i m z H' →
  (J.stop i H' ∧ Q (.int z) H') ∨ (J.go i H' ∧ 0 < m ∧ ∀ x H'', J.yld i H' x H'' → g x (wipe σ vs) H'' fun σ2 H3 => wipe σ2 vs = wipe σ vs ∧ te σ2 H3 fun v H4 => H4 S = some (.lst [.int z]) ∧ ∃ k, v = .int k ∧ ∃ m', m' < m ∧ W (i + 1) m' (z + k) (upd H4 S (.lst [.int (z + k)])))
section
variable {X : Cx} {c P : Addr} {elt tg iter : Expr} {scope : Scope} {own : List (Str × Nat)} {p pos gpos : Pos} {wi : TI} {g : TG} {te : TE} {k : Nat}
theorem pe_allG (hr : Room k X.A) (hg : Gl X "all") (hm : X.mg "all" = none) (hb : bootBuiltins "all" = some (.builtin "all")) (hN : X.N.Nodup) (hc : X.calm = true) (TB : LamX.TabB X.base X.mg c P) (hcode : X.env.code = .ref c) (ok : GenOk X.N X.env.scope scope own) (hi : PI X tg iter wi)
    (hpg : ∀ (s : Shared) (H : Hp) (C : Addr) (code : Value) (fp : List Addr) (pn : List (Addr × Obj)), PG (gCx X X.A.in1.in1 s H scope C code fp pn) tg g) (hpe : ∀ (s : Shared) (H : Hp) (C : Addr) (code : Value) (fp : List Addr) (pn : List (Addr × Obj)), PE (gCx X X.A.in1.in1 s H scope C code fp pn) elt te)
    (hs : ∀ v, genFold iter X.env v = pure v := by intro _; rfl)
    (he : starEach [.GeneratorExp elt [⟨tg, iter, [], 0⟩] scope gpos] X.env = (false, eval (.GeneratorExp elt [⟨tg, iter, [], 0⟩] scope gpos) X.env) :: starEach [] X.env := by rfl) :
    PE X (.Call (.Name "all" p) [.GeneratorExp elt [⟨tg, iter, [], 0⟩] scope gpos] [] pos) (tAllG P wi g te (own.map (·.2))) := by
  refine ⟨fun pins s σ H Q I h => ?_⟩
  refine wpAny_Call_Name_kw (ld_blt I hg hm hb ?_)
  refine PyProof.Rows.callWith_builtin1 ?_ he (by rfl)
  rw [he]
  show wpAny _ _ (spliced ((false, eval (.GeneratorExp elt [⟨tg, iter, [], 0⟩] scope gpos) X.env) :: backTo pos (starEach [] X.env))) _ _ s
  refine Calls.spliced_cons (thn (gen_make hr hN TB hcode ok hi hs I h) fun v s5 hM => ?_)
  refine Calls.spliced_nil ?_
  obtain ⟨s3, H1, H2, code, fp, go, a, it, gn, tn, J, rfl, I3, hT, hW, T, f3, st5, af, I5, hgen, hgs⟩ := hM.ex
  obtain ⟨W, ⟨m0, w0⟩, word⟩ := hW H2 hT
  let w : GW := {
    X := X, B := X.A.in1.in1, s := s3, H := H2, scope := scope, C := s3.heap.objs.size, code := code, fp := fp, pn := [(a, go)], sl := σ, vs := own.map (·.2), elt := elt, tg := tg, iter := iter, pos := gpos, it := it, tn := tn, J := J, Z := fun _ => 0,
    T := fun i m _ H' => W i m H', Fin := fun _ H' => Q (.bl true) H', Aft := fun i m _ x H' => ∃ b, x = .bl b ∧ if b = true then ∃ m', m' < m ∧ W (i + 1) m' H' else Q (.bl false) H' }
  have hok : w.Ok g te := ⟨hc, hr.hd, fun p hp z => by
    have hp : p ∈ [(a, go)] := hp
    rw [List.mem_singleton.mp hp] at z
    exact af z, ok.co, T, hpg _ _ _ _ _ _, hpe _ _ _ _ _ _, fun i m _ H' t => word i m H' t⟩
  have hpin : ∀ (s' : Shared) (H' : Hp), Inv w.cx [] (wipe w.sl w.vs) H' s' → s'.heap.IsGen a gn := fun s' H' I' => hgen _ (I'.pin (a, go) (List.mem_append_left _ (List.mem_singleton.mpr rfl))).1
  have a5 : w.At 0 H2 s5 := ⟨I5, st5, fun b hb => (f3 b hb).1.1⟩
  have hrd : w.Ready a gn m0 s5 := ⟨hpin s5 H2 I5, _, hgs, rfl, seg_begin hok (Nat.le_refl _) (a5.gens (g := gn) (x := .running) rfl) w0⟩
  refine call_function_tree F.kind_all F.plain_all F.entry_all (F.args_all1 _) ?_
  unfold Builtin.«all»
  refine wpAny_bind (m := oneArg "all" _) (wpAny_pure ?_)
  refine wpAny_bind (wpAny_pyIter_gen (hpin s5 H2 I5) ?_)
  exact wpAny_pure ⟨plainId_quiet F.plain_all_loop _, all_loop (w := w) (QF := fun H' => Q (.bl false) H') rfl hr.hd hr.depth hpin (fun i m z x H' q => by
    obtain ⟨b, e, q⟩ := q
    refine ⟨b, e, ?_⟩
    cases b with
    | true =>
      obtain ⟨m', h1, h2⟩ := q
      exact ⟨m', h1, fun _ => h2⟩
    | false => exact q) (fun s' H' _ I' q => ⟨.bl true, H', back I3 f3 I', rfl, q⟩) (fun s' H' I' q => ⟨.bl false, H', back I3 f3 I', rfl, q⟩) m0 s5 I5.nolimit hrd⟩
theorem pe_sumG (hr : Room k X.A) (hg : Gl X "sum") (hm : X.mg "sum" = none) (hb : bootBuiltins "sum" = some (.builtin "sum")) (hN : X.N.Nodup) (hc : X.calm = true) (TB : LamX.TabB X.base X.mg c P) (hcode : X.env.code = .ref c) (ok : GenOk X.N X.env.scope scope own) (hi : PI X tg iter wi)
    (hpg : ∀ (s : Shared) (H : Hp) (C : Addr) (code : Value) (fp : List Addr) (pn : List (Addr × Obj)), PG (gCx X X.A.in1.in1 s H scope C code fp pn) tg g) (hpe : ∀ (s : Shared) (H : Hp) (C : Addr) (code : Value) (fp : List Addr) (pn : List (Addr × Obj)), PE (gCx X X.A.in1.in1 s H scope C code fp pn) elt te)
    (hs : ∀ v, genFold iter X.env v = pure v := by intro _; rfl)
    (he : starEach [.GeneratorExp elt [⟨tg, iter, [], 0⟩] scope gpos] X.env = (false, eval (.GeneratorExp elt [⟨tg, iter, [], 0⟩] scope gpos) X.env) :: starEach [] X.env := by rfl) :
    PE X (.Call (.Name "sum" p) [.GeneratorExp elt [⟨tg, iter, [], 0⟩] scope gpos] [] pos) (tSumG P wi g te (own.map (·.2))) := by
  refine ⟨fun pins s σ H Q I h => ?_⟩
  refine wpAny_Call_Name_kw (ld_blt I hg hm hb ?_)
  refine PyProof.Rows.callWith_builtin1 ?_ he (by rfl)
  rw [he]
  show wpAny _ _ (spliced ((false, eval (.GeneratorExp elt [⟨tg, iter, [], 0⟩] scope gpos) X.env) :: backTo pos (starEach [] X.env))) _ _ s
  refine Calls.spliced_cons (thn (gen_make hr hN TB hcode ok hi hs I h) fun v s5 hM => ?_)
  refine Calls.spliced_nil ?_
  obtain ⟨s3, H1, H2, code, fp, go, a, it, gn, tn, J, rfl, I3, hT, hW, T, f3, st5, af, I5, hgen, hgs⟩ := hM.ex
  have hS : H2 s5.heap.objs.size = none := I5.hok.fresh (Nat.le_refl _)
  obtain ⟨W, ⟨m0, w0⟩, tot, word⟩ := hW H2 hT s5.heap.objs.size hS
  let w : GW := {
    X := X, B := X.A.in1.in1, s := s3, H := H2, scope := scope, C := s3.heap.objs.size, code := code, fp := fp, pn := [(a, go)], sl := σ, vs := own.map (·.2), elt := elt, tg := tg, iter := iter, pos := gpos, it := it, tn := tn, J := J, Z := totOf s5.heap.objs.size,
    T := W, Fin := fun z H' => Q (.int z) H', Aft := fun i m z x H' => H' s5.heap.objs.size = some (.lst [.int z]) ∧ ∃ k, x = .int k ∧ ∃ m', m' < m ∧ W (i + 1) m' (z + k) (upd H' s5.heap.objs.size (.lst [.int (z + k)])) }
  have hok : w.Ok g te := ⟨hc, hr.hd, fun p hp z => by
    have hp : p ∈ [(a, go)] := hp
    rw [List.mem_singleton.mp hp] at z
    exact af z, ok.co, T, hpg _ _ _ _ _ _, hpe _ _ _ _ _ _, fun i m z H' t => word i m z H' t⟩
  have hpin : ∀ (s' : Shared) (H' : Hp), Inv w.cx [] (wipe w.sl w.vs) H' s' → s'.heap.IsGen a gn := fun s' H' I' => hgen _ (I'.pin (a, go) (List.mem_append_left _ (List.mem_singleton.mpr rfl))).1
  refine call_function_tree F.kind_sum F.plain_sum F.entry_sum (F.args_sum1 _) ?_
  unfold Builtin.«sum»
  simp only [List.length_cons, List.length_nil]
  rw [if_neg (by decide)]
  refine wpAny_bind (wpAny_of_eq (show Builtin.Builtins.bindParams "sum" ["start"] 0 { } = pure [none] from rfl) ?_)
  refine wpAny_bind (wpAny_pyIter_gen (hpin s5 H2 I5) ?_)
  refine wpAny_bind (wpAny_mkInt ?_)
  refine wpAny_bind (wpAny_pure ?_)
  simp only [List.forIn_cons, List.forIn_nil]
  refine wpAny_bind (wpAny_bind (wpAny_bind (wpAny_isInstance (T := "int") (b := false) (typeIs_int _ _ _) PySem.sub_int_str ?_)))
  simp only [Bool.false_eq_true, if_false]
  refine wpAny_pure (wpAny_bind (wpAny_bind (wpAny_isInstance (T := "int") (b := false) (typeIs_int _ _ _) PySem.sub_int_bytes ?_)))
  simp only [Bool.false_eq_true, if_false]
  refine wpAny_pure (wpAny_bind (wpAny_bind (wpAny_isInstance (T := "int") (b := false) (typeIs_int _ _ _) PySem.sub_int_bytearray ?_)))
  simp only [Bool.false_eq_true, if_false]
  refine wpAny_pure (wpAny_pure ?_)
  refine wpAny_bind (wpAny_newObj_type ?_)
  have hpush : (s5.heap.push { cls := .type "list", data := .seq #[Value.int 0 s5.toks] }).get? s5.heap.objs.size = some { cls := .type "list", data := .seq #[Value.int 0 s5.toks] } := Heap.get?_push_size _ rfl
  have I6 : Inv w.cx [] (wipe w.sl w.vs) (upd H2 s5.heap.objs.size (.lst [.int 0])) { s5 with heap := s5.heap.push { cls := .type "list", data := .seq #[Value.int 0 s5.toks] }, toks := s5.toks + 1 } :=
    I5.laid (fun b u q => Heap.get?_push_of_some _ q) (Nat.le_refl _) ⟨by show 1 ≤ sizeLine; decide, [.int 0 s5.toks], 0, .cons ⟨_, rfl⟩ .nil, hpush⟩
  have szf : ∀ b ∈ fp, b < s5.heap.objs.size := fun b hb => by
    obtain ⟨o, e, _⟩ := T.obj _ _ st5 b hb
    exact Heap.lt_size e
  have a6 : w.At 0 (upd H2 s5.heap.objs.size (.lst [.int 0])) { s5 with heap := s5.heap.push { cls := .type "list", data := .seq #[Value.int 0 s5.toks] }, toks := s5.toks + 1 } :=
    ⟨I6, T.keep _ _ _ st5 fun b _ o e => Heap.get?_push_of_some _ e, fun b hb => by rw [upd_ne (Nat.ne_of_lt (szf b hb))]; exact (f3 b hb).1.1⟩
  have hz : totOf s5.heap.objs.size (s5.heap.push { cls := .type "list", data := .seq #[Value.int 0 s5.toks] }) = 0 := by
    unfold totOf
    rw [hpush]
    rfl
  have hrd : w.Ready a gn m0 { s5 with heap := s5.heap.push { cls := .type "list", data := .seq #[Value.int 0 s5.toks] }, toks := s5.toks + 1 } := ⟨hpin _ _ I6, _, hgs, rfl, seg_begin hok (Nat.le_refl _) (a6.gens (g := gn) (x := .running) rfl) (by
    show W 0 m0 (totOf s5.heap.objs.size (s5.heap.push { cls := .type "list", data := .seq #[Value.int 0 s5.toks] })) _
    rw [hz]
    exact w0)⟩
  exact wpAny_pure ⟨plainId_quiet F.plain_sum_loop _, sum_loop (w := w) (QT := fun z H' => Q (.int z) H') rfl hr.hd hr.depth T.keep hpin rfl tot (fun i m z x H' q => q) (fun s' H' z t I' q => ⟨.int z, H', back I3 f3 I', ⟨t, rfl⟩, q⟩) m0 _ 0 m0 _ 0 0 (.inl rfl) a6 w0 hrd⟩
end
end GX

set_option Elab.async false
set_option linter.all false
set_option maxRecDepth 100000
set_option maxHeartbeats 4000000
namespace G3
open PySem PySem.Spec PyProof.Rows L2
open GxR (TabG Tabbed)

/-! ## Data -/
/-- what a value is, all the way down (a dict: its pairs as they stand) -/
inductive D where
  | non | bl (b : Bool) | int (i : Int) | str (s : Str) | tup (xs : List D) | lst (xs : List D) | dic (ks : List Str) (xs : List D)
mutual
def Dat (H : Hp) : D → V → Prop
  | .non, v => v = .non
  | .bl b, v => v = .bl b
  | .int i, v => v = .int i
  | .str s, v => v = .str s
  | .tup xs, v => ∃ a vs, v = .ref a ∧ H a = some (.tup vs) ∧ Dats H xs vs
  | .lst xs, v => ∃ a vs, v = .ref a ∧ H a = some (.lst vs) ∧ Dats H xs vs
  | .dic ks xs, v => ∃ a vs, v = .ref a ∧ H a = some (.dK ((ks.map Sum.inr).zip vs)) ∧ Dats H xs vs
def Dats (H : Hp) : List D → List V → Prop
  | [], vs => vs = []
  | d :: ds, vs => ∃ v r, vs = v :: r ∧ Dat H d v ∧ Dats H ds r
end
/-- the tables are in order -/
def Tb (T : List Addr) (H : Hp) : Prop := ∀ P ∈ T, TabG H P
/-- all stays but tables, which stay in order -/
structure Ex (T : List Addr) (H H' : Hp) : Prop where
  old : ∀ b o, H b = some o → (∀ ps, o ≠ .tbl ps) → H' b = some o
  tab : Tb T H → Tb T H'
theorem Ex.refl (T : List Addr) (H : Hp) : Ex T H H := ⟨fun _ _ h _ => h, fun h => h⟩
theorem Ex.trans {T : List Addr} {H H1 H2 : Hp} (a : Ex T H H1) (b : Ex T H1 H2) : Ex T H H2 := ⟨fun c o h n => b.old c o (a.old c o h n) n, fun h => b.tab (a.tab h)⟩
theorem Ex.new {T : List Addr} {H : Hp} {p : Addr} {o : HO} (h : H p = none) : Ex T H (upd H p o) := ⟨fun a u e _ => by
  rw [upd_ne (ne_of_none e h)]
  exact e, fun t P hP => by
  obtain ⟨ps, e, q⟩ := t P hP
  exact ⟨ps, by rw [upd_ne (ne_of_none e h)]; exact e, q⟩⟩
theorem Ex.same {T : List Addr} {H H' : Hp} (s : Same H H') : Ex T H H' := ⟨fun b o e _ => s b o e, fun t P hP => by
  obtain ⟨ps, e, q⟩ := t P hP
  exact ⟨ps, s _ _ e, q⟩⟩
theorem Ex.tabbed {T : List Addr} {H H' : Hp} {P : Addr} (t : TabG H P) (h : Tabbed P H H') : Ex T H H' := ⟨fun b o e n => by
  obtain ⟨ps, eP, _⟩ := t
  have nb : b ≠ P := fun z => by
    rw [z, eP] at e
    exact n ps (Option.some.inj e).symm
  rw [h.2 b nb]
  exact e, fun t2 Q hQ => by
  by_cases z : Q = P
  · rw [z]
    exact h.1
  · obtain ⟨ps, e, q⟩ := t2 Q hQ
    exact ⟨ps, by rw [h.2 Q z]; exact e, q⟩⟩
/-- an object that H does not know may change -/
theorem Ex.mut {T : List Addr} {H H' : Hp} {p : Addr} {o : HO} (e : Ex T H H') (h : H p = none) (hp : ∀ ps, H' p ≠ some (.tbl ps)) : Ex T H (upd H' p o) := ⟨fun a u ha n => by
  rw [upd_ne (ne_of_none ha h)]
  exact e.old a u ha n, fun t P hP => by
  obtain ⟨ps, e1, q⟩ := e.tab t P hP
  have nb : P ≠ p := fun z => hp ps (by rw [← z]; exact e1)
  exact ⟨ps, by rw [upd_ne nb]; exact e1, q⟩⟩
theorem Ex.back {T : List Addr} {H H' : Hp} {p : Addr} (e : Ex T H H') (h : H' p = none) : (∃ ps, H p = some (.tbl ps)) ∨ H p = none := by
  cases h1 : H p with
  | none => exact .inr rfl
  | some o =>
    by_cases q : ∃ ps, o = .tbl ps
    · obtain ⟨ps, rfl⟩ := q
      exact .inl ⟨ps, rfl⟩
    · have z := e.old p o h1 fun ps hh => q ⟨ps, hh⟩
      rw [h] at z
      cases z
section
variable {T : List Addr} {H H' : Hp}
mutual
theorem Dat.mono (e : Ex T H H') : ∀ (d : D) (v : V), Dat H d v → Dat H' d v
  | .non, v, h => by unfold Dat at h ⊢; exact h
  | .bl b, v, h => by unfold Dat at h ⊢; exact h
  | .int i, v, h => by unfold Dat at h ⊢; exact h
  | .str s, v, h => by unfold Dat at h ⊢; exact h
  | .tup xs, v, h => by
    unfold Dat at h ⊢
    obtain ⟨a, vs, e1, e2, e3⟩ := h
    exact ⟨a, vs, e1, e.old _ _ e2 (fun _ z => by cases z), Dats.mono e xs vs e3⟩
  | .lst xs, v, h => by
    unfold Dat at h ⊢
    obtain ⟨a, vs, e1, e2, e3⟩ := h
    exact ⟨a, vs, e1, e.old _ _ e2 (fun _ z => by cases z), Dats.mono e xs vs e3⟩
  | .dic ks xs, v, h => by
    unfold Dat at h ⊢
    obtain ⟨a, vs, e1, e2, e3⟩ := h
    exact ⟨a, vs, e1, e.old _ _ e2 (fun _ z => by cases z), Dats.mono e xs vs e3⟩
theorem Dats.mono (e : Ex T H H') : ∀ (ds : List D) (vs : List V), Dats H ds vs → Dats H' ds vs
  | [], vs, h => by unfold Dats at h ⊢; exact h
  | d :: ds, vs, h => by
    unfold Dats at h ⊢
    obtain ⟨v, r, e1, e2, e3⟩ := h
    exact ⟨v, r, e1, Dat.mono e d v e2, Dats.mono e ds r e3⟩
end
end
section
variable {H : Hp} {v : V}
theorem dat_non : Dat H .non v ↔ v = .non := by unfold Dat; exact Iff.rfl
theorem dat_bl {b : Bool} : Dat H (.bl b) v ↔ v = .bl b := by unfold Dat; exact Iff.rfl
theorem dat_int {i : Int} : Dat H (.int i) v ↔ v = .int i := by unfold Dat; exact Iff.rfl
theorem dat_str {s : Str} : Dat H (.str s) v ↔ v = .str s := by unfold Dat; exact Iff.rfl
theorem dat_tup {xs : List D} : Dat H (.tup xs) v ↔ ∃ a vs, v = .ref a ∧ H a = some (.tup vs) ∧ Dats H xs vs := by rw [Dat]
theorem dat_lst {xs : List D} : Dat H (.lst xs) v ↔ ∃ a vs, v = .ref a ∧ H a = some (.lst vs) ∧ Dats H xs vs := by rw [Dat]
theorem dat_dic {ks : List Str} {xs : List D} : Dat H (.dic ks xs) v ↔ ∃ a vs, v = .ref a ∧ H a = some (.dK ((ks.map Sum.inr).zip vs)) ∧ Dats H xs vs := by rw [Dat]
theorem dats_nil {vs : List V} : Dats H [] vs ↔ vs = [] := by rw [Dats]
theorem dats_cons {d : D} {ds : List D} {vs : List V} : Dats H (d :: ds) vs ↔ ∃ v r, vs = v :: r ∧ Dat H d v ∧ Dats H ds r := by rw [Dats]
theorem Dats.length : ∀ {ds : List D} {vs : List V}, Dats H ds vs → vs.length = ds.length
  | [], vs, h => by rw [dats_nil.mp h]; rfl
  | d :: ds, vs, h => by
    obtain ⟨v, r, e, _, q⟩ := dats_cons.mp h
    rw [e, List.length_cons, List.length_cons, Dats.length q]
theorem Dats.get : ∀ {ds : List D} {vs : List V} {i : Nat} {d : D}, Dats H ds vs → ds[i]? = some d → ∃ v, vs[i]? = some v ∧ Dat H d v
  | [], vs, i, d, h, e => by simp at e
  | d' :: ds, vs, 0, d, h, e => by
    obtain ⟨v, r, e1, q, _⟩ := dats_cons.mp h
    have e2 : d' = d := by simpa using e
    subst e2
    exact ⟨v, by rw [e1]; rfl, q⟩
  | d' :: ds, vs, i + 1, d, h, e => by
    obtain ⟨v, r, e1, _, q⟩ := dats_cons.mp h
    obtain ⟨x, e2, q2⟩ := Dats.get (i := i) q (by simpa using e)
    exact ⟨x, by rw [e1]; simpa using e2, q2⟩
theorem Dats.getV {ds : List D} {vs : List V} {i : Nat} {x : V} (h : Dats H ds vs) (e : vs[i]? = some x) : ∃ d, ds[i]? = some d ∧ Dat H d x := by
  have hl := h.length
  have hi : i < vs.length := (List.getElem?_eq_some_iff.mp e).1
  have e1 : ds[i]? = some ds[i] := List.getElem?_eq_getElem (by omega)
  obtain ⟨y, e2, q⟩ := h.get e1
  rw [e] at e2
  cases e2
  exact ⟨_, e1, q⟩
theorem Dats.append : ∀ {xs ys : List D} {us vs : List V}, Dats H xs us → Dats H ys vs → Dats H (xs ++ ys) (us ++ vs)
  | [], ys, us, vs, h, h2 => by rw [dats_nil.mp h]; exact h2
  | d :: ds, ys, us, vs, h, h2 => by
    obtain ⟨v, r, e1, q, q2⟩ := dats_cons.mp h
    rw [e1]
    exact dats_cons.mpr ⟨v, r ++ vs, rfl, q, q2.append h2⟩
theorem Dats.drop : ∀ {xs : List D} {us : List V} (n : Nat), Dats H xs us → Dats H (xs.drop n) (us.drop n)
  | xs, us, 0, h => h
  | [], us, n + 1, h => by rw [dats_nil.mp h]; exact dats_nil.mpr rfl
  | d :: ds, us, n + 1, h => by
    obtain ⟨v, r, e1, _, q⟩ := dats_cons.mp h
    rw [e1]
    exact q.drop n
theorem Dats.take : ∀ {xs : List D} {us : List V} (n : Nat), Dats H xs us → Dats H (xs.take n) (us.take n)
  | xs, us, 0, h => dats_nil.mpr rfl
  | [], us, n + 1, h => by rw [dats_nil.mp h]; exact dats_nil.mpr rfl
  | d :: ds, us, n + 1, h => by
    obtain ⟨v, r, e1, q0, q⟩ := dats_cons.mp h
    rw [e1]
    exact dats_cons.mpr ⟨v, r.take n, rfl, q0, q.take n⟩
theorem Dats.one {d : D} (h : Dat H d v) : Dats H [d] [v] := dats_cons.mpr ⟨v, [], rfl, h, dats_nil.mpr rfl⟩
end

/-! ## The weakest readings -/
section
variable {X : Cx}
def tS (X : Cx) (e : Expr) : TE := fun σ H Q => ∀ pins s, Inv X pins σ H s → wpAny (model X.prog X.w) X.A (eval e X.env) (EP X pins σ Q) X.xe s
theorem pe_s {e : Expr} : PE X e (tS X e) := ⟨fun pins s _ _ _ I h => h pins s I⟩
def tST (X : Cx) (e : Expr) : TT := fun σ H Q => ∀ pins s, Inv X pins σ H s → wpAny (model X.prog X.w) X.A (isTrue e X.env (eval e X.env)) (TP X pins σ Q) X.xe s
theorem pt_s {e : Expr} : PT X e (tST X e) := ⟨fun pins s _ _ _ I h => h pins s I⟩
def tSW (X : Cx) (e : Expr) : TT := fun σ H Q => ∀ (whole : Sem Value) pins s, Inv X pins σ H s → wpAny (model X.prog X.w) X.A (isTrue e X.env whole) (TP X pins σ Q) X.xe s
theorem pw_s {e : Expr} : PW X e (tSW X e) := ⟨fun whole pins s _ _ _ I h => h whole pins s I⟩
def tSA (X : Cx) (es : List Expr) : TA := fun σ H Q => ∀ (pos : Pos) pins s, Inv X pins σ H s → wpAny (model X.prog X.w) X.A (spliced (backTo pos (starEach es X.env))) (AP X pins σ Q) X.xe s
theorem pa_s {es : List Expr} : PA X es (tSA X es) := ⟨fun pos pins s _ _ _ I h => h pos pins s I⟩
def tSS (X : Cx) (body : List Stmt) : TS := fun D σ H => ∀ pins s, Inv X pins σ H s → wpAny (model X.prog X.w) X.A (execs body X.env) (SP X pins D) X.xe s
theorem pss_s {body : List Stmt} : PSs X body (tSS X body) := ⟨fun pins s _ _ _ I h => h pins s I⟩
def tS1 (X : Cx) (st : Stmt) : TS := fun D σ H => ∀ pins s, Inv X pins σ H s → wpAny (model X.prog X.w) X.A (exec st X.env) (SP X pins D) X.xe s
theorem ps_s {st : Stmt} : PS X st (tS1 X st) := ⟨fun pins s _ _ _ I h => h pins s I⟩
end

/-! ## What a text comes to -/
/-- an expression comes to the datum d, whatever is new -/
def C (T : List Addr) (X : Cx) (e : Expr) (σ : L2.St) (H : Hp) (d : D) : Prop := ∀ H1, Ex T H H1 → ∀ Q : VK, (∀ v H2, Ex T H1 H2 → Dat H2 d v → Q v H2) → tS X e σ H1 Q
def CT (T : List Addr) (X : Cx) (e : Expr) (σ : L2.St) (H : Hp) (b : Bool) : Prop := ∀ H1, Ex T H H1 → ∀ Q : Bool → Hp → Prop, (∀ H2, Ex T H1 H2 → Q b H2) → tST X e σ H1 Q
def CW (T : List Addr) (X : Cx) (e : Expr) (σ : L2.St) (H : Hp) (b : Bool) : Prop := ∀ H1, Ex T H H1 → ∀ Q : Bool → Hp → Prop, (∀ H2, Ex T H1 H2 → Q b H2) → tSW X e σ H1 Q
def CA (T : List Addr) (X : Cx) (es : List Expr) (σ : L2.St) (H : Hp) (ds : List D) : Prop := ∀ H1, Ex T H H1 → ∀ Q : List V → Hp → Prop, (∀ vs H2, Ex T H1 H2 → Dats H2 ds vs → Q vs H2) → tSA X es σ H1 Q
/-- a block hands back d -/
def R (T : List Addr) (X : Cx) (body : List Stmt) (σ : L2.St) (H : Hp) (d : D) : Prop := ∀ H1, Ex T H H1 → ∀ D' : Ends, (∀ v H2, Ex T H1 H2 → Dat H2 d v → D'.rt v H2) → tSS X body D' σ H1
section
variable {T : List Addr} {X : Cx} {σ : L2.St} {H H' : Hp} {e a b : Expr} {d x y : D} {pos : Pos}
theorem C.mono (h : C T X e σ H d) (q : Ex T H H') : C T X e σ H' d := fun H1 e1 => h H1 (q.trans e1)
theorem CT.mono {k : Bool} (h : CT T X e σ H k) (q : Ex T H H') : CT T X e σ H' k := fun H1 e1 => h H1 (q.trans e1)
theorem c_of {te : TE} (p : PE X e te) (r : ∀ H1, Ex T H H1 → ∀ Q : VK, (∀ v H2, Ex T H1 H2 → Dat H2 d v → Q v H2) → te σ H1 Q) : C T X e σ H d := fun H1 e1 Q q pins s I => p.run pins s σ H1 Q I (r H1 e1 Q q)
theorem ct_of {k : Bool} {t : TT} (p : PT X e t) (r : ∀ H1, Ex T H H1 → ∀ Q : Bool → Hp → Prop, (∀ H2, Ex T H1 H2 → Q k H2) → t σ H1 Q) : CT T X e σ H k := fun H1 e1 Q q pins s I => p.run pins s σ H1 Q I (r H1 e1 Q q)
theorem cw_of {k : Bool} {t : TT} (p : PW X e t) (r : ∀ H1, Ex T H H1 → ∀ Q : Bool → Hp → Prop, (∀ H2, Ex T H1 H2 → Q k H2) → t σ H1 Q) : CW T X e σ H k := fun H1 e1 Q q wh pins s I => p.run wh pins s σ H1 Q I (r H1 e1 Q q)

/-! ### leaves -/
theorem c_var {i : Nat} {n : Str} {v : V} (hv : σ[i]? = some (some v)) (hd : Dat H d v) (p : PE X (.Name n pos) (tVar i)) : C T X (.Name n pos) σ H d := c_of p fun H1 e1 Q q => ⟨v, hv, q v H1 (Ex.refl T H1) (hd.mono e1)⟩
theorem c_int {i : Int} {j : Nat} : C T X (.Constant (.int i) j pos) σ H (.int i) := c_of pe_int fun H1 e1 Q q => q _ H1 (Ex.refl T H1) (dat_int.mpr rfl)
theorem c_bl {k : Bool} {j : Nat} : C T X (.Constant (.bool k) j pos) σ H (.bl k) := c_of pe_bl fun H1 e1 Q q => q _ H1 (Ex.refl T H1) (dat_bl.mpr rfl)
theorem c_non {j : Nat} : C T X (.Constant .none j pos) σ H .non := c_of pe_non fun H1 e1 Q q => q _ H1 (Ex.refl T H1) (dat_non.mpr rfl)
theorem c_str {s : Str} {j : Nat} : C T X (.Constant (.str s) j pos) σ H (.str s) := c_of pe_str fun H1 e1 Q q => q _ H1 (Ex.refl T H1) (dat_str.mpr rfl)
/-- a module's int or text -/
theorem c_globI {n : Str} {i : Int} {t : Tok} (hg : Gl X n) (hm : X.mg n = some (.int i t)) (hd : (n == ("__debug__" : Str)) = false := by decide) : C T X (.Name n pos) σ H (.int i) :=
  c_of (pe_glob (v := .int i) hg hm ⟨t, rfl⟩ hd) fun H1 e1 Q q => q _ H1 (Ex.refl T H1) (dat_int.mpr rfl)
theorem c_globS {n s : Str} {t : Tok} (hg : Gl X n) (hm : X.mg n = some (.str s t)) (hd : (n == ("__debug__" : Str)) = false := by decide) : C T X (.Name n pos) σ H (.str s) :=
  c_of (pe_glob (v := .str s) hg hm ⟨t, rfl⟩ hd) fun H1 e1 Q q => q _ H1 (Ex.refl T H1) (dat_str.mpr rfl)

/-! ### and, or, not, if as values -/
variable {rest : List Expr}
theorem c_one {op : BoolOp} (h : C T X a σ H d) : C T X (.BoolOp op [a] pos) σ H d := c_of (pe_one pe_s) h
theorem c_and {k j : Bool} (ha : C T X a σ H (.bl k)) (hb : k = true → C T X (.BoolOp .And (b :: rest) pos) σ H (.bl j)) : C T X (.BoolOp .And (a :: b :: rest) pos) σ H (.bl (k && j)) :=
  c_of (pe_and pe_s pe_s) fun H1 e1 Q q => ha H1 e1 _ fun v H2 e2 hv => ⟨k, dat_bl.mp hv, by
    cases k with
    | true =>
      rw [if_pos rfl]
      exact hb rfl H2 (e1.trans e2) Q fun v H3 e3 h3 => q v H3 (e2.trans e3) (by simpa using h3)
    | false =>
      rw [if_neg Bool.false_ne_true]
      exact q _ H2 e2 (dat_bl.mpr rfl)⟩
theorem c_or {k j : Bool} (ha : C T X a σ H (.bl k)) (hb : k = false → C T X (.BoolOp .Or (b :: rest) pos) σ H (.bl j)) : C T X (.BoolOp .Or (a :: b :: rest) pos) σ H (.bl (k || j)) :=
  c_of (pe_or pe_s pe_s) fun H1 e1 Q q => ha H1 e1 _ fun v H2 e2 hv => ⟨k, dat_bl.mp hv, by
    cases k with
    | true =>
      rw [if_pos rfl]
      exact q _ H2 e2 (dat_bl.mpr rfl)
    | false =>
      rw [if_neg Bool.false_ne_true]
      exact hb rfl H2 (e1.trans e2) Q fun v H3 e3 h3 => q v H3 (e2.trans e3) (by simpa using h3)⟩
theorem c_not {k : Bool} (ha : C T X a σ H (.bl k)) : C T X (.UnaryOp .Not a pos) σ H (.bl (!k)) :=
  c_of (pe_not pe_s) fun H1 e1 Q q => ha H1 e1 _ fun v H2 e2 hv => ⟨k, dat_bl.mp hv, q _ H2 e2 (dat_bl.mpr rfl)⟩
theorem c_ifx {c : Expr} {k : Bool} (hc : CT T X c σ H k) (h1 : k = true → C T X a σ H d) (h2 : k = false → C T X b σ H d) : C T X (.IfExp c a b pos) σ H d :=
  c_of (pe_ifExp pt_s pe_s pe_s) fun H1 e1 Q q => hc H1 e1 _ fun H2 e2 => by
    cases k with
    | true =>
      rw [if_pos rfl]
      exact h1 rfl H2 (e1.trans e2) Q fun v H3 e3 h3 => q v H3 (e2.trans e3) h3
    | false =>
      rw [if_neg Bool.false_ne_true]
      exact h2 rfl H2 (e1.trans e2) Q fun v H3 e3 h3 => q v H3 (e2.trans e3) h3
theorem C.is {d' : D} (h : C T X e σ H d) (q : d = d') : C T X e σ H d' := q ▸ h
theorem CW.is {k k' : Bool} (h : CW T X e σ H k) (q : k = k') : CW T X e σ H k' := q ▸ h
theorem CT.is {k k' : Bool} (h : CT T X e σ H k) (q : k = k') : CT T X e σ H k' := q ▸ h

/-! ### tests -/
theorem ct_val {k : Bool} (h : C T X e σ H (.bl k)) (he : ∀ whole, isTrue e X.env whole = (do let v ← whole; standAt e.pos; holding [v] (truthy v)) := by intro _; rfl) : CT T X e σ H k :=
  ct_of (pt_val pe_s he) fun H1 e1 Q q => h H1 e1 _ fun v H2 e2 hv => ⟨k, dat_bl.mp hv, q H2 e2⟩
theorem ct_not {k : Bool} (h : CT T X a σ H k) : CT T X (.UnaryOp .Not a pos) σ H (!k) := ct_of (pt_not pt_s) fun H1 e1 Q q => h H1 e1 _ fun H2 e2 => q H2 e2
theorem ct_w {k : Bool} (h : CW T X e σ H k) : CT T X e σ H k := ct_of pw_s.pt h
theorem cw_and1 {k : Bool} (h : CT T X a σ H k) : CW T X (.BoolOp .And [a] pos) σ H k := cw_of (pw_and1 pt_s) h
theorem cw_or1 {k : Bool} (h : CT T X a σ H k) : CW T X (.BoolOp .Or [a] pos) σ H k := cw_of (pw_or1 pt_s) h
theorem cw_and {k j : Bool} (ha : CT T X a σ H k) (hb : k = true → CW T X (.BoolOp .And (b :: rest) pos) σ H j) : CW T X (.BoolOp .And (a :: b :: rest) pos) σ H (k && j) :=
  cw_of (pw_and pt_s pw_s) fun H1 e1 Q q => ha H1 e1 _ fun H2 e2 => by
    cases k with
    | true =>
      rw [if_pos rfl]
      exact hb rfl H2 (e1.trans e2) Q fun H3 e3 => q H3 (e2.trans e3)
    | false =>
      rw [if_neg Bool.false_ne_true]
      exact q H2 e2
theorem cw_or {k j : Bool} (ha : CT T X a σ H k) (hb : k = false → CW T X (.BoolOp .Or (b :: rest) pos) σ H j) : CW T X (.BoolOp .Or (a :: b :: rest) pos) σ H (k || j) :=
  cw_of (pw_or pt_s pw_s) fun H1 e1 Q q => ha H1 e1 _ fun H2 e2 => by
    cases k with
    | true =>
      rw [if_pos rfl]
      exact q H2 e2
    | false =>
      rw [if_neg Bool.false_ne_true]
      exact hb rfl H2 (e1.trans e2) Q fun H3 e3 => q H3 (e2.trans e3)

/-! ### argument lists, displays -/
theorem ca_nil : CA T X [] σ H [] := fun H1 e1 Q q pos pins s I => pa_nil.run pos pins s σ H1 Q I (q [] H1 (Ex.refl T H1) (dats_nil.mpr rfl))
theorem ca_cons {es : List Expr} {ds : List D} (h : C T X e σ H d) (hr : CA T X es σ H ds) (hs : starEach (e :: es) X.env = (false, eval e X.env) :: starEach es X.env := by rfl) : CA T X (e :: es) σ H (d :: ds) := fun H1 e1 Q q pos pins s I =>
  (pa_cons pe_s pa_s hs).run pos pins s σ H1 Q I (h H1 e1 _ fun v H2 e2 hv => hr H2 (e1.trans e2) _ fun vs H3 e3 hvs => q _ H3 (e2.trans e3) (dats_cons.mpr ⟨v, vs, rfl, hv.mono e3, hvs⟩))
theorem c_tup {es : List Expr} {ds : List D} {k : Nat} (h : CA T X es σ H ds) (hl : ds.length ≤ 100000 := by first | decide | simp) : C T X (.Tuple es k pos) σ H (.tup ds) := c_of (pe_tup pa_s) fun H1 e1 Q q =>
  h H1 e1 _ fun vs H2 e2 hv => ⟨by rw [hv.length]; exact Nat.le_trans hl (by decide), fun p hp => q _ _ (e2.trans (Ex.new hp)) (dat_tup.mpr ⟨p, vs, rfl, upd_same, hv.mono (T := T) (Ex.new hp)⟩)⟩
theorem c_lst {es : List Expr} {ds : List D} (h : CA T X es σ H ds) (hl : ds.length ≤ 100000 := by first | decide | simp) : C T X (.List es pos) σ H (.lst ds) := c_of (pe_lst pa_s) fun H1 e1 Q q =>
  h H1 e1 _ fun vs H2 e2 hv => ⟨by rw [hv.length]; exact Nat.le_trans hl (by decide), fun p hp => q _ _ (e2.trans (Ex.new hp)) (dat_lst.mpr ⟨p, vs, rfl, upd_same, hv.mono (T := T) (Ex.new hp)⟩)⟩
end
end G3

set_option Elab.async false
set_option linter.all false
set_option maxRecDepth 100000
set_option maxHeartbeats 4000000
namespace G3
open PySem PySem.Spec PyProof.Rows L2
open GxR (TabG Tabbed)

/-! ## Kinds -/
def D.tag : D → String
  | .non => "NoneType" | .bl _ => "bool" | .int _ => "int" | .str _ => "str" | .tup _ => "tuple" | .lst _ => "list" | .dic _ _ => "dict"
def D.isInt : D → Bool
  | .int _ => true | .bl _ => true | _ => false
def D.isBl : D → Bool
  | .bl _ => true | _ => false
def D.isStr : D → Bool
  | .str _ => true | _ => false
def D.isTup : D → Bool
  | .tup _ => true | _ => false
def D.isLst : D → Bool
  | .lst _ => true | _ => false
theorem dat_ty {K : PySem.W.Frag} {H : Hp} : ∀ {d : D} {v : V}, Dat H d v → TyX K H v (.type d.tag)
  | .non, v, h => by rw [dat_non.mp h]; exact .base .non
  | .bl b, v, h => by rw [dat_bl.mp h]; exact .base (.bl b)
  | .int i, v, h => by rw [dat_int.mp h]; exact .base (.int i)
  | .str s, v, h => by rw [dat_str.mp h]; exact .base (.str s)
  | .tup xs, v, h => by
    obtain ⟨a, vs, e, e2, _⟩ := dat_tup.mp h
    rw [e]
    exact .base (.tup e2)
  | .lst xs, v, h => by
    obtain ⟨a, vs, e, e2, _⟩ := dat_lst.mp h
    rw [e]
    exact .base (.lst e2)
  | .dic ks xs, v, h => by
    obtain ⟨a, vs, e, e2, _⟩ := dat_dic.mp h
    rw [e]
    exact .base (.dK e2)
theorem kit_int (d : D) : kitB d.tag "int" = some d.isInt := by cases d <;> (simp only [D.tag, D.isInt, D.isBl, D.isStr, D.isTup, D.isLst] <;> decide +kernel)
theorem kit_bool (d : D) : kitB d.tag "bool" = some d.isBl := by cases d <;> (simp only [D.tag, D.isInt, D.isBl, D.isStr, D.isTup, D.isLst] <;> decide +kernel)
theorem kit_str (d : D) : kitB d.tag "str" = some d.isStr := by cases d <;> (simp only [D.tag, D.isInt, D.isBl, D.isStr, D.isTup, D.isLst] <;> decide +kernel)
theorem kit_tuple (d : D) : kitB d.tag "tuple" = some d.isTup := by cases d <;> (simp only [D.tag, D.isInt, D.isBl, D.isStr, D.isTup, D.isLst] <;> decide +kernel)
theorem kit_list (d : D) : kitB d.tag "list" = some d.isLst := by cases d <;> (simp only [D.tag, D.isInt, D.isBl, D.isStr, D.isTup, D.isLst] <;> decide +kernel)

/-! ## Comparisons of unlike kinds -/
/-- flat, or a tuple -/
def Fl (H : Hp) (x : V) : Prop := flatV x = true ∨ ∃ a xs, x = .ref a ∧ H a = some (.tup xs)
def rEqS : R2 := fun x y H Q => ∃ s, y = .str s ∧ Fl H x ∧ Q (.bl (decide (x = .str s))) H
def rNeS : R2 := fun x y H Q => ∃ s, y = .str s ∧ Fl H x ∧ Q (.bl (!decide (x = .str s))) H
section
variable {X : Cx}
theorem op_eqS (hu : X.A.units < cLine) : OpR X (compareOp .Eq) rEqS := by
  intro pins s σ H x y v u Q I rx ry h
  obtain ⟨z, rfl, hf, q⟩ := h
  rcases hf with hf | ⟨a, xs, rfl, ha⟩
  · refine op_eq pins s σ H x (.str z) v u Q I rx ry ⟨?_, q⟩
    cases x with
    | non => rfl
    | bl _ => rfl
    | int _ => rfl
    | str _ => rfl
    | _ => exact absurd (show false = true from hf) Bool.false_ne_true
  · cases rx
    obtain ⟨t, rfl⟩ := ry
    obtain ⟨its, r, p, _⟩ := I.tuple (SqT.of ha)
    exact SeqAt.RcAt.tuple_str z t p hu X.prog X.w X.xe _ (fin_bl I q (decide_eq_false fun z => by cases z))
theorem op_neS (hu : X.A.units < cLine) : OpR X (compareOp .NotEq) rNeS := by
  intro pins s σ H x y v u Q I rx ry h
  obtain ⟨z, rfl, hf, q⟩ := h
  rcases hf with hf | ⟨a, xs, rfl, ha⟩
  · refine op_ne pins s σ H x (.str z) v u Q I rx ry ⟨?_, q⟩
    cases x with
    | non => rfl
    | bl _ => rfl
    | int _ => rfl
    | str _ => rfl
    | _ => exact absurd (show false = true from hf) Bool.false_ne_true
  · cases rx
    obtain ⟨t, rfl⟩ := ry
    obtain ⟨its, r, p, _⟩ := I.tuple (SqT.of ha)
    exact SeqAt.RcNeAt.tuple_str z t p hu X.prog X.w X.xe _ (fin_bl I q (by rw [decide_eq_false (fun z => by cases z)]; rfl))
/-- a tuple against the empty one, a list against the empty one -/
def rEqT0 : R2 := fun x y H Q => ∃ a b xs, x = .ref a ∧ y = .ref b ∧ H a = some (.tup xs) ∧ H b = some (.tup []) ∧ Q (.bl xs.isEmpty) H
def rEqL0 : R2 := fun x y H Q => ∃ a b xs, x = .ref a ∧ y = .ref b ∧ H a = some (.lst xs) ∧ H b = some (.lst []) ∧ Q (.bl xs.isEmpty) H
def rNeL0 : R2 := fun x y H Q => ∃ a b xs, x = .ref a ∧ y = .ref b ∧ H a = some (.lst xs) ∧ H b = some (.lst []) ∧ Q (.bl (!xs.isEmpty)) H
theorem op_eqT0 (hu : X.A.units < cLine) : OpR X (compareOp .Eq) rEqT0 := by
  intro pins s σ H x y v u Q I rx ry h
  obtain ⟨a, b, xs, rfl, rfl, ha, hb, q⟩ := h
  cases rx
  cases ry
  obtain ⟨its, r, p, _⟩ := I.tuple (SqT.of ha)
  obtain ⟨its2, r2, p2, _⟩ := I.tuple (SqT.of hb)
  cases r2
  refine SeqAt.eq_tupleAt (e := fun _ => false) p p2 hu (fun j h1 h2 => by simp at h2) (fin_bl I q ?_)
  cases r with
  | nil => rfl
  | cons r1 r2 => simp
theorem op_eqL0 (hu : X.A.units < cLine) : OpR X (compareOp .Eq) rEqL0 := by
  intro pins s σ H x y v u Q I rx ry h
  obtain ⟨a, b, xs, rfl, rfl, ha, hb, q⟩ := h
  cases rx
  cases ry
  obtain ⟨its, r, p, _⟩ := I.list (SqL.of ha)
  obtain ⟨its2, r2, p2, _⟩ := I.list (SqL.of hb)
  cases r2
  cases r with
  | nil => exact SeqAt.eq_listAt (e := fun _ => false) p.isList p2.isList rfl hu (fun j h1 h2 => by simp at h2) (fin_bl I q rfl)
  | cons r1 r2 => exact SeqAt.eq_list_lengthsAt p.isList p2.isList (by simp) hu (fin_bl I q rfl)
theorem op_neL0 (hu : X.A.units < cLine) : OpR X (compareOp .NotEq) rNeL0 := by
  intro pins s σ H x y v u Q I rx ry h
  obtain ⟨a, b, xs, rfl, rfl, ha, hb, q⟩ := h
  cases rx
  cases ry
  obtain ⟨its, r, p, _⟩ := I.list (SqL.of ha)
  obtain ⟨its2, r2, p2, _⟩ := I.list (SqL.of hb)
  cases r2
  cases r with
  | nil => exact SeqAt.RcNeAt.lists (e := fun _ => false) p.isList p2.isList rfl hu (fun j h1 h2 => by simp at h2) X.prog X.w X.xe _ (fin_bl I q rfl)
  | cons r1 r2 => exact SeqAt.RcNeAt.lists_lengths p.isList p2.isList (by simp) hu X.prog X.w X.xe _ (fin_bl I q rfl)
end

/-! ## Rules for operators over data -/
def D.eqS (d : D) (s : Str) : Bool := match d with
  | .str z => decide (z = s)
  | _ => false
/-- not a list, not a dict -/
def D.fl : D → Bool
  | .lst _ => false | .dic _ _ => false | _ => true
theorem fl_of {H : Hp} {d : D} {v : V} (h : Dat H d v) (hf : d.fl = true) : Fl H v := by
  cases d with
  | non => rw [dat_non.mp h]; exact .inl rfl
  | bl b => rw [dat_bl.mp h]; exact .inl rfl
  | int i => rw [dat_int.mp h]; exact .inl rfl
  | str s => rw [dat_str.mp h]; exact .inl rfl
  | tup xs =>
    obtain ⟨a, vs, e, e2, _⟩ := dat_tup.mp h
    exact .inr ⟨a, vs, e, e2⟩
  | lst xs => exact absurd (show false = true from hf) Bool.false_ne_true
  | dic _ xs => exact absurd (show false = true from hf) Bool.false_ne_true
theorem eqS_of {H : Hp} {d : D} {v : V} {s : Str} (h : Dat H d v) : decide (v = .str s) = d.eqS s := by
  cases d with
  | non => rw [dat_non.mp h]; rfl
  | bl b => rw [dat_bl.mp h]; rfl
  | int i => rw [dat_int.mp h]; rfl
  | str z => rw [dat_str.mp h]; show decide (V.str z = V.str s) = decide (z = s); by_cases q : z = s <;> simp [q]
  | tup xs => obtain ⟨a, vs, e, _⟩ := dat_tup.mp h; rw [e]; rfl
  | lst xs => obtain ⟨a, vs, e, _⟩ := dat_lst.mp h; rw [e]; rfl
  | dic _ xs => obtain ⟨a, vs, e, _⟩ := dat_dic.mp h; rw [e]; rfl
section
variable {T : List Addr} {X : Cx} {σ : L2.St} {H H' : Hp} {e a b : Expr} {d x y : D} {pos : Pos}
theorem c_cmp {op : CmpOp} {r : R2} {k : Bool} (ho : OpR X (compareOp op) r) (hm : behindInMarks op b = false) (ha : C T X a σ H x) (hb : C T X b σ H y)
    (hr : ∀ H1 v w (Q : VK), Ex T H H1 → Dat H1 x v → Dat H1 y w → Q (.bl k) H1 → r v w H1 Q) : C T X (.Compare a [op] [b] pos) σ H (.bl k) :=
  c_of (pe_cmpR ho pe_s pe_s hm) fun H1 e1 Q q => ha H1 e1 _ fun v H2 e2 hv => hb H2 (e1.trans e2) _ fun w H3 e3 hw => hr H3 v w Q ((e1.trans e2).trans e3) (hv.mono e3) hw (q _ H3 (e2.trans e3) (dat_bl.mpr rfl))
theorem c_eqS {s : Str} (hu : X.A.units < cLine) (ha : C T X a σ H x) (hb : C T X b σ H (.str s)) (hf : x.fl = true) : C T X (.Compare a [.Eq] [b] pos) σ H (.bl (x.eqS s)) :=
  c_cmp (op_eqS hu) (nomark _) ha hb fun H1 v w Q e1 hv hw q => ⟨s, dat_str.mp hw, fl_of hv hf, by rw [eqS_of hv]; exact q⟩
theorem c_neS {s : Str} (hu : X.A.units < cLine) (ha : C T X a σ H x) (hb : C T X b σ H (.str s)) (hf : x.fl = true) : C T X (.Compare a [.NotEq] [b] pos) σ H (.bl (!x.eqS s)) :=
  c_cmp (op_neS hu) (nomark _) ha hb fun H1 v w Q e1 hv hw q => ⟨s, dat_str.mp hw, fl_of hv hf, by rw [eqS_of hv]; exact q⟩
theorem c_eqT0 {xs : List D} (hu : X.A.units < cLine) (ha : C T X a σ H (.tup xs)) (hb : C T X b σ H (.tup [])) : C T X (.Compare a [.Eq] [b] pos) σ H (.bl xs.isEmpty) :=
  c_cmp (op_eqT0 hu) (nomark _) ha hb fun H1 v w Q e1 hv hw q => by
    obtain ⟨p, vs, e2, e3, e4⟩ := dat_tup.mp hv
    obtain ⟨p2, vs2, e5, e6, e7⟩ := dat_tup.mp hw
    rw [dats_nil.mp e7] at e6
    refine ⟨p, p2, vs, e2, e5, e3, e6, ?_⟩
    have hl := e4.length
    cases xs <;> cases vs <;> first | exact q | cases hl
theorem isEmpty_dats {H : Hp} {xs : List D} {vs : List V} (h : Dats H xs vs) : vs.isEmpty = xs.isEmpty := by
  have hl := h.length
  cases xs <;> cases vs <;> first | rfl | cases hl
theorem c_eqL0 {xs : List D} (hu : X.A.units < cLine) (ha : C T X a σ H (.lst xs)) (hb : C T X b σ H (.lst [])) : C T X (.Compare a [.Eq] [b] pos) σ H (.bl xs.isEmpty) :=
  c_cmp (op_eqL0 hu) (nomark _) ha hb fun H1 v w Q e1 hv hw q => by
    obtain ⟨p, vs, e2, e3, e4⟩ := dat_lst.mp hv
    obtain ⟨p2, vs2, e5, e6, e7⟩ := dat_lst.mp hw
    rw [dats_nil.mp e7] at e6
    exact ⟨p, p2, vs, e2, e5, e3, e6, by rw [isEmpty_dats e4]; exact q⟩
theorem c_neL0 {xs : List D} (hu : X.A.units < cLine) (ha : C T X a σ H (.lst xs)) (hb : C T X b σ H (.lst [])) : C T X (.Compare a [.NotEq] [b] pos) σ H (.bl (!xs.isEmpty)) :=
  c_cmp (op_neL0 hu) (nomark _) ha hb fun H1 v w Q e1 hv hw q => by
    obtain ⟨p, vs, e2, e3, e4⟩ := dat_lst.mp hv
    obtain ⟨p2, vs2, e5, e6, e7⟩ := dat_lst.mp hw
    rw [dats_nil.mp e7] at e6
    exact ⟨p, p2, vs, e2, e5, e3, e6, by rw [isEmpty_dats e4]; exact q⟩
theorem c_eqI {i j : Int} (ha : C T X a σ H (.int i)) (hb : C T X b σ H (.int j)) : C T X (.Compare a [.Eq] [b] pos) σ H (.bl (decide (i = j))) :=
  c_cmp op_eq (nomark _) ha hb fun H1 v w Q e1 hv hw q => by
    rw [dat_int.mp hv, dat_int.mp hw]
    refine ⟨rfl, ?_⟩
    rw [show decide (V.int i = V.int j) = decide (i = j) by simp]
    exact q
theorem c_eqB {i j : Bool} (ha : C T X a σ H (.bl i)) (hb : C T X b σ H (.bl j)) : C T X (.Compare a [.Eq] [b] pos) σ H (.bl (i == j)) :=
  c_cmp op_eq (nomark _) ha hb fun H1 v w Q e1 hv hw q => by
    rw [dat_bl.mp hv, dat_bl.mp hw]
    exact ⟨rfl, by rw [dec_bl]; exact q⟩
theorem c_neB {i j : Bool} (ha : C T X a σ H (.bl i)) (hb : C T X b σ H (.bl j)) : C T X (.Compare a [.NotEq] [b] pos) σ H (.bl (!(i == j))) :=
  c_cmp op_ne (nomark _) ha hb fun H1 v w Q e1 hv hw q => by
    rw [dat_bl.mp hv, dat_bl.mp hw]
    exact ⟨rfl, by rw [dec_bl]; exact q⟩
theorem c_neI {i j : Int} (ha : C T X a σ H (.int i)) (hb : C T X b σ H (.int j)) : C T X (.Compare a [.NotEq] [b] pos) σ H (.bl (!decide (i = j))) :=
  c_cmp op_ne (nomark _) ha hb fun H1 v w Q e1 hv hw q => by
    rw [dat_int.mp hv, dat_int.mp hw]
    refine ⟨rfl, ?_⟩
    rw [show decide (V.int i = V.int j) = decide (i = j) by simp]
    exact q
theorem c_ii {op : CmpOp} {g : Int → Int → Bool} {i j : Int} (ho : OpR X (compareOp op) (rI0 fun i j => .bl (g i j))) (hm : behindInMarks op b = false) (ha : C T X a σ H (.int i)) (hb : C T X b σ H (.int j)) : C T X (.Compare a [op] [b] pos) σ H (.bl (g i j)) :=
  c_cmp ho hm ha hb fun H1 v w Q e1 hv hw q => ⟨i, j, dat_int.mp hv, dat_int.mp hw, q⟩
theorem c_lt {i j : Int} (ha : C T X a σ H (.int i)) (hb : C T X b σ H (.int j)) : C T X (.Compare a [.Lt] [b] pos) σ H (.bl (decide (i < j))) := c_ii op_lt (nomark _) ha hb
theorem c_le {i j : Int} (ha : C T X a σ H (.int i)) (hb : C T X b σ H (.int j)) : C T X (.Compare a [.LtE] [b] pos) σ H (.bl (decide (i ≤ j))) := c_ii op_le (nomark _) ha hb
theorem c_gt {i j : Int} (ha : C T X a σ H (.int i)) (hb : C T X b σ H (.int j)) : C T X (.Compare a [.Gt] [b] pos) σ H (.bl (decide (j < i))) := c_ii op_gt (nomark _) ha hb
theorem c_ge {i j : Int} (ha : C T X a σ H (.int i)) (hb : C T X b σ H (.int j)) : C T X (.Compare a [.GtE] [b] pos) σ H (.bl (decide (j ≤ i))) := c_ii op_ge (nomark _) ha hb
/-- i <= j <= k, i <= j < k -/
theorem c_chain {op op' : CmpOp} {g g' : Int → Int → Bool} {c : Expr} {i j k : Int} (ho : OpR X (compareOp op) (rI0 fun i j => .bl (g i j))) (ho' : OpR X (compareOp op') (rI0 fun i j => .bl (g' i j))) (ha : C T X a σ H (.int i)) (hb : C T X b σ H (.int j)) (hc : C T X c σ H (.int k))
    (hm : lastMarks [op, op'] [b, c] = false := by with_unfolding_all rfl) : C T X (.Compare a [op, op'] [b, c] pos) σ H (.bl (g i j && g' j k)) :=
  c_of (pe_chain ho ho' pe_s pe_s pe_s hm) fun H1 e1 Q q => ha H1 e1 _ fun v H2 e2 hv => hb H2 (e1.trans e2) _ fun w H3 e3 hw => ⟨i, j, dat_int.mp hv, dat_int.mp hw, g i j, rfl, by
    cases hg : g i j with
    | true =>
      rw [if_pos rfl]
      exact hc H3 ((e1.trans e2).trans e3) _ fun z H4 e4 hz => ⟨j, k, dat_int.mp hw, dat_int.mp hz, q _ H4 ((e2.trans e3).trans e4) (dat_bl.mpr (by rw [hg, Bool.true_and]))⟩
    | false =>
      rw [if_neg Bool.false_ne_true]
      exact q _ H3 (e2.trans e3) (dat_bl.mpr (by rw [hg, Bool.false_and]))⟩
theorem c_leLe {c : Expr} {i j k : Int} (ha : C T X a σ H (.int i)) (hb : C T X b σ H (.int j)) (hc : C T X c σ H (.int k)) (hm : lastMarks [.LtE, .LtE] [b, c] = false := by with_unfolding_all rfl) : C T X (.Compare a [.LtE, .LtE] [b, c] pos) σ H (.bl (decide (i ≤ j) && decide (j ≤ k))) := c_chain op_le op_le ha hb hc hm
theorem c_leLt {c : Expr} {i j k : Int} (ha : C T X a σ H (.int i)) (hb : C T X b σ H (.int j)) (hc : C T X c σ H (.int k)) (hm : lastMarks [.LtE, .Lt] [b, c] = false := by with_unfolding_all rfl) : C T X (.Compare a [.LtE, .Lt] [b, c] pos) σ H (.bl (decide (i ≤ j) && decide (j < k))) := c_chain op_le op_lt ha hb hc hm
theorem isTrue_of_eval1 {M : Model} {A : Around} {E : Value → Shared → Prop} {s : Shared} {env : Env} {l r : Expr} {op : CmpOp} {whole : Sem Value} {Q : Bool → Shared → Prop} (h : wpAny M A (eval (.Compare l [op] [r] pos) env) (fun c s1 => wpAny M A (truthy c) Q E s1) E s) : wpAny M A (isTrue (.Compare l [op] [r] pos) env whole) Q E s := fun Γ p hΓ => by
  have h := h Γ p hΓ
  simp only [isTrue_Compare1, eval_Compare1, Sem.wp_bind', Sem.wp_holding, Sem.wp_cmd_standAt, Sem.wp_operate] at h ⊢
  exact Sem.wp_mono M Γ _ (fun a p1 s1 h1 => Sem.wp_mono M Γ _ (fun b _ s2 h2 => Sem.wp_mono M Γ _ (fun c p3 s3 h3 => h3 Γ p3 hΓ) (fun _ _ _ h' => h') _ _ h2) (fun _ _ _ h' => h') _ _ h1) (fun _ _ _ h' => h') _ _ h
/-- a comparison as a test -/
theorem ct_c {op : CmpOp} {k : Bool} (h : C T X (.Compare a [op] [b] pos) σ H (.bl k)) : CT T X (.Compare a [op] [b] pos) σ H k := fun H1 e1 Q q pins s I =>
  isTrue_of_eval1 (thn (h H1 e1 (fun v H2 => v = .bl k ∧ Q k H2) (fun v H2 e2 hv => ⟨dat_bl.mp hv, q H2 e2⟩) pins s I) fun v s1 ⟨x, H2, I2, r2, ex, q2⟩ => by
    subst ex
    cases r2
    exact wpAny_truthy_bool ⟨H2, I2, q2⟩)
theorem ct_chain {op op' : CmpOp} {g g' : Int → Int → Bool} {c : Expr} {i j k : Int} (ho : OpR X (compareOp op) (rI0 fun i j => .bl (g i j))) (ho' : OpR X (compareOp op') (rI0 fun i j => .bl (g' i j))) (ha : C T X a σ H (.int i)) (hb : C T X b σ H (.int j)) (hc : C T X c σ H (.int k))
    (hm : lastMarks [op, op'] [b, c] = false := by with_unfolding_all rfl) : CT T X (.Compare a [op, op'] [b, c] pos) σ H (g i j && g' j k) :=
  ct_of (pt_chain ho ho' pe_s pe_s pe_s hm) fun H1 e1 Q q => ha H1 e1 _ fun v H2 e2 hv => hb H2 (e1.trans e2) _ fun w H3 e3 hw => ⟨i, j, dat_int.mp hv, dat_int.mp hw, g i j, rfl, by
    cases hg : g i j with
    | true =>
      rw [if_pos rfl]
      exact hc H3 ((e1.trans e2).trans e3) _ fun z H4 e4 hz => ⟨j, k, dat_int.mp hw, dat_int.mp hz, _, rfl, by
        have q4 := q H4 ((e2.trans e3).trans e4)
        rw [hg, Bool.true_and] at q4
        exact q4⟩
    | false =>
      rw [if_neg Bool.false_ne_true]
      have q4 := q H3 (e2.trans e3)
      rw [hg, Bool.false_and] at q4
      exact ⟨_, rfl, q4⟩⟩
theorem ct_leLe {c : Expr} {i j k : Int} (ha : C T X a σ H (.int i)) (hb : C T X b σ H (.int j)) (hc : C T X c σ H (.int k)) (hm : lastMarks [.LtE, .LtE] [b, c] = false := by with_unfolding_all rfl) : CT T X (.Compare a [.LtE, .LtE] [b, c] pos) σ H (decide (i ≤ j) && decide (j ≤ k)) := ct_chain op_le op_le ha hb hc hm
theorem c_isN (ha : C T X a σ H d) {j : Nat} {p2 : Pos} : C T X (.Compare a [.Is] [.Constant .none j p2] pos) σ H (.bl (match d with | .non => true | _ => false)) :=
  c_cmp op_isN (nomark _) ha c_non fun H1 v w Q e1 hv hw q => ⟨dat_non.mp hw, by
    cases d with
    | non => rw [dat_non.mp hv]; exact q
    | bl b => rw [dat_bl.mp hv]; exact q
    | int b => rw [dat_int.mp hv]; exact q
    | str b => rw [dat_str.mp hv]; exact q
    | tup xs => obtain ⟨a, vs, e, _⟩ := dat_tup.mp hv; rw [e]; exact q
    | lst xs => obtain ⟨a, vs, e, _⟩ := dat_lst.mp hv; rw [e]; exact q
    | dic _ xs => obtain ⟨a, vs, e, _⟩ := dat_dic.mp hv; rw [e]; exact q⟩

/-! ### arithmetic -/
theorem c_op {op : Operator} {r : R2} (ho : OpR X (binaryOp op) r) (ha : C T X a σ H x) (hb : C T X b σ H y)
    (hr : ∀ H1 v w (Q : VK), Ex T H H1 → Dat H1 x v → Dat H1 y w → (∀ u H2, Ex T H1 H2 → Dat H2 d u → Q u H2) → r v w H1 Q) : C T X (.BinOp a op b pos) σ H d :=
  c_of (pe_op ho pe_s pe_s) fun H1 e1 Q q => ha H1 e1 _ fun v H2 e2 hv => hb H2 (e1.trans e2) _ fun w H3 e3 hw => hr H3 v w Q ((e1.trans e2).trans e3) (hv.mono e3) hw fun u H4 e4 hu => q u H4 ((e2.trans e3).trans e4) hu
theorem c_add {i j : Int} (ha : C T X a σ H (.int i)) (hb : C T X b σ H (.int j)) : C T X (.BinOp a .Add b pos) σ H (.int (i + j)) :=
  c_op op_add ha hb fun H1 v w Q e1 hv hw q => ⟨i, j, dat_int.mp hv, dat_int.mp hw, q _ H1 (Ex.refl T H1) (dat_int.mpr rfl)⟩
theorem c_sub {i j : Int} (ha : C T X a σ H (.int i)) (hb : C T X b σ H (.int j)) : C T X (.BinOp a .Sub b pos) σ H (.int (i - j)) :=
  c_op op_sub ha hb fun H1 v w Q e1 hv hw q => ⟨i, j, dat_int.mp hv, dat_int.mp hw, q _ H1 (Ex.refl T H1) (dat_int.mpr rfl)⟩
theorem c_mul {i j : Int} (ha : C T X a σ H (.int i)) (hb : C T X b σ H (.int j)) (hc : CMul i j) : C T X (.BinOp a .Mult b pos) σ H (.int (i * j)) :=
  c_op op_mul ha hb fun H1 v w Q e1 hv hw q => ⟨i, j, dat_int.mp hv, dat_int.mp hw, hc, q _ H1 (Ex.refl T H1) (dat_int.mpr rfl)⟩
theorem c_mod {i j : Int} (ha : C T X a σ H (.int i)) (hb : C T X b σ H (.int j)) (hc : 0 < j) : C T X (.BinOp a .Mod b pos) σ H (.int (i % j)) :=
  c_op op_mod ha hb fun H1 v w Q e1 hv hw q => ⟨i, j, dat_int.mp hv, dat_int.mp hw, hc, q _ H1 (Ex.refl T H1) (dat_int.mpr rfl)⟩
theorem c_fdiv {i j : Int} (ha : C T X a σ H (.int i)) (hb : C T X b σ H (.int j)) (hc : CDiv i j) : C T X (.BinOp a .FloorDiv b pos) σ H (.int (i / j)) :=
  c_op op_fdiv ha hb fun H1 v w Q e1 hv hw q => ⟨i, j, dat_int.mp hv, dat_int.mp hw, hc, q _ H1 (Ex.refl T H1) (dat_int.mpr rfl)⟩
theorem c_pow {i j : Int} (ha : C T X a σ H (.int i)) (hb : C T X b σ H (.int j)) (hc : CPow i j) : C T X (.BinOp a .Pow b pos) σ H (.int (i ^ j.toNat)) :=
  c_op op_pow ha hb fun H1 v w Q e1 hv hw q => ⟨i, j, dat_int.mp hv, dat_int.mp hw, hc, q _ H1 (Ex.refl T H1) (dat_int.mpr rfl)⟩
theorem c_neg {i : Int} (ha : C T X a σ H (.int i)) : C T X (.UnaryOp .USub a pos) σ H (.int (-i)) :=
  c_of (pe_un un_neg pe_s) fun H1 e1 Q q => ha H1 e1 _ fun v H2 e2 hv => ⟨i, dat_int.mp hv, q _ H2 e2 (dat_int.mpr rfl)⟩
theorem c_catL {xs ys : List D} (ha : C T X a σ H (.lst xs)) (hb : C T X b σ H (.lst ys)) (hl : xs.length + ys.length ≤ 100000) : C T X (.BinOp a .Add b pos) σ H (.lst (xs ++ ys)) :=
  c_op op_cat ha hb fun H1 v w Q e1 hv hw q => by
    obtain ⟨p, vs, e2, e3, e4⟩ := dat_lst.mp hv
    obtain ⟨p2, vs2, e5, e6, e7⟩ := dat_lst.mp hw
    refine ⟨p, p2, vs, vs2, e2, e5, e3, e6, by rw [e4.length, e7.length]; exact Nat.le_trans hl (by decide), fun r hr => q _ _ (Ex.new hr) (dat_lst.mpr ⟨r, _, rfl, upd_same, ?_⟩)⟩
    exact (e4.append e7).mono (T := T) (Ex.new hr)
theorem c_catT {xs ys : List D} (ha : C T X a σ H (.tup xs)) (hb : C T X b σ H (.tup ys)) (hl : xs.length + ys.length ≤ 100000) : C T X (.BinOp a .Add b pos) σ H (.tup (xs ++ ys)) :=
  c_op op_catA ha hb fun H1 v w Q e1 hv hw q => by
    obtain ⟨p, vs, e2, e3, e4⟩ := dat_tup.mp hv
    obtain ⟨p2, vs2, e5, e6, e7⟩ := dat_tup.mp hw
    have hz : vs.length + vs2.length ≤ sizeLine := by rw [e4.length, e7.length]; exact Nat.le_trans hl (by decide)
    refine ⟨p, p2, vs, vs2, e2, e5, .inl (.inl e3), .inl (.inl e6), hz, fun z => ?_, fun z z2 => ?_, fun z z2 r hr => ?_⟩
    · subst z
      have hx : xs = [] := List.eq_nil_of_length_eq_zero e4.length.symm
      subst hx
      exact q _ H1 (Ex.refl T H1) (dat_tup.mpr ⟨p2, vs2, rfl, e6, e7⟩)
    · subst z2
      have hy : ys = [] := List.eq_nil_of_length_eq_zero e7.length.symm
      subst hy
      exact q _ H1 (Ex.refl T H1) (dat_tup.mpr ⟨p, vs, rfl, e3, by rw [List.append_nil]; exact e4⟩)
    · exact q _ _ (Ex.new hr) (dat_tup.mpr ⟨r, _, rfl, upd_same, (e4.append e7).mono (T := T) (Ex.new hr)⟩)

/-! ### items and slices -/
theorem c_ixT {xs : List D} {i : Int} {j : Nat} (ha : C T X a σ H (.tup xs)) (hb : C T X b σ H (.int i)) (hs : PlainIx b) (hj : ixN xs.length i = some j) (hd : xs[j]? = some d) : C T X (.Subscript a b pos) σ H d :=
  c_of (pe_ix ix_tup pe_s pe_s hs) fun H1 e1 Q q => ha H1 e1 _ fun v H2 e2 hv => hb H2 (e1.trans e2) _ fun w H3 e3 hw => by
    obtain ⟨p, vs, e4, e5, e6⟩ := dat_tup.mp (hv.mono e3)
    obtain ⟨x, e7, e8⟩ := e6.get hd
    refine ⟨p, vs, i, x, e4, dat_int.mp hw, .inl (.inl e5), ?_, q x H3 (e2.trans e3) e8⟩
    unfold atI
    rw [e6.length, hj]
    exact e7
theorem c_ixL {xs : List D} {i : Int} {j : Nat} (ha : C T X a σ H (.lst xs)) (hb : C T X b σ H (.int i)) (hs : PlainIx b) (hj : ixN xs.length i = some j) (hd : xs[j]? = some d) : C T X (.Subscript a b pos) σ H d :=
  c_of (pe_ix ix_list pe_s pe_s hs) fun H1 e1 Q q => ha H1 e1 _ fun v H2 e2 hv => hb H2 (e1.trans e2) _ fun w H3 e3 hw => by
    obtain ⟨p, vs, e4, e5, e6⟩ := dat_lst.mp (hv.mono e3)
    obtain ⟨x, e7, e8⟩ := e6.get hd
    refine ⟨p, vs, i, x, e4, dat_int.mp hw, .inl (.inl e5), ?_, q x H3 (e2.trans e3) e8⟩
    unfold atI
    rw [e6.length, hj]
    exact e7
/-- t[k:] -/
theorem c_from {xs : List D} {k : Nat} {p2 : Pos} (ha : C T X a σ H (.tup xs)) (hb : C T X b σ H (.int (k : Int))) : C T X (.Subscript a (.Slice (some b) none none p2) pos) σ H (.tup (xs.drop k)) :=
  c_of (pe_slice sl_tupA pe_s (po_some pe_s) po_none) fun H1 e1 Q q => ha H1 e1 _ fun v H2 e2 hv => hb H2 (e1.trans e2) _ fun w H3 e3 hw => ⟨(k : Int), dat_int.mp hw, by
    obtain ⟨p, vs, e4, e5, e6⟩ := dat_tup.mp (hv.mono e3)
    have hl := e6.length
    have hcut : cutV vs (some (k : Int)) none = vs.drop k := by
      unfold cutV
      rw [HT.sIx_nat, HT.sIx_none]
      by_cases hk : k ≤ vs.length
      · rw [Nat.min_eq_left hk, List.take_of_length_le (by simp)]
      · rw [Nat.min_eq_right (by omega), List.drop_of_length_le (Nat.le_refl _), List.drop_of_length_le (by omega)]
        simp
    refine ⟨p, vs, e4, .inl (.inl e5), fun hz => ?_, fun _ r hr => ?_⟩
    · have hk : vs.drop k = vs := by
        have h0 := hz.1
        rw [HT.sIx_nat] at h0
        by_cases z : k = 0
        · rw [z]; rfl
        · have : vs.length = 0 := by omega
          rw [List.eq_nil_of_length_eq_zero this]; simp
      have q6 := e6.drop k
      rw [hk] at q6
      exact q _ H3 (e2.trans e3) (dat_tup.mpr ⟨p, vs, rfl, e5, q6⟩)
    · exact q _ _ ((e2.trans e3).trans (Ex.new hr)) (dat_tup.mpr ⟨r, _, rfl, upd_same, by rw [hcut]; exact (e6.drop k).mono (T := T) (Ex.new hr)⟩)⟩
/-- t[:k] -/
theorem c_upto {xs : List D} {k : Nat} {p2 : Pos} (ha : C T X a σ H (.tup xs)) (hb : C T X b σ H (.int (k : Int))) : C T X (.Subscript a (.Slice none (some b) none p2) pos) σ H (.tup (xs.take k)) :=
  c_of (pe_slice sl_tupA pe_s po_none (po_some pe_s)) fun H1 e1 Q q => ha H1 e1 _ fun v H2 e2 hv => hb H2 (e1.trans e2) _ fun w H3 e3 hw => ⟨(k : Int), dat_int.mp hw, by
    obtain ⟨p, vs, e4, e5, e6⟩ := dat_tup.mp (hv.mono e3)
    have hl := e6.length
    have hcut : cutV vs none (some (k : Int)) = vs.take k := by
      unfold cutV
      rw [HT.sIx_nat, HT.sIx_none, Nat.sub_zero, List.drop_zero]
      by_cases hk : k ≤ vs.length
      · rw [Nat.min_eq_left hk]
      · rw [Nat.min_eq_right (by omega), List.take_of_length_le (Nat.le_refl _), List.take_of_length_le (by omega)]
    refine ⟨p, vs, e4, .inl (.inl e5), fun hz => ?_, fun _ r hr => ?_⟩
    · have hk : vs.take k = vs := by
        have h0 := hz.2
        rw [HT.sIx_nat] at h0
        exact List.take_of_length_le (by omega)
      have q6 := e6.take k
      rw [hk] at q6
      exact q _ H3 (e2.trans e3) (dat_tup.mpr ⟨p, vs, rfl, e5, q6⟩)
    · exact q _ _ ((e2.trans e3).trans (Ex.new hr)) (dat_tup.mpr ⟨r, _, rfl, upd_same, by rw [hcut]; exact (e6.take k).mono (T := T) (Ex.new hr)⟩)⟩
end
end G3

set_option Elab.async false
set_option linter.all false
set_option maxRecDepth 100000
set_option maxHeartbeats 4000000
namespace G3
open PySem PySem.Spec PyProof.Rows L2
open GxR (TabG Tabbed)

/-- the built-ins' names are free -/
structure Blt (mg : Str → Option Value) : Prop where
  isi : mg "isinstance" = none
  len : mg "len" = none
  int : mg "int" = none
  bool : mg "bool" = none
  str : mg "str" = none
  tuple : mg "tuple" = none
  list : mg "list" = none
  range : mg "range" = none
  all : mg "all" = none
  sum : mg "sum" = none
theorem boot_isi : bootBuiltins "isinstance" = some (.builtin "isinstance") := by decide +kernel
theorem boot_all : bootBuiltins "all" = some (.builtin "all") := by decide +kernel
theorem boot_sum : bootBuiltins "sum" = some (.builtin "sum") := by decide +kernel
section
variable {T : List Addr} {X : Cx} {σ : L2.St} {H H' : Hp} {e a b : Expr} {d x y : D} {pos p p2 p3 : Pos}
/-- the name of the i-th slot -/
theorem cv (i : Nat) {n : Str} {v : V} (hd : Dat H d v) (hv : σ[i]? = some (some v) := by rfl) (hN : X.N[i]? = some n := by rfl) (hvis : Vis X.env.scope n := by first | exact Or.inl rfl | exact Or.inr (Or.inl rfl) | exact Or.inr (Or.inr rfl))
    (h1 : (n == ("__debug__" : Str)) = false := by decide) (h2 : (n == ("__classdict__" : Str)) = false := by decide) : C T X (.Name n pos) σ H d := c_var hv hd (pv i hN hvis h1 h2)
theorem c_isi_int (B : Blt X.mg) (hg : Gl X "isinstance" := by rfl) (hgx : Gl X "int" := by rfl) (ha : C T X a σ H d) (he : starEach [a, .Name "int" p2] X.env = (false, eval a X.env) :: starEach [.Name "int" p2] X.env := by rfl) : C T X (.Call (.Name "isinstance" p) [a, .Name "int" p2] [] pos) σ H (.bl d.isInt) :=
  c_of (pe_callB call_isi hg B.isi boot_isi (pa_cons pe_s (pa_cons (pe_bltn (v := .ty "int") hgx B.int PyProof.Rows.boot_int rfl) pa_nil) he) (he := he)) fun H1 e1 Q q => ha H1 e1 _ fun v H2 e2 hd => ⟨v, .ty "int", _, _, _, rfl, .ty "int", dat_ty hd, kit_ty (kit_int d), q _ H2 e2 (dat_bl.mpr rfl)⟩
theorem c_isi_bool (B : Blt X.mg) (hg : Gl X "isinstance" := by rfl) (hgx : Gl X "bool" := by rfl) (ha : C T X a σ H d) (he : starEach [a, .Name "bool" p2] X.env = (false, eval a X.env) :: starEach [.Name "bool" p2] X.env := by rfl) : C T X (.Call (.Name "isinstance" p) [a, .Name "bool" p2] [] pos) σ H (.bl d.isBl) :=
  c_of (pe_callB call_isi hg B.isi boot_isi (pa_cons pe_s (pa_cons (pe_bltn (v := .ty "bool") hgx B.bool PyProof.Rows.boot_bool rfl) pa_nil) he) (he := he)) fun H1 e1 Q q => ha H1 e1 _ fun v H2 e2 hd => ⟨v, .ty "bool", _, _, _, rfl, .ty "bool", dat_ty hd, kit_ty (kit_bool d), q _ H2 e2 (dat_bl.mpr rfl)⟩
theorem c_isi_str (B : Blt X.mg) (hg : Gl X "isinstance" := by rfl) (hgx : Gl X "str" := by rfl) (ha : C T X a σ H d) (he : starEach [a, .Name "str" p2] X.env = (false, eval a X.env) :: starEach [.Name "str" p2] X.env := by rfl) : C T X (.Call (.Name "isinstance" p) [a, .Name "str" p2] [] pos) σ H (.bl d.isStr) :=
  c_of (pe_callB call_isi hg B.isi boot_isi (pa_cons pe_s (pa_cons (pe_bltn (v := .ty "str") hgx B.str PyProof.Rows.boot_str rfl) pa_nil) he) (he := he)) fun H1 e1 Q q => ha H1 e1 _ fun v H2 e2 hd => ⟨v, .ty "str", _, _, _, rfl, .ty "str", dat_ty hd, kit_ty (kit_str d), q _ H2 e2 (dat_bl.mpr rfl)⟩
theorem c_isi_tuple (B : Blt X.mg) (hg : Gl X "isinstance" := by rfl) (hgx : Gl X "tuple" := by rfl) (ha : C T X a σ H d) (he : starEach [a, .Name "tuple" p2] X.env = (false, eval a X.env) :: starEach [.Name "tuple" p2] X.env := by rfl) : C T X (.Call (.Name "isinstance" p) [a, .Name "tuple" p2] [] pos) σ H (.bl d.isTup) :=
  c_of (pe_callB call_isi hg B.isi boot_isi (pa_cons pe_s (pa_cons (pe_bltn (v := .ty "tuple") hgx B.tuple PyProof.Rows.boot_tuple rfl) pa_nil) he) (he := he)) fun H1 e1 Q q => ha H1 e1 _ fun v H2 e2 hd => ⟨v, .ty "tuple", _, _, _, rfl, .ty "tuple", dat_ty hd, kit_ty (kit_tuple d), q _ H2 e2 (dat_bl.mpr rfl)⟩
theorem c_isi_list (B : Blt X.mg) (hg : Gl X "isinstance" := by rfl) (hgx : Gl X "list" := by rfl) (ha : C T X a σ H d) (he : starEach [a, .Name "list" p2] X.env = (false, eval a X.env) :: starEach [.Name "list" p2] X.env := by rfl) : C T X (.Call (.Name "isinstance" p) [a, .Name "list" p2] [] pos) σ H (.bl d.isLst) :=
  c_of (pe_callB call_isi hg B.isi boot_isi (pa_cons pe_s (pa_cons (pe_bltn (v := .ty "list") hgx B.list PyProof.Rows.boot_list rfl) pa_nil) he) (he := he)) fun H1 e1 Q q => ha H1 e1 _ fun v H2 e2 hd => ⟨v, .ty "list", _, _, _, rfl, .ty "list", dat_ty hd, kit_ty (kit_list d), q _ H2 e2 (dat_bl.mpr rfl)⟩

theorem kit_tl (d : D) {K : PySem.W.Frag} : PySem.W.kitAny K (.type d.tag) [.type "tuple", .type "list"] = some (d.isTup || d.isLst) := by
  have h1 := kit_ty (K := K) (kit_tuple d)
  have h2 := kit_ty (K := K) (kit_list d)
  simp only [PySem.W.kitAny, h1, h2]
  cases d.isTup <;> cases d.isLst <;> rfl
theorem c_isi_tl {kk : Nat} {p4 : Pos} (B : Blt X.mg) (hg : Gl X "isinstance" := by rfl) (hg1 : Gl X "tuple" := by rfl) (hg2 : Gl X "list" := by rfl) (ha : C T X a σ H d)
    (he : starEach [a, .Tuple [.Name "tuple" p2, .Name "list" p3] kk p4] X.env = (false, eval a X.env) :: starEach [.Tuple [.Name "tuple" p2, .Name "list" p3] kk p4] X.env := by rfl) :
    C T X (.Call (.Name "isinstance" p) [a, .Tuple [.Name "tuple" p2, .Name "list" p3] kk p4] [] pos) σ H (.bl (d.isTup || d.isLst)) :=
  c_of (pe_callB call_isiT hg B.isi boot_isi (pa_cons pe_s (pa_cons (pe_tup (pa_cons (pe_bltn (v := .ty "tuple") hg1 B.tuple PyProof.Rows.boot_tuple rfl) (pa_cons (pe_bltn (v := .ty "list") hg2 B.list PyProof.Rows.boot_list rfl) pa_nil))) pa_nil) he) (he := he)) fun H1 e1 Q q =>
    ha H1 e1 _ fun v H2 e2 hd => ⟨by decide, fun r hr => ⟨v, r, _, _, _, _, rfl, upd_same, .cons (.ty "tuple") (.cons (.ty "list") .nil), dat_ty (hd.mono (T := T) (Ex.new hr)), kit_tl d, q _ _ (e2.trans (Ex.new hr)) (dat_bl.mpr rfl)⟩⟩

/-! ### len, list(..), tuple(..), int(..) -/
theorem c_lenT {xs : List D} (B : Blt X.mg) (ha : C T X a σ H (.tup xs)) (hg : Gl X "len" := by rfl) (he : starEach [a] X.env = (false, eval a X.env) :: starEach [] X.env := by rfl) : C T X (.Call (.Name "len" p) [a] [] pos) σ H (.int xs.length) :=
  c_of (pe_callB call_len_seq hg B.len PySem.boot_len (pa_cons pe_s pa_nil he) (he := he)) fun H1 e1 Q q => ha H1 e1 _ fun v H2 e2 hd => by
    obtain ⟨r, vs, e3, e4, e5⟩ := dat_tup.mp hd
    exact ⟨r, vs, by rw [e3], .inr (.inl (.inl e4)), by rw [e5.length]; exact q _ H2 e2 (dat_int.mpr rfl)⟩
theorem c_lenL {xs : List D} (B : Blt X.mg) (ha : C T X a σ H (.lst xs)) (hg : Gl X "len" := by rfl) (he : starEach [a] X.env = (false, eval a X.env) :: starEach [] X.env := by rfl) : C T X (.Call (.Name "len" p) [a] [] pos) σ H (.int xs.length) :=
  c_of (pe_callB call_len_seq hg B.len PySem.boot_len (pa_cons pe_s pa_nil he) (he := he)) fun H1 e1 Q q => ha H1 e1 _ fun v H2 e2 hd => by
    obtain ⟨r, vs, e3, e4, e5⟩ := dat_lst.mp hd
    exact ⟨r, vs, by rw [e3], .inl (.inl (.inl e4)), by rw [e5.length]; exact q _ H2 e2 (dat_int.mpr rfl)⟩
theorem c_lenS {z : Str} (B : Blt X.mg) (ha : C T X a σ H (.str z)) (hz : z.length ≤ 100000) (hg : Gl X "len" := by rfl) (he : starEach [a] X.env = (false, eval a X.env) :: starEach [] X.env := by rfl) : C T X (.Call (.Name "len" p) [a] [] pos) σ H (.int z.length) :=
  c_of (pe_callB call_len_str hg B.len PySem.boot_len (pa_cons pe_s pa_nil he) (he := he)) fun H1 e1 Q q => ha H1 e1 _ fun v H2 e2 hd => ⟨z, by rw [dat_str.mp hd], Nat.le_trans hz (by decide), q _ H2 e2 (dat_int.mpr rfl)⟩
theorem c_lenD {ks : List Str} {xs : List D} (B : Blt X.mg) (ha : C T X a σ H (.dic ks xs)) (hl : ks.length = xs.length) (hg : Gl X "len" := by rfl) (he : starEach [a] X.env = (false, eval a X.env) :: starEach [] X.env := by rfl) : C T X (.Call (.Name "len" p) [a] [] pos) σ H (.int ks.length) :=
  c_of (pe_callB call_lenD hg B.len PySem.boot_len (pa_cons pe_s pa_nil he) (he := he)) fun H1 e1 Q q => ha H1 e1 _ fun v H2 e2 hd => by
    obtain ⟨r, vs, e3, e4, e5⟩ := dat_dic.mp hd
    refine ⟨r, _, by rw [e3], e4, ?_⟩
    rw [List.length_zip, List.length_map, e5.length, ← hl, Nat.min_self]
    exact q _ H2 e2 (dat_int.mpr rfl)
theorem c_listT {xs : List D} (B : Blt X.mg) (ha : C T X a σ H (.tup xs)) (hg : Gl X "list" := by rfl) (he : starEach [a] X.env = (false, eval a X.env) :: starEach [] X.env := by rfl) : C T X (.Call (.Name "list" p) [a] [] pos) σ H (.lst xs) :=
  c_of (pe_callTy call_list_of hg B.list PyProof.Rows.boot_list (pa_cons pe_s pa_nil he) (he := he)) fun H1 e1 Q q => ha H1 e1 _ fun v H2 e2 hd => by
    obtain ⟨r, vs, e3, e4, e5⟩ := dat_tup.mp hd
    exact ⟨r, vs, by rw [e3], .inr (.inl (.inl e4)), fun l hl => q _ _ (e2.trans (Ex.new hl)) (dat_lst.mpr ⟨l, vs, rfl, upd_same, e5.mono (T := T) (Ex.new hl)⟩)⟩
theorem c_tupleL {xs : List D} (B : Blt X.mg) (ha : C T X a σ H (.lst xs)) (hg : Gl X "tuple" := by rfl) (he : starEach [a] X.env = (false, eval a X.env) :: starEach [] X.env := by rfl) : C T X (.Call (.Name "tuple" p) [a] [] pos) σ H (.tup xs) :=
  c_of (pe_callTy call_tuple_of hg B.tuple PyProof.Rows.boot_tuple (pa_cons pe_s pa_nil he) (he := he)) fun H1 e1 Q q => ha H1 e1 _ fun v H2 e2 hd => by
    obtain ⟨r, vs, e3, e4, e5⟩ := dat_lst.mp hd
    exact ⟨r, vs, by rw [e3], .inl ⟨.inl (.inl e4), fun l hl => q _ _ (e2.trans (Ex.new hl)) (dat_tup.mpr ⟨l, vs, rfl, upd_same, e5.mono (T := T) (Ex.new hl)⟩)⟩⟩
theorem c_intI {i : Int} (B : Blt X.mg) (ha : C T X a σ H (.int i)) (hg : Gl X "int" := by rfl) (he : starEach [a] X.env = (false, eval a X.env) :: starEach [] X.env := by rfl) : C T X (.Call (.Name "int" p) [a] [] pos) σ H (.int i) :=
  c_of (pe_callTy call_int1 hg B.int PyProof.Rows.boot_int (pa_cons pe_s pa_nil he) (he := he)) fun H1 e1 Q q => ha H1 e1 _ fun v H2 e2 hd => .inl ⟨i, by rw [dat_int.mp hd], q _ H2 e2 (dat_int.mpr rfl)⟩

/-! ### texts in lists of texts -/
theorem inV_str {s : Str} : ∀ ss : List Str, inV (.str s) (ss.map V.str) = decide (s ∈ ss)
  | [] => by simp [inV]
  | z :: ss => by
    have ih := inV_str (s := s) ss
    unfold inV at ih ⊢
    rw [List.map_cons, List.any_cons, ih]
    show ((z == s) || _) = _
    by_cases h : z = s
    · subst h; simp
    · have h1 : (z == s) = false := by simpa using h
      have h2 : ¬ s = z := fun q => h q.symm
      rw [h1]
      simp [h2]
theorem flat_strs (ss : List Str) : (ss.map V.str).all flatV = true := by
  rw [List.all_eq_true]
  intro v hv
  obtain ⟨z, _, rfl⟩ := List.mem_map.mp hv
  rfl
theorem dats_strs {H : Hp} : ∀ {ss : List Str} {vs : List V}, Dats H (ss.map D.str) vs → vs = ss.map V.str
  | [], vs, h => dats_nil.mp h
  | z :: ss, vs, h => by
    obtain ⟨v, r, e, q, q2⟩ := dats_cons.mp h
    rw [e, dat_str.mp q, dats_strs q2]
    rfl
theorem c_inS {s : Str} {ss : List Str} (ha : C T X a σ H (.str s)) (hb : C T X b σ H (.lst (ss.map D.str))) (hm : behindInMarks .In b = false := by rfl) : C T X (.Compare a [.In] [b] pos) σ H (.bl (decide (s ∈ ss))) :=
  c_cmp op_in_seq hm ha hb fun H1 v w Q e1 hv hw q => by
    obtain ⟨r, vs, e2, e3, e4⟩ := dat_lst.mp hw
    rw [dats_strs e4] at e3
    rw [dat_str.mp hv]
    exact ⟨r, _, e2, .inl (.inl (.inl e3)), rfl, flat_strs ss, by rw [if_neg Bool.false_ne_true, inV_str]; exact q⟩
theorem c_notInS {s : Str} {ss : List Str} (ha : C T X a σ H (.str s)) (hb : C T X b σ H (.lst (ss.map D.str))) (hm : behindInMarks .NotIn b = false := by rfl) : C T X (.Compare a [.NotIn] [b] pos) σ H (.bl (!decide (s ∈ ss))) :=
  c_cmp op_notIn_seq hm ha hb fun H1 v w Q e1 hv hw q => by
    obtain ⟨r, vs, e2, e3, e4⟩ := dat_lst.mp hw
    rw [dats_strs e4] at e3
    rw [dat_str.mp hv]
    exact ⟨r, _, e2, .inl (.inl (.inl e3)), rfl, flat_strs ss, by rw [if_pos rfl, inV_str]; exact q⟩
/-- a list of texts of the module -/
structure KL (K : PySem.W.Frag) (mg : Str → Option Value) (x : Str) (ss : List Str) : Prop where
  ex : ∃ r, mg x = some (.ref r) ∧ ∀ H, SqL K H r (ss.map V.str)
theorem c_inK {s n : Str} {ss : List Str} (ha : C T X a σ H (.str s)) (hk : KL X.K X.mg n ss) (hg : Gl X n) (hd : (n == ("__debug__" : Str)) = false := by decide) : C T X (.Compare a [.In] [.Name n p] pos) σ H (.bl (decide (s ∈ ss))) := by
  obtain ⟨r, h1, h2⟩ := hk.ex
  exact c_of (pe_cmpR op_in_seq pe_s (pe_glob (v := .ref r) hg h1 rfl hd) rfl) fun H1 e1 Q q => ha H1 e1 _ fun v H2 e2 hv => by
    rw [dat_str.mp hv]
    exact ⟨r, _, rfl, .inl (h2 H2), rfl, flat_strs ss, by rw [if_neg Bool.false_ne_true, inV_str]; exact q _ H2 e2 (dat_bl.mpr rfl)⟩
theorem c_inSign {c : Nat} {z : Str} (ha : C T X a σ H (.str ⟨#[c]⟩)) (hb : C T X b σ H (.str z)) (hm : behindInMarks .In b = false := by rfl) : C T X (.Compare a [.In] [b] pos) σ H (.bl (decide (c ∈ z.cps.toList))) :=
  c_cmp op_in_sign hm ha hb fun H1 v w Q e1 hv hw q => ⟨c, z, dat_str.mp hv, dat_str.mp hw, q⟩
theorem c_notInSign {c : Nat} {z : Str} (ha : C T X a σ H (.str ⟨#[c]⟩)) (hb : C T X b σ H (.str z)) (hm : behindInMarks .NotIn b = false := by rfl) : C T X (.Compare a [.NotIn] [b] pos) σ H (.bl (!decide (c ∈ z.cps.toList))) :=
  c_cmp op_notIn_sign hm ha hb fun H1 v w Q e1 hv hw q => ⟨c, z, dat_str.mp hv, dat_str.mp hw, q⟩

/-! ### dicts with texts as keys -/
def getL {α : Type} : List Str → List α → Str → Option α
  | k :: ks, a :: as, z => if k = z then some a else getL ks as z
  | _, _, _ => none
def putN (ks : List Str) (k : Str) : List Str := if k ∈ ks then ks else ks ++ [k]
def putL {α : Type} (ks : List Str) (as : List α) (k : Str) (a : α) : List α := if k ∈ ks then List.zipWith (fun z b => if z = k then a else b) ks as else as ++ [a]
theorem valV_zip {z : Str} : ∀ {ks : List Str} {vs : List V}, valV ((ks.map (Sum.inr : Str → Key)).zip vs) (.inr z) = getL ks vs z
  | [], vs => rfl
  | k :: ks, [] => rfl
  | k :: ks, v :: vs => by
    rw [List.map_cons, List.zip_cons_cons]
    by_cases h : k = z
    · rw [valV_pos (by rw [h])]
      unfold getL
      rw [if_pos h]
    · rw [valV_neg (fun q => h (Sum.inr.inj q)), valV_zip]
      conv => rhs; unfold getL
      rw [if_neg h]
theorem getL_dats {H : Hp} {z : Str} : ∀ {ks : List Str} {ds : List D} {vs : List V}, Dats H ds vs → (getL ks ds z = none ∧ getL ks vs z = none) ∨ ∃ d v, getL ks ds z = some d ∧ getL ks vs z = some v ∧ Dat H d v
  | [], ds, vs, h => .inl ⟨rfl, rfl⟩
  | k :: ks, [], vs, h => by
    rw [dats_nil.mp h]
    exact .inl ⟨rfl, rfl⟩
  | k :: ks, d :: ds, vs, h => by
    obtain ⟨v, r, e, q, q2⟩ := dats_cons.mp h
    subst e
    unfold getL
    by_cases hk : k = z
    · rw [if_pos hk, if_pos hk]
      exact .inr ⟨d, v, rfl, rfl, q⟩
    · rw [if_neg hk, if_neg hk]
      exact getL_dats q2
theorem zip_mem {k : Str} : ∀ {ks : List Str} {vs : List V}, ks.length = vs.length → (((ks.map (Sum.inr : Str → Key)).zip vs).any fun kv => decide (kv.1 = .inr k)) = decide (k ∈ ks)
  | [], vs, _ => by simp
  | z :: ks, [], h => by cases h
  | z :: ks, v :: vs, h => by
    rw [List.map_cons, List.zip_cons_cons, List.any_cons, zip_mem (by simpa using h)]
    by_cases q : z = k
    · subst q; simp
    · have q2 : ¬ k = z := fun e => q e.symm
      simp [q, q2]
theorem zip_put {k : Str} {v : V} : ∀ {ks : List Str} {vs : List V}, ks.length = vs.length → ((ks.map (Sum.inr : Str → Key)).zip vs).map (fun kv => if kv.1 = .inr k then (kv.1, v) else kv) = (ks.map (Sum.inr : Str → Key)).zip (List.zipWith (fun z b => if z = k then v else b) ks vs)
  | [], vs, _ => by simp
  | z :: ks, [], h => by cases h
  | z :: ks, w :: vs, h => by
    rw [List.map_cons, List.zip_cons_cons, List.map_cons, zip_put (by simpa using h), List.zipWith_cons_cons, List.zip_cons_cons]
    by_cases q : z = k
    · subst q; simp
    · simp [q]
theorem putK_zip {k : Str} {v : V} {ks : List Str} {vs : List V} (h : ks.length = vs.length) : putK ((ks.map (Sum.inr : Str → Key)).zip vs) (.inr k) v = ((putN ks k).map Sum.inr).zip (putL ks vs k v) := by
  unfold putK putN putL
  rw [zip_mem h]
  by_cases q : k ∈ ks
  · rw [if_pos (decide_eq_true q), if_pos q, if_pos q, zip_put h]
  · rw [if_neg (by simp [q]), if_neg q, if_neg q, List.map_append, List.zip_append (by simpa using h)]
    rfl
theorem putL_length {α : Type} {k : Str} {a : α} {ks : List Str} {as : List α} (h : ks.length = as.length) : (putN ks k).length = (putL ks as k a).length := by
  unfold putN putL
  by_cases q : k ∈ ks
  · rw [if_pos q, if_pos q, List.length_zipWith, h, Nat.min_self]
  · rw [if_neg q, if_neg q, List.length_append, List.length_append, h]; rfl
theorem putL_dats {H : Hp} {k : Str} {d : D} {v : V} {ks : List Str} {ds : List D} {vs : List V} (h : Dats H ds vs) (hd : Dat H d v) : Dats H (putL ks ds k d) (putL ks vs k v) := by
  unfold putL
  by_cases q : k ∈ ks
  · rw [if_pos q, if_pos q]
    clear q
    induction ks generalizing ds vs with
    | nil => simp [dats_nil]
    | cons z ks ih =>
      cases ds with
      | nil => rw [dats_nil.mp h]; simp [dats_nil]
      | cons d0 ds =>
        obtain ⟨v0, r, e, q, q2⟩ := dats_cons.mp h
        subst e
        rw [List.zipWith_cons_cons, List.zipWith_cons_cons]
        refine dats_cons.mpr ⟨_, _, rfl, ?_, ih q2⟩
        by_cases hz : z = k
        · rw [if_pos hz, if_pos hz]; exact hd
        · rw [if_neg hz, if_neg hz]; exact q
  · rw [if_neg q, if_neg q]
    exact h.append (Dats.one hd)
variable {ks : List Str} {xs : List D} {z : Str}
theorem c_dgetS (hu : X.A.units + 1 < cLine) (ha : C T X a σ H (.dic ks xs)) (hb : C T X b σ H (.str z)) (hd : getL ks xs z = some d) (hs : NoSl b := by intro _ _; rfl) : C T X (.Subscript a b pos) σ H d :=
  c_of (pe_dget hu pe_s pe_s hs) fun H1 e1 Q q => ha H1 e1 _ fun v H2 e2 hv => hb H2 (e1.trans e2) _ fun w H3 e3 hw => by
    obtain ⟨r, vs, e4, e5, e6⟩ := dat_dic.mp (hv.mono e3)
    rw [dat_str.mp hw]
    rcases getL_dats (z := z) (ks := ks) e6 with ⟨n, _⟩ | ⟨d', v', n1, n2, q2⟩
    · rw [hd] at n; cases n
    · rw [hd] at n1; cases n1
      refine ⟨r, v', e4, ?_, q _ H3 (e2.trans e3) q2⟩
      have g := DGet.k (k := .inr z) e5
      rw [valV_zip, n2] at g
      exact g
theorem c_dgetD {f : Expr} {apos : Pos} {y : D} (hu : X.A.units + 1 < cLine) (ha : C T X a σ H (.dic ks xs)) (hb : C T X b σ H (.str z)) (hf : C T X f σ H y) (m : M2 X a "get" apos b f pos) : C T X (.Call (.Attribute a "get" apos) [b, f] [] pos) σ H ((getL ks xs z).getD y) :=
  c_of (pe_dget2 hu pe_s pe_s pe_s m) fun H1 e1 Q q => ha H1 e1 _ fun v H2 e2 hv => by
    obtain ⟨r, vs, e4, e5, e6⟩ := dat_dic.mp hv
    refine ⟨r, e4, .inl ⟨_, .inl e5⟩, hb H2 (e1.trans e2) _ fun w H3 e3 hw => hf H3 ((e1.trans e2).trans e3) _ fun u H4 e7 hu2 => ?_⟩
    rw [dat_str.mp hw]
    have e5' := (e3.trans e7).old _ _ e5 (fun _ z => by cases z)
    have g := DGet.k (k := .inr z) e5'
    rw [valV_zip] at g
    refine ⟨_, g, q _ H4 ((e2.trans e3).trans e7) ?_⟩
    rcases getL_dats (z := z) (ks := ks) e6 with ⟨n1, n2⟩ | ⟨d', v', n1, n2, q2⟩
    · rw [n1, n2]; exact hu2
    · rw [n1, n2]; exact q2.mono (e3.trans e7)
theorem c_notInD (hu : X.A.units + 1 < cLine) (ha : C T X a σ H (.str z)) (hb : C T X b σ H (.dic ks xs)) (hm : behindInMarks .NotIn b = false := by rfl) : C T X (.Compare a [.NotIn] [b] pos) σ H (.bl (!(getL ks xs z).isSome)) :=
  c_of (pe_cmp (pc_dnotin hu pe_s pe_s) hm) fun H1 e1 Q q => ha H1 e1 _ fun v H2 e2 hv => hb H2 (e1.trans e2) _ fun w H3 e3 hw => by
    obtain ⟨r, vs, e4, e5, e6⟩ := dat_dic.mp hw
    rw [dat_str.mp hv]
    have g := DGet.k (k := .inr z) e5
    rw [valV_zip] at g
    refine ⟨r, _, e4, g, ?_⟩
    rcases getL_dats (z := z) (ks := ks) e6 with ⟨n1, n2⟩ | ⟨d', v', n1, n2, q2⟩
    · rw [n2]; exact q _ H3 (e2.trans e3) (dat_bl.mpr (by rw [n1]; rfl))
    · rw [n2]; exact q _ H3 (e2.trans e3) (dat_bl.mpr (by rw [n1]; rfl))
end
end G3

set_option Elab.async false
set_option linter.all false
set_option maxRecDepth 100000
set_option maxHeartbeats 4000000
namespace G3
open PySem PySem.Spec PyProof.Rows L2 GX
open GxR (TabG Tabbed)

/-! ## Walks -/
/-- n turns give the data ds, whatever is new on the heap -/
def WalkD (T : List Addr) (J : It) (ds : List D) (H : Hp) : Prop := ∀ H', Ex T H H' → (∀ i, i < ds.length → J.go i H') ∧ J.stop ds.length H' ∧ ∀ i x H'', i < ds.length → J.yld i H' x H'' → H'' = H' ∧ ∃ d, ds[i]? = some d ∧ Dat H' d x
/-- what stands behind `in` gives ds -/
structure IterC (T : List Addr) (X : Cx) (tg iter : Expr) (σ : L2.St) (H : Hp) (ds : List D) (wi : TI) : Prop where
  pi : PI X tg iter wi
  run : ∀ H1, Ex T H H1 → ∀ R : It → Hp → Prop, (∀ J H2, Ex T H1 H2 → WalkD T J ds H2 → R J H2) → wi σ H1 R
section
variable {T : List Addr} {X : Cx} {σ : L2.St} {H H' : Hp} {tg e : Expr} {d : D} {xs : List D}
theorem it_tup (h : C T X e σ H (.tup xs)) : IterC T X tg e σ H xs (iTup X.K (tS X e)) := ⟨pi_tup pe_s, fun H1 e1 R r => h H1 e1 _ fun v H2 e2 hv => by
  obtain ⟨a, vs, e3, e4, e5⟩ := dat_tup.mp hv
  refine ⟨a, e3, ⟨vs, .inl (.inl e4)⟩, r _ H2 e2 fun H' e' => ?_⟩
  have q4 := e'.old _ _ e4 (fun _ z => by cases z)
  have q : SqT X.K H' a vs := .inl (.inl q4)
  have hl := e5.length
  refine ⟨fun i hi => walk_tup.goes i H' (by omega) q, by rw [← hl]; exact walk_tup.stops H' q, fun i x H'' hi y => ?_⟩
  obtain ⟨z1, z2⟩ := walk_tup.yields i H' x H'' (by omega) q y
  obtain ⟨d, z3, z4⟩ := (e5.mono e').getV z2
  exact ⟨z1, d, z3, z4⟩⟩
theorem it_lst (h : C T X e σ H (.lst xs)) : IterC T X tg e σ H xs (iList X.K (tS X e)) := ⟨pi_list pe_s, fun H1 e1 R r => h H1 e1 _ fun v H2 e2 hv => by
  obtain ⟨a, vs, e3, e4, e5⟩ := dat_lst.mp hv
  refine ⟨a, e3, ⟨vs, .inl (.inl e4)⟩, r _ H2 e2 fun H' e' => ?_⟩
  have q4 := e'.old _ _ e4 (fun _ z => by cases z)
  have q : SqL X.K H' a vs := .inl (.inl q4)
  have hl := e5.length
  refine ⟨fun i hi => walk_list.goes i H' (by omega) q, by rw [← hl]; exact walk_list.stops H' q, fun i x H'' hi y => ?_⟩
  obtain ⟨z1, z2⟩ := walk_list.yields i H' x H'' (by omega) q y
  obtain ⟨d, z3, z4⟩ := (e5.mono e').getV z2
  exact ⟨z1, d, z3, z4⟩⟩
def signs (z : Str) : List D := z.cps.toList.map fun c => .str ⟨#[c]⟩
theorem it_str {z : Str} (h : C T X e σ H (.str z)) : IterC T X tg e σ H (signs z) (iStr (tS X e)) := ⟨pi_str pe_s, fun H1 e1 R r => h H1 e1 _ fun v H2 e2 hv => ⟨z, dat_str.mp hv, r _ H2 e2 fun H' e' => by
  have hl : (signs z).length = z.cps.size := by simp [signs]
  refine ⟨fun i hi => walk_str.goes i H' (by omega) True.intro, by rw [hl]; exact walk_str.stops H' True.intro, fun i x H'' hi y => ?_⟩
  obtain ⟨z1, c, z2, z3⟩ := walk_str.yields i H' x H'' (by omega) True.intro y
  refine ⟨z1, .str ⟨#[c]⟩, ?_, dat_str.mpr z3⟩
  unfold signs
  rw [List.getElem?_map, Array.getElem?_toList, z2]
  rfl⟩⟩
def intsD (n : Nat) : List D := (List.range n).map fun (i : Nat) => .int (i : Int)
theorem it_range {n : Nat} {p pos : Pos} (B : Blt X.mg) (hn : n ≤ 1000000) (h : C T X e σ H (.int n)) (hg : Gl X "range" := by rfl) (hs : starEach [e] X.env = (false, eval e X.env) :: starEach [] X.env := by rfl) (hs2 : starEach [e] X.env = [(false, eval e X.env)] := by rfl) : IterC T X tg (.Call (.Name "range" p) [e] [] pos) σ H (intsD n) (iRng1 (tCons (tS X e) tNil)) :=
  ⟨pi_range1 hg B.range (pa_cons pe_s pa_nil hs) hs2, fun H1 e1 R r => h H1 e1 _ fun v H2 e2 hv => ⟨(n : Int), by rw [dat_int.mp hv], by omega, by omega, r _ H2 e2 fun H' e' => by
    have hl : (intsD n).length = n := by simp [intsD]
    have w : Walk (Itr 0 ((n : Int).toNat)) n (fun _ => True) (YFn fun i => .int (0 + (i : Nat))) := walk_range
    refine ⟨fun i hi => w.goes i H' (by omega) True.intro, by rw [hl]; exact w.stops H' True.intro, fun i x H'' hi y => ?_⟩
    obtain ⟨z1, z2⟩ := w.yields i H' x H'' (by omega) True.intro y
    refine ⟨z1, .int i, ?_, dat_int.mpr (by rw [z2]; show V.int (0 + (i : Int)) = V.int i; rw [Int.zero_add])⟩
    unfold intsD
    rw [List.getElem?_map, List.getElem?_range (by omega)]
    rfl⟩⟩
end

/-! ## Targets -/
def setAll : L2.St → List Nat → List V → L2.St
  | σ, j :: js, v :: vs => setAll (σ.set j (some v)) js vs
  | σ, _, _ => σ
def sp1 : D → Option (List D) := fun d => some [d]
def spN (n : Nat) : D → Option (List D) := fun d => match d with
  | .tup xs => if xs.length = n then some xs else none
  | _ => none
/-- a target with the slots js -/
def Tgt (g : TG) (sp : D → Option (List D)) (js : List Nat) : Prop := ∀ d ds v σ H (Q : L2.St → Hp → Prop), sp d = some ds → Dat H d v → (∀ vs, Dats H ds vs → Q (setAll σ js vs) H) → g v σ H Q
theorem tgt_name (j : Nat) : Tgt (gName j) sp1 [j] := fun d ds v σ H Q e hd q => by
  cases e
  exact q [v] (Dats.one hd)
def gAll : List Nat → TGs
  | [] => gNil
  | j :: js => gCons (gName j) (gAll js)
theorem gAll_run : ∀ (js : List Nat) (vs : List V) (σ : L2.St) (H : Hp) (Q : L2.St → Hp → Prop), vs.length = js.length → Q (setAll σ js vs) H → gAll js vs σ H Q
  | [], [], σ, H, Q, _, q => ⟨rfl, q⟩
  | j :: js, v :: vs, σ, H, Q, h, q => ⟨v, vs, rfl, gAll_run js vs _ H Q (by simpa using h) q⟩
  | [], _ :: _, σ, H, Q, h, q => by cases h
  | _ :: _, [], σ, H, Q, h, q => by cases h
theorem tgt_tup {K : PySem.W.Frag} (js : List Nat) {n : Nat} (hn : js.length = n) : Tgt (gTup K n (gAll js)) (spN n) js := fun d ds v σ H Q e hd q => by
  cases d with
  | tup xs =>
    obtain ⟨a, vs, e1, e2, e3⟩ := dat_tup.mp hd
    unfold spN at e
    simp only at e
    split at e
    · rename_i hl
      cases e
      exact ⟨a, vs, e1, .inl (.inl e2), by rw [e3.length, hl], gAll_run js vs σ H Q (by rw [e3.length, hl, hn]) (q vs e3)⟩
    · cases e
  | _ => exact nomatch e
theorem wipe_get (σ : L2.St) (i : Nat) : ∀ vs : List Nat, (wipe σ vs)[i]? = if i ∈ vs then (σ[i]?).map (fun _ => none) else σ[i]?
  | [] => by simp [wipe]
  | v :: vs => by
    unfold wipe
    by_cases h : v = i
    · subst h
      rw [List.getElem?_set]
      simp only [if_true, List.mem_cons, true_or, wipe_length]
      by_cases hl : v < σ.length
      · simp [hl]
      · simp [hl]
    · rw [List.getElem?_set_ne h, wipe_get σ i vs]
      have h2 : ¬ i = v := fun q => h q.symm
      simp [h2]
theorem setAll_length : ∀ (js : List Nat) (vs : List V) (σ : L2.St), (setAll σ js vs).length = σ.length
  | [], _, σ => by cases ‹List V› <;> rfl
  | _ :: _, [], σ => rfl
  | j :: js, v :: vs, σ => by
    unfold setAll
    rw [setAll_length js vs, List.length_set]
theorem setAll_out {i : Nat} : ∀ (js : List Nat) (vs : List V) (σ : L2.St), i ∉ js → (setAll σ js vs)[i]? = σ[i]?
  | [], _, σ, _ => by cases ‹List V› <;> rfl
  | _ :: _, [], σ, _ => rfl
  | j :: js, v :: vs, σ, h => by
    unfold setAll
    rw [setAll_out js vs _ (fun q => h (List.mem_cons_of_mem _ q)), List.getElem?_set_ne (fun q => h (by rw [q]; exact List.mem_cons_self))]
theorem wipe_setAll {σ : L2.St} {own js : List Nat} {us : List V} (h : ∀ j ∈ js, j ∈ own) : wipe (setAll (wipe σ own) js us) own = wipe σ own := by
  apply List.ext_getElem?
  intro i
  rw [wipe_get, wipe_get]
  by_cases hi : i ∈ own
  · rw [if_pos hi, if_pos hi]
    by_cases hl : i < σ.length
    · have l1 : i < (setAll (wipe σ own) js us).length := by rw [setAll_length, wipe_length]; exact hl
      rw [List.getElem?_eq_getElem l1, List.getElem?_eq_getElem hl]
      rfl
    · have l1 : ¬ i < (setAll (wipe σ own) js us).length := by rw [setAll_length, wipe_length]; exact hl
      rw [List.getElem?_eq_none (by omega), List.getElem?_eq_none (by omega)]
  · rw [if_neg hi, if_neg hi, setAll_out js us _ (fun q => hi (h i q)), wipe_get, if_neg hi]

/-! ## Lists do not stand within -/
mutual
def D.nl : D → Bool
  | .lst _ => false
  | .dic _ _ => false
  | .tup xs => nls xs
  | _ => true
def nls : List D → Bool
  | [] => true
  | d :: ds => d.nl && nls ds
end
section
variable {H : Hp} {p : Addr} {ys : List V} {o : HO}
mutual
theorem Dat.upd (hp : ∀ xs, H p ≠ some (.tup xs)) : ∀ (d : D) (v : V), d.nl = true → Dat H d v → Dat (L2.upd H p o) d v
  | .non, v, _, h => by unfold Dat at h ⊢; exact h
  | .bl b, v, _, h => by unfold Dat at h ⊢; exact h
  | .int i, v, _, h => by unfold Dat at h ⊢; exact h
  | .str s, v, _, h => by unfold Dat at h ⊢; exact h
  | .tup xs, v, n, h => by
    unfold D.nl at n
    unfold Dat at h ⊢
    obtain ⟨a, vs, e1, e2, e3⟩ := h
    refine ⟨a, vs, e1, ?_, Dats.upd hp xs vs n e3⟩
    rw [upd_ne (fun q => hp vs (by rw [← q]; exact e2))]
    exact e2
  | .lst xs, v, n, h => by unfold D.nl at n; cases n
  | .dic ks xs, v, n, h => by unfold D.nl at n; cases n
theorem Dats.upd (hp : ∀ xs, H p ≠ some (.tup xs)) : ∀ (ds : List D) (vs : List V), nls ds = true → Dats H ds vs → Dats (L2.upd H p o) ds vs
  | [], vs, _, h => by unfold Dats at h ⊢; exact h
  | d :: ds, vs, n, h => by
    unfold nls at n
    rw [Bool.and_eq_true] at n
    unfold Dats at h ⊢
    obtain ⟨v, r, e1, e2, e3⟩ := h
    exact ⟨v, r, e1, Dat.upd hp d v n.1 e2, Dats.upd hp ds r n.2 e3⟩
end
end
theorem nls_all : ∀ {ds : List D}, (∀ d ∈ ds, d.nl = true) → nls ds = true
  | [], _ => by unfold nls; rfl
  | d :: ds, h => by
    unfold nls
    rw [h d List.mem_cons_self, nls_all fun x hx => h x (List.mem_cons_of_mem _ hx)]
    rfl
theorem nls_mem : ∀ {ds : List D} {d : D}, nls ds = true → d ∈ ds → d.nl = true
  | [], d, _, h => by cases h
  | e :: ds, d, n, h => by
    unfold nls at n
    rw [Bool.and_eq_true] at n
    rcases List.mem_cons.mp h with q | q
    · rw [q]; exact n.1
    · exact nls_mem n.2 q

/-! ## Comprehensions -/
/-- the block's contexts -/
abbrev XB (X : Cx) (scope : Scope) (s : Shared) (H : Hp) (A : Addr) (cl : List (Str × Addr)) (fp : List Addr) : Cx := X.blk s H scope (compEnvC scope cl A X.env) fp
def tSB (X : Cx) (scope : Scope) (e : Expr) : TE := fun σ H Q => ∀ s H0 A cl fp, tS (XB X scope s H0 A cl fp) e σ H Q
def CB (T : List Addr) (X : Cx) (scope : Scope) (e : Expr) (σ : L2.St) (H : Hp) (d : D) : Prop := ∀ s H0 A cl fp, C T (XB X scope s H0 A cl fp) e σ H d
def tPB (X : Cx) (scope : Scope) (es : List Expr) : TT := fun σ H Q => ∀ s0 H0 A cl fp pins s, Inv (XB X scope s0 H0 A cl fp) pins σ H s → wpAny (model X.prog X.w) X.A (forIn es true fun c r => if r = true then do let ok ← isTrue c (XB X scope s0 H0 A cl fp).env (eval c (XB X scope s0 H0 A cl fp).env); pure (ForInStep.yield ok) else pure (ForInStep.yield r)) (TP (XB X scope s0 H0 A cl fp) pins σ Q) (XB X scope s0 H0 A cl fp).xe s
/-- the tests come to b -/
def CIf (T : List Addr) (X : Cx) (scope : Scope) (es : List Expr) (σ : L2.St) (H : Hp) (b : Bool) : Prop := ∀ H1, Ex T H H1 → ∀ Q : Bool → Hp → Prop, (∀ H2, Ex T H1 H2 → Q b H2) → tPB X scope es σ H1 Q
section
variable {T : List Addr} {X : Cx} {σ : L2.St} {H H' : Hp} {tg iter elt kx vx c : Expr} {ifs : List Expr} {xs : List D} {wi : TI} {scope : Scope} {own : List (Str × Nat)} {js : List Nat} {sp : D → Option (List D)} {g : TG} {pos : Pos}
theorem cif_nil : CIf T X scope [] σ H true := fun H1 e1 Q q s0 H0 A cl fp pins s I => pts_nil.run pins s σ H1 Q I (q H1 (Ex.refl T H1))
theorem cif_one {b : Bool} (h : ∀ s H0 A cl fp, CT T (XB X scope s H0 A cl fp) c σ H b) : CIf T X scope [c] σ H b := fun H1 e1 Q q s0 H0 A cl fp pins s I => (pts_one pt_s).run pins s σ H1 Q I (h s0 H0 A cl fp H1 e1 Q q)
/-- [elt for tg in iter if ..] -/
theorem c_lc {f : D → D} {pr : D → Bool} (hc : X.calm = true) (hN : X.N.Nodup) (hi : IterC T X tg iter σ H xs wi) (ok : BlkOk X.N X.env.scope scope own) (hg : ∀ s H A cl fp, PG (XB X scope s H A cl fp) tg g) (ht : Tgt g sp js) (hj : ∀ j ∈ js, j ∈ own.map (·.2)) (hl : xs.length ≤ 100000)
    (hs : ∀ d vs H1, d ∈ xs → Ex T H H1 → (∃ ds, sp d = some ds ∧ ((Dats H1 ds vs → CIf T X scope ifs (setAll (wipe σ (own.map (·.2))) js vs) H1 (pr d) ∧ (pr d = true → CB T X scope elt (setAll (wipe σ (own.map (·.2))) js vs) H1 (f d) ∧ (f d).nl = true)))))
    (hfold : ∀ x, foldedSetIterable iter X.env x = pure x := by intro _; rfl) : C T X (.ListComp elt [⟨tg, iter, ifs, 0⟩] scope pos) σ H (.lst ((xs.filter pr).map f)) := by
  refine c_of (pe_lc (tt := tPB X scope ifs) (te := tSB X scope elt) hc hN hi.pi ok hg (fun s H A cl fp => ⟨fun pins s' σ' H' Q I h => h s H A cl fp pins s' I⟩) (fun s H A cl fp => ⟨fun pins s' σ' H' Q I h => h s H A cl fp pins s' I⟩) hfold) fun H1 e1 Q q => ?_
  refine hi.run H1 e1 _ fun J H2 e2 w L hL => ?_
  have w' : Walk J xs.length (fun H' => Ex T H2 H') (fun i H x H' => H' = H ∧ ∃ d, xs[i]? = some d ∧ Dat H d x) :=
    ⟨fun i H' hi e => (w H' e).1 i hi, fun H' e => (w H' e).2.1, fun i H' x H'' hi e y => (w H' e).2.2 i x H'' hi y⟩
  refine lc_it w' (fun i H' => ∃ acc, Ex T H2 H' ∧ H' L = some (.lst acc) ∧ acc.length ≤ i ∧ Dats H' (((xs.take i).filter pr).map f) acc ∧ nls (((xs.take i).filter pr).map f) = true) ⟨[], Ex.new hL, upd_same, Nat.le_refl _, dats_nil.mpr rfl, by unfold nls; rfl⟩ (fun i H' _ ⟨_, e, _⟩ => e) (fun i x H' H'' hi p y => ?_) fun H' p => ?_
  · obtain ⟨acc, p1, p2, p3, p4, p5⟩ := p
    obtain ⟨rfl, d, y1, y2⟩ := y
    have hmem : d ∈ xs := List.mem_of_getElem? y1
    have eH := (e1.trans e2).trans p1
    have hts : xs.take (i + 1) = xs.take i ++ [d] := by
      rw [List.take_succ, y1]
      rfl
    obtain ⟨ds, z1, _⟩ := hs d [] H'' hmem eH
    refine ht d ds x _ H'' _ z1 y2 fun vs hvs => ⟨wipe_setAll hj, ?_⟩
    obtain ⟨ds2, z2, z3⟩ := hs d vs H'' hmem eH
    rw [z1] at z2; cases z2
    obtain ⟨k1, k2⟩ := z3 hvs
    refine k1 H'' (Ex.refl T H'') _ fun H3 e3 => ?_
    cases hpr : pr d with
    | false =>
      rw [if_neg Bool.false_ne_true]
      refine ⟨acc, p1.trans e3, e3.old _ _ p2 (fun _ z => by cases z), Nat.le_succ_of_le p3, ?_⟩
      rw [hts, List.filter_append, List.filter_cons_of_neg (by rw [hpr]; exact Bool.false_ne_true), List.filter_nil, List.append_nil]
      exact ⟨p4.mono e3, p5⟩
    | true =>
      rw [if_pos rfl]
      obtain ⟨k3, k4⟩ := k2 hpr
      intro s0 H0 A cl fp
      refine k3 s0 H0 A cl fp H3 e3 _ fun v H4 e4 hv => ?_
      have a4 := (e3.trans e4).old _ _ p2 (fun _ z => by cases z)
      have nt : ∀ ys, H4 L ≠ some (.tup ys) := fun ys z => by rw [a4] at z; cases z
      refine ⟨acc, a4, Nat.lt_of_le_of_lt (Nat.le_trans p3 (Nat.le_of_lt hi)) (Nat.lt_of_le_of_lt hl (by decide)), acc ++ [v], ?_, upd_same, by rw [List.length_append]; simpa using p3, ?_⟩
      · exact Ex.mut ((p1.trans e3).trans e4) hL (fun ps z => by rw [a4] at z; cases z)
      · rw [hts, List.filter_append, List.filter_cons_of_pos hpr, List.filter_nil, List.map_append, List.map_cons, List.map_nil]
        have n1 : nls [f d] = true := nls_all fun x hx => by rw [List.mem_singleton.mp hx]; exact k4
        refine ⟨(Dats.upd nt _ _ p5 (p4.mono (e3.trans e4))).append (Dats.one (Dat.upd nt _ _ k4 hv)), nls_all fun x hx => ?_⟩
        rcases List.mem_append.mp hx with z | z
        · exact nls_mem p5 z
        · exact nls_mem n1 z
  · obtain ⟨acc, p1, p2, p3, p4, p5⟩ := p
    rw [List.take_length] at p4
    exact q _ H' (e2.trans p1) (dat_lst.mpr ⟨L, acc, rfl, p2, p4⟩)
/-- {kx: vx for tg in iter}: keys texts -/
def puts (ks : List Str) (ds : List D) : List (Str × D) → List Str × List D
  | [] => (ks, ds)
  | (k, d) :: r => puts (putN ks k) (putL ks ds k d) r
theorem puts_snoc : ∀ (r : List (Str × D)) (ks : List Str) (ds : List D) (k : Str) (d : D), puts ks ds (r ++ [(k, d)]) = (putN (puts ks ds r).1 k, putL (puts ks ds r).1 (puts ks ds r).2 k d)
  | [], ks, ds, k, d => rfl
  | (k', d') :: r, ks, ds, k, d => by
    rw [List.cons_append]
    show puts (putN ks k') (putL ks ds k' d') (r ++ [(k, d)]) = _
    rw [puts_snoc r]
    rfl
theorem putN_le (ks : List Str) (k : Str) : (putN ks k).length ≤ ks.length + 1 := by
  unfold putN
  split
  · exact Nat.le_succ _
  · rw [List.length_append]; exact Nat.le_refl _
theorem c_dc {fk : D → Str} {fd : D → D} (hc : X.calm = true) (hN : X.N.Nodup) (hi : IterC T X tg iter σ H xs wi) (ok : BlkOk X.N X.env.scope scope own) (hg : ∀ s H A cl fp, PG (XB X scope s H A cl fp) tg g) (ht : Tgt g sp js) (hj : ∀ j ∈ js, j ∈ own.map (·.2)) (hl : xs.length ≤ 100000)
    (hs : ∀ d vs H1, d ∈ xs → Ex T H H1 → (∃ ds, sp d = some ds ∧ (Dats H1 ds vs → CB T X scope kx (setAll (wipe σ (own.map (·.2))) js vs) H1 (.str (fk d)) ∧ CB T X scope vx (setAll (wipe σ (own.map (·.2))) js vs) H1 (fd d) ∧ (fd d).nl = true)))
    (hfold : ∀ x, foldedSetIterable iter X.env x = pure x := by intro _; rfl) : C T X (.DictComp kx vx [⟨tg, iter, [], 0⟩] scope pos) σ H (.dic (puts [] [] (xs.map fun d => (fk d, fd d))).1 (puts [] [] (xs.map fun d => (fk d, fd d))).2) := by
  refine c_of (pe_dc (tt := tPB X scope []) (tk := tSB X scope kx) (tv := tSB X scope vx) hc hN hi.pi ok hg (fun s H A cl fp => ⟨fun pins s' σ' H' Q I h => h s H A cl fp pins s' I⟩) (fun s H A cl fp => ⟨fun pins s' σ' H' Q I h => h s H A cl fp pins s' I⟩) (fun s H A cl fp => ⟨fun pins s' σ' H' Q I h => h s H A cl fp pins s' I⟩) hfold) fun H1 e1 Q q => ?_
  refine hi.run H1 e1 _ fun J H2 e2 w L hL => ?_
  refine ⟨fun i m H' => m = xs.length - i ∧ i ≤ xs.length ∧ ∃ vs, Ex T H2 H' ∧ H' L = some (.dK (((puts [] [] ((xs.take i).map fun d => (fk d, fd d))).1.map Sum.inr).zip vs)) ∧ (puts [] [] ((xs.take i).map fun d => (fk d, fd d))).1.length = vs.length ∧ vs.length ≤ i ∧
    Dats H' (puts [] [] ((xs.take i).map fun d => (fk d, fd d))).2 vs ∧ nls (puts [] [] ((xs.take i).map fun d => (fk d, fd d))).2 = true, ⟨xs.length, by simp, Nat.zero_le _, [], Ex.new hL, by rw [upd_same]; rfl, rfl, Nat.le_refl _, dats_nil.mpr rfl, by show nls [] = true; unfold nls; rfl⟩, ?_⟩
  rintro i m H' ⟨rfl, hi, vs0, p1, p2, p3, p4, p5, p6⟩
  obtain ⟨w1, w2, w3⟩ := w H' p1
  by_cases hlt : i < xs.length
  · refine .inr ⟨w1 i hlt, _, fun H'' p' => ⟨xs.length - (i + 1), by omega, rfl, hlt, p'⟩, fun x H'' y => ?_⟩
    obtain ⟨rfl, d, y1, y2⟩ := w3 i x H'' hlt y
    have hmem : d ∈ xs := List.mem_of_getElem? y1
    have eH := (e1.trans e2).trans p1
    have hts : xs.take (i + 1) = xs.take i ++ [d] := by
      rw [List.take_succ, y1]
      rfl
    obtain ⟨ds, z1, _⟩ := hs d [] H'' hmem eH
    refine ht d ds x _ H'' _ z1 y2 fun vs hvs => ⟨wipe_setAll hj, ?_⟩
    obtain ⟨ds2, z2, z3⟩ := hs d vs H'' hmem eH
    rw [z1] at z2; cases z2
    obtain ⟨k1, k2, k3⟩ := z3 hvs
    refine cif_nil (T := T) (H := H'') H'' (Ex.refl T H'') _ fun H3 e3 => ?_
    rw [if_pos rfl]
    intro s0 H0 A cl fp
    refine k1 s0 H0 A cl fp H3 e3 _ fun vk H4 e4 hk => ?_
    intro s1 H01 A1 cl1 fp1
    refine k2 s1 H01 A1 cl1 fp1 H4 (e3.trans e4) _ fun v H5 e5 hv => ?_
    have e35 := (e3.trans e4).trans e5
    have a5 := e35.old _ _ p2 (fun _ z => by cases z)
    have nt : ∀ ys, H5 L ≠ some (.tup ys) := fun ys z => by rw [a5] at z; cases z
    refine ⟨_, .inr (fk d), dat_str.mp hk, a5, ?_, ?_⟩
    · rw [List.length_zip, List.length_map, p3, Nat.min_self]
      exact Nat.lt_of_le_of_lt (Nat.le_trans p4 (Nat.le_of_lt hlt)) (Nat.lt_of_le_of_lt hl (by decide))
    · rw [hts, List.map_append, List.map_cons, List.map_nil, puts_snoc]
      refine ⟨_, Ex.mut (p1.trans e35) hL (fun ps z => by rw [a5] at z; cases z), by rw [upd_same, putK_zip p3], putL_length p3, ?_, ?_, ?_⟩
      · rw [← putL_length (a := v) p3]
        exact Nat.le_trans (putN_le _ _) (by rw [p3]; exact Nat.succ_le_succ p4)
      · exact putL_dats (Dats.upd nt _ _ p6 (p5.mono e35)) (Dat.upd nt _ _ k3 hv)
      · unfold putL
        split
        · refine nls_all fun x hx => ?_
          obtain ⟨j, hj⟩ := List.getElem?_of_mem hx
          rw [List.getElem?_zipWith] at hj
          cases h1 : (puts [] [] ((xs.take i).map fun d => (fk d, fd d))).1[j]? with
          | none => rw [h1] at hj; cases hj
          | some k1 =>
            cases h2 : (puts [] [] ((xs.take i).map fun d => (fk d, fd d))).2[j]? with
            | none => rw [h1, h2] at hj; cases hj
            | some d1 =>
              rw [h1, h2] at hj
              have hj' : (if k1 = fk d then fd d else d1) = x := Option.some.inj hj
              rw [← hj']
              split
              · exact k3
              · exact nls_mem p6 (List.mem_of_getElem? h2)
        · refine nls_all fun x hx => ?_
          rcases List.mem_append.mp hx with z | z
          · exact nls_mem p6 z
          · rw [List.mem_singleton.mp z]; exact k3
  · have e : i = xs.length := by omega
    subst e
    rw [List.take_length] at p2 p5
    exact .inl ⟨w2, q _ H' (e2.trans p1) (dat_dic.mpr ⟨L, vs0, rfl, p2, p5⟩)⟩
end

/-! ## all(..), sum(..) of a generator expression -/
/-- the table of the def's code object -/
structure Tabl (T : List Addr) (X : Cx) (c P : Addr) : Prop where
  tb : LamX.TabB X.base X.mg c P
  code : X.env.code = .ref c
  mem : P ∈ T
abbrev XG (X : Cx) (scope : Scope) (s : Shared) (H : Hp) (A : Addr) (code : Value) (fp : List Addr) (pn : List (Addr × Obj)) : Cx := gCx X X.A.in1.in1 s H scope A code fp pn
def tSG (X : Cx) (scope : Scope) (e : Expr) : TE := fun σ H Q => ∀ s H0 A code fp pn, tS (XG X scope s H0 A code fp pn) e σ H Q
def CG (T : List Addr) (X : Cx) (scope : Scope) (e : Expr) (σ : L2.St) (H : Hp) (d : D) : Prop := ∀ s H0 A code fp pn, C T (XG X scope s H0 A code fp pn) e σ H d
section
variable {T : List Addr} {X : Cx} {σ : L2.St} {H H' : Hp} {tg iter elt : Expr} {xs : List D} {wi : TI} {scope : Scope} {own : List (Str × Nat)} {js : List Nat} {sp : D → Option (List D)} {g : TG} {pos p gpos : Pos} {k : Nat} {c P : Addr}
theorem c_all {f : D → Bool} (B : Blt X.mg) (hr : Room k X.A) (hT : Tb T H) (TB : Tabl T X c P) (hc : X.calm = true) (hN : X.N.Nodup) (hi : IterC T X tg iter σ H xs wi) (ok : GenOk X.N X.env.scope scope own) (hg : ∀ s H A code fp pn, PG (XG X scope s H A code fp pn) tg g) (ht : Tgt g sp js) (hj : ∀ j ∈ js, j ∈ own.map (·.2))
    (hs : ∀ d vs H1, d ∈ xs → Ex T H H1 → ∃ ds, sp d = some ds ∧ (Dats H1 ds vs → CG T X scope elt (setAll (wipe σ (own.map (·.2))) js vs) H1 (.bl (f d))))
    (hgl : Gl X "all" := by rfl) (hfold : ∀ v, genFold iter X.env v = pure v := by intro _; rfl) (he : starEach [.GeneratorExp elt [⟨tg, iter, [], 0⟩] scope gpos] X.env = (false, eval (.GeneratorExp elt [⟨tg, iter, [], 0⟩] scope gpos) X.env) :: starEach [] X.env := by rfl) :
    C T X (.Call (.Name "all" p) [.GeneratorExp elt [⟨tg, iter, [], 0⟩] scope gpos] [] pos) σ H (.bl (xs.all f)) := by
  refine c_of (pe_allG (te := tSG X scope elt) hr hgl B.all boot_all hN hc TB.tb TB.code ok hi.pi hg (fun s H A code fp pn => ⟨fun pins s' σ' H' Q I h => h s H A code fp pn pins s' I⟩) hfold he) fun H1 e1 Q q => ?_
  refine hi.run H1 e1 _ fun J H2 e2 w => ⟨(e1.trans e2).tab hT P TB.mem, fun H3 hT3 => ?_⟩
  have e3 : Ex T H2 H3 := Ex.tabbed ((e1.trans e2).tab hT P TB.mem) hT3
  refine ⟨fun i m H' => m = xs.length - i ∧ i ≤ xs.length ∧ Ex T H3 H' ∧ (xs.take i).all f = true, ⟨xs.length, by simp, Nat.zero_le _, Ex.refl T H3, rfl⟩, ?_⟩
  rintro i m H' ⟨rfl, hi, p1, p2⟩
  obtain ⟨w1, w2, w3⟩ := w H' (e3.trans p1)
  by_cases hlt : i < xs.length
  · refine .inr ⟨w1 i hlt, by omega, fun x H'' y => ?_⟩
    obtain ⟨rfl, d, y1, y2⟩ := w3 i x H'' hlt y
    have hmem : d ∈ xs := List.mem_of_getElem? y1
    have eH := ((e1.trans e2).trans e3).trans p1
    have hts : xs.take (i + 1) = xs.take i ++ [d] := by
      rw [List.take_succ, y1]
      rfl
    obtain ⟨ds, z1, _⟩ := hs d [] H'' hmem eH
    refine ht d ds x _ H'' _ z1 y2 fun vs hvs => ⟨wipe_setAll hj, ?_⟩
    obtain ⟨ds2, z2, z3⟩ := hs d vs H'' hmem eH
    rw [z1] at z2; cases z2
    intro s0 H0 A code fp pn
    refine z3 hvs s0 H0 A code fp pn H'' (Ex.refl T H'') _ fun v H4 e4 hv => ⟨f d, dat_bl.mp hv, ?_⟩
    cases hf : f d with
    | true =>
      rw [if_pos rfl]
      exact ⟨xs.length - (i + 1), by omega, rfl, hlt, p1.trans e4, by rw [hts, List.all_append, p2, List.all_cons, hf]; rfl⟩
    | false =>
      rw [if_neg Bool.false_ne_true]
      refine q _ H4 (((e2.trans e3).trans p1).trans e4) (dat_bl.mpr ?_)
      have z : xs.all f = false := by
        rw [List.all_eq_false]
        exact ⟨d, hmem, by rw [hf]; exact Bool.false_ne_true⟩
      rw [z]
  · have e : i = xs.length := by omega
    subst e
    rw [List.take_length] at p2
    exact .inl ⟨w2, q _ H' ((e2.trans e3).trans p1) (dat_bl.mpr (by rw [p2]))⟩
def sumI (f : D → Int) : List D → Int
  | [] => 0
  | d :: ds => f d + sumI f ds
theorem sumI_snoc (f : D → Int) (d : D) : ∀ ds : List D, sumI f (ds ++ [d]) = sumI f ds + f d
  | [] => by show f d + 0 = 0 + f d; omega
  | e :: ds => by
    show f e + sumI f (ds ++ [d]) = f e + sumI f ds + f d
    rw [sumI_snoc f d ds]
    omega
theorem c_sum {f : D → Int} (B : Blt X.mg) (hr : Room k X.A) (hT : Tb T H) (TB : Tabl T X c P) (hc : X.calm = true) (hN : X.N.Nodup) (hi : IterC T X tg iter σ H xs wi) (ok : GenOk X.N X.env.scope scope own) (hg : ∀ s H A code fp pn, PG (XG X scope s H A code fp pn) tg g) (ht : Tgt g sp js) (hj : ∀ j ∈ js, j ∈ own.map (·.2))
    (hs : ∀ d vs H1, d ∈ xs → Ex T H H1 → ∃ ds, sp d = some ds ∧ (Dats H1 ds vs → CG T X scope elt (setAll (wipe σ (own.map (·.2))) js vs) H1 (.int (f d))))
    (hgl : Gl X "sum" := by rfl) (hfold : ∀ v, genFold iter X.env v = pure v := by intro _; rfl) (he : starEach [.GeneratorExp elt [⟨tg, iter, [], 0⟩] scope gpos] X.env = (false, eval (.GeneratorExp elt [⟨tg, iter, [], 0⟩] scope gpos) X.env) :: starEach [] X.env := by rfl) :
    C T X (.Call (.Name "sum" p) [.GeneratorExp elt [⟨tg, iter, [], 0⟩] scope gpos] [] pos) σ H (.int (sumI f xs)) := by
  refine c_of (pe_sumG (te := tSG X scope elt) hr hgl B.sum boot_sum hN hc TB.tb TB.code ok hi.pi hg (fun s H A code fp pn => ⟨fun pins s' σ' H' Q I h => h s H A code fp pn pins s' I⟩) hfold he) fun H1 e1 Q q => ?_
  refine hi.run H1 e1 _ fun J H2 e2 w => ⟨(e1.trans e2).tab hT P TB.mem, fun H3 hT3 S hS => ?_⟩
  have e3 : Ex T H2 H3 := Ex.tabbed ((e1.trans e2).tab hT P TB.mem) hT3
  refine ⟨fun i m z H' => m = xs.length - i ∧ i ≤ xs.length ∧ Ex T H3 H' ∧ z = sumI f (xs.take i) ∧ H' S = some (.lst [.int z]), ⟨xs.length, by simp, Nat.zero_le _, Ex.new hS, rfl, upd_same⟩, fun i m z H' p => p.2.2.2.2, ?_⟩
  rintro i m z H' ⟨rfl, hi, p1, p2, p3⟩
  obtain ⟨w1, w2, w3⟩ := w H' (e3.trans p1)
  by_cases hlt : i < xs.length
  · refine .inr ⟨w1 i hlt, by omega, fun x H'' y => ?_⟩
    obtain ⟨rfl, d, y1, y2⟩ := w3 i x H'' hlt y
    have hmem : d ∈ xs := List.mem_of_getElem? y1
    have eH := ((e1.trans e2).trans e3).trans p1
    have hts : xs.take (i + 1) = xs.take i ++ [d] := by
      rw [List.take_succ, y1]
      rfl
    obtain ⟨ds, z1, _⟩ := hs d [] H'' hmem eH
    refine ht d ds x _ H'' _ z1 y2 fun vs hvs => ⟨wipe_setAll hj, ?_⟩
    obtain ⟨ds2, z2, z3⟩ := hs d vs H'' hmem eH
    rw [z1] at z2; cases z2
    intro s0 H0 A code fp pn
    refine z3 hvs s0 H0 A code fp pn H'' (Ex.refl T H'') _ fun v H4 e4 hv => ?_
    have a4 := e4.old _ _ p3 (fun _ z => by cases z)
    refine ⟨a4, f d, dat_int.mp hv, xs.length - (i + 1), by omega, rfl, hlt, Ex.mut (p1.trans e4) hS (fun ps z => by rw [a4] at z; cases z), ?_, upd_same⟩
    rw [hts, sumI_snoc, p2]
  · have e : i = xs.length := by omega
    subst e
    rw [List.take_length] at p2
    exact .inl ⟨w2, q _ H' ((e2.trans e3).trans p1) (dat_int.mpr (by rw [p2]))⟩
end
end G3

set_option Elab.async false
set_option linter.all false
set_option maxRecDepth 100000
set_option maxHeartbeats 4000000
namespace G3
open PySem PySem.Spec PyProof.Rows L2 GX
open GxR (TabG Tabbed)
open C8 (Cal scC fnArgs fnBody fnScope pe_c E0 fnScope_by)

/-! ## Blocks -/
/-- a block either hands back the datum or comes to its end with P -/
def W (T : List Addr) (X : Cx) (body : List Stmt) (σ : L2.St) (H : Hp) (d : Option D) (P : L2.St → Hp → Prop) : Prop :=
  ∀ H1, Ex T H H1 → ∀ E : Ends, (∀ v H2 d0, d = some d0 → Ex T H1 H2 → Dat H2 d0 v → E.rt v H2) → (∀ σ' H2, Ex T H1 H2 → P σ' H2 → E.nx σ' H2) → tSS X body E σ H1
def PF : L2.St → Hp → Prop := fun _ _ => False
section
variable {T : List Addr} {X : Cx} {σ : L2.St} {H H' : Hp} {tg iter e c : Expr} {xs : List D} {wi : TI} {js : List Nat} {sp : D → Option (List D)} {g : TG} {pos p p2 : Pos} {P P1 : L2.St → Hp → Prop} {d : Option D} {dd : D} {rest body a b : List Stmt} {st : Stmt}
theorem W.mono (h : W T X body σ H d P) (q : Ex T H H') : W T X body σ H' d P := fun H1 e1 => h H1 (q.trans e1)
theorem w_of {t : TS} (p : PSs X body t) (r : ∀ H1, Ex T H H1 → ∀ E : Ends, (∀ v H2 d0, d = some d0 → Ex T H1 H2 → Dat H2 d0 v → E.rt v H2) → (∀ σ' H2, Ex T H1 H2 → P σ' H2 → E.nx σ' H2) → t E σ H1) : W T X body σ H d P := fun H1 e1 E q n pins s I => p.run pins s σ H1 E I (r H1 e1 E q n)
theorem w_nil (h : ∀ H1, Ex T H H1 → P σ H1) : W T X [] σ H d P := w_of pss_nil fun H1 e1 E q n => n σ H1 (Ex.refl T H1) (h H1 e1)
theorem w_ret (h : C T X e σ H dd) : W T X (.Return (some e) pos :: rest) σ H (some dd) P := w_of (pss_cons (ps_ret pe_s) pss_s) fun H1 e1 E q n => h H1 e1 _ fun v H2 e2 hv => q v H2 dd rfl e2 hv
theorem w_set {n : Str} {i : Nat} (hN : X.N.Nodup) (h : C T X e σ H dd) (hr : ∀ v H1, Ex T H H1 → Dat H1 dd v → W T X rest (σ.set i (some v)) H1 d P) (hi : X.N[i]? = some n := by rfl) (hx : Loc X.env.scope n := by first | exact Or.inl rfl | exact Or.inr rfl)
    (hs : swapsWith e (some (.Name n p2)) pos.line X.env = pure false := by rfl) (hf : X.fn n = true ∨ X.env.scope.names.lookup n = some .local := by first | exact .inl rfl | exact .inr rfl) : W T X (.Assign [.Name n p2] e pos :: rest) σ H d P :=
  w_of (pss_cons (ps_set (i := i) hN hi hx pe_s hs hf) pss_s) fun H1 e1 E q n => h H1 e1 _ fun v H2 e2 hv => hr v H2 (e1.trans e2) hv H2 (Ex.refl T H2) E (fun v H3 d0 hd e3 hv => q v H3 d0 hd (e2.trans e3) hv) fun σ' H3 e3 hp => n σ' H3 (e2.trans e3) hp
/-- if c: (returns) .. -/
theorem w_if {k : Bool} (hc : CT T X c σ H k) (ha : k = true → W T X a σ H d PF) (hr : k = false → W T X rest σ H d P) : W T X (.If c a [] pos :: rest) σ H d P :=
  w_of (pss_cons (ps_if pt_s pss_s pss_nil) pss_s) fun H1 e1 E q n => hc H1 e1 _ fun H2 e2 => by
    cases k with
    | true =>
      rw [if_pos rfl]
      exact ha rfl H2 (e1.trans e2) _ (fun v H3 d0 hd e3 hv => q v H3 d0 hd (e2.trans e3) hv) fun σ' H3 e3 hp => hp.elim
    | false =>
      rw [if_neg Bool.false_ne_true]
      exact hr rfl H2 (e1.trans e2) E (fun v H3 d0 hd e3 hv => q v H3 d0 hd (e2.trans e3) hv) fun σ' H3 e3 hp => n σ' H3 (e2.trans e3) hp
/-- target, .. = e -/
theorem w_asg {ds : List D} (h : C T X e σ H dd) (hg : PG X tg g) (ht : Tgt g sp js) (hsp : sp dd = some ds) (hr : ∀ vs H1, Ex T H H1 → Dats H1 ds vs → W T X rest (setAll σ js vs) H1 d P)
    (hs : swapsWithSole [tg] e pos.line X.env = pure false := by rfl) (hw : swappedStores [tg] e X.env = pure none := by rfl) (h1 : (assignEach [tg] X.env).map (·.2) = [assign tg X.env] := by rfl) : W T X (.Assign [tg] e pos :: rest) σ H d P :=
  w_of (pss_cons (ps_asg pe_s hg hs hw h1) pss_s) fun H1 e1 E q n => h H1 e1 _ fun v H2 e2 hv => ht dd ds v σ H2 _ hsp hv fun vs hvs => hr vs H2 (e1.trans e2) hvs H2 (Ex.refl T H2) E (fun v H3 d0 hd e3 hv => q v H3 d0 hd (e2.trans e3) hv) fun σ' H3 e3 hp => n σ' H3 (e2.trans e3) hp
/-- x, y = a, b -/
theorem w_par {i j : Nat} {x y : Str} {a b : Expr} {px py pt pt2 : Pos} {kt k2 : Nat} {d1 d2 : D} (hc : X.calm = true) (hN : X.N.Nodup) (ha : CA T X [a, b] σ H [d1, d2]) (hr : ∀ v w H1, Ex T H H1 → Dat H1 d1 v → Dat H1 d2 w → W T X rest ((σ.set i (some v)).set j (some w)) H1 d P)
    (hi : X.N[i]? = some x := by rfl) (hj : X.N[j]? = some y := by rfl) (hij : i ≠ j := by decide) (hx : X.env.scope.names.lookup x = some .local := by rfl) (hy : X.env.scope.names.lookup y = some .local := by rfl)
    (hw : swappedStores [.Tuple [.Name x px, .Name y py] kt pt] (.Tuple [a, b] k2 pt2) X.env = pure (some [x, y]) := by rfl) (hs : swapsWithSole [.Tuple [.Name x px, .Name y py] kt pt] (.Tuple [a, b] k2 pt2) pos.line X.env = pure false := by rfl) :
    W T X (.Assign [.Tuple [.Name x px, .Name y py] kt pt] (.Tuple [a, b] k2 pt2) pos :: rest) σ H d P :=
  w_of (pss_cons (ps_par hc hN hi hj hij hx hy pa_s hw hs) pss_s) fun H1 e1 E q n => ha H1 e1 _ fun vs H2 e2 hvs => by
    obtain ⟨v, r, z1, z2, z3⟩ := dats_cons.mp hvs
    obtain ⟨w, r', z4, z5, z6⟩ := dats_cons.mp z3
    rw [dats_nil.mp z6] at z4
    subst z4
    subst z1
    exact ⟨v, w, rfl, hr v w H2 (e1.trans e2) z2 z5 H2 (Ex.refl T H2) E (fun v H3 d0 hd e3 hv => q v H3 d0 hd (e2.trans e3) hv) fun σ' H3 e3 hp => n σ' H3 (e2.trans e3) hp⟩
/-- for tg in iter: body -/
theorem w_for (Pv : Nat → L2.St → Hp → Prop) (hp : PassesOwn (model X.prog X.w) X.A X.env X.xe) (hc : X.calm = true) (hi : IterC T X tg iter σ H xs wi) (hg : PG X tg g) (ht : Tgt g sp js) (h0 : ∀ H1, Ex T H H1 → Pv 0 σ H1)
    (hs : ∀ i dd vs σ' H1, xs[i]? = some dd → Ex T H H1 → Pv i σ' H1 → ∃ ds, sp dd = some ds ∧ (Dats H1 ds vs → W T X body (setAll σ' js vs) H1 d (Pv (i + 1))))
    (hr : ∀ σ' H1, Ex T H H1 → Pv xs.length σ' H1 → W T X rest σ' H1 d P) (hfold : ∀ x, foldedSetIterable iter X.env x = pure x := by intro _; rfl) : W T X (.For tg iter body [] pos :: rest) σ H d P :=
  w_of (pss_cons (ps_for hp hc hi.pi hg pss_s hfold) pss_s) fun H1 e1 E q n => by
    refine hi.run H1 e1 _ fun J H2 e2 w => ?_
    have w' : Walk J xs.length (fun H' => Ex T H2 H') (fun i H x H' => H' = H ∧ ∃ d, xs[i]? = some d ∧ Dat H d x) :=
      ⟨fun i H' hi e => (w H' e).1 i hi, fun H' e => (w H' e).2.1, fun i H' x H'' hi e y => (w H' e).2.2 i x H'' hi y⟩
    refine for_it w' (fun i σ' H' => Ex T H2 H' ∧ Pv i σ' H') ⟨Ex.refl T H2, h0 H2 (e1.trans e2)⟩ (fun i σ' H' _ p => p.1) (fun i x σ' H' H'' hi p y => ?_) fun σ' H' p => ?_
    · obtain ⟨rfl, dd, y1, y2⟩ := y
      obtain ⟨ds, z1, _⟩ := hs i dd [] σ' H'' y1 ((e1.trans e2).trans p.1) p.2
      refine ht dd ds x σ' H'' _ z1 y2 fun vs hvs => ?_
      obtain ⟨ds2, z2, z3⟩ := hs i dd vs σ' H'' y1 ((e1.trans e2).trans p.1) p.2
      rw [z1] at z2; cases z2
      exact z3 hvs H'' (Ex.refl T H'') _ (fun v H3 d0 hd e3 hv => q v H3 d0 hd ((e2.trans p.1).trans e3) hv) fun σ2 H3 e3 hp => ⟨p.1.trans e3, hp⟩
    · exact hr σ' H' ((e1.trans e2).trans p.1) p.2 H' (Ex.refl T H') E (fun v H3 d0 hd e3 hv => q v H3 d0 hd ((e2.trans p.1).trans e3) hv) fun σ2 H3 e3 hp => n σ2 H3 ((e2.trans p.1).trans e3) hp
end

/-! ## Defs that answer data with data -/
def spD (T : List Addr) (n : Nat) (pre : List D → Prop) (f : List D → D) : Sp := fun vs H Q _ => ∃ ds, ds.length = n ∧ Dats H ds vs ∧ pre ds ∧ Tb T H ∧ ∀ v H', Ex T H H' → Dat H' (f ds) v → Q v H'
section
variable {T : List Addr} {X : Cx} {σ : L2.St} {H H' : Hp} {e : Expr} {es : List Expr} {ds : List D} {x : Str} {p pos : Pos} {k j n : Nat} {pre : List D → Prop} {f : List D → D}
theorem c_call (F : Cal X.prog X.w X.K X.mg X.base k x (spD T n pre f) []) (hr : Room j X.A) (hk : k ≤ j) (hT : Tb T H) (ha : CA T X (e :: es) σ H ds) (hn : ds.length = n) (hp : pre ds) (hg : Gl X x := by rfl)
    (hdb : (x == ("__debug__" : Str)) = false := by decide) (he : starEach (e :: es) X.env = (false, eval e X.env) :: starEach es X.env := by rfl) (hpl : (backTo pos (starEach es X.env)).any (·.1) = false := by rfl) :
    C T X (.Call (.Name x p) (e :: es) [] pos) σ H (f ds) :=
  c_of (pe_c F hr hk hg pa_s hdb he hpl) fun H1 e1 Q q => ha H1 e1 _ fun vs H2 e2 hv => ⟨ds, hn, by rw [List.append_nil]; exact hv, hp, (e1.trans e2).tab hT, fun v H' e3 hv => q v H' (e2.trans e3) hv⟩
theorem cc {d : D} (F : Cal X.prog X.w X.K X.mg X.base k x (spD T n pre f) []) (hr : Room j X.A) (hk : k ≤ j) (hT : Tb T H) (ha : CA T X (e :: es) σ H ds) (hn : ds.length = n) (hp : pre ds) (q : f ds = d) (hg : Gl X x := by rfl)
    (hdb : (x == ("__debug__" : Str)) = false := by decide) (he : starEach (e :: es) X.env = (false, eval e X.env) :: starEach es X.env := by rfl) (hpl : (backTo pos (starEach es X.env)).any (·.1) = false := by rfl) :
    C T X (.Call (.Name x p) (e :: es) [] pos) σ H d := q ▸ c_call F hr hk hT ha hn hp hg hdb he hpl
end
/-- a def of the text by its name; cd: its code object -/
structure Dfn (K : PySem.W.Frag) (mg : Str → Option Value) (x : Str) (st : Stmt) (cd : Value) : Prop where
  ex : ∃ (f : Addr) (oc : Value) (od : Option Addr) (kV doc pm : Value) (an : Option Addr) (ct : Value) (osl : Array (Option Value)), mg x = some (.ref f) ∧ PySem.W.keepIn K (.ref f) = true ∧
    K.lookup f = some ⟨oc, od, .func (PySem.W.fnOf x x (fnArgs st) (fnBody st) (fnScope st) .none kV doc pm an cd ct), osl⟩ ∧ PySem.W.codeIn K cd x = true
/-- the context in which a def's body runs -/
abbrev XF (P : Program) (w : World) (K : PySem.W.Frag) (mg : Str → Option Value) (base : Heap) (N : List Str) (x : Str) (st : Stmt) (f : Addr) (cd : Value) (A : Around) (outer : List Env) (s : Shared) (H : Hp) (E : XK) : Cx := (cxOf CX0 P w K mg base N x (fnScope st) f cd A outer s H E).nox
theorem calG {P : Program} {w : World} {K : PySem.W.Frag} {mg : Str → Option Value} {base : Heap} {x : Str} {st : Stmt} {cd : Value} {N ps : List Str} {k : Nat} {sp : Sp} (F : Dfn K mg x st cd) (S : scC N ps (fnScope st) = true) (len : ∀ vs H Q E, sp vs H Q E → vs.length = ps.length)
    (hb : ∀ (kV doc pm : Value) (an : Option Addr) (ct : Value) (us : List Value), us.length = ps.length → bindArgs (PySem.W.fnOf x x (fnArgs st) (fnBody st) (fnScope st) .none kV doc pm an cd ct) ⟨us, []⟩ = pure (ps.zip us))
    (body : ∀ (f : Addr) (A : Around) (outer : List Env) (s : Shared) (H : Hp) (E : XK) (vs : List V) (Q : VK), Room k (XF P w K mg base N x st f cd A outer s H E).A → sp vs H Q E → tSS (XF P w K mg base N x st f cd A outer s H E) (fnBody st) { nx := fun _ H' => Q .non H', rt := Q } (start N vs) H) :
    Cal P w K mg base (k + 1) x sp [] := by
  obtain ⟨f, oc, od, kV, doc, pm, an, ct, osl, h1, h2, h3, h4⟩ := F.ex
  refine ⟨f, _, ps, [], ?_, h1, h2, .all (hb kV doc pm an ct), .nil⟩
  refine fn_of h3 h4 (fnScope_by S) len fun A outer s H vs Q E hr hsp => ?_
  exact ⟨_, PSs.nox pss_s, body f A outer s H E vs Q hr hsp⟩
theorem calD {P : Program} {w : World} {K : PySem.W.Frag} {mg : Str → Option Value} {base : Heap} {x : Str} {st : Stmt} {cd : Value} {N ps : List Str} {k n : Nat} {T : List Addr} {pre : List D → Prop} {g : List D → D} (F : Dfn K mg x st cd) (S : scC N ps (fnScope st) = true) (hn : ps.length = n)
    (hb : ∀ (kV doc pm : Value) (an : Option Addr) (ct : Value) (us : List Value), us.length = ps.length → bindArgs (PySem.W.fnOf x x (fnArgs st) (fnBody st) (fnScope st) .none kV doc pm an cd ct) ⟨us, []⟩ = pure (ps.zip us))
    (body : ∀ (f : Addr) (A : Around) (outer : List Env) (s : Shared) (H : Hp) (E : XK) (vs : List V) (ds : List D), Room k (XF P w K mg base N x st f cd A outer s H E).A → ds.length = n → Dats H ds vs → pre ds → Tb T H →
      W T (XF P w K mg base N x st f cd A outer s H E) (fnBody st) (start N vs) H (some (g ds)) PF) :
    Cal P w K mg base (k + 1) x (spD T n pre g) [] := by
  refine calG F S (fun vs H Q E h => ?_) hb fun f A outer s H E vs Q hr h => ?_
  · obtain ⟨ds, h1, h2, _⟩ := h
    rw [h2.length, h1, hn]
  · obtain ⟨ds, h1, h2, h3, h4, q⟩ := h
    exact body f A outer s H E vs ds hr h1 h2 h3 h4 H (Ex.refl T H) _ (fun v H2 d0 hd e2 hv => by
      cases hd
      exact q v H2 e2 hv) fun σ' H2 _ hp => hp.elim
end G3

set_option Elab.async false
set_option linter.all false
set_option maxRecDepth 100000
set_option maxHeartbeats 4000000
namespace G3
open PySem PySem.Spec PyProof.Rows L2 GX
open GxR (TabG Tabbed)
open C8 (Cal scC fnArgs fnBody fnScope pe_c E0 fnScope_by)
def top (i : Nat) : Stmt := PySem.Challenge.pw_staged_k00_whole_programs.main.body.getD i (.Pass ⟨0, 0, 0, 0⟩)
def takenS : List Str := ["if", "then", "else", "mod", "a", "b", "c", "d", "e"]
def pairsS : List Str := ["plus", "minus", "times"]
def lettersS : Str := "abcdefghijklmnopqrstuvwxyz"
/-- the module's names -/
structure Mgs (K : PySem.W.Frag) (mg : Str → Option Value) : Prop where
  B : Blt mg
  number : ∃ t, mg "MOST_NUMBER" = some (.int 1000000 t)
  given : ∃ t, mg "MOST_GIVEN" = some (.int 1000 t)
  move : ∃ t, mg "MOST_MOVE" = some (.int 5 t)
  rest : ∃ t, mg "MOST_REST" = some (.int 6 t)
  lates : ∃ t, mg "MOST_LATES" = some (.int 4 t)
  functions : ∃ t, mg "MOST_FUNCTIONS" = some (.int 8 t)
  nodes : ∃ t, mg "MOST_NODES" = some (.int 300 t)
  letters8 : ∃ t, mg "MOST_LETTERS" = some (.int 8 t)
  deep : ∃ t, mg "MOST_DEEP" = some (.int 30 t)
  letters : ∃ t, mg "LETTERS" = some (.str lettersS t)
  taken : KL K mg "TAKEN" takenS
  pairs : KL K mg "PAIRS" pairsS
theorem g_number {T : List Addr} {X : Cx} {σ : L2.St} {H : Hp} {pos : Pos} (M : Mgs X.K X.mg) (hg : Gl X "MOST_NUMBER" := by rfl) : C T X (.Name "MOST_NUMBER" pos) σ H (.int 1000000) := by
  obtain ⟨t, m⟩ := M.number
  exact c_globI hg m
theorem g_given {T : List Addr} {X : Cx} {σ : L2.St} {H : Hp} {pos : Pos} (M : Mgs X.K X.mg) (hg : Gl X "MOST_GIVEN" := by rfl) : C T X (.Name "MOST_GIVEN" pos) σ H (.int 1000) := by
  obtain ⟨t, m⟩ := M.given
  exact c_globI hg m
theorem g_move {T : List Addr} {X : Cx} {σ : L2.St} {H : Hp} {pos : Pos} (M : Mgs X.K X.mg) (hg : Gl X "MOST_MOVE" := by rfl) : C T X (.Name "MOST_MOVE" pos) σ H (.int 5) := by
  obtain ⟨t, m⟩ := M.move
  exact c_globI hg m
theorem g_rest {T : List Addr} {X : Cx} {σ : L2.St} {H : Hp} {pos : Pos} (M : Mgs X.K X.mg) (hg : Gl X "MOST_REST" := by rfl) : C T X (.Name "MOST_REST" pos) σ H (.int 6) := by
  obtain ⟨t, m⟩ := M.rest
  exact c_globI hg m
theorem g_lates {T : List Addr} {X : Cx} {σ : L2.St} {H : Hp} {pos : Pos} (M : Mgs X.K X.mg) (hg : Gl X "MOST_LATES" := by rfl) : C T X (.Name "MOST_LATES" pos) σ H (.int 4) := by
  obtain ⟨t, m⟩ := M.lates
  exact c_globI hg m
theorem g_functions {T : List Addr} {X : Cx} {σ : L2.St} {H : Hp} {pos : Pos} (M : Mgs X.K X.mg) (hg : Gl X "MOST_FUNCTIONS" := by rfl) : C T X (.Name "MOST_FUNCTIONS" pos) σ H (.int 8) := by
  obtain ⟨t, m⟩ := M.functions
  exact c_globI hg m
theorem g_nodes {T : List Addr} {X : Cx} {σ : L2.St} {H : Hp} {pos : Pos} (M : Mgs X.K X.mg) (hg : Gl X "MOST_NODES" := by rfl) : C T X (.Name "MOST_NODES" pos) σ H (.int 300) := by
  obtain ⟨t, m⟩ := M.nodes
  exact c_globI hg m
theorem g_letters8 {T : List Addr} {X : Cx} {σ : L2.St} {H : Hp} {pos : Pos} (M : Mgs X.K X.mg) (hg : Gl X "MOST_LETTERS" := by rfl) : C T X (.Name "MOST_LETTERS" pos) σ H (.int 8) := by
  obtain ⟨t, m⟩ := M.letters8
  exact c_globI hg m
theorem g_deep {T : List Addr} {X : Cx} {σ : L2.St} {H : Hp} {pos : Pos} (M : Mgs X.K X.mg) (hg : Gl X "MOST_DEEP" := by rfl) : C T X (.Name "MOST_DEEP" pos) σ H (.int 30) := by
  obtain ⟨t, m⟩ := M.deep
  exact c_globI hg m
theorem g_letters {T : List Addr} {X : Cx} {σ : L2.St} {H : Hp} {pos : Pos} (M : Mgs X.K X.mg) (hg : Gl X "LETTERS" := by rfl) : C T X (.Name "LETTERS" pos) σ H (.str lettersS) := by
  obtain ⟨t, m⟩ := M.letters
  exact c_globS hg m
theorem ixN_nat {n i : Nat} (h : i < n) : ixN n (i : Int) = some i := by
  unfold ixN
  simp [h]
theorem dats1 {H : Hp} {a : D} {vs : List V} (h : Dats H [a] vs) : ∃ x, vs = [x] ∧ Dat H a x := by
  obtain ⟨x, r, e, q, q2⟩ := dats_cons.mp h
  rw [dats_nil.mp q2] at e
  exact ⟨x, e, q⟩
theorem dats2 {H : Hp} {a b : D} {vs : List V} (h : Dats H [a, b] vs) : ∃ x y, vs = [x, y] ∧ Dat H a x ∧ Dat H b y := by
  obtain ⟨x, r, e, q, q2⟩ := dats_cons.mp h
  obtain ⟨y, e2, q3⟩ := dats1 q2
  exact ⟨x, y, by rw [e, e2], q, q3⟩
theorem dats3 {H : Hp} {a b c : D} {vs : List V} (h : Dats H [a, b, c] vs) : ∃ x y z, vs = [x, y, z] ∧ Dat H a x ∧ Dat H b y ∧ Dat H c z := by
  obtain ⟨x, r, e, q, q2⟩ := dats_cons.mp h
  obtain ⟨y, z, e2, q3⟩ := dats2 q2
  exact ⟨x, y, z, by rw [e, e2], q, q3⟩
theorem dats4 {H : Hp} {a b c d : D} {vs : List V} (h : Dats H [a, b, c, d] vs) : ∃ x y z u, vs = [x, y, z, u] ∧ Dat H a x ∧ Dat H b y ∧ Dat H c z ∧ Dat H d u := by
  obtain ⟨x, r, e, q, q2⟩ := dats_cons.mp h
  obtain ⟨y, z, u, e2, q3⟩ := dats3 q2
  exact ⟨x, y, z, u, by rw [e, e2], q, q3⟩
theorem int_of {d : D} (h : d.isInt = true) (h2 : (!d.isBl) = true) : ∃ i, d = .int i := by
  cases d with
  | int i => exact ⟨i, rfl⟩
  | bl b => exact nomatch h2
  | _ => exact nomatch h
theorem str_of {d : D} (h : d.isStr = true) : ∃ i, d = .str i := by
  cases d with
  | str i => exact ⟨i, rfl⟩
  | _ => exact nomatch h
theorem tup_of {d : D} (h : d.isTup = true) : ∃ i, d = .tup i := by
  cases d with
  | tup i => exact ⟨i, rfl⟩
  | _ => exact nomatch h

/-! ## is_in -/
def inB (v : D) (lo hi : Int) : Bool := match v with
  | .int i => decide (lo ≤ i) && decide (i ≤ hi)
  | _ => false
def isIn (v : D) (lo hi : Int) : Bool := v.isInt && (!v.isBl && inB v lo hi)
/-- the answers of the defs, by the list of arguments -/
def fIn : List D → D
  | [v, .int lo, .int hi] => .bl (isIn v lo hi)
  | _ => .non
section
variable {P : Program} {w : World} {K : PySem.W.Frag} {mg : Str → Option Value} {base : Heap} {T : List Addr} {cd : Value}
theorem def_is_in (M : Mgs K mg) (F : Dfn K mg "is_in" (top 18) cd) : Cal P w K mg base 1 "is_in" (spD T 3 (fun ds => ∃ v lo hi, ds = [v, .int lo, .int hi]) fIn) [] := by
  refine calD (N := ["value", "least", "most"]) (ps := ["value", "least", "most"]) F (by decide +kernel) rfl (fun _ _ _ _ _ us hl => match us, hl with | [_, _, _], _ => rfl) fun f A outer s H E vs ds hr hn hv hp hT => ?_
  obtain ⟨v, lo, hi, rfl⟩ := hp
  obtain ⟨x, y, z, rfl, hx, hy, hz⟩ := dats3 hv
  have B := M.B
  refine w_ret (c_and (c_isi_int B (ha := cv 0 hx)) fun h1 => c_and (c_not (c_isi_bool B (ha := cv 0 hx))) fun h2 => ?_)
  obtain ⟨i, rfl⟩ := int_of h1 h2
  exact c_one (c_leLe (cv 1 hy) (cv 0 hx) (cv 2 hz))

/-! ## is_name, is_tuple, is_move -/
def letterB : D → Bool
  | .str z => z.cps.toList.all fun c => decide (c ∈ lettersS.cps.toList)
  | _ => false
def badS (s : Str) : Bool := !(decide (1 ≤ (s.length : Int)) && decide ((s.length : Int) ≤ 8)) || decide (s ∈ takenS)
def nameS (s : Str) : Bool := !badS s && (signs s).all letterB
def isName : D → Bool
  | .str s => nameS s
  | _ => false
/-- texts are short -/
def shortD : D → Bool
  | .str s => decide (s.length ≤ 1000)
  | _ => true
def fName : List D → D
  | [v] => .bl (isName v)
  | _ => .non
theorem short_str {s : Str} (h : shortD (.str s) = true) : s.length ≤ 100000 := Nat.le_trans (of_decide_eq_true h) (by decide)
theorem def_is_name (M : Mgs K mg) {c Pt : Addr} (tb : LamX.TabB base mg c Pt) (hPt : Pt ∈ T) (F : Dfn K mg "is_name" (top 19) (.ref c)) : Cal P w K mg base 2 "is_name" (spD T 1 (fun ds => ∃ v, ds = [v] ∧ shortD v = true) fName) [] := by
  refine calD (N := ["value", "letter"]) (ps := ["value"]) F (by decide +kernel) rfl (fun _ _ _ _ _ us hl => match us, hl with | [_], _ => rfl) fun f A outer s H E vs ds hr hn hv hp hT => ?_
  obtain ⟨v, rfl, hs⟩ := hp
  obtain ⟨x, rfl, hx⟩ := dats1 hv
  have B := M.B
  have nd : (["value", "letter"] : List Str).Nodup := by decide
  by_cases hv : v.isStr = true
  · obtain ⟨z, rfl⟩ := str_of hv
    refine w_if (k := badS z) (ct_w (CW.is (cw_or (ct_not (ct_val (c_isi_str B (ha := cv 0 hx)))) fun _ => cw_or (ct_not (ct_leLe c_int (c_lenS B (cv 0 hx) (short_str hs)) (g_letters8 M))) fun _ => cw_or1 (ct_c (c_inK (cv 0 hx) M.taken rfl))) rfl)) (fun h => w_ret ?_) fun h => w_ret ?_
    · exact C.is c_bl (by show D.bl false = .bl (nameS z); unfold nameS; rw [h]; rfl)
    · refine C.is (c_all (f := letterB) (js := [1]) (own := [("letter", 1)]) B hr hT ⟨tb, rfl, hPt⟩ rfl nd (it_str (cv 0 hx)) (genOk_by (show genB ["value", "letter"] (fnScope (top 19)) _ _ = true by decide +kernel)) (fun _ _ _ _ _ _ => pg_name (i := 1) nd rfl (Or.inl rfl)) (tgt_name 1) (by decide) fun d vs H1 hd e1 => ⟨[d], rfl, fun hvs s0 H0 A0 code fp pn => ?_⟩) (by show D.bl _ = .bl (nameS z); unfold nameS; rw [h]; rfl)
      obtain ⟨y, rfl, hy⟩ := dats1 hvs
      obtain ⟨ch, _, rfl⟩ := List.mem_map.mp hd
      exact C.is (c_inSign (cv 1 hy) (g_letters M)) (by simp [letterB])
  · refine w_if (k := true) (ct_w (CW.is (cw_or (ct_not (ct_val (c_isi_str B (ha := cv 0 hx)))) (j := true) fun h => absurd h ?_) ?_)) (fun h => w_ret ?_) fun h => nomatch h
    · intro h2
      rw [Bool.not_eq_false'] at h2
      exact hv h2
    · exact Bool.or_true _
    · exact C.is c_bl (by cases v <;> first | rfl | exact absurd rfl hv)
def isTuple (v : D) (m : Int) : Bool := match v with
  | .tup xs => decide ((xs.length : Int) = m) && (match xs with
    | x :: _ => x.isStr
    | [] => false)
  | _ => false
def fTup : List D → D
  | [v, .int m] => .bl (isTuple v m)
  | _ => .non
theorem def_is_tuple (M : Mgs K mg) (F : Dfn K mg "is_tuple" (top 20) cd) : Cal P w K mg base 1 "is_tuple" (spD T 2 (fun ds => ∃ v m, ds = [v, .int m] ∧ 1 ≤ m) fTup) [] := by
  refine calD (N := ["value", "many"]) (ps := ["value", "many"]) F (by decide +kernel) rfl (fun _ _ _ _ _ us hl => match us, hl with | [_, _], _ => rfl) fun f A outer s H E vs ds hr hn hv hp hT => ?_
  obtain ⟨v, m, rfl, hm⟩ := hp
  obtain ⟨x, y, rfl, hx, hy⟩ := dats2 hv
  have B := M.B
  refine w_ret ?_
  by_cases hv : v.isTup = true
  · obtain ⟨xs, rfl⟩ := tup_of hv
    cases xs with
    | nil =>
      refine C.is (c_and (c_isi_tuple B (ha := cv 0 hx)) fun _ => c_and (j := false) (c_eqI (c_lenT B (cv 0 hx)) (cv 1 hy)) fun h => ?_) rfl
      have h : (0 : Int) = m := of_decide_eq_true h
      exact absurd hm (by rw [← h]; decide)
    | cons x0 xr => exact C.is (c_and (c_isi_tuple B (ha := cv 0 hx)) fun _ => c_and (c_eqI (c_lenT B (cv 0 hx)) (cv 1 hy)) fun h => c_one (c_isi_str B (ha := c_ixT (cv 0 hx) c_int (fun _ _ => rfl) (j := 0) (ixN_nat (Nat.zero_lt_succ _)) rfl))) rfl
  · refine C.is (c_and (j := true) (c_isi_tuple B (ha := cv 0 hx)) fun h => absurd h hv) ?_
    cases v <;> first | rfl | exact absurd rfl hv
/-- the i-th item -/
def D.ix (d : D) (i : Nat) : D := match d with
  | .tup xs => xs.getD i .non
  | _ => .non
def D.tl (d : D) (i : Nat) : List D := match d with
  | .tup xs => xs.drop i
  | _ => []
theorem isTuple_of {v : D} {m : Int} (h : isTuple v m = true) : ∃ k r, v = .tup (.str k :: r) ∧ ((r.length : Int) + 1 = m) := by
  cases v with
  | tup xs =>
    cases xs with
    | nil => unfold isTuple at h; simp at h
    | cons x r =>
      unfold isTuple at h
      simp only [Bool.and_eq_true] at h
      obtain ⟨k, rfl⟩ := str_of h.2
      exact ⟨k, r, rfl, by have z := of_decide_eq_true h.1; rw [List.length_cons] at z; omega⟩
  | _ => exact nomatch h
theorem len1 {r : List D} (h : (r.length : Int) + 1 = 1) : r = [] := List.eq_nil_of_length_eq_zero (by omega)
theorem len2 {r : List D} (h : (r.length : Int) + 1 = 2) : ∃ a, r = [a] := by
  match r, h with
  | [a], _ => exact ⟨a, rfl⟩
  | [], h => simp at h
  | _ :: _ :: _, h => simp only [List.length_cons] at h; omega
theorem len3 {r : List D} (h : (r.length : Int) + 1 = 3) : ∃ a b, r = [a, b] := by
  match r, h with
  | [a, b], _ => exact ⟨a, b, rfl⟩
  | [], h => simp at h
  | [_], h => simp only [List.length_cons, List.length_nil] at h; omega
  | _ :: _ :: _ :: _, h => simp only [List.length_cons] at h; omega
theorem len4 {r : List D} (h : (r.length : Int) + 1 = 4) : ∃ a b c, r = [a, b, c] := by
  match r, h with
  | [a, b, c], _ => exact ⟨a, b, c, rfl⟩
  | [], h => simp at h
  | [_], h => simp only [List.length_cons, List.length_nil] at h; omega
  | [_, _], h => simp only [List.length_cons, List.length_nil] at h; omega
  | _ :: _ :: _ :: _ :: _, h => simp only [List.length_cons] at h; omega
def isMove (v : D) : Bool := isTuple v 2 && (if (v.ix 0).eqS "give" then isIn (v.ix 1) 0 1000 else (v.ix 0).eqS "move" && isIn (v.ix 1) (-5) 5)
def fMove : List D → D
  | [v] => .bl (isMove v)
  | _ => .non
theorem def_is_move (M : Mgs K mg) (C1 : Cal P w K mg base 1 "is_in" (spD T 3 (fun ds => ∃ v lo hi, ds = [v, .int lo, .int hi]) fIn) []) (C2 : Cal P w K mg base 1 "is_tuple" (spD T 2 (fun ds => ∃ v m, ds = [v, .int m] ∧ 1 ≤ m) fTup) [])
    (F : Dfn K mg "is_move" (top 21) cd) : Cal P w K mg base 2 "is_move" (spD T 1 (fun ds => ∃ v, ds = [v]) fMove) [] := by
  refine calD (N := ["value"]) (ps := ["value"]) F (by decide +kernel) rfl (fun _ _ _ _ _ us hl => match us, hl with | [_], _ => rfl) fun f A outer s H E vs ds hr hn hv hp hT => ?_
  obtain ⟨v, rfl⟩ := hp
  obtain ⟨x, rfl, hx⟩ := dats1 hv
  have hu : ∀ {u : Nat}, u + 16 * 1 + 200 < cLine → u < cLine := fun h => by omega
  have B := M.B
  refine w_if (ct_not (ct_val (c_call C2 hr (Nat.le_refl _) hT (ca_cons (cv 0 hx) (ca_cons c_int ca_nil)) rfl ⟨v, 2, rfl, by decide⟩))) (fun h => w_ret ?_) fun h => ?_
  · have h : (!isTuple v 2) = true := h
    exact C.is c_bl (by show D.bl false = .bl (isMove v); unfold isMove; rw [Bool.not_eq_true'] at h; rw [h]; rfl)
  · have h : (!isTuple v 2) = false := h
    rw [Bool.not_eq_false'] at h
    obtain ⟨k, r, rfl, hl⟩ := isTuple_of h
    obtain ⟨a, rfl⟩ := len2 hl
    refine w_if (ct_c (c_eqS (hu hr.un) (c_ixT (cv 0 hx) c_int (fun _ _ => rfl) (j := 0) rfl rfl) c_str rfl)) (fun h2 => w_ret ?_) fun h2 => w_ret ?_
    · refine C.is (c_call C1 hr (Nat.le_refl _) hT (ca_cons (c_ixT (cv 0 hx) c_int (fun _ _ => rfl) (j := 1) rfl rfl) (ca_cons c_int (ca_cons (g_given M) ca_nil))) rfl ⟨_, _, _, rfl⟩) ?_
      show D.bl _ = .bl (isMove _)
      have h3 : ((D.tup [.str k, a]).ix 0).eqS "give" = true := h2
      unfold isMove
      rw [h, if_pos h3]
      rfl
    · refine C.is (c_and (c_eqS (hu hr.un) (c_ixT (cv 0 hx) c_int (fun _ _ => rfl) (j := 0) rfl rfl) c_str rfl) fun _ => c_one (c_call C1 hr (Nat.le_refl _) hT (ca_cons (c_ixT (cv 0 hx) c_int (fun _ _ => rfl) (j := 1) rfl rfl) (ca_cons (c_sub c_int (g_move M)) (ca_cons (g_move M) ca_nil))) rfl ⟨_, _, _, rfl⟩)) ?_
      show D.bl _ = .bl (isMove _)
      have h3 : ((D.tup [.str k, a]).ix 0).eqS "give" = false := h2
      unfold isMove
      rw [h, h3, if_neg Bool.false_ne_true]
      rfl
end
end G3

set_option Elab.async false
set_option linter.all false
set_option maxRecDepth 100000
set_option maxHeartbeats 4000000
namespace G3
open PySem PySem.Spec PyProof.Rows L2 GX
open GxR (TabG Tabbed)
open C8 (Cal scC fnArgs fnBody fnScope pe_c E0 fnScope_by)

/-! ## Shapes -/
def fit : Nat → D → Bool
  | 0, _ => false
  | n + 1, d => match d with
    | .tup xs => decide (xs.length ≤ 1000) && xs.all (fit n)
    | .lst xs => decide (xs.length ≤ 1000) && xs.all (fit n)
    | .str s => decide (s.length ≤ 1000)
    | _ => true
def leafS : List Str := ["number", "early", "late", "below", "rest"]
def lastL (xs : List D) : D := xs.getLast?.getD .non
def its : D → List D
  | .tup xs => xs
  | _ => []
def kindD : D → Str
  | .tup (.str k :: _) => k
  | _ => ""
def partsD : D → List D
  | .tup (.str k :: r) => if k ∈ leafS then [] else if k = "call" then its (lastL (.str k :: r)) else r
  | _ => []
def headOk : D → Bool
  | .tup (.str k :: r) => !decide (k = "call") || (lastL (.str k :: r)).isTup
  | _ => false
def sh : Nat → D → Bool
  | 0, _ => false
  | n + 1, d => headOk d && (partsD d).all (sh n)
def hotS : List Str := ["late", "call"]
def earlyD : Nat → D → Bool
  | 0, _ => false
  | n + 1, d => !decide (kindD d ∈ hotS) && (partsD d).all (earlyD n)
def nodesD : Nat → D → Int
  | 0, _ => 0
  | n + 1, d => 1 + sumI (nodesD n) (partsD d)
def callsD : Nat → D → List D
  | 0, _ => []
  | n + 1, d => (partsD d).foldl (fun acc x => acc ++ callsD n x) (if kindD d = "call" then [d] else [])
theorem partsD_tup {k : Str} {r : List D} : partsD (.tup (.str k :: r)) = if k ∈ leafS then [] else if k = "call" then its (lastL (.str k :: r)) else r := rfl
theorem headOk_of {d : D} (h : headOk d = true) : ∃ k r, d = .tup (.str k :: r) ∧ (k = "call" → (lastL (.str k :: r)).isTup = true) := by
  unfold headOk at h
  split at h
  · rename_i k r
    refine ⟨k, r, rfl, fun e => ?_⟩
    rw [e] at h ⊢
    simpa using h
  · cases h
theorem sh_head {n : Nat} {d : D} (h : sh (n + 1) d = true) : headOk d = true := by
  unfold sh at h
  rw [Bool.and_eq_true] at h
  exact h.1
theorem sh_part {n : Nat} {d x : D} (h : sh (n + 1) d = true) (hx : x ∈ partsD d) : sh n x = true := by
  unfold sh at h
  rw [Bool.and_eq_true, List.all_eq_true] at h
  exact h.2 x hx
theorem fit_tup {n : Nat} {xs : List D} (h : fit (n + 1) (.tup xs) = true) : xs.length ≤ 1000 ∧ ∀ x ∈ xs, fit n x = true := by
  unfold fit at h
  simp only [Bool.and_eq_true, decide_eq_true_eq, List.all_eq_true] at h
  exact h
theorem fit_pos {d : D} (h : fit 0 d = true) : False := by
  unfold fit at h
  cases h
theorem fit_short {n : Nat} {d : D} (h : fit n d = true) : shortD d = true := by
  cases n with
  | zero => exact (fit_pos h).elim
  | succ n =>
    cases d with
    | str s => exact h
    | _ => rfl
theorem last_ix {x : D} {r : List D} : ∃ d, (x :: r)[(x :: r).length - 1]? = some d ∧ lastL (x :: r) = d := by
  refine ⟨(x :: r)[(x :: r).length - 1]'(by simp), by simp, ?_⟩
  unfold lastL
  rw [List.getLast?_eq_getElem?]
  simp
section
variable {P : Program} {w : World} {K : PySem.W.Frag} {mg : Str → Option Value} {base : Heap} {T : List Addr} {cd : Value} {n : Nat}

/-! ## parts_of -/
def fParts : List D → D
  | [v] => .lst (partsD v)
  | _ => .non
def preParts : List D → Prop := fun ds => ∃ v, ds = [v] ∧ headOk v = true
theorem ixN_neg {n : Nat} (h : 0 < n) : ixN n (-1) = some (n - 1) := by
  unfold ixN
  rw [if_neg (by decide), if_pos (by omega)]
  congr 1
  omega
theorem def_parts (M : Mgs K mg) (F : Dfn K mg "parts_of" (top 24) cd) : Cal P w K mg base 1 "parts_of" (spD T 1 preParts fParts) [] := by
  refine calD (N := ["one"]) (ps := ["one"]) F (by decide +kernel) rfl (fun _ _ _ _ _ us hl => match us, hl with | [_], _ => rfl) fun f A outer s H E vs ds hr hn hv hp hT => ?_
  obtain ⟨v, rfl, hh⟩ := hp
  obtain ⟨x, rfl, hx⟩ := dats1 hv
  obtain ⟨k, r, rfl, hc⟩ := headOk_of hh
  have hu : ∀ {u : Nat}, u + 16 * 0 + 200 < cLine → u < cLine := fun h => by omega
  have B := M.B
  refine w_if (ct_c (c_inS (ss := leafS) (c_ixT (cv 0 hx) c_int (fun _ _ => rfl) (j := 0) (ixN_nat (Nat.zero_lt_succ _)) rfl) (c_lst (ca_cons c_str (ca_cons c_str (ca_cons c_str (ca_cons c_str (ca_cons c_str ca_nil)))))))) (fun h => w_ret ?_) fun h => ?_
  · refine C.is (c_lst ca_nil) ?_
    show D.lst [] = .lst (partsD _)
    rw [partsD_tup, if_pos (of_decide_eq_true h)]
  · have h1 : ¬ k ∈ leafS := of_decide_eq_false h
    refine w_if (ct_c (c_eqS (hu hr.un) (c_ixT (cv 0 hx) c_int (fun _ _ => rfl) (j := 0) (ixN_nat (Nat.zero_lt_succ _)) rfl) c_str rfl)) (fun h2 => w_ret ?_) fun h2 => w_ret ?_
    · have h2 : k = "call" := of_decide_eq_true h2
      obtain ⟨d, e1, e2⟩ := last_ix (x := .str k) (r := r)
      obtain ⟨ys, e3⟩ := tup_of (hc h2)
      rw [e2] at e3
      subst e3
      refine C.is (c_listT B (c_ixT (cv 0 hx) (c_neg c_int) (fun _ _ => rfl) (ixN_neg (Nat.zero_lt_succ _)) e1)) ?_
      show D.lst ys = .lst (partsD _)
      rw [partsD_tup, if_neg h1, if_pos h2, e2]
      rfl
    · have h2 : ¬ k = "call" := of_decide_eq_false h2
      refine C.is (c_listT B (c_from (k := 1) (cv 0 hx) c_int)) ?_
      show D.lst r = .lst (partsD _)
      rw [partsD_tup, if_neg h1, if_neg h2]

/-! ## is_all_early, nodes_of, calls_of -/
theorem room_g {X : Cx} {k : Nat} {scope : Scope} {s : Shared} {H : Hp} {A : Addr} {code : Value} {fp : List Addr} {pn : List (Addr × Obj)} (hr : Room (k + 1) X.A) : Room k (XG X scope s H A code fp pn).A :=
  ⟨hr.hd, by have := hr.dp; show X.A.depth + 1 + 3 * k + 5 < _; omega, by have := hr.un; show X.A.units + 1 + 1 + 3 + 16 * k + 200 < _; omega⟩
def preSh (n : Nat) : List D → Prop := fun ds => ∃ v, ds = [v] ∧ sh n v = true
def fEarly (n : Nat) : List D → D
  | [v] => .bl (earlyD n v)
  | _ => .non
def fNodes (n : Nat) : List D → D
  | [v] => .int (nodesD n v)
  | _ => .non
def fCalls (n : Nat) : List D → D
  | [v] => .lst (callsD n v)
  | _ => .non
def preCalls (n : Nat) : List D → Prop := fun ds => ∃ v, ds = [v] ∧ sh n v = true ∧ nodesD n v ≤ 1000
theorem def_early (M : Mgs K mg) (C1 : Cal P w K mg base 1 "parts_of" (spD T 1 preParts fParts) []) {c Pt : Addr} (tb : LamX.TabB base mg c Pt) (hPt : Pt ∈ T) (F : Dfn K mg "is_all_early" (top 25) (.ref c)) : ∀ n, Cal P w K mg base (2 * n + 3) "is_all_early" (spD T 1 (preSh n) (fEarly n)) []
  | 0 => by
    refine calD (k := 2) (N := ["one", "part"]) (ps := ["one"]) F (by decide +kernel) rfl (fun _ _ _ _ _ us hl => match us, hl with | [_], _ => rfl) fun f A outer s H E vs ds hr hn hv hp hT => ?_
    obtain ⟨v, _, h⟩ := hp
    cases h
  | n + 1 => by
    have ih := def_early M C1 tb hPt F n
    refine calD (k := 2 * n + 4) (N := ["one", "part"]) (ps := ["one"]) F (by decide +kernel) rfl (fun _ _ _ _ _ us hl => match us, hl with | [_], _ => rfl) fun f A outer s H E vs ds hr hn hv hp hT => ?_
    obtain ⟨v, rfl, hsh⟩ := hp
    obtain ⟨x, rfl, hx⟩ := dats1 hv
    have B := M.B
    have nd : (["one", "part"] : List Str).Nodup := by decide
    have hh := sh_head hsh
    obtain ⟨k, r, rfl, hc⟩ := headOk_of hh
    refine w_ret (C.is (c_and (j := (partsD (.tup (.str k :: r))).all (earlyD n)) (c_notInS (ss := hotS) (c_ixT (cv 0 hx) c_int (fun _ _ => rfl) (j := 0) (ixN_nat (Nat.zero_lt_succ _)) rfl) (c_lst (ca_cons c_str (ca_cons c_str ca_nil)))) fun _ => c_one ?_) ?_)
    · refine c_all (f := earlyD n) (js := [1]) (own := [("part", 1)]) B hr hT ⟨tb, rfl, hPt⟩ rfl nd (it_lst (cc C1 hr (by omega) hT (ca_cons (cv 0 hx) ca_nil) rfl ⟨_, rfl, hh⟩ rfl)) (genOk_by (show genB ["one", "part"] (fnScope (top 25)) _ _ = true by decide +kernel)) (fun _ _ _ _ _ _ => pg_name (i := 1) nd rfl (Or.inl rfl)) (tgt_name 1) (by decide) fun d vs H1 hd e1 => ⟨[d], rfl, fun hvs s0 H0 A0 code fp pn => ?_⟩
      obtain ⟨y, rfl, hy⟩ := dats1 hvs
      exact cc ih (room_g hr) (Nat.le_refl _) (e1.tab hT) (ca_cons (cv 1 hy) ca_nil) rfl ⟨_, rfl, sh_part hsh hd⟩ rfl
    · rfl
theorem def_nodes (M : Mgs K mg) (C1 : Cal P w K mg base 1 "parts_of" (spD T 1 preParts fParts) []) {c Pt : Addr} (tb : LamX.TabB base mg c Pt) (hPt : Pt ∈ T) (F : Dfn K mg "nodes_of" (top 26) (.ref c)) : ∀ n, Cal P w K mg base (2 * n + 3) "nodes_of" (spD T 1 (preSh n) (fNodes n)) []
  | 0 => by
    refine calD (k := 2) (N := ["one", "part"]) (ps := ["one"]) F (by decide +kernel) rfl (fun _ _ _ _ _ us hl => match us, hl with | [_], _ => rfl) fun f A outer s H E vs ds hr hn hv hp hT => ?_
    obtain ⟨v, _, h⟩ := hp
    cases h
  | n + 1 => by
    have ih := def_nodes M C1 tb hPt F n
    refine calD (k := 2 * n + 4) (N := ["one", "part"]) (ps := ["one"]) F (by decide +kernel) rfl (fun _ _ _ _ _ us hl => match us, hl with | [_], _ => rfl) fun f A outer s H E vs ds hr hn hv hp hT => ?_
    obtain ⟨v, rfl, hsh⟩ := hp
    obtain ⟨x, rfl, hx⟩ := dats1 hv
    have B := M.B
    have nd : (["one", "part"] : List Str).Nodup := by decide
    have hh := sh_head hsh
    refine w_ret (C.is (c_add c_int (c_sum (f := nodesD n) (js := [1]) (own := [("part", 1)]) B hr hT ⟨tb, rfl, hPt⟩ rfl nd (it_lst (cc C1 hr (by omega) hT (ca_cons (cv 0 hx) ca_nil) rfl ⟨_, rfl, hh⟩ rfl)) (genOk_by (show genB ["one", "part"] (fnScope (top 26)) _ _ = true by decide +kernel)) (fun _ _ _ _ _ _ => pg_name (i := 1) nd rfl (Or.inl rfl)) (tgt_name 1) (by decide) fun d vs H1 hd e1 => ⟨[d], rfl, fun hvs s0 H0 A0 code fp pn => ?_⟩)) rfl)
    obtain ⟨y, rfl, hy⟩ := dats1 hvs
    exact cc ih (room_g hr) (Nat.le_refl _) (e1.tab hT) (ca_cons (cv 1 hy) ca_nil) rfl ⟨_, rfl, sh_part hsh hd⟩ rfl
theorem nodes_pos : ∀ (n : Nat) (d : D), 0 ≤ nodesD n d
  | 0, d => Int.le_refl _
  | n + 1, d => by
    show 0 ≤ 1 + sumI (nodesD n) (partsD d)
    have : ∀ xs : List D, 0 ≤ sumI (nodesD n) xs := fun xs => by
      induction xs with
      | nil => exact Int.le_refl _
      | cons x xs ih =>
        show 0 ≤ nodesD n x + sumI (nodesD n) xs
        have := nodes_pos n x
        omega
    have := this (partsD d)
    omega
theorem sumI_pos (n : Nat) : ∀ xs : List D, 0 ≤ sumI (nodesD n) xs
  | [] => Int.le_refl _
  | x :: xs => by
    show 0 ≤ nodesD n x + sumI (nodesD n) xs
    have := nodes_pos n x
    have := sumI_pos n xs
    omega
theorem sumI_mem (n : Nat) : ∀ {xs : List D} {x : D}, x ∈ xs → nodesD n x ≤ sumI (nodesD n) xs
  | y :: xs, x, h => by
    show nodesD n x ≤ nodesD n y + sumI (nodesD n) xs
    rcases List.mem_cons.mp h with q | q
    · rw [q]
      have := sumI_pos n xs
      omega
    · have := sumI_mem n q
      have := nodes_pos n y
      omega
theorem calls_len : ∀ (n : Nat) (d : D), ((callsD n d).length : Int) ≤ nodesD n d
  | 0, d => Int.le_refl _
  | n + 1, d => by
    show (((partsD d).foldl (fun acc x => acc ++ callsD n x) (if kindD d = "call" then [d] else [])).length : Int) ≤ 1 + sumI (nodesD n) (partsD d)
    have go : ∀ (xs acc : List D), ((xs.foldl (fun acc x => acc ++ callsD n x) acc).length : Int) ≤ acc.length + sumI (nodesD n) xs := fun xs => by
      induction xs with
      | nil => intro acc; show (acc.length : Int) ≤ acc.length + 0; omega
      | cons x xs ih =>
        intro acc
        have h1 := ih (acc ++ callsD n x)
        have h2 := calls_len n x
        rw [List.length_append] at h1
        show ((xs.foldl _ (acc ++ callsD n x)).length : Int) ≤ acc.length + (nodesD n x + sumI (nodesD n) xs)
        omega
    have := go (partsD d) (if kindD d = "call" then [d] else [])
    have : (if kindD d = "call" then [d] else []).length ≤ 1 := by split <;> simp
    omega
theorem part_nodes {n : Nat} {d x : D} (hx : x ∈ partsD d) : nodesD n x ≤ nodesD (n + 1) d := by
  show nodesD n x ≤ 1 + sumI (nodesD n) (partsD d)
  have := sumI_mem n hx
  omega
theorem calls_step {n : Nat} {d x : D} {i : Nat} (hx : (partsD d)[i]? = some x) : (((partsD d).take i).foldl (fun acc x => acc ++ callsD n x) (if kindD d = "call" then [d] else [])).length + (callsD n x).length ≤ nodesD (n + 1) d := by
  have go : ∀ (xs acc : List D), ((xs.foldl (fun acc x => acc ++ callsD n x) acc).length : Int) ≤ acc.length + sumI (nodesD n) xs := fun xs => by
    induction xs with
    | nil => intro acc; show (acc.length : Int) ≤ acc.length + 0; omega
    | cons x xs ih =>
      intro acc
      have h1 := ih (acc ++ callsD n x)
      have h2 := calls_len n x
      rw [List.length_append] at h1
      show ((xs.foldl _ (acc ++ callsD n x)).length : Int) ≤ acc.length + (nodesD n x + sumI (nodesD n) xs)
      omega
  have h1 := go ((partsD d).take i) (if kindD d = "call" then [d] else [])
  have h2 : (if kindD d = "call" then [d] else []).length ≤ 1 := by split <;> simp
  have h3 := calls_len n x
  have h4 : sumI (nodesD n) ((partsD d).take i) + nodesD n x ≤ sumI (nodesD n) (partsD d) := by
    have e : ∀ (xs : List D) (i : Nat), xs[i]? = some x → sumI (nodesD n) (xs.take i) + nodesD n x ≤ sumI (nodesD n) xs := fun xs => by
      induction xs with
      | nil => intro i h; simp at h
      | cons y ys ih =>
        intro i h
        cases i with
        | zero =>
          have e : y = x := by simpa using h
          subst e
          show 0 + nodesD n y ≤ nodesD n y + sumI (nodesD n) ys
          have := sumI_pos n ys
          omega
        | succ i =>
          have := ih i (by simpa using h)
          show nodesD n y + sumI (nodesD n) (ys.take i) + nodesD n x ≤ nodesD n y + sumI (nodesD n) ys
          omega
    exact e _ _ hx
  show _ ≤ 1 + sumI (nodesD n) (partsD d)
  omega
theorem def_calls (M : Mgs K mg) (C1 : Cal P w K mg base 1 "parts_of" (spD T 1 preParts fParts) []) (F : Dfn K mg "calls_of" (top 27) cd) : ∀ n, Cal P w K mg base (2 * n + 3) "calls_of" (spD T 1 (preCalls n) (fCalls n)) []
  | 0 => by
    refine calD (k := 2) (N := ["one", "found", "part"]) (ps := ["one"]) F (by decide +kernel) rfl (fun _ _ _ _ _ us hl => match us, hl with | [_], _ => rfl) fun f A outer s H E vs ds hr hn hv hp hT => ?_
    obtain ⟨v, _, h, _⟩ := hp
    cases h
  | n + 1 => by
    have ih := def_calls M C1 F n
    refine calD (k := 2 * n + 4) (N := ["one", "found", "part"]) (ps := ["one"]) F (by decide +kernel) rfl (fun _ _ _ _ _ us hl => match us, hl with | [_], _ => rfl) fun f A outer s H E vs ds hr hn hv hp hT => ?_
    obtain ⟨v, rfl, hsh, hnod⟩ := hp
    obtain ⟨x, rfl, hx⟩ := dats1 hv
    have B := M.B
    have nd : (["one", "found", "part"] : List Str).Nodup := by decide
    have hu : ∀ {u : Nat}, u + 16 * (2 * n + 4) + 200 < cLine → u < cLine := fun h => by omega
    have hh := sh_head hsh
    obtain ⟨k, r, e, hc⟩ := headOk_of hh
    have hk : kindD v = k := by rw [e]; rfl
    refine w_set (i := 1) (dd := .lst (if kindD v = "call" then [v] else [])) nd ?_ fun y H1 e1 hy => ?_
    · refine c_ifx (k := decide (kindD v = "call")) (ct_c ?_) (fun h => ?_) fun h => ?_
      · rw [hk]
        have hx' : Dat H (.tup (.str k :: r)) x := by rw [← e]; exact hx
        exact C.is (c_eqS (hu hr.un) (c_ixT (cv 0 hx') c_int (fun _ _ => rfl) (j := 0) (ixN_nat (Nat.zero_lt_succ _)) rfl) c_str rfl) rfl
      · rw [if_pos (of_decide_eq_true h)]
        exact c_lst (ca_cons (cv 0 hx) ca_nil)
      · rw [if_neg (of_decide_eq_false h)]
        exact c_lst ca_nil
    · refine w_for (T := T) (Pv := fun i σ' H' => ∃ y z, σ' = [some x, some y, z] ∧ Dat H' (.lst (((partsD v).take i).foldl (fun acc x => acc ++ callsD n x) (if kindD v = "call" then [v] else []))) y) PassesOwn.never rfl (it_lst (cc C1 hr (by omega) (e1.tab hT) (ca_cons (cv 0 (hx.mono e1)) ca_nil) rfl ⟨_, rfl, hh⟩ rfl)) (pg_name (i := 2) nd rfl (Or.inl rfl)) (tgt_name 2) (fun H2 e2 => ⟨y, none, rfl, hy.mono e2⟩)
        (fun i dd vs σ' H2 hi e2 hp => ?_) fun σ' H2 e2 hp => ?_
      · obtain ⟨y2, z, rfl, hy2⟩ := hp
        refine ⟨[dd], rfl, fun hvs => ?_⟩
        obtain ⟨u, rfl, hu2⟩ := dats1 hvs
        have hmem := List.mem_of_getElem? hi
        refine w_set (i := 1) nd (c_catL (cv 1 hy2) (cc ih hr (by omega) ((e1.trans e2).tab hT) (ca_cons (cv 2 hu2) ca_nil) rfl ⟨_, rfl, sh_part hsh hmem, Int.le_trans (part_nodes hmem) hnod⟩ rfl) ?_) fun y3 H3 e3 hy3 => w_nil fun H4 e4 => ?_
        · have := calls_step (n := n) hi
          omega
        · refine ⟨y3, some u, rfl, ?_⟩
          have hts : (partsD v).take (i + 1) = (partsD v).take i ++ [dd] := by
            rw [List.take_succ, hi]
            rfl
          rw [hts, List.foldl_append]
          exact hy3.mono e4
      · obtain ⟨y2, z, rfl, hy2⟩ := hp
        rw [List.take_length] at hy2
        exact w_ret (cv 1 hy2)
end
end G3

set_option Elab.async false
set_option linter.all false
set_option maxRecDepth 100000
set_option maxHeartbeats 4000000
namespace G3
open PySem PySem.Spec PyProof.Rows L2 GX
open GxR (TabG Tabbed)
open C8 (Cal scC fnArgs fnBody fnScope pe_c E0 fnScope_by)

theorem fit_up : ∀ {n : Nat} {d : D}, fit n d = true → fit (n + 1) d = true
  | 0, d, h => (fit_pos h).elim
  | n + 1, d, h => by
    cases d with
    | tup xs =>
      unfold fit at h ⊢
      simp only [Bool.and_eq_true, List.all_eq_true] at h ⊢
      exact ⟨h.1, fun x hx => fit_up (h.2 x hx)⟩
    | lst xs =>
      unfold fit at h ⊢
      simp only [Bool.and_eq_true, List.all_eq_true] at h ⊢
      exact ⟨h.1, fun x hx => fit_up (h.2 x hx)⟩
    | str s => exact h
    | _ => rfl

/-! ## is_test, is_expression -/
def D.i : D → Int
  | .int i => i
  | _ => 0
def stepT (E : D → Int → Int → Bool) (Er : D → Bool) (v : D) (l dp : Int) : Bool :=
  !decide (dp = 0) && (if isTuple v 2 then (v.ix 0).eqS "below" && isIn (v.ix 1) 0 1000
    else isTuple v 3 && (if (v.ix 0).eqS "rest" then isIn (v.ix 1) 2 6 && isIn (v.ix 2) 0 ((v.ix 1).i - 1)
      else !(!(v.ix 0).eqS "less" || !(v.tl 1).all fun x => E x l (dp - 1)) && !(v.tl 1).all Er))
def inPairs : D → Bool
  | .str k => decide (k ∈ pairsS)
  | _ => false
def lenD (d : D) : Int := (its d).length
def stepE (E T : D → Int → Int → Bool) (v : D) (l dp : Int) : Bool :=
  !decide (dp = 0) && (if isTuple v 1 then (v.ix 0).eqS "early"
    else if isTuple v 2 then (if (v.ix 0).eqS "number" then isIn (v.ix 1) 0 1000000 else (v.ix 0).eqS "late" && isIn (v.ix 1) 0 (l - 1))
    else if isTuple v 3 then inPairs (v.ix 0) && (v.tl 1).all fun x => E x l (dp - 1)
    else isTuple v 4 && (if (v.ix 0).eqS "if" then T (v.ix 1) l (dp - 1) && (v.tl 2).all fun x => E x l (dp - 1)
      else !(!(v.ix 0).eqS "call" || (!isName (v.ix 1) || (!isMove (v.ix 2) || !(v.ix 3).isTup))) && (decide (lenD (v.ix 3) ≤ 4) && (its (v.ix 3)).all fun x => E x l (dp - 1))))
/-- true: expressions, false: tests -/
def isX : Nat → Bool → D → Int → Int → Bool
  | 0, _, _, _, _ => false
  | n + 1, true, v, l, dp => stepE (isX n true) (isX n false) v l dp
  | n + 1, false, v, l, dp => stepT (isX n true) (earlyD n) v l dp
theorem all_sh {n : Nat} {xs : List D} {l dp : Int} (ih : ∀ b v l dp, isX n b v l dp = true → sh n v = true) (h : (xs.all fun x => isX n true x l dp) = true) : xs.all (sh n) = true := by
  rw [List.all_eq_true] at h ⊢
  exact fun x hx => ih _ _ _ _ (h x hx)
theorem isX_sh : ∀ (n : Nat) (b : Bool) (v : D) (l dp : Int), isX n b v l dp = true → sh n v = true
  | 0, b, v, l, dp, h => by cases h
  | n + 1, true, v, l, dp, h => by
    have ih := isX_sh n
    have h : stepE (isX n true) (isX n false) v l dp = true := h
    unfold stepE at h
    rw [Bool.and_eq_true] at h
    have h := h.2
    split at h
    · rename_i h1
      obtain ⟨k, r, rfl, hl⟩ := isTuple_of h1
      cases len1 hl
      have e : k = "early" := of_decide_eq_true h
      subst e
      rfl
    split at h
    · rename_i h1
      obtain ⟨k, r, rfl, hl⟩ := isTuple_of h1
      obtain ⟨a, rfl⟩ := len2 hl
      split at h
      · rename_i h2
        have e : k = "number" := of_decide_eq_true h2
        subst e
        rfl
      · rw [Bool.and_eq_true] at h
        have e : k = "late" := of_decide_eq_true h.1
        subst e
        rfl
    split at h
    · rename_i h1
      obtain ⟨k, r, rfl, hl⟩ := isTuple_of h1
      obtain ⟨a, b, rfl⟩ := len3 hl
      rw [Bool.and_eq_true] at h
      have e : k ∈ pairsS := of_decide_eq_true h.1
      have q := all_sh ih h.2
      have nc : ¬ k = "call" := fun z => by rw [z] at e; revert e; decide
      have nl : ¬ k ∈ leafS := by
        unfold pairsS at e
        simp only [List.mem_cons, List.not_mem_nil, or_false] at e
        rcases e with rfl | rfl | rfl <;> decide
      show (headOk _ && (partsD _).all (sh n)) = true
      rw [partsD_tup, if_neg nl, if_neg nc]
      rw [Bool.and_eq_true]
      refine ⟨?_, q⟩
      show (!decide (k = "call") || _) = true
      rw [decide_eq_false nc]
      rfl
    · rw [Bool.and_eq_true] at h
      obtain ⟨k, r, rfl, hl⟩ := isTuple_of h.1
      obtain ⟨a, b, c, rfl⟩ := len4 hl
      have h := h.2
      split at h
      · rename_i h2
        have e : k = "if" := of_decide_eq_true h2
        subst e
        rw [Bool.and_eq_true] at h
        have q1 := ih _ _ _ _ h.1
        have q2 := all_sh ih h.2
        show (headOk _ && (partsD _).all (sh n)) = true
        rw [partsD_tup, if_neg (by decide), if_neg (by decide)]
        show (sh n a && [b, c].all (sh n)) = true
        rw [show sh n a = true from q1, Bool.true_and]
        exact q2
      · simp only [Bool.and_eq_true, Bool.not_eq_true', Bool.or_eq_false_iff, Bool.not_eq_false'] at h
        obtain ⟨⟨h1, h2, h3, h4⟩, h5, h6⟩ := h
        have e : k = "call" := of_decide_eq_true h1
        subst e
        obtain ⟨ys, e4⟩ := tup_of h4
        have e4 : c = .tup ys := e4
        subst e4
        have q2 := all_sh ih h6
        exact q2
  | n + 1, false, v, l, dp, h => by
    have ih := isX_sh n
    have h : stepT (isX n true) (earlyD n) v l dp = true := h
    unfold stepT at h
    rw [Bool.and_eq_true] at h
    have h := h.2
    split at h
    · rename_i h1
      obtain ⟨k, r, rfl, hl⟩ := isTuple_of h1
      rw [Bool.and_eq_true] at h
      have e : k = "below" := of_decide_eq_true h.1
      subst e
      obtain ⟨a, rfl⟩ := len2 hl
      rfl
    · rw [Bool.and_eq_true] at h
      obtain ⟨k, r, rfl, hl⟩ := isTuple_of h.1
      obtain ⟨a, b, rfl⟩ := len3 hl
      have h := h.2
      split at h
      · rename_i h2
        have e : k = "rest" := of_decide_eq_true h2
        subst e
        rfl
      · simp only [Bool.and_eq_true, Bool.not_eq_true', Bool.or_eq_false_iff, Bool.not_eq_false'] at h
        have e : k = "less" := of_decide_eq_true h.1.1
        subst e
        have q2 := all_sh ih h.1.2
        exact q2
def fX (n : Nat) (b : Bool) : List D → D
  | [v, .int l, .int dp] => .bl (isX n b v l dp)
  | _ => .non
def preX (n : Nat) : List D → Prop := fun ds => ∃ v l dp, ds = [v, .int l, .int dp] ∧ fit n v = true
def preIn : List D → Prop := fun ds => ∃ v lo hi, ds = [v, .int lo, .int hi]
def preTup : List D → Prop := fun ds => ∃ v m, ds = [v, .int m] ∧ 1 ≤ m
def preName : List D → Prop := fun ds => ∃ v, ds = [v] ∧ shortD v = true
def preMove : List D → Prop := fun ds => ∃ v, ds = [v]
section
variable {P : Program} {w : World} {K : PySem.W.Frag} {mg : Str → Option Value} {base : Heap} {T : List Addr} {cd : Value} {n : Nat}
theorem eqS_bool {k s : Str} {b : Bool} (h : (D.str k).eqS s = b) : decide (k = s) = b := h
theorem def_expr (M : Mgs K mg) (CIn : Cal P w K mg base 1 "is_in" (spD T 3 preIn fIn) []) (CTu : Cal P w K mg base 1 "is_tuple" (spD T 2 preTup fTup) []) (CNa : Cal P w K mg base 2 "is_name" (spD T 1 preName fName) []) (CMo : Cal P w K mg base 2 "is_move" (spD T 1 preMove fMove) [])
    {c Pt : Addr} (tb : LamX.TabB base mg c Pt) (hPt : Pt ∈ T) (F : Dfn K mg "is_expression" (top 23) (.ref c)) (IE : Cal P w K mg base (2 * n + 3) "is_expression" (spD T 3 (preX n) (fX n true)) []) (IT : Cal P w K mg base (2 * n + 3) "is_test" (spD T 3 (preX n) (fX n false)) []) :
    Cal P w K mg base (2 * (n + 1) + 3) "is_expression" (spD T 3 (preX (n + 1)) (fX (n + 1) true)) [] := by
  refine calD (k := 2 * n + 4) (N := ["value", "lates", "deep", "one"]) (ps := ["value", "lates", "deep"]) F (by decide +kernel) rfl (fun _ _ _ _ _ us hl => match us, hl with | [_, _, _], _ => rfl) fun f A outer s H E vs ds hr hn hv hp hT => ?_
  obtain ⟨v, l, dp, rfl, hfit⟩ := hp
  obtain ⟨x, y, z, rfl, hx, hy, hz⟩ := dats3 hv
  have B := M.B
  have nd : (["value", "lates", "deep", "one"] : List Str).Nodup := by decide
  have hu : ∀ {u : Nat}, u + 16 * (2 * n + 4) + 200 < cLine → u < cLine := fun h => by omega
  refine w_if (ct_c (c_eqI (cv 2 hz) c_int)) (fun h => w_ret (C.is c_bl ?_)) fun h0 => ?_
  · show D.bl false = .bl (stepE _ _ v l dp)
    unfold stepE
    rw [h]
    rfl
  refine w_if (ct_val (cc CTu hr (by omega) hT (ca_cons (cv 0 hx) (ca_cons c_int ca_nil)) rfl ⟨_, _, rfl, by decide⟩ rfl)) (fun h1 => ?_) fun h1 => ?_
  · obtain ⟨k, r, rfl, hl⟩ := isTuple_of h1
    refine w_ret (C.is (c_eqS (hu hr.un) (c_ixT (cv 0 hx) c_int (fun _ _ => rfl) (j := 0) (ixN_nat (Nat.zero_lt_succ _)) rfl) c_str rfl) ?_)
    show _ = D.bl (stepE _ _ _ l dp)
    unfold stepE
    rw [h0, if_pos h1]
    rfl
  refine w_if (ct_val (cc CTu hr (by omega) hT (ca_cons (cv 0 hx) (ca_cons c_int ca_nil)) rfl ⟨_, _, rfl, by decide⟩ rfl)) (fun h2 => ?_) fun h2 => ?_
  · obtain ⟨k, r, rfl, hl⟩ := isTuple_of h2
    obtain ⟨a, rfl⟩ := len2 hl
    refine w_if (ct_c (c_eqS (hu hr.un) (c_ixT (cv 0 hx) c_int (fun _ _ => rfl) (j := 0) rfl rfl) c_str rfl)) (fun h3 => w_ret ?_) fun h3 => w_ret ?_
    · refine C.is (cc CIn hr (by omega) hT (ca_cons (c_ixT (cv 0 hx) c_int (fun _ _ => rfl) (j := 1) rfl rfl) (ca_cons c_int (ca_cons (g_number M) ca_nil))) rfl ⟨_, _, _, rfl⟩ rfl) ?_
      have h4 : ((D.tup [.str k, a]).ix 0).eqS "number" = true := h3
      show _ = D.bl (stepE _ _ _ l dp)
      unfold stepE
      rw [h0, if_neg (by rw [h1]; decide), if_pos h2, if_pos h4]
      rfl
    · refine C.is (c_and (c_eqS (hu hr.un) (c_ixT (cv 0 hx) c_int (fun _ _ => rfl) (j := 0) rfl rfl) c_str rfl) fun _ => c_one (cc CIn hr (by omega) hT (ca_cons (c_ixT (cv 0 hx) c_int (fun _ _ => rfl) (j := 1) rfl rfl) (ca_cons c_int (ca_cons (c_sub (cv 1 hy) c_int) ca_nil))) rfl ⟨_, _, _, rfl⟩ rfl)) ?_
      have h4 : ((D.tup [.str k, a]).ix 0).eqS "number" = false := h3
      show _ = D.bl (stepE _ _ _ l dp)
      unfold stepE
      rw [h0, if_neg (by rw [h1]; decide), if_pos h2, h4, if_neg Bool.false_ne_true]
      rfl
  refine w_if (ct_val (cc CTu hr (by omega) hT (ca_cons (cv 0 hx) (ca_cons c_int ca_nil)) rfl ⟨_, _, rfl, by decide⟩ rfl)) (fun h3 => w_ret ?_) fun h3 => ?_
  · obtain ⟨k, r, rfl, hl⟩ := isTuple_of h3
    obtain ⟨a, b, rfl⟩ := len3 hl
    refine C.is (c_and (j := [a, b].all fun x => isX n true x l (dp - 1)) (c_inK (c_ixT (cv 0 hx) c_int (fun _ _ => rfl) (j := 0) rfl rfl) M.pairs rfl) fun _ => c_one ?_) ?_
    · refine c_all (f := fun x => isX n true x l (dp - 1)) (js := [3]) (own := [("one", 3)]) B hr hT ⟨tb, rfl, hPt⟩ rfl nd (it_tup (c_from (k := 1) (cv 0 hx) c_int)) (genOk_by (show genB ["value", "lates", "deep", "one"] (fnScope (top 23)) _ _ = true by decide +kernel)) (fun _ _ _ _ _ _ => pg_name (i := 3) nd rfl (Or.inl rfl)) (tgt_name 3) (by decide) fun d vs H1 hd e1 => ⟨[d], rfl, fun hvs s0 H0 A0 code fp pn => ?_⟩
      obtain ⟨u, rfl, hu2⟩ := dats1 hvs
      exact cc IE (room_g hr) (Nat.le_refl _) (e1.tab hT) (ca_cons (cv 3 hu2) (ca_cons (cv 1 (hy.mono e1)) (ca_cons (c_sub (cv 2 (hz.mono e1)) c_int) ca_nil))) rfl ⟨_, _, _, rfl, (fit_tup hfit).2 d (List.mem_cons_of_mem _ hd)⟩ rfl
    · show _ = D.bl (stepE _ _ _ l dp)
      unfold stepE
      rw [h0, if_neg (by rw [h1]; decide), if_neg (by rw [h2]; decide), if_pos h3]
      rfl
  refine w_if (ct_not (ct_val (cc CTu hr (by omega) hT (ca_cons (cv 0 hx) (ca_cons c_int ca_nil)) rfl ⟨_, _, rfl, by decide⟩ rfl))) (fun h4 => w_ret (C.is c_bl ?_)) fun h4 => ?_
  · rw [Bool.not_eq_true'] at h4
    show D.bl false = D.bl (stepE _ _ _ l dp)
    unfold stepE
    rw [h0, if_neg (by rw [h1]; decide), if_neg (by rw [h2]; decide), if_neg (by rw [h3]; decide), h4]
    rfl
  rw [Bool.not_eq_false'] at h4
  obtain ⟨k, r, rfl, hl⟩ := isTuple_of h4
  obtain ⟨a, b, c0, rfl⟩ := len4 hl
  have hfa := (fit_tup hfit).2
  have key : isX (n + 1) true (.tup [.str k, a, b, c0]) l dp = (if (D.str k).eqS "if" then isX n false a l (dp - 1) && [b, c0].all fun x => isX n true x l (dp - 1)
      else !(!(D.str k).eqS "call" || (!isName a || (!isMove b || !c0.isTup))) && (decide (lenD c0 ≤ 4) && (its c0).all fun x => isX n true x l (dp - 1))) := by
    show stepE _ _ _ l dp = _
    unfold stepE
    rw [h0, if_neg (by rw [h1]; decide), if_neg (by rw [h2]; decide), if_neg (by rw [h3]; decide), h4]
    rfl
  show W T _ _ _ H (some (D.bl (isX (n + 1) true (.tup [.str k, a, b, c0]) l dp))) PF
  rw [key]
  refine w_if (ct_c (c_eqS (hu hr.un) (c_ixT (cv 0 hx) c_int (fun _ _ => rfl) (j := 0) rfl rfl) c_str rfl)) (fun h5 => ?_) fun h5 => ?_
  · rw [if_pos h5]
    refine w_if (ct_not (ct_val (cc IT hr (by omega) hT (ca_cons (c_ixT (cv 0 hx) c_int (fun _ _ => rfl) (j := 1) rfl rfl) (ca_cons (cv 1 hy) (ca_cons (c_sub (cv 2 hz) c_int) ca_nil))) rfl ⟨_, _, _, rfl, hfa a (by simp)⟩ rfl))) (fun h6 => w_ret (C.is c_bl ?_)) fun h6 => w_ret (C.is (d := .bl ([b, c0].all fun x => isX n true x l (dp - 1))) ?_ ?_)
    · rw [Bool.not_eq_true'] at h6
      rw [h6]
      rfl
    · refine c_all (f := fun x => isX n true x l (dp - 1)) (js := [3]) (own := [("one", 3)]) B hr hT ⟨tb, rfl, hPt⟩ rfl nd (it_tup (c_from (k := 2) (cv 0 hx) c_int)) (genOk_by (show genB ["value", "lates", "deep", "one"] (fnScope (top 23)) _ _ = true by decide +kernel)) (fun _ _ _ _ _ _ => pg_name (i := 3) nd rfl (Or.inl rfl)) (tgt_name 3) (by decide) fun d vs H1 hd e1 => ⟨[d], rfl, fun hvs s0 H0 A0 code fp pn => ?_⟩
      obtain ⟨u, rfl, hu2⟩ := dats1 hvs
      exact cc IE (room_g hr) (Nat.le_refl _) (e1.tab hT) (ca_cons (cv 3 hu2) (ca_cons (cv 1 (hy.mono e1)) (ca_cons (c_sub (cv 2 (hz.mono e1)) c_int) ca_nil))) rfl ⟨_, _, _, rfl, hfa d (List.mem_cons_of_mem _ (List.mem_cons_of_mem _ hd))⟩ rfl
    · rw [Bool.not_eq_false'] at h6
      rw [h6]
      rfl
  · rw [h5, if_neg Bool.false_ne_true]
    refine w_if (ct_w (cw_or (ct_c (c_neS (hu hr.un) (c_ixT (cv 0 hx) c_int (fun _ _ => rfl) (j := 0) rfl rfl) c_str rfl)) fun _ => cw_or (ct_not (ct_val (cc CNa hr (by omega) hT (ca_cons (c_ixT (cv 0 hx) c_int (fun _ _ => rfl) (j := 1) rfl rfl) ca_nil) rfl ⟨_, rfl, fit_short (hfa a (by simp))⟩ rfl))) fun _ =>
      cw_or (ct_not (ct_val (cc CMo hr (by omega) hT (ca_cons (c_ixT (cv 0 hx) c_int (fun _ _ => rfl) (j := 2) rfl rfl) ca_nil) rfl ⟨_, rfl⟩ rfl))) fun _ => cw_or1 (ct_not (ct_val (c_isi_tuple B (ha := c_ixT (cv 0 hx) c_int (fun _ _ => rfl) (j := 3) rfl rfl)))))) (fun h6 => w_ret (C.is c_bl ?_)) fun h6 => ?_
    · rw [h6]
      rfl
    · have h7 := h6
      simp only [Bool.or_eq_false_iff, Bool.not_eq_false'] at h7
      obtain ⟨ys, rfl⟩ := tup_of h7.2.2.2
      refine w_ret (C.is (c_and (j := ys.all fun x => isX n true x l (dp - 1)) (c_le (c_lenT B (c_ixT (cv 0 hx) c_int (fun _ _ => rfl) (j := 3) rfl rfl)) (g_lates M)) fun _ => c_one ?_) ?_)
      · refine c_all (f := fun x => isX n true x l (dp - 1)) (js := [3]) (own := [("one", 3)]) B hr hT ⟨tb, rfl, hPt⟩ rfl nd (it_tup (c_ixT (cv 0 hx) c_int (fun _ _ => rfl) (j := 3) rfl rfl)) (genOk_by (show genB ["value", "lates", "deep", "one"] (fnScope (top 23)) _ _ = true by decide +kernel)) (fun _ _ _ _ _ _ => pg_name (i := 3) nd rfl (Or.inl rfl)) (tgt_name 3) (by decide) fun d vs H1 hd e1 => ⟨[d], rfl, fun hvs s0 H0 A0 code fp pn => ?_⟩
        obtain ⟨u, rfl, hu2⟩ := dats1 hvs
        have hfc := hfa (.tup ys) (by simp)
        refine cc IE (room_g hr) (Nat.le_refl _) (e1.tab hT) (ca_cons (cv 3 hu2) (ca_cons (cv 1 (hy.mono e1)) (ca_cons (c_sub (cv 2 (hz.mono e1)) c_int) ca_nil))) rfl ⟨_, _, _, rfl, ?_⟩ rfl
        cases n with
        | zero => exact (fit_pos hfc).elim
        | succ m => exact (fit_tup hfc).2 d hd |> fit_up
      · rw [h6]
        rfl
theorem def_test (M : Mgs K mg) (CIn : Cal P w K mg base 1 "is_in" (spD T 3 preIn fIn) []) (CTu : Cal P w K mg base 1 "is_tuple" (spD T 2 preTup fTup) [])
    {c Pt : Addr} (tb : LamX.TabB base mg c Pt) (hPt : Pt ∈ T) (F : Dfn K mg "is_test" (top 22) (.ref c)) (IE : Cal P w K mg base (2 * n + 3) "is_expression" (spD T 3 (preX n) (fX n true)) []) (EA : Cal P w K mg base (2 * n + 3) "is_all_early" (spD T 1 (preSh n) (fEarly n)) []) :
    Cal P w K mg base (2 * (n + 1) + 3) "is_test" (spD T 3 (preX (n + 1)) (fX (n + 1) false)) [] := by
  refine calD (k := 2 * n + 4) (N := ["value", "lates", "deep", "one"]) (ps := ["value", "lates", "deep"]) F (by decide +kernel) rfl (fun _ _ _ _ _ us hl => match us, hl with | [_, _, _], _ => rfl) fun f A outer s H E vs ds hr hn hv hp hT => ?_
  obtain ⟨v, l, dp, rfl, hfit⟩ := hp
  obtain ⟨x, y, z, rfl, hx, hy, hz⟩ := dats3 hv
  have B := M.B
  have nd : (["value", "lates", "deep", "one"] : List Str).Nodup := by decide
  have hu : ∀ {u : Nat}, u + 16 * (2 * n + 4) + 200 < cLine → u < cLine := fun h => by omega
  refine w_if (ct_c (c_eqI (cv 2 hz) c_int)) (fun h => w_ret (C.is c_bl ?_)) fun h0 => ?_
  · show D.bl false = .bl (stepT _ _ v l dp)
    unfold stepT
    rw [h]
    rfl
  refine w_if (ct_val (cc CTu hr (by omega) hT (ca_cons (cv 0 hx) (ca_cons c_int ca_nil)) rfl ⟨_, _, rfl, by decide⟩ rfl)) (fun h1 => ?_) fun h1 => ?_
  · obtain ⟨k, r, rfl, hl⟩ := isTuple_of h1
    obtain ⟨a, rfl⟩ := len2 hl
    refine w_ret (C.is (c_and (c_eqS (hu hr.un) (c_ixT (cv 0 hx) c_int (fun _ _ => rfl) (j := 0) rfl rfl) c_str rfl) fun _ => c_one (cc CIn hr (by omega) hT (ca_cons (c_ixT (cv 0 hx) c_int (fun _ _ => rfl) (j := 1) rfl rfl) (ca_cons c_int (ca_cons (g_given M) ca_nil))) rfl ⟨_, _, _, rfl⟩ rfl)) ?_)
    show _ = D.bl (stepT _ _ _ l dp)
    unfold stepT
    rw [h0, if_pos h1]
    rfl
  refine w_if (ct_not (ct_val (cc CTu hr (by omega) hT (ca_cons (cv 0 hx) (ca_cons c_int ca_nil)) rfl ⟨_, _, rfl, by decide⟩ rfl))) (fun h2 => w_ret (C.is c_bl ?_)) fun h2 => ?_
  · rw [Bool.not_eq_true'] at h2
    show D.bl false = D.bl (stepT _ _ _ l dp)
    unfold stepT
    rw [h0, if_neg (by rw [h1]; decide), h2]
    rfl
  rw [Bool.not_eq_false'] at h2
  obtain ⟨k, r, rfl, hl⟩ := isTuple_of h2
  obtain ⟨a, b, rfl⟩ := len3 hl
  have hfa := (fit_tup hfit).2
  have key : isX (n + 1) false (.tup [.str k, a, b]) l dp = (if (D.str k).eqS "rest" then isIn a 2 6 && isIn b 0 (a.i - 1)
      else !(!(D.str k).eqS "less" || !([a, b].all fun x => isX n true x l (dp - 1))) && ![a, b].all (earlyD n)) := by
    show stepT _ _ _ l dp = _
    unfold stepT
    rw [h0, if_neg (by rw [h1]; decide), h2]
    rfl
  show W T _ _ _ H (some (D.bl (isX (n + 1) false (.tup [.str k, a, b]) l dp))) PF
  rw [key]
  refine w_if (ct_c (c_eqS (hu hr.un) (c_ixT (cv 0 hx) c_int (fun _ _ => rfl) (j := 0) rfl rfl) c_str rfl)) (fun h5 => ?_) fun h5 => ?_
  · rw [if_pos h5]
    refine w_ret (C.is (c_and (j := isIn b 0 (a.i - 1)) (cc CIn hr (by omega) hT (ca_cons (c_ixT (cv 0 hx) c_int (fun _ _ => rfl) (j := 1) rfl rfl) (ca_cons c_int (ca_cons (g_rest M) ca_nil))) rfl ⟨_, _, _, rfl⟩ rfl) fun h6 => ?_) rfl)
    have h6 : isIn a 2 6 = true := h6
    unfold isIn at h6
    simp only [Bool.and_eq_true] at h6
    obtain ⟨i, rfl⟩ := int_of h6.1 h6.2.1
    exact c_one (cc CIn hr (by omega) hT (ca_cons (c_ixT (cv 0 hx) c_int (fun _ _ => rfl) (j := 2) rfl rfl) (ca_cons c_int (ca_cons (c_sub (c_ixT (cv 0 hx) c_int (fun _ _ => rfl) (j := 1) rfl rfl) c_int) ca_nil))) rfl ⟨_, _, _, rfl⟩ rfl)
  · rw [h5, if_neg Bool.false_ne_true]
    refine w_if (ct_w (cw_or (j := !([a, b].all fun x => isX n true x l (dp - 1))) (ct_c (c_neS (hu hr.un) (c_ixT (cv 0 hx) c_int (fun _ _ => rfl) (j := 0) rfl rfl) c_str rfl)) fun _ => cw_or1 (ct_not (ct_val ?_)))) (fun h6 => w_ret (C.is c_bl ?_)) fun h6 => w_ret ?_
    · refine c_all (f := fun x => isX n true x l (dp - 1)) (js := [3]) (own := [("one", 3)]) B hr hT ⟨tb, rfl, hPt⟩ rfl nd (it_tup (c_from (k := 1) (cv 0 hx) c_int)) (genOk_by (show genB ["value", "lates", "deep", "one"] (fnScope (top 22)) _ _ = true by decide +kernel)) (fun _ _ _ _ _ _ => pg_name (i := 3) nd rfl (Or.inl rfl)) (tgt_name 3) (by decide) fun d vs H1 hd e1 => ⟨[d], rfl, fun hvs s0 H0 A0 code fp pn => ?_⟩
      obtain ⟨u, rfl, hu2⟩ := dats1 hvs
      exact cc IE (room_g hr) (Nat.le_refl _) (e1.tab hT) (ca_cons (cv 3 hu2) (ca_cons (cv 1 (hy.mono e1)) (ca_cons (c_sub (cv 2 (hz.mono e1)) c_int) ca_nil))) rfl ⟨_, _, _, rfl, hfa d (List.mem_cons_of_mem _ hd)⟩ rfl
    · rw [h6]
      rfl
    · have h7 := h6
      simp only [Bool.or_eq_false_iff, Bool.not_eq_false'] at h7
      have hsh := all_sh (isX_sh n) h7.2
      rw [List.all_eq_true] at hsh
      refine C.is (c_not (c_all (f := earlyD n) (js := [3]) (own := [("one", 3)]) B hr hT ⟨tb, rfl, hPt⟩ rfl nd (it_tup (c_from (k := 1) (cv 0 hx) c_int)) (genOk_by (show genB ["value", "lates", "deep", "one"] (fnScope (top 22)) _ _ = true by decide +kernel)) (fun _ _ _ _ _ _ => pg_name (i := 3) nd rfl (Or.inl rfl)) (tgt_name 3) (by decide) fun d vs H1 hd e1 => ⟨[d], rfl, fun hvs s0 H0 A0 code fp pn => ?_⟩)) ?_
      · obtain ⟨u, rfl, hu2⟩ := dats1 hvs
        exact cc EA (room_g hr) (Nat.le_refl _) (e1.tab hT) (ca_cons (cv 3 hu2) ca_nil) rfl ⟨_, rfl, hsh d hd⟩ rfl
      · rw [h6]
        rfl
theorem def_zero {x : Str} {st : Stmt} {N ps : List Str} {b : Bool} {k : Nat} (F : Dfn K mg x st cd) (S : scC N ps (fnScope st) = true) (hn : ps.length = 3)
    (hb : ∀ (kV doc pm : Value) (an : Option Addr) (ct : Value) (us : List Value), us.length = ps.length → bindArgs (PySem.W.fnOf x x (fnArgs st) (fnBody st) (fnScope st) .none kV doc pm an cd ct) ⟨us, []⟩ = pure (ps.zip us)) : Cal P w K mg base (k + 1) x (spD T 3 (preX 0) (fX 0 b)) [] :=
  calD F S hn hb fun f A outer s H E vs ds hr hn hv hp hT => by
    obtain ⟨v, l, dp, _, h⟩ := hp
    exact (fit_pos h).elim
theorem def_both (M : Mgs K mg) (CIn : Cal P w K mg base 1 "is_in" (spD T 3 preIn fIn) []) (CTu : Cal P w K mg base 1 "is_tuple" (spD T 2 preTup fTup) []) (CNa : Cal P w K mg base 2 "is_name" (spD T 1 preName fName) []) (CMo : Cal P w K mg base 2 "is_move" (spD T 1 preMove fMove) [])
    {c1 P1 c2 P2 : Addr} (tb1 : LamX.TabB base mg c1 P1) (hP1 : P1 ∈ T) (F1 : Dfn K mg "is_expression" (top 23) (.ref c1)) (tb2 : LamX.TabB base mg c2 P2) (hP2 : P2 ∈ T) (F2 : Dfn K mg "is_test" (top 22) (.ref c2))
    (EA : ∀ n, Cal P w K mg base (2 * n + 3) "is_all_early" (spD T 1 (preSh n) (fEarly n)) []) : ∀ n, Cal P w K mg base (2 * n + 3) "is_expression" (spD T 3 (preX n) (fX n true)) [] ∧ Cal P w K mg base (2 * n + 3) "is_test" (spD T 3 (preX n) (fX n false)) []
  | 0 => ⟨def_zero (k := 2) (N := ["value", "lates", "deep", "one"]) (ps := ["value", "lates", "deep"]) F1 (by decide +kernel) rfl (fun _ _ _ _ _ us hl => match us, hl with | [_, _, _], _ => rfl),
      def_zero (k := 2) (N := ["value", "lates", "deep", "one"]) (ps := ["value", "lates", "deep"]) F2 (by decide +kernel) rfl (fun _ _ _ _ _ us hl => match us, hl with | [_, _, _], _ => rfl)⟩
  | n + 1 => by
    have ih := def_both M CIn CTu CNa CMo tb1 hP1 F1 tb2 hP2 F2 EA n
    exact ⟨def_expr M CIn CTu CNa CMo tb1 hP1 F1 ih.1 ih.2, def_test M CIn CTu tb2 hP2 F2 ih.1 (EA n)⟩
end
end G3

set_option Elab.async false
set_option linter.all false
set_option maxRecDepth 100000
set_option maxHeartbeats 4000000
namespace G3
open PySem PySem.Spec PyProof.Rows L2 GX
open GxR (TabG Tabbed)
open C8 (Cal scC fnArgs fnBody fnScope pe_c E0 fnScope_by)

/-! ## is_function, is_program -/
def isFn (n : Nat) : D → Bool
  | .tup [a, b, c] => if (!isName a || !isIn b 0 4) then false else isX n true c b.i 30
  | _ => false
def strOf : D → Str
  | .str s => s
  | _ => ""
def sizesOf (xs : List D) : List Str × List D := puts [] [] (xs.map fun d => (strOf (d.ix 0), d.ix 1))
def callOk (sz : List Str × List D) (c : D) : Bool := decide (((getL sz.1 sz.2 (strOf (c.ix 1))).getD (.int (-1))).i = lenD (c.ix 3))
def sumN (n : Nat) (xs : List D) : Int := sumI (fun d => nodesD n (d.ix 2)) xs
def isPr (n : Nat) : D → Bool
  | .tup xs => if !(decide (1 ≤ (xs.length : Int)) && decide ((xs.length : Int) ≤ 8)) then false else if !xs.all (isFn n) then false else
      if (!decide (((sizesOf xs).1.length : Int) = xs.length) || decide (300 < sumN n xs)) then false else xs.all fun d => (callsD n (d.ix 2)).all (callOk (sizesOf xs))
  | _ => false
def fFn (n : Nat) : List D → D
  | [v] => .bl (isFn n v)
  | _ => .non
def fPr (n : Nat) : List D → D
  | [v] => .bl (isPr n v)
  | _ => .non
def preFit (n : Nat) : List D → Prop := fun ds => ∃ v, ds = [v] ∧ fit n v = true
theorem isIn_of {v : D} {lo hi : Int} (h : isIn v lo hi = true) : ∃ i, v = .int i ∧ lo ≤ i ∧ i ≤ hi := by
  unfold isIn at h
  simp only [Bool.and_eq_true] at h
  obtain ⟨i, rfl⟩ := int_of h.1 h.2.1
  have h2 := h.2.2
  unfold inB at h2
  simp only [Bool.and_eq_true, decide_eq_true_eq] at h2
  exact ⟨i, rfl, h2.1, h2.2⟩
theorem isName_of {v : D} (h : isName v = true) : ∃ s, v = .str s ∧ nameS s = true := by
  cases v with
  | str s => exact ⟨s, rfl, h⟩
  | _ => cases h
theorem isFn_of {n : Nat} {d : D} (h : isFn n d = true) : ∃ nm l c, d = .tup [.str nm, .int l, c] ∧ nameS nm = true ∧ 0 ≤ l ∧ l ≤ 4 ∧ isX n true c l 30 = true := by
  unfold isFn at h
  split at h
  · rename_i a b c
    split at h
    · cases h
    · rename_i h1
      simp only [Bool.or_eq_true, Bool.not_eq_true', not_or, Bool.not_eq_false] at h1
      obtain ⟨nm, rfl, h2⟩ := isName_of h1.1
      obtain ⟨l, rfl, h3, h4⟩ := isIn_of h1.2
      exact ⟨nm, l, c, rfl, h2, h3, h4, h⟩
  · cases h
/-- what an expression is made of -/
theorem isX_parts {n : Nat} {b : Bool} {v : D} {l dp : Int} (h : isX (n + 1) b v l dp = true) : (∀ p ∈ partsD v, ∃ b' dp', isX n b' p l dp' = true) ∧ (kindD v = "call" → ∃ nm mv args, v = .tup [.str "call", .str nm, mv, .tup args] ∧ nameS nm = true ∧ isMove mv = true ∧ (args.length : Int) ≤ 4) := by
  have alls : ∀ {xs : List D} {dp : Int}, (xs.all fun x => isX n true x l dp) = true → ∀ p ∈ xs, ∃ b' dp', isX n b' p l dp' = true := fun {xs dp} h p hp => ⟨true, dp, by rw [List.all_eq_true] at h; exact h p hp⟩
  cases b with
  | true =>
    have h : stepE (isX n true) (isX n false) v l dp = true := h
    unfold stepE at h
    rw [Bool.and_eq_true] at h
    have h := h.2
    split at h
    · rename_i h1
      obtain ⟨k, r, rfl, hl⟩ := isTuple_of h1
      cases len1 hl
      have e : k = "early" := of_decide_eq_true h
      subst e
      exact ⟨fun p hp => absurd hp (by rw [partsD_tup, if_pos (by decide)]; exact List.not_mem_nil), fun e => absurd e (by decide)⟩
    split at h
    · rename_i h1
      obtain ⟨k, r, rfl, hl⟩ := isTuple_of h1
      obtain ⟨a, rfl⟩ := len2 hl
      split at h
      · rename_i h2
        have e : k = "number" := of_decide_eq_true h2
        subst e
        exact ⟨fun p hp => absurd hp (by rw [partsD_tup, if_pos (by decide)]; exact List.not_mem_nil), fun (e : ("number" : Str) = "call") => absurd e (by decide)⟩
      · rw [Bool.and_eq_true] at h
        have e : k = "late" := of_decide_eq_true h.1
        subst e
        exact ⟨fun p hp => absurd hp (by rw [partsD_tup, if_pos (by decide)]; exact List.not_mem_nil), fun (e : ("late" : Str) = "call") => absurd e (by decide)⟩
    split at h
    · rename_i h1
      obtain ⟨k, r, rfl, hl⟩ := isTuple_of h1
      obtain ⟨a, b, rfl⟩ := len3 hl
      rw [Bool.and_eq_true] at h
      have e : k ∈ pairsS := of_decide_eq_true h.1
      have nc : ¬ k = "call" := fun z => by rw [z] at e; revert e; decide
      have nl : ¬ k ∈ leafS := by
        unfold pairsS at e
        simp only [List.mem_cons, List.not_mem_nil, or_false] at e
        rcases e with rfl | rfl | rfl <;> decide
      rw [partsD_tup, if_neg nl, if_neg nc]
      exact ⟨alls h.2, fun e => absurd e nc⟩
    · rw [Bool.and_eq_true] at h
      obtain ⟨k, r, rfl, hl⟩ := isTuple_of h.1
      obtain ⟨a, b, c, rfl⟩ := len4 hl
      have h := h.2
      split at h
      · rename_i h2
        have e : k = "if" := of_decide_eq_true h2
        subst e
        rw [Bool.and_eq_true] at h
        rw [partsD_tup, if_neg (by decide), if_neg (by decide)]
        refine ⟨fun p hp => ?_, fun (e : ("if" : Str) = "call") => absurd e (by decide)⟩
        rcases List.mem_cons.mp hp with q | q
        · rw [q]; exact ⟨false, _, h.1⟩
        · exact alls h.2 p q
      · simp only [Bool.and_eq_true, Bool.not_eq_true', Bool.or_eq_false_iff, Bool.not_eq_false'] at h
        obtain ⟨⟨h1, h2, h3, h4⟩, h5, h6⟩ := h
        have e : k = "call" := of_decide_eq_true h1
        subst e
        obtain ⟨ys, e4⟩ := tup_of h4
        have e4 : c = .tup ys := e4
        subst e4
        obtain ⟨nm, e2, h2⟩ := isName_of h2
        have e2 : a = .str nm := e2
        subst e2
        rw [partsD_tup, if_neg (by decide), if_pos rfl]
        exact ⟨alls h6, fun _ => ⟨nm, b, ys, rfl, h2, h3, of_decide_eq_true h5⟩⟩
  | false =>
    have h : stepT (isX n true) (earlyD n) v l dp = true := h
    unfold stepT at h
    rw [Bool.and_eq_true] at h
    have h := h.2
    split at h
    · rename_i h1
      obtain ⟨k, r, rfl, hl⟩ := isTuple_of h1
      rw [Bool.and_eq_true] at h
      have e : k = "below" := of_decide_eq_true h.1
      subst e
      exact ⟨fun p hp => absurd hp (by rw [partsD_tup, if_pos (by decide)]; exact List.not_mem_nil), fun (e : ("below" : Str) = "call") => absurd e (by decide)⟩
    · rw [Bool.and_eq_true] at h
      obtain ⟨k, r, rfl, hl⟩ := isTuple_of h.1
      obtain ⟨a, b, rfl⟩ := len3 hl
      have h := h.2
      split at h
      · rename_i h2
        have e : k = "rest" := of_decide_eq_true h2
        subst e
        exact ⟨fun p hp => absurd hp (by rw [partsD_tup, if_pos (by decide)]; exact List.not_mem_nil), fun (e : ("rest" : Str) = "call") => absurd e (by decide)⟩
      · simp only [Bool.and_eq_true, Bool.not_eq_true', Bool.or_eq_false_iff, Bool.not_eq_false'] at h
        have e : k = "less" := of_decide_eq_true h.1.1
        subst e
        rw [partsD_tup, if_neg (by decide), if_neg (by decide)]
        exact ⟨alls h.1.2, fun (e : ("less" : Str) = "call") => absurd e (by decide)⟩
theorem foldl_mem {f : D → List D} {c : D} : ∀ {xs acc : List D}, c ∈ xs.foldl (fun acc x => acc ++ f x) acc → c ∈ acc ∨ ∃ x ∈ xs, c ∈ f x
  | [], acc, h => .inl h
  | x :: xs, acc, h => by
    rcases foldl_mem (xs := xs) h with q | ⟨y, hy, q⟩
    · rcases List.mem_append.mp q with z | z
      · exact .inl z
      · exact .inr ⟨x, List.mem_cons_self, z⟩
    · exact .inr ⟨y, List.mem_cons_of_mem _ hy, q⟩
theorem calls_shape : ∀ {n : Nat} {b : Bool} {v : D} {l dp : Int}, isX n b v l dp = true → ∀ c ∈ callsD n v, ∃ nm mv args, c = .tup [.str "call", .str nm, mv, .tup args] ∧ nameS nm = true ∧ isMove mv = true ∧ (args.length : Int) ≤ 4
  | 0, b, v, l, dp, h, c, hc => by cases h
  | n + 1, b, v, l, dp, h, c, hc => by
    obtain ⟨h1, h2⟩ := isX_parts h
    have hc : c ∈ (partsD v).foldl (fun acc x => acc ++ callsD n x) (if kindD v = "call" then [v] else []) := hc
    rcases foldl_mem hc with q | ⟨x, hx, q⟩
    · split at q
      · rename_i hk
        rw [List.mem_singleton.mp q]
        exact h2 hk
      · cases q
    · obtain ⟨b', dp', h3⟩ := h1 x hx
      exact calls_shape h3 c q
theorem putL_all {p : D → Prop} {ks : List Str} {ds : List D} {k : Str} {d : D} (h : ∀ x ∈ ds, p x) (hd : p d) : ∀ x ∈ putL ks ds k d, p x := by
  intro x hx
  unfold putL at hx
  split at hx
  · obtain ⟨j, hj⟩ := List.getElem?_of_mem hx
    rw [List.getElem?_zipWith] at hj
    cases h1 : ks[j]? with
    | none => rw [h1] at hj; cases hj
    | some k1 =>
      cases h2 : ds[j]? with
      | none => rw [h1, h2] at hj; cases hj
      | some d1 =>
        rw [h1, h2] at hj
        have hj' : (if k1 = k then d else d1) = x := Option.some.inj hj
        rw [← hj']
        split
        · exact hd
        · exact h _ (List.mem_of_getElem? h2)
  · rcases List.mem_append.mp hx with z | z
    · exact h x z
    · rw [List.mem_singleton.mp z]; exact hd
theorem puts_all {p : D → Prop} : ∀ {r : List (Str × D)} {ks : List Str} {ds : List D}, (∀ x ∈ ds, p x) → (∀ q ∈ r, p q.2) → ∀ x ∈ (puts ks ds r).2, p x
  | [], ks, ds, h, hr => h
  | (k, d) :: r, ks, ds, h, hr => puts_all (r := r) (ks := putN ks k) (ds := putL ks ds k d) (putL_all h (hr (k, d) List.mem_cons_self)) fun q hq => hr q (List.mem_cons_of_mem _ hq)
theorem puts_length : ∀ {r : List (Str × D)} {ks : List Str} {ds : List D}, ks.length = ds.length → (puts ks ds r).1.length = (puts ks ds r).2.length
  | [], ks, ds, h => h
  | (k, d) :: r, ks, ds, h => puts_length (r := r) (ks := putN ks k) (ds := putL ks ds k d) (putL_length h)
theorem getL_mem {α : Type} {z : Str} {a : α} : ∀ {ks : List Str} {as : List α}, getL ks as z = some a → a ∈ as
  | [], as, h => by cases h
  | k :: ks, [], h => by cases h
  | k :: ks, b :: as, h => by
    unfold getL at h
    split at h
    · cases h; exact List.mem_cons_self
    · exact List.mem_cons_of_mem _ (getL_mem h)
section
variable {P : Program} {w : World} {K : PySem.W.Frag} {mg : Str → Option Value} {base : Heap} {T : List Addr} {cd : Value} {n : Nat}
theorem def_fn (M : Mgs K mg) (CIn : Cal P w K mg base 1 "is_in" (spD T 3 preIn fIn) []) (CNa : Cal P w K mg base 2 "is_name" (spD T 1 preName fName) []) (IE : Cal P w K mg base (2 * n + 3) "is_expression" (spD T 3 (preX n) (fX n true)) [])
    (F : Dfn K mg "is_function" (top 28) cd) : Cal P w K mg base (2 * n + 4) "is_function" (spD T 1 (preFit (n + 1)) (fFn n)) [] := by
  refine calD (k := 2 * n + 3) (N := ["value"]) (ps := ["value"]) F (by decide +kernel) rfl (fun _ _ _ _ _ us hl => match us, hl with | [_], _ => rfl) fun f A outer s H E vs ds hr hn hv hp hT => ?_
  obtain ⟨v, rfl, hfit⟩ := hp
  obtain ⟨x, rfl, hx⟩ := dats1 hv
  have B := M.B
  by_cases hv : v.isTup = true
  · obtain ⟨xs, rfl⟩ := tup_of hv
    have hfa := (fit_tup hfit).2
    by_cases hl : (xs.length : Int) = 3
    · obtain ⟨a, b, c, rfl⟩ : ∃ a b c, xs = [a, b, c] := by
        match xs, hl with
        | [a, b, c], _ => exact ⟨a, b, c, rfl⟩
        | [], h => simp at h
        | [_], h => simp at h
        | [_, _], h => simp at h
        | _ :: _ :: _ :: _ :: _, h => simp only [List.length_cons] at h; omega
      refine w_if (k := (!isName a || !isIn b 0 4)) (ct_w (CW.is (cw_or (ct_not (ct_val (c_isi_tuple B (ha := cv 0 hx)))) fun _ => cw_or (ct_c (c_neI (c_lenT B (cv 0 hx)) c_int)) fun _ => cw_or (ct_not (ct_val (cc CNa hr (by omega) hT (ca_cons (c_ixT (cv 0 hx) c_int (fun _ _ => rfl) (j := 0) rfl rfl) ca_nil) rfl ⟨_, rfl, fit_short (hfa a (by simp))⟩ rfl))) fun _ =>
        cw_or1 (ct_not (ct_val (cc CIn hr (by omega) hT (ca_cons (c_ixT (cv 0 hx) c_int (fun _ _ => rfl) (j := 1) rfl rfl) (ca_cons c_int (ca_cons (g_lates M) ca_nil))) rfl ⟨_, _, _, rfl⟩ rfl)))) rfl)) (fun h => w_ret (C.is c_bl ?_)) fun h => ?_
      · show D.bl false = .bl (if (!isName a || !isIn b 0 4) = true then false else _)
        rw [if_pos h]
      · have h2 := h
        simp only [Bool.or_eq_false_iff, Bool.not_eq_false'] at h2
        obtain ⟨i, rfl, _⟩ := isIn_of h2.2
        refine w_ret (C.is (cc IE hr (by omega) hT (ca_cons (c_ixT (cv 0 hx) c_int (fun _ _ => rfl) (j := 2) rfl rfl) (ca_cons (c_ixT (cv 0 hx) c_int (fun _ _ => rfl) (j := 1) rfl rfl) (ca_cons (g_deep M) ca_nil))) rfl ⟨_, _, _, rfl, hfa c (by simp)⟩ rfl) ?_)
        show _ = D.bl (if (!isName a || !isIn (.int i) 0 4) = true then false else _)
        rw [h, if_neg Bool.false_ne_true]
        rfl
    · refine w_if (k := true) (ct_w (CW.is (cw_or (ct_not (ct_val (c_isi_tuple B (ha := cv 0 hx)))) fun _ => cw_or (j := true) (ct_c (c_neI (c_lenT B (cv 0 hx)) c_int)) fun h => ?_) ?_)) (fun h => w_ret (C.is c_bl ?_)) fun h => nomatch h
      · rw [Bool.not_eq_false'] at h
        exact absurd (of_decide_eq_true h) hl
      · rw [Bool.or_true, Bool.or_true]
      · show D.bl false = .bl (isFn n (.tup xs))
        unfold isFn
        split
        · rename_i e
          cases e
          exact absurd rfl hl
        · rfl
  · refine w_if (k := true) (ct_w (CW.is (cw_or (j := true) (ct_not (ct_val (c_isi_tuple B (ha := cv 0 hx)))) fun h => ?_) ?_)) (fun h => w_ret (C.is c_bl ?_)) fun h => nomatch h
    · rw [Bool.not_eq_false'] at h
      exact absurd h hv
    · rw [Bool.or_true]
    · cases v <;> first | rfl | exact absurd rfl hv
theorem room_u {X : Cx} {k : Nat} {scope : Scope} {s : Shared} {H : Hp} {A : Addr} {code : Value} {fp : List Addr} {pn : List (Addr × Obj)} (hr : Room (k + 1) X.A) : (XG X scope s H A code fp pn).A.units + 1 < cLine := by
  have h := (room_g (scope := scope) (s := s) (H := H) (A := A) (code := code) (fp := fp) (pn := pn) hr).un
  omega
theorem g3 {X : Cx} {x y z : Str} {px py pz pt : Pos} {kk a b c : Nat} (hc : X.calm = true) (nd : X.N.Nodup) (ha : X.N[a]? = some x := by rfl) (hb : X.N[b]? = some y := by rfl) (hcc : X.N[c]? = some z := by rfl) (la : X.env.scope.names.lookup x = some .local := by rfl) (lb : X.env.scope.names.lookup y = some .local := by rfl) (lc : X.env.scope.names.lookup z = some .local := by rfl) :
    PG X (.Tuple [.Name x px, .Name y py, .Name z pz] kk pt) (gTup X.K 3 (gAll [a, b, c])) :=
  pg_tup hc (pgs_cons (pg_name nd ha (.inl la) (.inr la)) (pgs_cons (pg_name nd hb (.inl lb) (.inr lb)) (pgs_cons (pg_name nd hcc (.inl lc) (.inr lc)) pgs_nil)))
theorem def_pr (M : Mgs K mg) (CF : Cal P w K mg base (2 * n + 4) "is_function" (spD T 1 (preFit (n + 1)) (fFn n)) []) (CN : Cal P w K mg base (2 * n + 3) "nodes_of" (spD T 1 (preSh n) (fNodes n)) []) (CC : Cal P w K mg base (2 * n + 3) "calls_of" (spD T 1 (preCalls n) (fCalls n)) [])
    {c Pt : Addr} (tb : LamX.TabB base mg c Pt) (hPt : Pt ∈ T) (F : Dfn K mg "is_program" (top 29) (.ref c)) : Cal P w K mg base (2 * n + 6) "is_program" (spD T 1 (preFit (n + 2)) (fPr n)) [] := by
  refine calD (k := 2 * n + 5) (N := ["value", "sizes", "name", "lates", "body", "one", "call"]) (ps := ["value"]) F (by decide +kernel) rfl (fun _ _ _ _ _ us hl => match us, hl with | [_], _ => rfl) fun f A outer s H E vs ds hr hn hv hp hT => ?_
  obtain ⟨v, rfl, hfit⟩ := hp
  obtain ⟨x, rfl, hx⟩ := dats1 hv
  have B := M.B
  have nd : (["value", "sizes", "name", "lates", "body", "one", "call"] : List Str).Nodup := by decide
  have hu : ∀ {u : Nat}, u + 16 * (2 * n + 5) + 200 < cLine → u + 1 < cLine := fun h => by omega
  by_cases hv : ¬ v.isTup = true
  · refine w_if (k := true) (ct_w (CW.is (cw_or (j := true) (ct_not (ct_val (c_isi_tuple B (ha := cv 0 hx)))) fun h => ?_) ?_)) (fun h => w_ret (C.is c_bl ?_)) fun h => nomatch h
    · rw [Bool.not_eq_false'] at h
      exact absurd h hv
    · rw [Bool.or_true]
    · cases v <;> first | rfl | exact absurd rfl hv
  have hv := Classical.not_not.mp hv
  obtain ⟨xs, rfl⟩ := tup_of hv
  have hfa := fit_tup hfit
  have hlen : xs.length ≤ 100000 := Nat.le_trans hfa.1 (by decide)
  show W T _ _ _ H (some (.bl (if (!(decide (1 ≤ (xs.length : Int)) && decide ((xs.length : Int) ≤ 8))) = true then false else if (!xs.all (isFn n)) = true then false else
      if (!decide (((sizesOf xs).1.length : Int) = xs.length) || decide (300 < sumN n xs)) = true then false else xs.all fun d => (callsD n (d.ix 2)).all (callOk (sizesOf xs))))) PF
  refine w_if (k := (!(decide (1 ≤ (xs.length : Int)) && decide ((xs.length : Int) ≤ 8)))) (ct_w (CW.is (cw_or (ct_not (ct_val (c_isi_tuple B (ha := cv 0 hx)))) fun _ => cw_or1 (ct_not (ct_leLe c_int (c_lenT B (cv 0 hx)) (g_functions M)))) rfl)) (fun h => w_ret (C.is c_bl (by rw [if_pos h]))) fun h1 => ?_
  rw [h1, if_neg Bool.false_ne_true]
  refine w_if (ct_not (ct_val (c_all (f := isFn n) (js := [5]) (own := [("one", 5)]) B hr hT ⟨tb, rfl, hPt⟩ rfl nd (it_tup (cv 0 hx)) (genOk_by (show genB ["value", "sizes", "name", "lates", "body", "one", "call"] (fnScope (top 29)) _ _ = true by decide +kernel)) (fun _ _ _ _ _ _ => pg_name (i := 5) nd rfl (Or.inl rfl)) (tgt_name 5) (by decide) fun d vs H1 hd e1 => ⟨[d], rfl, fun hvs s0 H0 A0 code fp pn => ?_⟩))) (fun h => w_ret (C.is c_bl (by rw [if_pos h]))) fun h2 => ?_
  · obtain ⟨u, rfl, hu2⟩ := dats1 hvs
    exact cc CF (room_g hr) (Nat.le_refl _) (e1.tab hT) (ca_cons (cv 5 hu2) ca_nil) rfl ⟨_, rfl, hfa.2 d hd⟩ rfl
  rw [h2, if_neg Bool.false_ne_true]
  rw [Bool.not_eq_false', List.all_eq_true] at h2
  have sp3 : ∀ d ∈ xs, ∃ nm l c, d = .tup [.str nm, .int l, c] ∧ nameS nm = true ∧ 0 ≤ l ∧ l ≤ 4 ∧ isX n true c l 30 = true := fun d hd => isFn_of (h2 d hd)
  refine w_set (i := 1) (dd := .dic (sizesOf xs).1 (sizesOf xs).2) nd (c_dc (fk := fun d => strOf (d.ix 0)) (fd := fun d => d.ix 1) (js := [2, 3, 4]) (own := [("name", 2), ("lates", 3), ("body", 4)]) rfl nd (it_tup (cv 0 hx)) (blkOk_by (show blkC ["value", "sizes", "name", "lates", "body", "one", "call"] (fnScope (top 29)) _ _ = true by decide +kernel)) (fun _ _ _ _ _ => g3 rfl nd) (tgt_tup [2, 3, 4] rfl) (by decide) hlen fun d vs H1 hd e1 => ?_) fun y H1 e1 hy => ?_
  · obtain ⟨nm, l, c0, rfl, _⟩ := sp3 d hd
    refine ⟨_, rfl, fun hvs => ?_⟩
    obtain ⟨a1, a2, a3, rfl, b1, b2, b3⟩ := dats3 hvs
    exact ⟨fun s0 H0 A0 cl fp => cv 2 b1, fun s0 H0 A0 cl fp => cv 3 b2, rfl⟩
  have hszl : (sizesOf xs).1.length = (sizesOf xs).2.length := puts_length rfl
  have hszi : ∀ z ∈ (sizesOf xs).2, ∃ i, z = D.int i := puts_all (fun z hz => absurd hz List.not_mem_nil) fun q hq => by
    obtain ⟨d, hd, rfl⟩ := List.mem_map.mp hq
    obtain ⟨nm, l, c0, rfl, _⟩ := sp3 d hd
    exact ⟨l, rfl⟩
  refine w_if (k := (!decide (((sizesOf xs).1.length : Int) = xs.length) || decide (300 < sumN n xs))) (ct_w (cw_or (ct_c (c_neI (c_lenD B (cv 1 hy) hszl) (c_lenT B (cv 0 (hx.mono e1))))) fun _ => cw_or1 (ct_c (c_gt (c_sum (f := fun d => nodesD n (d.ix 2)) (js := [2, 3, 4]) (own := [("name", 2), ("lates", 3), ("body", 4)]) B hr (e1.tab hT) ⟨tb, rfl, hPt⟩ rfl nd (it_tup (cv 0 (hx.mono e1))) (genOk_by (show genB ["value", "sizes", "name", "lates", "body", "one", "call"] (fnScope (top 29)) _ _ = true by decide +kernel)) (fun _ _ _ _ _ _ => g3 rfl nd) (tgt_tup [2, 3, 4] rfl) (by decide) fun d vs H2 hd e2 => ?_) (g_nodes M))))) (fun h => w_ret (C.is c_bl (by rw [if_pos h]))) fun h3 => ?_
  · obtain ⟨nm, l, c0, rfl, _, _, _, hX⟩ := sp3 d hd
    refine ⟨_, rfl, fun hvs s0 H0 A0 code fp pn => ?_⟩
    obtain ⟨a1, a2, a3, rfl, b1, b2, b3⟩ := dats3 hvs
    exact cc CN (room_g hr) (by omega) ((e1.trans e2).tab hT) (ca_cons (cv 4 b3) ca_nil) rfl ⟨_, rfl, isX_sh _ _ _ _ _ hX⟩ rfl
  rw [h3, if_neg Bool.false_ne_true]
  have hnod : ∀ d ∈ xs, nodesD n (d.ix 2) ≤ 1000 := fun d hd => by
    simp only [Bool.or_eq_false_iff, decide_eq_false_iff_not] at h3
    have q : nodesD n (d.ix 2) ≤ sumN n xs := by
      have go : ∀ {ys : List D}, d ∈ ys → nodesD n (d.ix 2) ≤ sumI (fun d => nodesD n (d.ix 2)) ys ∧ 0 ≤ sumI (fun d => nodesD n (d.ix 2)) ys := fun {ys} hy => by
        have pos : ∀ zs : List D, 0 ≤ sumI (fun d => nodesD n (d.ix 2)) zs := fun zs => by
          induction zs with
          | nil => exact Int.le_refl _
          | cons z zs ih =>
            show 0 ≤ nodesD n (z.ix 2) + sumI (fun d => nodesD n (d.ix 2)) zs
            have := nodes_pos n (z.ix 2)
            omega
        refine ⟨?_, pos ys⟩
        induction ys with
        | nil => cases hy
        | cons y ys ih =>
          show nodesD n (d.ix 2) ≤ nodesD n (y.ix 2) + sumI (fun d => nodesD n (d.ix 2)) ys
          rcases List.mem_cons.mp hy with z | z
          · rw [z]
            have := pos ys
            omega
          · have := ih z
            have := nodes_pos n (y.ix 2)
            omega
      exact (go hd).1
    have := h3.2
    omega
  refine w_for (T := T) (Pv := fun i σ' H' => (∃ a b c d e, σ' = [some x, some y, a, b, c, d, e]) ∧ (xs.take i).all (fun d => (callsD n (d.ix 2)).all (callOk (sizesOf xs))) = true) PassesOwn.never rfl (it_tup (cv 0 (hx.mono e1))) (g3 (a := 2) (b := 3) (c := 4) rfl nd) (tgt_tup [2, 3, 4] rfl) (fun H2 e2 => ⟨⟨_, _, _, _, _, rfl⟩, rfl⟩) (fun i dd vs σ' H2 hi e2 hp => ?_) fun σ' H2 e2 hp => ?_
  · obtain ⟨⟨a, b, c1, d, e, rfl⟩, hall⟩ := hp
    have hmem := List.mem_of_getElem? hi
    have hts : xs.take (i + 1) = xs.take i ++ [dd] := by
      rw [List.take_succ, hi]
      rfl
    have hno := hnod dd hmem
    obtain ⟨nm, l, c0, rfl, _, _, _, hX⟩ := sp3 dd hmem
    refine ⟨_, rfl, fun hvs => ?_⟩
    obtain ⟨a1, a2, a3, rfl, b1, b2, b3⟩ := dats3 hvs
    refine w_if (ct_not (ct_val (c_all (f := callOk (sizesOf xs)) (js := [6]) (own := [("call", 6)]) B hr ((e1.trans e2).tab hT) ⟨tb, rfl, hPt⟩ rfl nd (it_lst (cc CC hr (by omega) ((e1.trans e2).tab hT) (ca_cons (cv 4 b3) ca_nil) rfl ⟨_, rfl, isX_sh _ _ _ _ _ hX, hno⟩ rfl)) (genOk_by (show genB ["value", "sizes", "name", "lates", "body", "one", "call"] (fnScope (top 29)) _ _ = true by decide +kernel)) (fun _ _ _ _ _ _ => pg_name (i := 6) nd rfl (Or.inl rfl)) (tgt_name 6) (by decide) fun d vs H3 hd e3 => ⟨[d], rfl, fun hvs s0 H0 A0 code fp pn => ?_⟩))) (fun h => w_ret (C.is c_bl ?_)) fun h => w_nil fun H4 e4 => ?_
    · obtain ⟨u, rfl, hu2⟩ := dats1 hvs
      obtain ⟨nm2, mv, args, rfl, _⟩ := calls_shape hX d hd
      have hy3 := hy.mono (e2.trans e3)
      have hget : (getL (sizesOf xs).1 (sizesOf xs).2 nm2).getD (.int (-1)) = .int ((getL (sizesOf xs).1 (sizesOf xs).2 nm2).getD (.int (-1))).i := by
        cases hg : getL (sizesOf xs).1 (sizesOf xs).2 nm2 with
        | none => rfl
        | some z =>
          obtain ⟨i, rfl⟩ := hszi z (getL_mem hg)
          rfl
      exact C.is (c_eqI (C.is (c_dgetD (room_u (k := 2 * n + 4) hr) (cv 1 hy3) (c_ixT (cv 6 hu2) c_int (fun _ _ => rfl) (j := 1) rfl rfl) (c_neg c_int) ⟨rfl, rfl, rfl, rfl⟩) hget) (c_lenT B (c_ixT (cv 6 hu2) c_int (fun _ _ => rfl) (j := 3) rfl rfl))) rfl
    · rw [Bool.not_eq_true', List.all_eq_false] at h
      have z : (xs.all fun d => (callsD n (d.ix 2)).all (callOk (sizesOf xs))) = false := by
        rw [List.all_eq_false]
        refine ⟨_, hmem, ?_⟩
        rw [Bool.not_eq_true, List.all_eq_false]
        exact h
      rw [z]
    · refine ⟨⟨_, _, _, _, _, rfl⟩, ?_⟩
      rw [hts, List.all_append, hall, Bool.true_and]
      rw [Bool.not_eq_false'] at h
      show ((callsD n c0).all (callOk (sizesOf xs)) && true) = true
      rw [h]
      rfl
  · obtain ⟨_, hall⟩ := hp
    rw [List.take_length] at hall
    rw [hall]
    exact w_ret c_bl
end
end G3

set_option Elab.async false
set_option linter.all false
set_option maxRecDepth 100000
set_option maxHeartbeats 4000000
namespace G3
open PySem PySem.Spec PyProof.Rows L2 GX
open GxR (TabG Tabbed)
open C8 (Cal scC fnArgs fnBody fnScope pe_c E0 fnScope_by)

/-! ## What needs a program -/
structure Prog (n : Nat) (xs : List D) : Prop where
  one : 1 ≤ xs.length
  eight : xs.length ≤ 8
  fn : ∀ d ∈ xs, isFn n d = true
  keys : (sizesOf xs).1.length = xs.length
  nod : sumN n xs ≤ 300
  calls : ∀ d ∈ xs, ∀ c ∈ callsD n (d.ix 2), callOk (sizesOf xs) c = true
theorem isPr_of {n : Nat} {v : D} (h : isPr n v = true) : ∃ xs, v = .tup xs ∧ Prog n xs := by
  unfold isPr at h
  split at h
  · rename_i xs
    refine ⟨xs, rfl, ?_⟩
    split at h
    · cases h
    · rename_i h1
      split at h
      · cases h
      · rename_i h2
        split at h
        · cases h
        · rename_i h3
          simp only [Bool.not_eq_true', Bool.and_eq_false_iff, not_or, Bool.not_eq_false, decide_eq_true_eq, Bool.and_eq_true, decide_eq_false_iff_not, Bool.or_eq_true, List.all_eq_true, Classical.not_not, Int.not_lt] at h1 h2 h3 h
          exact ⟨by omega, by omega, h2, by omega, by omega, h⟩
  · cases h
theorem isPr_mk {n : Nat} {xs : List D} (p : Prog n xs) : isPr n (.tup xs) = true := by
  have h1 := p.one
  have h8 := p.eight
  have hk := p.keys
  have hn := p.nod
  show (if (!(decide (1 ≤ (xs.length : Int)) && decide ((xs.length : Int) ≤ 8))) = true then false else if (!xs.all (isFn n)) = true then false else
      if (!decide (((sizesOf xs).1.length : Int) = xs.length) || decide (300 < sumN n xs)) = true then false else xs.all fun d => (callsD n (d.ix 2)).all (callOk (sizesOf xs))) = true
  rw [if_neg (by simp; omega), if_neg (by simp; exact p.fn), if_neg (by simp; omega)]
  rw [List.all_eq_true]
  exact fun d hd => List.all_eq_true.mpr (p.calls d hd)
theorem nod_le {n : Nat} : ∀ {ys : List D} {d : D}, d ∈ ys → nodesD n (d.ix 2) ≤ sumN n ys ∧ 0 ≤ sumN n ys
  | y :: ys, d, h => by
    have pos : ∀ zs : List D, 0 ≤ sumN n zs := fun zs => by
      induction zs with
      | nil => exact Int.le_refl _
      | cons z zs ih =>
        show 0 ≤ nodesD n (z.ix 2) + sumN n zs
        have := nodes_pos n (z.ix 2)
        omega
    refine ⟨?_, pos _⟩
    show nodesD n (d.ix 2) ≤ nodesD n (y.ix 2) + sumN n ys
    rcases List.mem_cons.mp h with q | q
    · rw [q]
      have := pos ys
      omega
    · have := (nod_le (n := n) q).1
      have := nodes_pos n (y.ix 2)
      omega
def bodsOf (xs : List D) : List Str × List D := puts [] [] (xs.map fun d => (strOf (d.ix 0), d.ix 2))
def bodyOf (xs : List D) (nm : Str) : Option D := getL (bodsOf xs).1 (bodsOf xs).2 nm
theorem body_mem {n : Nat} {xs : List D} {nm : Str} {b : D} (p : Prog n xs) (h : bodyOf xs nm = some b) : ∃ d ∈ xs, b = d.ix 2 :=
  puts_all (p := fun b => ∃ d ∈ xs, b = d.ix 2) (fun z hz => absurd hz List.not_mem_nil) (fun q hq => by
    obtain ⟨d, hd, rfl⟩ := List.mem_map.mp hq
    exact ⟨d, hd, rfl⟩) b (getL_mem h)
def preP (n : Nat) : List D → Prop := fun ds => ∃ v, ds = [v] ∧ fit (n + 2) v = true ∧ isPr n v = true ∧ v.nl = true
def preNN (n : Nat) : List D → Prop := fun ds => ∃ v nm, ds = [v, .str nm] ∧ fit (n + 2) v = true ∧ isPr n v = true ∧ v.nl = true ∧ (bodyOf (its v) nm).isSome = true
def fNon : List D → D := fun _ => .non
def fBodies : List D → D
  | [v] => .dic (bodsOf (its v)).1 (bodsOf (its v)).2
  | _ => .non
def fFunctions : List D → D
  | [v] => .tup ((its v).map fun d => d.ix 0)
  | _ => .non
def fCount (n : Nat) : List D → D
  | [v] => .int (sumN n (its v))
  | _ => .non
def fCallsOf (n : Nat) : List D → D
  | [v, .str nm] => .tup (callsD n ((bodyOf (its v) nm).getD .non))
  | _ => .non
def preE (n : Nat) : List D → Prop := fun ds => ∃ v, ds = [v] ∧ fit n v = true ∧ isX n true v 4 30 = true
section
variable {T : List Addr} {X : Cx} {σ : L2.St} {H H' : Hp} {e : Expr} {pos : Pos} {P : L2.St → Hp → Prop} {d : Option D} {dd : D} {rest : List Stmt}
theorem w_expr (h : C T X e σ H dd) (hr : ∀ H1, Ex T H H1 → W T X rest σ H1 d P) (hs : swapsWith e none pos.line X.env = pure false := by rfl) : W T X (.Expr e pos :: rest) σ H d P :=
  w_of (pss_cons (ps_expr pe_s hs) pss_s) fun H1 e1 E q n => h H1 e1 _ fun v H2 e2 hv => hr H2 (e1.trans e2) H2 (Ex.refl T H2) E (fun v H3 d0 hd e3 hv => q v H3 d0 hd (e2.trans e3) hv) fun σ' H3 e3 hp => n σ' H3 (e2.trans e3) hp
end
theorem calN {P : Program} {w : World} {K : PySem.W.Frag} {mg : Str → Option Value} {base : Heap} {x : Str} {st : Stmt} {cd : Value} {N ps : List Str} {k n : Nat} {T : List Addr} {pre : List D → Prop} (F : Dfn K mg x st cd) (S : scC N ps (fnScope st) = true) (hn : ps.length = n)
    (hb : ∀ (kV doc pm : Value) (an : Option Addr) (ct : Value) (us : List Value), us.length = ps.length → bindArgs (PySem.W.fnOf x x (fnArgs st) (fnBody st) (fnScope st) .none kV doc pm an cd ct) ⟨us, []⟩ = pure (ps.zip us))
    (body : ∀ (f : Addr) (A : Around) (outer : List Env) (s : Shared) (H : Hp) (E : XK) (vs : List V) (ds : List D), Room k (XF P w K mg base N x st f cd A outer s H E).A → ds.length = n → Dats H ds vs → pre ds → Tb T H →
      W T (XF P w K mg base N x st f cd A outer s H E) (fnBody st) (start N vs) H none (fun _ _ => True)) :
    Cal P w K mg base (k + 1) x (spD T n pre fNon) [] := by
  refine calG F S (fun vs H Q E h => ?_) hb fun f A outer s H E vs Q hr h => ?_
  · obtain ⟨ds, h1, h2, _⟩ := h
    rw [h2.length, h1, hn]
  · obtain ⟨ds, h1, h2, h3, h4, q⟩ := h
    exact body f A outer s H E vs ds hr h1 h2 h3 h4 H (Ex.refl T H) _ (fun v H2 d0 hd e2 hv => by cases hd) fun σ' H2 e2 hp => q .non H2 e2 (dat_non.mpr rfl)
section
variable {P : Program} {w : World} {K : PySem.W.Frag} {mg : Str → Option Value} {base : Heap} {T : List Addr} {cd : Value} {n : Nat}
theorem def_need (M : Mgs K mg) (CP : Cal P w K mg base (2 * n + 6) "is_program" (spD T 1 (preFit (n + 2)) (fPr n)) []) (F : Dfn K mg "need_program" (top 30) cd) : Cal P w K mg base (2 * n + 7) "need_program" (spD T 1 (preP n) fNon) [] := by
  refine calN (k := 2 * n + 6) (N := ["program"]) (ps := ["program"]) F (by decide +kernel) rfl (fun _ _ _ _ _ us hl => match us, hl with | [_], _ => rfl) fun f A outer s H E vs ds hr hn hv hp hT => ?_
  obtain ⟨v, rfl, h1, h2, h3⟩ := hp
  obtain ⟨x, rfl, hx⟩ := dats1 hv
  refine w_if (ct_not (ct_val (cc CP hr (by omega) hT (ca_cons (cv 0 hx) ca_nil) rfl ⟨_, rfl, h1⟩ rfl))) (fun h => ?_) fun h => w_nil fun _ _ => True.intro
  have h : (!isPr n v) = true := h
  rw [h2] at h
  cases h
theorem nl_mem {xs : List D} {d : D} (h : (D.tup xs).nl = true) (hd : d ∈ xs) : d.nl = true := by
  unfold D.nl at h
  exact nls_mem h hd
theorem def_bodies (M : Mgs K mg) (F : Dfn K mg "bodies" (top 31) cd) : Cal P w K mg base 1 "bodies" (spD T 1 (preP n) fBodies) [] := by
  refine calD (N := ["program", "name", "lates", "body"]) (ps := ["program"]) F (by decide +kernel) rfl (fun _ _ _ _ _ us hl => match us, hl with | [_], _ => rfl) fun f A outer s H E vs ds hr hn hv hp hT => ?_
  obtain ⟨v, rfl, hf, hp, hnl⟩ := hp
  obtain ⟨x, rfl, hx⟩ := dats1 hv
  obtain ⟨xs, rfl, p⟩ := isPr_of hp
  have nd : (["program", "name", "lates", "body"] : List Str).Nodup := by decide
  refine w_ret (C.is (c_dc (fk := fun d => strOf (d.ix 0)) (fd := fun d => d.ix 2) (js := [1, 2, 3]) (own := [("name", 1), ("lates", 2), ("body", 3)]) rfl nd (it_tup (cv 0 hx)) (blkOk_by (show blkC ["program", "name", "lates", "body"] (fnScope (top 31)) _ _ = true by decide +kernel)) (fun _ _ _ _ _ => g3 rfl nd) (tgt_tup [1, 2, 3] rfl) (by decide) (Nat.le_trans p.eight (by decide)) fun d vs H1 hd e1 => ?_) rfl)
  have hdn := nl_mem hnl hd
  obtain ⟨nm, l, c0, rfl, _⟩ := isFn_of (p.fn d hd)
  refine ⟨_, rfl, fun hvs => ?_⟩
  obtain ⟨a1, a2, a3, rfl, b1, b2, b3⟩ := dats3 hvs
  exact ⟨fun s0 H0 A0 cl fp => cv 1 b1, fun s0 H0 A0 cl fp => cv 3 b3, nl_mem hdn (by simp [D.ix])⟩
theorem def_needName (M : Mgs K mg) (CN : Cal P w K mg base (2 * n + 7) "need_program" (spD T 1 (preP n) fNon) []) (CB : Cal P w K mg base 1 "bodies" (spD T 1 (preP n) fBodies) []) (F : Dfn K mg "need_name" (top 32) cd) : Cal P w K mg base (2 * n + 8) "need_name" (spD T 2 (preNN n) fNon) [] := by
  refine calN (k := 2 * n + 7) (N := ["program", "name"]) (ps := ["program", "name"]) F (by decide +kernel) rfl (fun _ _ _ _ _ us hl => match us, hl with | [_, _], _ => rfl) fun f A outer s H E vs ds hr hn hv hp hT => ?_
  obtain ⟨v, nm, rfl, h1, h2, h3, h4⟩ := hp
  obtain ⟨x, y, rfl, hx, hy⟩ := dats2 hv
  have hu : ∀ {u : Nat}, u + 16 * (2 * n + 7) + 200 < cLine → u + 1 < cLine := fun h => by omega
  refine w_expr (cc CN hr (by omega) hT (ca_cons (cv 0 hx) ca_nil) rfl ⟨_, rfl, h1, h2, h3⟩ rfl) fun H1 e1 => ?_
  refine w_if (ct_w (cw_or (ct_not (ct_val (c_isi_str M.B (ha := cv 1 (hy.mono e1))))) fun _ => cw_or1 (ct_c (c_notInD (hu hr.un) (cv 1 (hy.mono e1)) (cc CB hr (by omega) (e1.tab hT) (ca_cons (cv 0 (hx.mono e1)) ca_nil) rfl ⟨_, rfl, h1, h2, h3⟩ rfl))))) (fun h => ?_) fun h => w_nil fun _ _ => True.intro
  have h : (false || !(bodyOf (its v) nm).isSome) = true := h
  rw [h4] at h
  cases h
theorem def_functions (M : Mgs K mg) (CN : Cal P w K mg base (2 * n + 7) "need_program" (spD T 1 (preP n) fNon) []) (F : Dfn K mg "functions" (top 33) cd) : Cal P w K mg base (2 * n + 8) "functions" (spD T 1 (preP n) fFunctions) [] := by
  refine calD (k := 2 * n + 7) (N := ["program", "name", "lates", "body"]) (ps := ["program"]) F (by decide +kernel) rfl (fun _ _ _ _ _ us hl => match us, hl with | [_], _ => rfl) fun f A outer s H E vs ds hr hn hv hp hT => ?_
  obtain ⟨v, rfl, h1, hp, h3⟩ := hp
  obtain ⟨x, rfl, hx⟩ := dats1 hv
  have nd : (["program", "name", "lates", "body"] : List Str).Nodup := by decide
  refine w_expr (cc CN hr (by omega) hT (ca_cons (cv 0 hx) ca_nil) rfl ⟨_, rfl, h1, hp, h3⟩ rfl) fun H1 e1 => ?_
  obtain ⟨xs, rfl, p⟩ := isPr_of hp
  refine w_ret (C.is (c_tupleL M.B (c_lc (f := fun d => d.ix 0) (pr := fun _ => true) (js := [1, 2, 3]) (own := [("name", 1), ("lates", 2), ("body", 3)]) rfl nd (it_tup (cv 0 (hx.mono e1))) (blkOk_by (show blkC ["program", "name", "lates", "body"] (fnScope (top 33)) _ _ = true by decide +kernel)) (fun _ _ _ _ _ => g3 rfl nd) (tgt_tup [1, 2, 3] rfl) (by decide) (Nat.le_trans p.eight (by decide)) fun d vs H2 hd e2 => ?_)) ?_)
  · obtain ⟨nm, l, c0, rfl, _⟩ := isFn_of (p.fn d hd)
    refine ⟨_, rfl, fun hvs => ?_⟩
    obtain ⟨a1, a2, a3, rfl, b1, b2, b3⟩ := dats3 hvs
    exact ⟨cif_nil, fun _ => ⟨fun s0 H0 A0 cl fp => cv 1 b1, rfl⟩⟩
  · rw [List.filter_eq_self.mpr fun _ _ => rfl]
    rfl
theorem def_count (M : Mgs K mg) (CN : Cal P w K mg base (2 * n + 7) "need_program" (spD T 1 (preP n) fNon) []) (CO : Cal P w K mg base (2 * n + 3) "nodes_of" (spD T 1 (preSh n) (fNodes n)) []) {c Pt : Addr} (tb : LamX.TabB base mg c Pt) (hPt : Pt ∈ T)
    (F : Dfn K mg "node_count" (top 34) (.ref c)) : Cal P w K mg base (2 * n + 8) "node_count" (spD T 1 (preP n) (fCount n)) [] := by
  refine calD (k := 2 * n + 7) (N := ["program", "name", "lates", "body"]) (ps := ["program"]) F (by decide +kernel) rfl (fun _ _ _ _ _ us hl => match us, hl with | [_], _ => rfl) fun f A outer s H E vs ds hr hn hv hp hT => ?_
  obtain ⟨v, rfl, h1, hp, h3⟩ := hp
  obtain ⟨x, rfl, hx⟩ := dats1 hv
  have nd : (["program", "name", "lates", "body"] : List Str).Nodup := by decide
  refine w_expr (cc CN hr (by omega) hT (ca_cons (cv 0 hx) ca_nil) rfl ⟨_, rfl, h1, hp, h3⟩ rfl) fun H1 e1 => ?_
  obtain ⟨xs, rfl, p⟩ := isPr_of hp
  refine w_ret (C.is (c_sum (f := fun d => nodesD n (d.ix 2)) (js := [1, 2, 3]) (own := [("name", 1), ("lates", 2), ("body", 3)]) M.B hr (e1.tab hT) ⟨tb, rfl, hPt⟩ rfl nd (it_tup (cv 0 (hx.mono e1))) (genOk_by (show genB ["program", "name", "lates", "body"] (fnScope (top 34)) _ _ = true by decide +kernel)) (fun _ _ _ _ _ _ => g3 rfl nd) (tgt_tup [1, 2, 3] rfl) (by decide) fun d vs H2 hd e2 => ?_) rfl)
  obtain ⟨nm, l, c0, rfl, _, _, _, hX⟩ := isFn_of (p.fn d hd)
  refine ⟨_, rfl, fun hvs s0 H0 A0 code fp pn => ?_⟩
  obtain ⟨a1, a2, a3, rfl, b1, b2, b3⟩ := dats3 hvs
  exact cc CO (room_g (k := 2 * n + 6) hr) (by omega) ((e1.trans e2).tab hT) (ca_cons (cv 3 b3) ca_nil) rfl ⟨_, rfl, isX_sh _ _ _ _ _ hX⟩ rfl
theorem def_callsOf (M : Mgs K mg) (CN : Cal P w K mg base (2 * n + 8) "need_name" (spD T 2 (preNN n) fNon) []) (CB : Cal P w K mg base 1 "bodies" (spD T 1 (preP n) fBodies) []) (CC : Cal P w K mg base (2 * n + 3) "calls_of" (spD T 1 (preCalls n) (fCalls n)) [])
    (F : Dfn K mg "calls" (top 35) cd) : Cal P w K mg base (2 * n + 9) "calls" (spD T 2 (preNN n) (fCallsOf n)) [] := by
  refine calD (k := 2 * n + 8) (N := ["program", "name"]) (ps := ["program", "name"]) F (by decide +kernel) rfl (fun _ _ _ _ _ us hl => match us, hl with | [_, _], _ => rfl) fun f A outer s H E vs ds hr hn hv hp hT => ?_
  obtain ⟨v, nm, rfl, h1, h2, h3, h4⟩ := hp
  obtain ⟨x, y, rfl, hx, hy⟩ := dats2 hv
  have hu : ∀ {u : Nat}, u + 16 * (2 * n + 8) + 200 < cLine → u + 1 < cLine := fun h => by omega
  refine w_expr (cc CN hr (by omega) hT (ca_cons (cv 0 hx) (ca_cons (cv 1 hy) ca_nil)) rfl ⟨_, _, rfl, h1, h2, h3, h4⟩ rfl) fun H1 e1 => ?_
  obtain ⟨b, hb⟩ := Option.isSome_iff_exists.mp h4
  obtain ⟨xs, rfl, p⟩ := isPr_of h2
  obtain ⟨d, hd, e⟩ := body_mem p hb
  have hno := (nod_le (n := n) hd).1
  have hno2 := p.nod
  obtain ⟨nm2, l, c0, rfl, _, _, _, hX⟩ := isFn_of (p.fn d hd)
  have e : b = c0 := e
  subst e
  have hno : nodesD n b ≤ sumN n xs := hno
  refine w_ret (C.is (c_tupleL M.B (cc CC hr (by omega) (e1.tab hT) (ca_cons (c_dgetS (d := b) (hu hr.un) (cc CB hr (by omega) (e1.tab hT) (ca_cons (cv 0 (hx.mono e1)) ca_nil) rfl ⟨_, rfl, h1, h2, h3⟩ rfl) (cv 1 (hy.mono e1)) hb) ca_nil) rfl ⟨_, rfl, isX_sh _ _ _ _ _ hX, by omega⟩ rfl)) ?_)
  show D.tup (callsD n b) = .tup (callsD n ((bodyOf xs nm).getD .non))
  have hb : bodyOf xs nm = some b := hb
  rw [hb]
  rfl
theorem def_isEarly (M : Mgs K mg) (IE : Cal P w K mg base (2 * n + 3) "is_expression" (spD T 3 (preX n) (fX n true)) []) (EA : Cal P w K mg base (2 * n + 3) "is_all_early" (spD T 1 (preSh n) (fEarly n)) []) (F : Dfn K mg "is_early" (top 36) cd) : Cal P w K mg base (2 * n + 4) "is_early" (spD T 1 (preE n) (fEarly n)) [] := by
  refine calD (k := 2 * n + 3) (N := ["expression"]) (ps := ["expression"]) F (by decide +kernel) rfl (fun _ _ _ _ _ us hl => match us, hl with | [_], _ => rfl) fun f A outer s H E vs ds hr hn hv hp hT => ?_
  obtain ⟨v, rfl, h1, h2⟩ := hp
  obtain ⟨x, rfl, hx⟩ := dats1 hv
  refine w_if (ct_not (ct_val (cc IE hr (by omega) hT (ca_cons (cv 0 hx) (ca_cons (g_lates M) (ca_cons (g_deep M) ca_nil))) rfl ⟨_, _, _, rfl, h1⟩ rfl))) (fun h => ?_) fun h => w_ret (cc EA hr (by omega) hT (ca_cons (cv 0 hx) ca_nil) rfl ⟨_, rfl, isX_sh _ _ _ _ _ h2⟩ rfl)
  have h : (!isX n true v 4 30) = true := h
  rw [h2] at h
  cases h
end
end G3

set_option Elab.async false
set_option linter.all false
set_option maxRecDepth 100000
set_option maxHeartbeats 4000000
namespace G3
open PySem PySem.Spec PyProof.Rows L2 GX
open GxR (TabG Tabbed)
open C8 (Cal scC fnArgs fnBody fnScope pe_c E0 fnScope_by)

/-! ## The law's own defs: shapes -/
def isI (d : D) : Bool := d.isInt && !d.isBl
def fIsInt : List D → D
  | [v] => .bl (isI v)
  | _ => .non
def preOne : List D → Prop := fun ds => ∃ v, ds = [v]
/-- shape, size, no lists -/
def preLw (n : Nat) : List D → Prop := fun ds => ∃ v, ds = [v] ∧ sh n v = true ∧ fit n v = true ∧ v.nl = true
def preLc (n : Nat) : List D → Prop := fun ds => ∃ v, ds = [v] ∧ sh n v = true ∧ fit n v = true ∧ v.nl = true ∧ nodesD n v ≤ 1000
theorem lastL_mem {x : D} {r : List D} : lastL (x :: r) ∈ x :: r := by
  obtain ⟨d, e1, e2⟩ := last_ix (x := x) (r := r)
  rw [e2]
  exact List.mem_of_getElem? e1
theorem fit_part {n : Nat} {d x : D} (h : fit (n + 1) d = true) (hx : x ∈ partsD d) : fit n x = true := by
  unfold partsD at hx
  split at hx
  · rename_i k r
    have hfa := (fit_tup h).2
    split at hx
    · cases hx
    · split at hx
      · have hl := hfa _ (lastL_mem (x := .str k) (r := r))
        cases hd : lastL (.str k :: r) with
        | tup ys =>
          rw [hd] at hl hx
          cases n with
          | zero => exact (fit_pos hl).elim
          | succ m => exact fit_up ((fit_tup hl).2 x hx)
        | _ => rw [hd] at hx; cases hx
      · exact hfa x (List.mem_cons_of_mem _ hx)
  · cases hx
theorem nl_part {d x : D} (h : d.nl = true) (hx : x ∈ partsD d) : x.nl = true := by
  unfold partsD at hx
  split at hx
  · rename_i k r
    split at hx
    · cases hx
    · split at hx
      · have hl := nl_mem h (lastL_mem (x := .str k) (r := r))
        cases hd : lastL (.str k :: r) with
        | tup ys =>
          rw [hd] at hl hx
          exact nl_mem hl hx
        | _ => rw [hd] at hx; cases hx
      · exact nl_mem h (List.mem_cons_of_mem _ hx)
  · cases hx
theorem parts_len {n : Nat} {d : D} (h : fit (n + 1) d = true) : (partsD d).length ≤ 1000 := by
  unfold partsD
  split
  · rename_i k r
    have hfa := fit_tup h
    split
    · exact Nat.zero_le _
    · split
      · have hl := hfa.2 _ (lastL_mem (x := .str k) (r := r))
        cases hd : lastL (.str k :: r) with
        | tup ys =>
          rw [hd] at hl
          cases n with
          | zero => exact (fit_pos hl).elim
          | succ m => exact (fit_tup hl).1
        | _ => exact Nat.zero_le _
      · have := hfa.1
        rw [List.length_cons] at this
        omega
  · exact Nat.zero_le _
def quietS : List Str := ["number", "early", "below", "rest"]
theorem isEmpty_filter {p : D → Bool} : ∀ {xs : List D}, ((xs.filter fun x => !p x).map id).isEmpty = xs.all p
  | [] => rfl
  | x :: xs => by
    rw [List.all_cons]
    cases h : p x with
    | true => rw [List.filter_cons_of_neg (by simp [h]), Bool.true_and]; exact isEmpty_filter
    | false => rw [List.filter_cons_of_pos (by simp [h])]; rfl
section
variable {P : Program} {w : World} {K : PySem.W.Frag} {mg : Str → Option Value} {base : Heap} {T : List Addr} {cd : Value} {n : Nat}
theorem lw_isInt (M : Mgs K mg) (F : Dfn K mg "_law_is_int" (top 41) cd) : Cal P w K mg base 1 "_law_is_int" (spD T 1 preOne fIsInt) [] := by
  refine calD (N := ["_law_value"]) (ps := ["_law_value"]) F (by decide +kernel) rfl (fun _ _ _ _ _ us hl => match us, hl with | [_], _ => rfl) fun f A outer s H E vs ds hr hn hv hp hT => ?_
  obtain ⟨v, rfl⟩ := hp
  obtain ⟨x, rfl, hx⟩ := dats1 hv
  exact w_ret (C.is (c_and (c_isi_int M.B (ha := cv 0 hx)) fun h1 => c_one (c_not (c_isi_bool M.B (ha := cv 0 hx)))) rfl)
theorem lw_early (M : Mgs K mg) (F : Dfn K mg "_law_is_early" (top 45) cd) : ∀ n, Cal P w K mg base (2 * n + 3) "_law_is_early" (spD T 1 (preLw n) (fEarly n)) []
  | 0 => by
    refine calD (k := 2) (N := ["_law_one", "_law_part"]) (ps := ["_law_one"]) F (by decide +kernel) rfl (fun _ _ _ _ _ us hl => match us, hl with | [_], _ => rfl) fun f A outer s H E vs ds hr hn hv hp hT => ?_
    obtain ⟨v, _, h, _⟩ := hp
    cases h
  | n + 1 => by
    have ih := lw_early M F n
    refine calD (k := 2 * n + 4) (N := ["_law_one", "_law_part"]) (ps := ["_law_one"]) F (by decide +kernel) rfl (fun _ _ _ _ _ us hl => match us, hl with | [_], _ => rfl) fun f A outer s H E vs ds hr hn hv hp hT => ?_
    obtain ⟨v, rfl, hsh, hfit, hnl⟩ := hp
    obtain ⟨x, rfl, hx⟩ := dats1 hv
    have B := M.B
    have nd : (["_law_one", "_law_part"] : List Str).Nodup := by decide
    have hu : ∀ {u : Nat}, u + 16 * (2 * n + 4) + 200 < cLine → u < cLine := fun h => by omega
    have hh := sh_head hsh
    obtain ⟨k, r, rfl, hc⟩ := headOk_of hh
    show W T _ _ _ H (some (.bl (!decide (k ∈ hotS) && (partsD (.tup (.str k :: r))).all (earlyD n)))) PF
    refine w_if (ct_c (c_inS (ss := hotS) (c_ixT (cv 0 hx) c_int (fun _ _ => rfl) (j := 0) (ixN_nat (Nat.zero_lt_succ _)) rfl) (c_lst (ca_cons c_str (ca_cons c_str ca_nil))))) (fun h => w_ret (C.is c_bl (by rw [h]; rfl))) fun h1 => ?_
    rw [h1]
    have h1 : ¬ k ∈ hotS := of_decide_eq_false h1
    refine w_if (ct_c (c_inS (ss := quietS) (c_ixT (cv 0 hx) c_int (fun _ _ => rfl) (j := 0) (ixN_nat (Nat.zero_lt_succ _)) rfl) (c_lst (ca_cons c_str (ca_cons c_str (ca_cons c_str (ca_cons c_str ca_nil))))))) (fun h => w_ret (C.is c_bl ?_)) fun h2 => ?_
    · have h : k ∈ quietS := of_decide_eq_true h
      have hl : k ∈ leafS := by
        unfold quietS at h
        simp only [List.mem_cons, List.not_mem_nil, or_false] at h
        rcases h with rfl | rfl | rfl | rfl <;> decide
      rw [partsD_tup, if_pos hl]
      rfl
    · have h2 : ¬ k ∈ quietS := of_decide_eq_false h2
      have hl : ¬ k ∈ leafS := fun z => by
        unfold leafS at z
        simp only [List.mem_cons, List.not_mem_nil, or_false] at z
        rcases z with rfl | rfl | rfl | rfl | rfl
        · exact h2 (by decide)
        · exact h2 (by decide)
        · exact h1 (by decide)
        · exact h2 (by decide)
        · exact h2 (by decide)
      have hk : ¬ k = "call" := fun z => by
        subst z
        exact h1 (by decide)
      have hpt : partsD (.tup (.str k :: r)) = r := by rw [partsD_tup, if_neg hl, if_neg hk]
      rw [hpt]
      have hfa := fit_tup hfit
      have hlr : r.length ≤ 100000 := by
        have := hfa.1
        rw [List.length_cons] at this
        omega
      refine w_ret (C.is (c_eqL0 (hu hr.un) (c_lc (f := id) (pr := fun p => !earlyD n p) (js := [1]) (own := [("_law_part", 1)]) rfl nd (it_tup (c_from (k := 1) (cv 0 hx) c_int)) (blkOk_by (show blkC ["_law_one", "_law_part"] (fnScope (top 45)) _ _ = true by decide +kernel)) (fun _ _ _ _ _ => pg_name (i := 1) nd rfl (Or.inl rfl)) (tgt_name 1) (by decide) hlr fun d vs H1 hd e1 => ⟨[d], rfl, fun hvs => ?_⟩) (c_lst ca_nil)) ?_)
      · obtain ⟨y, rfl, hy⟩ := dats1 hvs
        have hd' : d ∈ partsD (.tup (.str k :: r)) := by rw [hpt]; exact hd
        exact ⟨cif_one fun s0 H0 A0 cl fp => ct_not (ct_val (cc ih hr (by omega) (e1.tab hT) (ca_cons (cv 1 hy) ca_nil) rfl ⟨_, rfl, sh_part hsh hd', fit_part hfit hd', nl_part hnl hd'⟩ rfl)), fun _ => ⟨fun s0 H0 A0 cl fp => cv 1 hy, nl_part hnl hd'⟩⟩
      · show D.bl ((r.filter _).map id).isEmpty = _
        rw [isEmpty_filter]
        rfl
theorem lw_parts (M : Mgs K mg) (F : Dfn K mg "_law_parts" (top 48) cd) : Cal P w K mg base 1 "_law_parts" (spD T 1 preParts fParts) [] := by
  refine calD (N := ["_law_one"]) (ps := ["_law_one"]) F (by decide +kernel) rfl (fun _ _ _ _ _ us hl => match us, hl with | [_], _ => rfl) fun f A outer s H E vs ds hr hn hv hp hT => ?_
  obtain ⟨v, rfl, hh⟩ := hp
  obtain ⟨x, rfl, hx⟩ := dats1 hv
  obtain ⟨k, r, rfl, hc⟩ := headOk_of hh
  have hu : ∀ {u : Nat}, u + 16 * 0 + 200 < cLine → u < cLine := fun h => by omega
  have B := M.B
  refine w_if (ct_c (c_inS (ss := leafS) (c_ixT (cv 0 hx) c_int (fun _ _ => rfl) (j := 0) (ixN_nat (Nat.zero_lt_succ _)) rfl) (c_lst (ca_cons c_str (ca_cons c_str (ca_cons c_str (ca_cons c_str (ca_cons c_str ca_nil)))))))) (fun h => w_ret ?_) fun h => ?_
  · refine C.is (c_lst ca_nil) ?_
    show D.lst [] = .lst (partsD _)
    rw [partsD_tup, if_pos (of_decide_eq_true h)]
  · have h1 : ¬ k ∈ leafS := of_decide_eq_false h
    refine w_ret (c_ifx (ct_c (c_eqS (hu hr.un) (c_ixT (cv 0 hx) c_int (fun _ _ => rfl) (j := 0) (ixN_nat (Nat.zero_lt_succ _)) rfl) c_str rfl)) (fun h2 => ?_) fun h2 => ?_)
    · have h2 : k = "call" := of_decide_eq_true h2
      obtain ⟨d, e1, e2⟩ := last_ix (x := .str k) (r := r)
      obtain ⟨ys, e3⟩ := tup_of (hc h2)
      rw [e2] at e3
      subst e3
      refine C.is (c_listT B (c_ixT (cv 0 hx) (c_neg c_int) (fun _ _ => rfl) (ixN_neg (Nat.zero_lt_succ _)) e1)) ?_
      show D.lst ys = .lst (partsD _)
      rw [partsD_tup, if_neg h1, if_pos h2, e2]
      rfl
    · have h2 : ¬ k = "call" := of_decide_eq_false h2
      refine C.is (c_listT B (c_from (k := 1) (cv 0 hx) c_int)) ?_
      show D.lst r = .lst (partsD _)
      rw [partsD_tup, if_neg h1, if_neg h2]
theorem dats_ints {H : Hp} {f : D → Int} : ∀ {xs : List D} {vs : List V}, Dats H (xs.map fun d => .int (f d)) vs → vs = (xs.map f).map V.int
  | [], vs, h => dats_nil.mp h
  | x :: xs, vs, h => by
    obtain ⟨v, r, e, q, q2⟩ := dats_cons.mp h
    rw [e, dat_int.mp q, dats_ints q2]
    rfl
theorem sumI_sum (f : D → Int) : ∀ xs : List D, (xs.map f).sum = sumI f xs
  | [] => rfl
  | x :: xs => by
    rw [List.map_cons, List.sum_cons, sumI_sum f xs]
    rfl
theorem c_sumL {X : Cx} {σ : L2.St} {H : Hp} {a : Expr} {p pos : Pos} {f : D → Int} {xs : List D} (B : Blt X.mg) (hc : X.calm = true) (ha : C T X a σ H (.lst (xs.map fun d => .int (f d)))) (hg : Gl X "sum" := by rfl) (he : starEach [a] X.env = (false, eval a X.env) :: starEach [] X.env := by rfl) : C T X (.Call (.Name "sum" p) [a] [] pos) σ H (.int (sumI f xs)) :=
  c_of (pe_callB (cr_sum hc) hg B.sum boot_sum (pa_cons pe_s pa_nil he) (he := he)) fun H1 e1 Q q => ha H1 e1 _ fun v H2 e2 hd => by
    obtain ⟨r, vs, e3, e4, e5⟩ := dat_lst.mp hd
    rw [dats_ints e5] at e4
    exact ⟨r, xs.map f, by rw [e3], .inl (.inl e4), q _ H2 e2 (dat_int.mpr (by rw [sumI_sum]))⟩
theorem lw_nodes (M : Mgs K mg) (C1 : Cal P w K mg base 1 "_law_parts" (spD T 1 preParts fParts) []) (F : Dfn K mg "_law_nodes" (top 49) cd) : ∀ n, Cal P w K mg base (2 * n + 3) "_law_nodes" (spD T 1 (preLw n) (fNodes n)) []
  | 0 => by
    refine calD (k := 2) (N := ["_law_one", "_law_part"]) (ps := ["_law_one"]) F (by decide +kernel) rfl (fun _ _ _ _ _ us hl => match us, hl with | [_], _ => rfl) fun f A outer s H E vs ds hr hn hv hp hT => ?_
    obtain ⟨v, _, h, _⟩ := hp
    cases h
  | n + 1 => by
    have ih := lw_nodes M C1 F n
    refine calD (k := 2 * n + 4) (N := ["_law_one", "_law_part"]) (ps := ["_law_one"]) F (by decide +kernel) rfl (fun _ _ _ _ _ us hl => match us, hl with | [_], _ => rfl) fun f A outer s H E vs ds hr hn hv hp hT => ?_
    obtain ⟨v, rfl, hsh, hfit, hnl⟩ := hp
    obtain ⟨x, rfl, hx⟩ := dats1 hv
    have B := M.B
    have nd : (["_law_one", "_law_part"] : List Str).Nodup := by decide
    have hh := sh_head hsh
    refine w_ret (C.is (c_add c_int (c_sumL (f := nodesD n) (xs := partsD v) B rfl (C.is (c_lc (f := fun d => .int (nodesD n d)) (pr := fun _ => true) (js := [1]) (own := [("_law_part", 1)]) rfl nd (it_lst (cc C1 hr (by omega) hT (ca_cons (cv 0 hx) ca_nil) rfl ⟨_, rfl, hh⟩ rfl)) (blkOk_by (show blkC ["_law_one", "_law_part"] (fnScope (top 49)) _ _ = true by decide +kernel)) (fun _ _ _ _ _ => pg_name (i := 1) nd rfl (Or.inl rfl)) (tgt_name 1) (by decide) (Nat.le_trans (parts_len hfit) (by decide)) fun d vs H1 hd e1 => ⟨[d], rfl, fun hvs => ?_⟩) ?_))) rfl)
    · obtain ⟨y, rfl, hy⟩ := dats1 hvs
      exact ⟨cif_nil, fun _ => ⟨fun s0 H0 A0 cl fp => cc ih hr (by omega) (e1.tab hT) (ca_cons (cv 1 hy) ca_nil) rfl ⟨_, rfl, sh_part hsh hd, fit_part hfit hd, nl_part hnl hd⟩ rfl, rfl⟩⟩
    · rw [List.filter_eq_self.mpr fun _ _ => rfl]
theorem lw_calls (M : Mgs K mg) (C1 : Cal P w K mg base 1 "_law_parts" (spD T 1 preParts fParts) []) (F : Dfn K mg "_law_calls" (top 50) cd) : ∀ n, Cal P w K mg base (2 * n + 3) "_law_calls" (spD T 1 (preCalls n) (fCalls n)) []
  | 0 => by
    refine calD (k := 2) (N := ["_law_one", "_law_found", "_law_part"]) (ps := ["_law_one"]) F (by decide +kernel) rfl (fun _ _ _ _ _ us hl => match us, hl with | [_], _ => rfl) fun f A outer s H E vs ds hr hn hv hp hT => ?_
    obtain ⟨v, _, h, _⟩ := hp
    cases h
  | n + 1 => by
    have ih := lw_calls M C1 F n
    refine calD (k := 2 * n + 4) (N := ["_law_one", "_law_found", "_law_part"]) (ps := ["_law_one"]) F (by decide +kernel) rfl (fun _ _ _ _ _ us hl => match us, hl with | [_], _ => rfl) fun f A outer s H E vs ds hr hn hv hp hT => ?_
    obtain ⟨v, rfl, hsh, hnod⟩ := hp
    obtain ⟨x, rfl, hx⟩ := dats1 hv
    have B := M.B
    have nd : (["_law_one", "_law_found", "_law_part"] : List Str).Nodup := by decide
    have hu : ∀ {u : Nat}, u + 16 * (2 * n + 4) + 200 < cLine → u < cLine := fun h => by omega
    have hh := sh_head hsh
    obtain ⟨k, r, e, hc⟩ := headOk_of hh
    have hk : kindD v = k := by rw [e]; rfl
    refine w_set (i := 1) (dd := .lst (if kindD v = "call" then [v] else [])) nd ?_ fun y H1 e1 hy => ?_
    · refine c_ifx (k := decide (kindD v = "call")) (ct_c ?_) (fun h => ?_) fun h => ?_
      · rw [hk]
        have hx' : Dat H (.tup (.str k :: r)) x := by rw [← e]; exact hx
        exact C.is (c_eqS (hu hr.un) (c_ixT (cv 0 hx') c_int (fun _ _ => rfl) (j := 0) (ixN_nat (Nat.zero_lt_succ _)) rfl) c_str rfl) rfl
      · rw [if_pos (of_decide_eq_true h)]
        exact c_lst (ca_cons (cv 0 hx) ca_nil)
      · rw [if_neg (of_decide_eq_false h)]
        exact c_lst ca_nil
    · refine w_for (T := T) (Pv := fun i σ' H' => ∃ y z, σ' = [some x, some y, z] ∧ Dat H' (.lst (((partsD v).take i).foldl (fun acc x => acc ++ callsD n x) (if kindD v = "call" then [v] else []))) y) PassesOwn.never rfl (it_lst (cc C1 hr (by omega) (e1.tab hT) (ca_cons (cv 0 (hx.mono e1)) ca_nil) rfl ⟨_, rfl, hh⟩ rfl)) (pg_name (i := 2) nd rfl (Or.inl rfl)) (tgt_name 2) (fun H2 e2 => ⟨y, none, rfl, hy.mono e2⟩)
        (fun i dd vs σ' H2 hi e2 hp => ?_) fun σ' H2 e2 hp => ?_
      · obtain ⟨y2, z, rfl, hy2⟩ := hp
        refine ⟨[dd], rfl, fun hvs => ?_⟩
        obtain ⟨u, rfl, hu2⟩ := dats1 hvs
        have hmem := List.mem_of_getElem? hi
        refine w_set (i := 1) nd (c_catL (cv 1 hy2) (cc ih hr (by omega) ((e1.trans e2).tab hT) (ca_cons (cv 2 hu2) ca_nil) rfl ⟨_, rfl, sh_part hsh hmem, Int.le_trans (part_nodes hmem) hnod⟩ rfl) ?_) fun y3 H3 e3 hy3 => w_nil fun H4 e4 => ?_
        · have := calls_step (n := n) hi
          omega
        · refine ⟨y3, some u, rfl, ?_⟩
          have hts : (partsD v).take (i + 1) = (partsD v).take i ++ [dd] := by
            rw [List.take_succ, hi]
            rfl
          rw [hts, List.foldl_append]
          exact hy3.mono e4
      · obtain ⟨y2, z, rfl, hy2⟩ := hp
        rw [List.take_length] at hy2
        exact w_ret (cv 1 hy2)
end
end G3

set_option Elab.async false
set_option linter.all false
set_option maxRecDepth 100000
set_option maxHeartbeats 4000000
namespace G3
open PySem PySem.Spec PyProof.Rows L2 GX
open GxR (TabG Tabbed)
open C8 (Cal scC fnArgs fnBody fnScope pe_c E0 fnScope_by)

/-! ## `x not in d`, d's keys texts, x flat or a tuple of ints and texts -/
theorem text_keys {P : Program} {w : World} {es : Array DictEntry} {vs : List (Key × Value)} (hp : Pairs (mixKind P w) es.toList vs) (hk : KeysOf (mixKind P w) es) (ht : ∀ p ∈ vs, ∃ x, p.1 = Sum.inr x) : ∀ e ∈ es, ∃ x t, e.key = .str x t ∧ e.hash = hashStr w x := by
  intro e he
  obtain ⟨k, h1, h2⟩ := hk e he
  have hm : e ∈ es.toList := Array.mem_toList_iff.mpr he
  have go : ∀ {l : List DictEntry} {vs : List (Key × Value)}, Pairs (mixKind P w) l vs → e ∈ l → ∃ p ∈ vs, keyIs p.1 e.key = true := fun {l vs} q => by
    induction q with
    | nil => intro h; cases h
    | cons a _ b ih =>
      intro h
      rcases List.mem_cons.mp h with z | z
      · exact ⟨_, List.mem_cons_self, by rw [z]; exact a⟩
      · obtain ⟨p, hp, hq⟩ := ih z
        exact ⟨p, List.mem_cons_of_mem _ hp, hq⟩
  obtain ⟨p, hp1, hp2⟩ := go hp hm
  obtain ⟨x, hx⟩ := ht p hp1
  rw [hx] at hp2
  rcases keyIs_shape hp2 with ⟨i, t, e1, _⟩ | ⟨y, t, e1, e2⟩
  · cases e1
  · refine ⟨y, t, e2, ?_⟩
    have h1 : keyIs k e.key = true := h1
    rw [e2] at h1
    rcases keyIs_shape h1 with ⟨i, t', _, e3⟩ | ⟨z, t', e3, e4⟩
    · cases e3
    · cases e4
      rw [h2, e3]
      rfl
theorem leaf_map {P : Program} {w : World} {h : Heap} {a : Addr} {vs : List (Key × Value)} (d : h.DictOf (mixKind P w) a vs) (ht : ∀ p ∈ vs, ∃ x, p.1 = Sum.inr x) : ∃ f, h.MapOf (leafKind P w) a f ∧ f .none = none ∧ ∀ i, f (.num i) = none := by
  obtain ⟨o, es, ep, ho, hx, hdt, hk, hp, hn⟩ := d
  have tk := text_keys hp hk ht
  have none_of : ∀ k : Leaf, (∀ x t, (leafKind P w).is k (.str x t) = false) → findBy (leafKind P w).is es k = none := fun k hf => by
    have q : (es.find? fun e => (leafKind P w).is k e.key) = none := by
      rw [Array.find?_eq_none]
      intro e he hq
      obtain ⟨x, t, e1, _⟩ := tk e he
      rw [e1, hf x t] at hq
      cases hq
    show (es.find? fun e => (leafKind P w).is k e.key).map (·.val) = none
    rw [q] <;> rfl
  refine ⟨fun k => findBy (leafKind P w).is es k, ⟨o, es, ep, ho, hx, hdt, fun e he => ?_, fun k => rfl⟩, none_of _ fun x t => rfl, fun i => none_of _ fun x t => rfl⟩
  obtain ⟨x, t, e1, e2⟩ := tk e he
  exact ⟨.text x, by rw [e1]; exact leaf_str x t, by rw [e2]; rfl⟩
section
variable {prog : Program} {w : World} {A : Around} {E : Value → Shared → Prop} {s : Shared}
/-- a tuple of ints and texts is not among texts -/
theorem find_tuple {d a : Addr} {o : Obj} {es : Array DictEntry} {ep : Nat} {h : Int} {ks : List Key} {Q : Option Nat → Shared → Prop} (hu : A.units < cLine) (hkey : IsTupleKey (mixKind prog w) s.heap ks a)
    (ho : s.heap.get? d = some o) (hd : o.data = .dict es ep) (tk : ∀ e ∈ es, ∃ x t, e.key = .str x t ∧ e.hash = hashStr w x) (hQ : Q none s) : wpAny (model prog w) A (dictFind d (.ref a) h) Q E s := by
  have hany : ¬ (es.any fun e => e.key == Value.ref a && e.hash != h) = true := by
    rw [← Array.any_toList, List.any_eq_true]
    rintro ⟨e, hin, hc⟩
    obtain ⟨x, t, e1, _⟩ := tk e (Array.mem_toList_iff.mp hin)
    rw [e1] at hc
    simp at hc
  have hst : ∀ v ∈ (placesWithHash es.size (fun i => es[i]?.map (·.hash)) h).filterMap (fun i => es[i]?.map (·.key)), ∃ x t, v = .str x t := by
    intro v hv
    obtain ⟨i, _, hi⟩ := List.mem_filterMap.mp hv
    cases hei : es[i]? with
    | none => rw [hei] at hi; cases hi
    | some e =>
      rw [hei] at hi
      obtain rfl : e.key = v := by simpa using hi
      obtain ⟨x, t, e1, _⟩ := tk e (Array.mem_of_getElem? hei)
      exact ⟨x, t, e1⟩
  obtain ⟨ot, items, nt, hot, hct, hdt, hit⟩ := id hkey
  unfold dictFind
  try with_reducible refine wpAny_holding ?_
  refine wpAny_bind (wpAny_dictEntries ho hd ?_)
  dsimp only
  rw [if_neg (show ¬ ((Value.ref a :: (placesWithHash es.size (fun i => es[i]?.map (·.hash)) h).filterMap (fun i => es[i]?.map (·.key))).all carriedByValue) = true by simp [carriedByValue])]
  rw [if_neg hany]
  have tells : ∀ {Q' : Bool → Shared → Prop}, Q' false s → wpAny (model prog w) A (tableMayTell (.ref a) ((placesWithHash es.size (fun i => es[i]?.map (·.hash)) h).filterMap (fun i => es[i]?.map (·.key)))) Q' E s := fun {Q'} hq => by
    unfold tableMayTell
    split
    · exact wpAny_pure hq
    · refine wpAny_bind (wpAny_eqIsQuiet_tuple hkey ?_)
      simp only [Bool.not_true, Bool.false_eq_true, if_false]
      refine wpAny_bind ?_
      refine wpAny_forIn_list _ (fun rest r s' => s' = s ∧ r = (none, ()) ∧ ∀ v ∈ rest, ∃ x t, v = .str x t) _ ?_ ?_ _ _ ⟨rfl, rfl, hst⟩
      · rintro x rest r s' ⟨rfl, rfl, hr⟩
        obtain ⟨y, t, rfl⟩ := hr x List.mem_cons_self
        rw [eqIsQuiet_byValue 8 (show carriedByValue (.str y t) = true from rfl)]
        refine wpAny_bind (wpAny_pure ?_)
        simp only [Bool.not_true, Bool.false_eq_true, if_false]
        exact wpAny_pure ⟨rfl, rfl, fun v hv => hr v (List.mem_cons_of_mem _ hv)⟩
      · rintro r s' ⟨rfl, rfl, _⟩
        exact wpAny_pure hq
  by_cases hone : (((placesWithHash es.size (fun i => es[i]?.map (·.hash)) h).filterMap (fun i => es[i]?.map (·.key))) == [Value.ref a]) = true <;>
  (first | rw [if_pos hone] | rw [if_neg hone]) <;> (first | refine wpAny_bind (wpAny_pure ?_) | refine wpAny_bind (tells ?_)) <;> (
    rw [if_neg (by simp)]
    refine wpAny_bind ?_
    refine wpAny_forIn_list _ (fun rest b s' => s' = s ∧ b = (none, none) ∧ ∀ i ∈ rest, i < es.size) _ ?_ ?_ _ _ ⟨rfl, rfl, fun i hi => ?_⟩
    · rintro i rest b s' ⟨rfl, rfl, hr⟩
      have hi := hr i List.mem_cons_self
      have hrest : ∀ j ∈ rest, j < es.size := fun j hj => hr j (List.mem_cons_of_mem _ hj)
      have hex : es[i]? = some es[i] := Array.getElem?_eq_getElem hi
      obtain ⟨x, t, e1, _⟩ := tk es[i] (Array.getElem_mem hi)
      rw [hex]
      dsimp only
      by_cases hh : (es[i].hash == h) = true
      · rw [if_pos hh]
        refine wpAny_bind (wpAny_dictEpoch ho hd (wpAny_bind ?_))
        rw [e1]
        refine SeqAt.EqAt.str_tuple x t ⟨_, hot, hct, _, hdt⟩ hu prog w E _ (wpAny_bind (wpAny_dictEpoch ho hd ?_))
        show wpAny _ _ (if (ep != ep) = true then _ else _) _ E _
        rw [if_neg (by simp)]
        simp only [Bool.false_eq_true, if_false]
        refine wpAny_bind (wpAny_rule ?_)
        first | rw [if_neg (by simp)] | skip
        first
          | exact wpAny_pure ⟨rfl, rfl, hrest⟩
          | exact wpAny_bind (wpAny_pure (wpAny_pure ⟨rfl, rfl, hrest⟩))
      · rw [if_neg hh]
        exact wpAny_pure ⟨rfl, rfl, hrest⟩
    · rintro b s' ⟨rfl, rfl, _⟩
      exact wpAny_pure hQ
    · unfold placesWithHash at hi
      have := (List.mem_filter.mp hi).1
      simpa using this)
theorem notIn_tuple {d a : Addr} {ks : List Key} {vs : List (Key × Value)} {Q : Value → Shared → Prop} (hu : A.units + 1 < cLine) (hkey : IsTupleKey (mixKind prog w) s.heap ks a) (hd : (d == sysModules) = false) (hm : s.heap.DictOf (mixKind prog w) d vs)
    (ht : ∀ p ∈ vs, ∃ x, p.1 = Sum.inr x) (h : Q (.bool true) { s with toks := s.toks + (ks.length + 1) }) : wpAny (model prog w) A (compareOp .NotIn (.ref a) (.ref d)) Q E s := by
  show wpAny _ _ (do return .bool (!(← contains (.ref d) (.ref a)))) Q E s
  have hT := hm.typeIs
  obtain ⟨o, es, ep, ho, hx, hdt, hk, hp, hn⟩ := hm
  have tk := text_keys hp hk ht
  refine wpAny_bind (wpAny_contains_slot hT PySem.F.slot_dict_contains ?_)
  refine call_meetsIn PySem.F.slot_dict_contains hT PySem.F.entry_dict_contains (PySem.F.args_dict_contains_2 _ _) (S := fun A' R s' => A' = A ∧ s' = s ∧ R (.ok (.ret (.bool false))) { s with toks := s.toks + (ks.length + 1) }) (fun A' R s' hS => ?_) ⟨rfl, rfl, wpAny_truthy_bool (wpAny_pure h)⟩
  obtain ⟨rfl, rfl, hq⟩ := hS
  show wpAny _ _ (dictGet d (.ref a) >>= _) _ _ _
  refine wpAny_bind ?_
  unfold dictGet
  try with_reducible refine wpAny_holding ?_
  refine wpAny_bind (wpAny_pyHash_tuple (show A'.units + 1 < cLine from hu) hkey (wpAny_bind (find_tuple (s := { s' with toks := s'.toks + (ks.length + 1) }) (show A'.units + 1 < cLine from hu) hkey ho hdt tk (wpAny_pure ?_))))
  show wpAny _ _ (Builtin.Dict.pendingKey? d (.ref a) >>= _) _ _ _
  exact wpAny_bind (wpAny_pendingKey_other hd (wpAny_pure hq))
end
def rNotInX : R2 := fun x y H Q => ∃ a kvs, y = .ref a ∧ H a = some (.dK kvs) ∧ (∀ p ∈ kvs, ∃ z, p.1 = Sum.inr z) ∧ ((x = .non ∨ (∃ b, x = .bl b) ∨ ∃ i, x = .int i) ∨ ∃ (b : Addr) (ks : List Key), x = .ref b ∧ H b = some (.tup (ks.map kV))) ∧ Q (.bl true) H
theorem kv_text {kvs : List (Key × V)} {vs : List (Key × Value)} (r : KV kvs vs) (h : ∀ p ∈ kvs, ∃ z, p.1 = Sum.inr z) : ∀ p ∈ vs, ∃ z, p.1 = Sum.inr z := by
  unfold KV at r
  induction r with
  | nil => intro p hp; cases hp
  | cons a b ih =>
    intro p hp
    rcases List.mem_cons.mp hp with q | q
    · obtain ⟨z, hz⟩ := h _ List.mem_cons_self
      exact ⟨z, by rw [q, ← a.1]; exact hz⟩
    · exact ih (fun p hp => h p (List.mem_cons_of_mem _ hp)) p q
theorem op_notInX {X : Cx} (hu : X.A.units + 1 < cLine) : OpR X (compareOp .NotIn) rNotInX := by
  intro pins s σ H x y v u Q I rx ry h
  obtain ⟨a, kvs, rfl, ha, ht, hx, q⟩ := h
  cases ry
  obtain ⟨_, hd, vs, kv, dd⟩ := dk_of I.hok ha
  have ht2 := kv_text kv ht
  rcases hx with hx | ⟨b, ks, rfl, hb⟩
  · obtain ⟨f, hm, h1, h2⟩ := leaf_map dd ht2
    have fin : ∀ {k : Leaf}, f k = none → (leafKind X.prog X.w).is k v = true → wpAny (model X.prog X.w) X.A (compareOp .NotIn v (.ref a)) (EP X pins σ Q) X.xe s := fun {k} hk hv => by
      refine wpAny_notIn_of hv hd hm ?_
      rw [hk]
      exact ⟨.bl true, H, I.tok _, rfl, q⟩
    rcases hx with rfl | ⟨b, rfl⟩ | ⟨i, rfl⟩
    · cases rx
      exact fin h1 leaf_none
    · cases rx
      cases b with
      | true => exact fin (h2 1) leaf_true
      | false => exact fin (h2 0) leaf_false
    · obtain ⟨t, rfl⟩ := rx
      exact fin (h2 i) (leaf_int i t)
  · cases rx
    exact notIn_tuple hu (key_of I.hok hb) hd dd ht2 ⟨.bl true, H, I.tok _, rfl, q⟩
/-- may be asked of a dict -/
def keyB : D → Bool
  | .int _ => true
  | .str _ => true
  | _ => false
def keyOk : D → Bool
  | .non => true
  | .bl _ => true
  | .int _ => true
  | .str _ => true
  | .tup xs => xs.all keyB
  | _ => false
def inD (ks : List Str) (xs : List D) : D → Bool
  | .str z => (getL ks xs z).isSome
  | _ => false
theorem dats_keys {H : Hp} : ∀ {xs : List D} {vs : List V}, Dats H xs vs → xs.all keyB = true → ∃ ks : List Key, vs = ks.map kV
  | [], vs, h, _ => ⟨[], dats_nil.mp h⟩
  | x :: xs, vs, h, hk => by
    rw [List.all_cons, Bool.and_eq_true] at hk
    obtain ⟨v, r, e, q, q2⟩ := dats_cons.mp h
    obtain ⟨ks, e2⟩ := dats_keys q2 hk.2
    cases x with
    | int i => exact ⟨.inl i :: ks, by rw [e, dat_int.mp q, e2]; rfl⟩
    | str z => exact ⟨.inr z :: ks, by rw [e, dat_str.mp q, e2]; rfl⟩
    | _ => exact nomatch hk.1
theorem c_notInX {T : List Addr} {X : Cx} {σ : L2.St} {H : Hp} {a b : Expr} {pos : Pos} {d : D} {ks : List Str} {xs : List D} (hu : X.A.units + 1 < cLine) (ha : C T X a σ H d) (hk : keyOk d = true) (hb : C T X b σ H (.dic ks xs)) (hm : behindInMarks .NotIn b = false := by rfl) : C T X (.Compare a [.NotIn] [b] pos) σ H (.bl (!inD ks xs d)) := by
  have other : (∀ z, d ≠ .str z) → C T X (.Compare a [.NotIn] [b] pos) σ H (.bl true) := fun hd =>
    c_cmp (op_notInX hu) hm ha hb fun H1 v w Q e1 hv hw q => by
      obtain ⟨r, vs, e4, e5, e6⟩ := dat_dic.mp hw
      refine ⟨r, _, e4, e5, fun p hp => ?_, ?_, q⟩
      · have h1 := (List.of_mem_zip (show (p.1, p.2) ∈ _ from hp)).1
        obtain ⟨z, _, hz⟩ := List.mem_map.mp h1
        exact ⟨z, hz.symm⟩
      · cases d with
        | non => exact .inl (.inl (dat_non.mp hv))
        | bl b => exact .inl (.inr (.inl ⟨b, dat_bl.mp hv⟩))
        | int i => exact .inl (.inr (.inr ⟨i, dat_int.mp hv⟩))
        | str z => exact absurd rfl (hd z)
        | tup ys =>
          obtain ⟨b, us, e7, e8, e9⟩ := dat_tup.mp hv
          obtain ⟨kk, e10⟩ := dats_keys e9 hk
          exact .inr ⟨b, kk, e7, by rw [e8, e10]⟩
        | lst ys => exact nomatch hk
        | dic ys zs => exact nomatch hk
  cases d with
  | str z => exact c_notInD hu ha hb hm
  | non => exact other fun z q => by cases q
  | bl b => exact other fun z q => by cases q
  | int i => exact other fun z q => by cases q
  | tup ys => exact other fun z q => by cases q
  | lst ys => exact nomatch hk
  | dic ys zs => exact nomatch hk
end G3

set_option Elab.async false
set_option linter.all false
set_option maxRecDepth 100000
set_option maxHeartbeats 4000000
namespace G3
open PySem PySem.Spec PyProof.Rows L2 GX
open GxR (TabG Tabbed)
open C8 (Cal scC fnArgs fnBody fnScope pe_c E0 fnScope_by)

/-! ## The law's own judge of expressions and tests, by kinds -/
def many (r : List D) : Int := ((r.length + 1 : Nat) : Int)
def nth (r : List D) (i : Nat) : D := r.getD i .non
def stepKb (G : D → D → D → Bool) (E T : D → Int → Int → Bool) (k : Str) (r : List D) (l dp : Int) : Bool :=
  if k = "early" then decide (many r = 1)
  else if k = "number" then decide (many r = 2) && isIn (nth r 0) 0 1000000
  else if k = "late" then decide (many r = 2) && isIn (nth r 0) 0 (l - 1)
  else if k ∈ pairsS then decide (many r = 3) && r.all fun x => E x l (dp - 1)
  else if k = "if" then decide (many r = 4) && (T (nth r 0) l (dp - 1) && (r.drop 1).all fun x => E x l (dp - 1))
  else if k = "call" then decide (many r = 4) && G (nth r 0) (nth r 1) (nth r 2)
  else false
def stepK (G : D → D → D → Bool) (E T : D → Int → Int → Bool) (v : D) (l dp : Int) : Bool :=
  !decide (dp = 0) && (match v with
    | .tup (.str k :: r) => stepKb G E T k r l dp
    | _ => false)
def stepTb (E : D → Int → Int → Bool) (Er : D → Bool) (k : Str) (r : List D) (l dp : Int) : Bool :=
  if k = "below" then decide (many r = 2) && isIn (nth r 0) 0 1000
  else decide (many r = 3) && (if k = "rest" then isIn (nth r 0) 2 6 && isIn (nth r 1) 0 ((nth r 0).i - 1)
    else if k = "less" then (r.all fun x => E x l (dp - 1)) && !(Er (nth r 0) && Er (nth r 1)) else false)
def stepKT (E : D → Int → Int → Bool) (Er : D → Bool) (v : D) (l dp : Int) : Bool :=
  !decide (dp = 0) && (match v with
    | .tup (.str k :: r) => stepTb E Er k r l dp
    | _ => false)
theorem kind_of {f : Str → List D → Bool} {v : D} (h : (match v with | .tup (.str k :: r) => f k r | _ => false) = true) : ∃ k r, v = .tup (.str k :: r) ∧ f k r = true := by
  split at h
  · rename_i k r
    exact ⟨k, r, rfl, h⟩
  · cases h
theorem stepK_of {G : D → D → D → Bool} {E T : D → Int → Int → Bool} {v : D} {l dp : Int} (h : stepK G E T v l dp = true) : ∃ k r, v = .tup (.str k :: r) ∧ stepKb G E T k r l dp = true := by
  unfold stepK at h
  rw [Bool.and_eq_true] at h
  exact kind_of (f := fun k r => stepKb G E T k r l dp) h.2
theorem stepKT_of {E : D → Int → Int → Bool} {Er : D → Bool} {v : D} {l dp : Int} (h : stepKT E Er v l dp = true) : ∃ k r, v = .tup (.str k :: r) ∧ stepTb E Er k r l dp = true := by
  unfold stepKT at h
  rw [Bool.and_eq_true] at h
  exact kind_of (f := fun k r => stepTb E Er k r l dp) h.2
theorem pairs_not {k : Str} (e : k ∈ pairsS) : ¬ k = "call" ∧ ¬ k ∈ leafS := by
  refine ⟨fun z => by rw [z] at e; revert e; decide, ?_⟩
  unfold pairsS at e
  simp only [List.mem_cons, List.not_mem_nil, or_false] at e
  rcases e with rfl | rfl | rfl <;> decide
def sizeOf (sz : List Str × List D) (nm : D) : D := (getL sz.1 sz.2 (strOf nm)).getD .non
def lG (sz : List Str × List D) (E : D → Bool) (a b c : D) : Bool := inD sz.1 sz.2 a && (c.isTup && (decide (lenD c = (sizeOf sz a).i) && (isMove b && (its c).all E)))
def lX (sz : List Str × List D) : Nat → Bool → D → Int → Int → Bool
  | 0, _, _, _, _ => false
  | n + 1, true, v, l, dp => stepK (lG sz fun x => lX sz n true x l (dp - 1)) (lX sz n true) (lX sz n false) v l dp
  | n + 1, false, v, l, dp => stepKT (lX sz n true) (earlyD n) v l dp
/-- the names of calls may be asked of a dict -/
def kOk : Nat → D → Bool
  | 0, _ => true
  | n + 1, d => match d with
    | .tup xs => (!decide (kindD (.tup xs) = "call") || keyOk ((D.tup xs).ix 1)) && xs.all (kOk n)
    | _ => true
def fLX (n : Nat) (b : Bool) : List D → D
  | [v, .int l, .dic ks xs, .int dp] => .bl (lX (ks, xs) n b v l dp)
  | _ => .non
structure Szs (ks : List Str) (xs : List D) : Prop where
  len : ks.length = xs.length
  int : ∀ d ∈ xs, ∃ i, d = .int i
def preL (n : Nat) : List D → Prop := fun ds => ∃ v l ks xs dp, ds = [v, .int l, .dic ks xs, .int dp] ∧ fit n v = true ∧ v.nl = true ∧ kOk n v = true ∧ Szs ks xs
theorem many1 {r : List D} (h : many r = 1) : r = [] := len1 (by unfold many at h; omega)
theorem many2 {r : List D} (h : many r = 2) : ∃ a, r = [a] := len2 (by unfold many at h; omega)
theorem many3 {r : List D} (h : many r = 3) : ∃ a b, r = [a, b] := len3 (by unfold many at h; omega)
theorem many4 {r : List D} (h : many r = 4) : ∃ a b c, r = [a, b, c] := len4 (by unfold many at h; omega)
theorem nl_fl {d : D} (h : d.nl = true) : d.fl = true := by
  cases d <;> first | rfl | (unfold D.nl at h; cases h)
theorem kOk_mem {n : Nat} {xs : List D} {x : D} (h : kOk (n + 1) (.tup xs) = true) (hx : x ∈ xs) : kOk n x = true := by
  unfold kOk at h
  simp only [Bool.and_eq_true, List.all_eq_true] at h
  exact h.2 x hx
theorem kOk_up : ∀ {n : Nat} {d : D}, fit n d = true → kOk n d = true → kOk (n + 1) d = true
  | 0, d, f, h => (fit_pos f).elim
  | n + 1, d, f, h => by
    cases d with
    | tup xs =>
      have f2 := (fit_tup f).2
      unfold kOk at h ⊢
      simp only [Bool.and_eq_true, List.all_eq_true] at h ⊢
      exact ⟨h.1, fun x hx => kOk_up (f2 x hx) (h.2 x hx)⟩
    | _ => rfl
theorem lX_sh (sz : List Str × List D) : ∀ (n : Nat) (b : Bool) (v : D) (l dp : Int), lX sz n b v l dp = true → sh n v = true
  | 0, b, v, l, dp, h => by cases h
  | n + 1, true, v, l, dp, h => by
    have ih := lX_sh sz n
    have alls : ∀ {xs : List D} {dp : Int}, (xs.all fun x => lX sz n true x l dp) = true → xs.all (sh n) = true := fun {xs dp} h => by
      rw [List.all_eq_true] at h ⊢
      exact fun x hx => ih _ _ _ _ (h x hx)
    obtain ⟨k, r, rfl, h2⟩ := stepK_of (show stepK _ _ _ v l dp = true from h)
    clear h
    unfold stepKb at h2
    by_cases c1 : k = "early"
    · subst c1
      rfl
    rw [if_neg c1] at h2
    by_cases c2 : k = "number"
    · subst c2
      rfl
    rw [if_neg c2] at h2
    by_cases c3 : k = "late"
    · subst c3
      rfl
    rw [if_neg c3] at h2
    by_cases c4 : k ∈ pairsS
    · rw [if_pos c4, Bool.and_eq_true] at h2
      obtain ⟨nc, nl⟩ := pairs_not c4
      show (headOk _ && (partsD _).all (sh n)) = true
      rw [partsD_tup, if_neg nl, if_neg nc, Bool.and_eq_true]
      refine ⟨?_, alls h2.2⟩
      show (!decide (k = "call") || _) = true
      rw [decide_eq_false nc]
      rfl
    rw [if_neg c4] at h2
    by_cases c5 : k = "if"
    · subst c5
      rw [if_pos rfl] at h2
      simp only [Bool.and_eq_true] at h2
      obtain ⟨a, b, c, rfl⟩ := many4 (of_decide_eq_true h2.1)
      have q1 : sh n a = true := ih _ _ _ _ h2.2.1
      have q2 : [b, c].all (sh n) = true := alls h2.2.2
      show (headOk _ && (partsD _).all (sh n)) = true
      rw [partsD_tup, if_neg (by decide), if_neg (by decide)]
      show (sh n a && [b, c].all (sh n)) = true
      rw [q1, q2]
      rfl
    rw [if_neg c5] at h2
    by_cases c6 : k = "call"
    · subst c6
      rw [if_pos rfl] at h2
      unfold lG at h2
      simp only [Bool.and_eq_true] at h2
      obtain ⟨a, b, c, rfl⟩ := many4 (of_decide_eq_true h2.1)
      obtain ⟨ys, e4⟩ := tup_of h2.2.2.1
      have e4 : c = .tup ys := e4
      subst e4
      exact alls h2.2.2.2.2.2
    rw [if_neg c6] at h2
    cases h2
  | n + 1, false, v, l, dp, h => by
    have ih := lX_sh sz n
    have alls : ∀ {xs : List D} {dp : Int}, (xs.all fun x => lX sz n true x l dp) = true → xs.all (sh n) = true := fun {xs dp} h => by
      rw [List.all_eq_true] at h ⊢
      exact fun x hx => ih _ _ _ _ (h x hx)
    obtain ⟨k, r, rfl, h2⟩ := stepKT_of (show stepKT _ _ v l dp = true from h)
    clear h
    unfold stepTb at h2
    by_cases c1 : k = "below"
    · subst c1
      rfl
    rw [if_neg c1, Bool.and_eq_true] at h2
    obtain ⟨_, h2⟩ := h2
    by_cases c2 : k = "rest"
    · subst c2
      rfl
    rw [if_neg c2] at h2
    by_cases c3 : k = "less"
    · subst c3
      rw [if_pos rfl, Bool.and_eq_true] at h2
      exact alls h2.1
    rw [if_neg c3] at h2
    cases h2
section
variable {P : Program} {w : World} {K : PySem.W.Frag} {mg : Str → Option Value} {base : Heap} {T : List Addr} {cd : Value} {n : Nat}
theorem isI_in {d : D} {lo hi : Int} : isIn d lo hi = (isI d && inB d lo hi) := by
  unfold isIn isI
  cases d.isInt <;> rfl
abbrev nmE : List Str := ["_law_one", "_law_lates_here", "_law_sizes", "_law_deep", "_law_kind", "_law_many", "_law_top", "_law_part", "_law_move_here"]
theorem isEmpty_filter2 {p : D → Bool} {xs : List D} : D.bl (((xs.filter fun x => !p x).map id).isEmpty) = .bl (xs.all p) := by rw [isEmpty_filter]
theorem isMove_if {mv : D} (hnl : mv.nl = true) : isMove mv = (mv.isTup && (decide (lenD mv = 2) && (isI (mv.ix 1) && (((mv.ix 0).eqS "give" && inB (mv.ix 1) 0 1000) || ((mv.ix 0).eqS "move" && inB (mv.ix 1) (-5) 5))))) := by
  cases mv with
  | tup xs =>
    match xs with
    | [] => rfl
    | [a] => cases a <;> rfl
    | [a, b] =>
      cases a with
      | str k =>
        show (true && (if (D.str k).eqS "give" = true then isIn b 0 1000 else (D.str k).eqS "move" && isIn b (-5) 5)) = (true && (true && (isI b && (((D.str k).eqS "give" && inB b 0 1000) || ((D.str k).eqS "move" && inB b (-5) 5)))))
        rw [isI_in, isI_in]
        by_cases h1 : k = "give"
        · subst h1
          show (true && (if true = true then _ else _)) = (true && (true && (isI b && ((true && inB b 0 1000) || (false && _)))))
          simp
        · have e1 : (D.str k).eqS "give" = false := decide_eq_false h1
          rw [e1]
          cases (D.str k).eqS "move" <;> cases isI b <;> simp
      | _ => show (false && _) = (true && (true && (isI b && ((false && _) || (false && _))))); simp
    | a :: b :: c :: r =>
      have e1 : isTuple (.tup (a :: b :: c :: r)) 2 = false := by
        show (decide (((a :: b :: c :: r).length : Int) = 2) && a.isStr) = false
        rw [decide_eq_false (by simp only [List.length_cons]; omega)]
        rfl
      have e2 : decide (lenD (.tup (a :: b :: c :: r)) = 2) = false := decide_eq_false (by unfold lenD its; simp only [List.length_cons]; omega)
      unfold isMove
      rw [e1, e2]
      simp
  | _ => rfl
theorem lw_expr (M : Mgs K mg) (CI : Cal P w K mg base 1 "_law_is_int" (spD T 1 preOne fIsInt) []) (F : Dfn K mg "_law_is_expression" (top 59) cd)
    (IE : Cal P w K mg base (2 * n + 3) "_law_is_expression" (spD T 4 (preL n) (fLX n true)) []) (IT : Cal P w K mg base (2 * n + 3) "_law_is_test" (spD T 4 (preL n) (fLX n false)) []) :
    Cal P w K mg base (2 * (n + 1) + 3) "_law_is_expression" (spD T 4 (preL (n + 1)) (fLX (n + 1) true)) [] := by
  refine calD (k := 2 * n + 4) (N := nmE) (ps := ["_law_one", "_law_lates_here", "_law_sizes", "_law_deep"]) F (by decide +kernel) rfl (fun _ _ _ _ _ us hl => match us, hl with | [_, _, _, _], _ => rfl) fun f A outer s H E vs ds hr hn hv hp hT => ?_
  obtain ⟨v, l, ks, xs, dp, rfl, hfit, hnl, hkey, hsz⟩ := hp
  obtain ⟨x, y, z, u, rfl, hx, hy, hz, hdp⟩ := dats4 hv
  have B := M.B
  have nd : nmE.Nodup := by decide
  have hu : ∀ {u : Nat}, u + 16 * (2 * n + 4) + 200 < cLine → u < cLine := fun h => by omega
  have hu1 : ∀ {u : Nat}, u + 16 * (2 * n + 4) + 200 < cLine → u + 1 < cLine := fun h => by omega
  show W T _ _ _ H (some (.bl (stepK (lG (ks, xs) fun x => lX (ks, xs) n true x l (dp - 1)) (lX (ks, xs) n true) (lX (ks, xs) n false) v l dp))) PF
  by_cases hv : ¬ v.isTup = true
  · refine w_if (k := true) (ct_w (CW.is (cw_or (ct_c (c_eqI (cv 3 hdp) c_int)) fun _ => cw_or (j := true) (ct_not (ct_val (c_isi_tuple B (ha := cv 0 hx)))) fun h => ?_) ?_)) (fun h => w_ret (C.is c_bl ?_)) fun h => nomatch h
    · rw [Bool.not_eq_false'] at h
      exact absurd h hv
    · rw [Bool.or_true, Bool.or_true]
    · unfold stepK
      cases v <;> first | exact (congrArg D.bl (Bool.and_false _)).symm | exact absurd rfl hv
  have hv := Classical.not_not.mp hv
  obtain ⟨ws, rfl⟩ := tup_of hv
  cases ws with
  | nil =>
    refine w_if (k := true) (ct_w (CW.is (cw_or (ct_c (c_eqI (cv 3 hdp) c_int)) fun _ => cw_or (ct_not (ct_val (c_isi_tuple B (ha := cv 0 hx)))) fun _ => cw_or (j := true) (ct_c (c_eqT0 (hu hr.un) (cv 0 hx) (c_tup ca_nil))) fun h => nomatch h) ?_)) (fun h => w_ret (C.is c_bl ?_)) fun h => nomatch h
    · simp
    · exact (congrArg D.bl (Bool.and_false _)).symm
  | cons hd r =>
  by_cases hst : ¬ hd.isStr = true
  · have e0 : hd.isStr = false := by cases hq : hd.isStr with
      | true => exact absurd hq hst
      | false => rfl
    refine w_if (k := true) (ct_w (CW.is (cw_or (ct_c (c_eqI (cv 3 hdp) c_int)) fun _ => cw_or (ct_not (ct_val (c_isi_tuple B (ha := cv 0 hx)))) fun _ => cw_or (ct_c (c_eqT0 (hu hr.un) (cv 0 hx) (c_tup ca_nil))) fun _ => cw_or1 (ct_not (ct_val (c_isi_str B (ha := c_ixT (cv 0 hx) c_int (fun _ _ => rfl) (j := 0) (ixN_nat (Nat.zero_lt_succ _)) rfl))))) ?_)) (fun h => w_ret (C.is c_bl ?_)) fun h => nomatch h
    · rw [e0]
      simp
    · unfold stepK
      cases hd <;> first | exact (congrArg D.bl (Bool.and_false _)).symm | exact absurd rfl hst
  have hst := Classical.not_not.mp hst
  obtain ⟨k, rfl⟩ := str_of hst
  refine w_if (k := decide (dp = 0)) (ct_w (CW.is (cw_or (ct_c (c_eqI (cv 3 hdp) c_int)) fun _ => cw_or (ct_not (ct_val (c_isi_tuple B (ha := cv 0 hx)))) fun _ => cw_or (ct_c (c_eqT0 (hu hr.un) (cv 0 hx) (c_tup ca_nil))) fun _ => cw_or1 (ct_not (ct_val (c_isi_str B (ha := c_ixT (cv 0 hx) c_int (fun _ _ => rfl) (j := 0) (ixN_nat (Nat.zero_lt_succ _)) rfl))))) (Bool.or_false _))) (fun h => w_ret (C.is c_bl ?_)) fun h0 => ?_
  · unfold stepK
    rw [h]
    rfl
  have key : stepK (lG (ks, xs) fun x => lX (ks, xs) n true x l (dp - 1)) (lX (ks, xs) n true) (lX (ks, xs) n false) (.tup (.str k :: r)) l dp =
      (if k = "early" then decide (many r = 1)
      else if k = "number" then decide (many r = 2) && isIn (nth r 0) 0 1000000
      else if k = "late" then decide (many r = 2) && isIn (nth r 0) 0 (l - 1)
      else if k ∈ pairsS then decide (many r = 3) && r.all fun x => lX (ks, xs) n true x l (dp - 1)
      else if k = "if" then decide (many r = 4) && (lX (ks, xs) n false (nth r 0) l (dp - 1) && (r.drop 1).all fun x => lX (ks, xs) n true x l (dp - 1))
      else if k = "call" then decide (many r = 4) && lG (ks, xs) (fun x => lX (ks, xs) n true x l (dp - 1)) (nth r 0) (nth r 1) (nth r 2)
      else false) := by
    unfold stepK
    rw [h0]
    rfl
  rw [key]
  have hfa := (fit_tup hfit).2
  have hlr : r.length ≤ 100000 := by
    have := (fit_tup hfit).1
    rw [List.length_cons] at this
    omega
  -- the parts of one
  have hp1 : ∀ {d : D}, d ∈ r → fit n d = true ∧ d.nl = true ∧ kOk n d = true := fun {d} hd => ⟨hfa d (List.mem_cons_of_mem _ hd), nl_mem hnl (List.mem_cons_of_mem _ hd), kOk_mem hkey (List.mem_cons_of_mem _ hd)⟩
  refine w_par (i := 4) (j := 5) (d1 := .str k) (d2 := .int (many r)) rfl nd (ca_cons (c_ixT (cv 0 hx) c_int (fun _ _ => rfl) (j := 0) (ixN_nat (Nat.zero_lt_succ _)) rfl) (ca_cons (c_lenT B (cv 0 hx)) ca_nil)) fun vk vm H1 e1 hk hm => ?_
  have hx1 := hx.mono e1
  have hy1 := hy.mono e1
  have hz1 := hz.mono e1
  have hd1 := hdp.mono e1
  have hT1 := e1.tab hT
  clear hx hy hz hdp hT hv
  refine w_if (ct_c (c_eqS (hu hr.un) (cv 4 hk) c_str rfl)) (fun h => w_ret (C.is (c_eqI (cv 5 hm) c_int) ?_)) fun h => ?_
  · rw [if_pos (of_decide_eq_true h)]
  rw [if_neg (of_decide_eq_false h)]
  refine w_if (ct_w (cw_or (ct_c (c_eqS (hu hr.un) (cv 4 hk) c_str rfl)) fun _ => cw_or1 (ct_c (c_eqS (hu hr.un) (cv 4 hk) c_str rfl)))) (fun h => ?_) fun h => ?_
  · have top : ∃ t : Int, (if k = "number" then (decide (many r = 2) && isIn (nth r 0) 0 1000000) else if k = "late" then (decide (many r = 2) && isIn (nth r 0) 0 (l - 1)) else (if k ∈ pairsS then decide (many r = 3) && r.all fun x => lX (ks, xs) n true x l (dp - 1)
      else if k = "if" then decide (many r = 4) && (lX (ks, xs) n false (nth r 0) l (dp - 1) && (r.drop 1).all fun x => lX (ks, xs) n true x l (dp - 1))
      else if k = "call" then decide (many r = 4) && lG (ks, xs) (fun x => lX (ks, xs) n true x l (dp - 1)) (nth r 0) (nth r 1) (nth r 2)
      else false)) = (decide (many r = 2) && isIn (nth r 0) 0 t) ∧ (if (D.str k).eqS "number" = true then (1000000 : Int) else l - 1) = t := by
      by_cases hn1 : k = "number"
      · exact ⟨1000000, by rw [if_pos hn1], by rw [if_pos (show (D.str k).eqS "number" = true from decide_eq_true hn1)]⟩
      · have e1 : (D.str k).eqS "number" = false := decide_eq_false hn1
        have hl1 : k = "late" := by
          rw [e1, Bool.false_or] at h
          exact of_decide_eq_true h
        exact ⟨l - 1, by rw [if_neg hn1, if_pos hl1], by rw [e1, if_neg Bool.false_ne_true]⟩
    obtain ⟨t, ht1, ht2⟩ := top
    rw [ht1]
    refine w_set (i := 6) (dd := .int t) nd (c_ifx (ct_c (c_eqS (hu hr.un) (cv 4 hk) c_str rfl)) (fun h2 => ?_) fun h2 => ?_) fun vt H2 e2 ht => ?_
    · rw [h2, if_pos rfl] at ht2
      exact C.is c_int (by rw [← ht2])
    · rw [h2, if_neg Bool.false_ne_true] at ht2
      exact C.is (c_sub (cv 1 hy1) c_int) (by rw [← ht2])
    · refine w_ret (C.is (c_and (j := isIn (nth r 0) 0 t) (c_eqI (cv 5 (hm.mono e2)) c_int) fun h2 => ?_) rfl)
      obtain ⟨a, rfl⟩ := many2 (of_decide_eq_true h2)
      refine C.is (c_and (j := inB a 0 t) (cc CI hr (by omega) (e2.tab hT1) (ca_cons (c_ixT (cv 0 (hx1.mono e2)) c_int (fun _ _ => rfl) (j := 1) rfl rfl) ca_nil) rfl ⟨_, rfl⟩ rfl) fun h3 => ?_) (by rw [← isI_in]; rfl)
      have h3 : (a.isInt && !a.isBl) = true := h3
      rw [Bool.and_eq_true] at h3
      obtain ⟨i, rfl⟩ := int_of h3.1 h3.2
      exact c_one (c_leLe c_int (c_ixT (cv 0 (hx1.mono e2)) c_int (fun _ _ => rfl) (j := 1) rfl rfl) (cv 6 ht))
  simp only [Bool.or_eq_false_iff] at h
  rw [if_neg (of_decide_eq_false h.1), if_neg (of_decide_eq_false h.2)]
  clear key
  refine w_if (ct_c (c_inS (ss := pairsS) (cv 4 hk) (c_lst (ca_cons c_str (ca_cons c_str (ca_cons c_str ca_nil)))))) (fun h => ?_) fun h => ?_
  · rw [if_pos (of_decide_eq_true h)]
    refine w_ret (c_and (c_eqI (cv 5 hm) c_int) fun h2 => c_one (C.is (c_eqL0 (hu hr.un) (c_lc (f := id) (pr := fun p => !lX (ks, xs) n true p l (dp - 1)) (js := [7]) (own := [("_law_part", 7)]) rfl nd (it_tup (c_from (k := 1) (cv 0 hx1) c_int)) (blkOk_by (show blkC nmE (fnScope (top 59)) _ _ = true by decide +kernel)) (fun _ _ _ _ _ => pg_name (i := 7) nd rfl (Or.inl rfl)) (tgt_name 7) (by decide) hlr fun d vs H2 hd e2 => ⟨[d], rfl, fun hvs => ?_⟩) (c_lst ca_nil)) isEmpty_filter2))
    obtain ⟨q, rfl, hq⟩ := dats1 hvs
    obtain ⟨p1, p2, p3⟩ := hp1 hd
    exact ⟨cif_one fun s0 H0 A0 cl fp => ct_not (ct_val (cc IE hr (by omega) (e2.tab hT1) (ca_cons (cv 7 hq) (ca_cons (cv 1 (hy1.mono e2)) (ca_cons (cv 2 (hz1.mono e2)) (ca_cons (c_sub (cv 3 (hd1.mono e2)) c_int) ca_nil)))) rfl ⟨_, _, _, _, _, rfl, p1, p2, p3, hsz⟩ rfl)), fun _ => ⟨fun s0 H0 A0 cl fp => cv 7 hq, p2⟩⟩
  rw [if_neg (of_decide_eq_false h)]
  refine w_if (ct_c (c_eqS (hu hr.un) (cv 4 hk) c_str rfl)) (fun h => ?_) fun h => ?_
  · rw [if_pos (of_decide_eq_true h)]
    by_cases h4 : many r = 4
    · obtain ⟨a, b, c, rfl⟩ := many4 h4
      obtain ⟨pa1, pa2, pa3⟩ := hp1 (d := a) (by simp)
      show W T _ _ _ H1 (some (.bl (lX (ks, xs) n false a l (dp - 1) && [b, c].all fun x => lX (ks, xs) n true x l (dp - 1)))) PF
      refine w_if (k := !lX (ks, xs) n false a l (dp - 1)) (ct_w (CW.is (cw_or (ct_c (c_neI (cv 5 hm) c_int)) fun _ => cw_or1 (ct_not (ct_val (cc IT hr (by omega) hT1 (ca_cons (c_ixT (cv 0 hx1) c_int (fun _ _ => rfl) (j := 1) rfl rfl) (ca_cons (cv 1 hy1) (ca_cons (cv 2 hz1) (ca_cons (c_sub (cv 3 hd1) c_int) ca_nil)))) rfl ⟨_, _, _, _, _, rfl, pa1, pa2, pa3, hsz⟩ rfl)))) ?_)) (fun h2 => w_ret (C.is c_bl ?_)) fun h2 => ?_
      · rfl
      · rw [Bool.not_eq_true'] at h2
        rw [h2]
        rfl
      · rw [Bool.not_eq_false'] at h2
        rw [h2]
        refine w_ret (C.is (c_eqL0 (hu hr.un) (c_lc (f := id) (pr := fun p => !lX (ks, xs) n true p l (dp - 1)) (js := [7]) (own := [("_law_part", 7)]) rfl nd (it_tup (c_from (k := 2) (cv 0 hx1) c_int)) (blkOk_by (show blkC nmE (fnScope (top 59)) _ _ = true by decide +kernel)) (fun _ _ _ _ _ => pg_name (i := 7) nd rfl (Or.inl rfl)) (tgt_name 7) (by decide) (by simp) fun d vs H2 hd e2 => ⟨[d], rfl, fun hvs => ?_⟩) (c_lst ca_nil)) isEmpty_filter2)
        obtain ⟨q, rfl, hq⟩ := dats1 hvs
        obtain ⟨p1, p2, p3⟩ := hp1 (d := d) (List.mem_cons_of_mem _ hd)
        exact ⟨cif_one fun s0 H0 A0 cl fp => ct_not (ct_val (cc IE hr (by omega) (e2.tab hT1) (ca_cons (cv 7 hq) (ca_cons (cv 1 (hy1.mono e2)) (ca_cons (cv 2 (hz1.mono e2)) (ca_cons (c_sub (cv 3 (hd1.mono e2)) c_int) ca_nil)))) rfl ⟨_, _, _, _, _, rfl, p1, p2, p3, hsz⟩ rfl)), fun _ => ⟨fun s0 H0 A0 cl fp => cv 7 hq, p2⟩⟩
    · refine w_if (k := true) (ct_w (CW.is (cw_or (j := true) (ct_c (c_neI (cv 5 hm) c_int)) fun h2 => ?_) (Bool.or_true _))) (fun h2 => w_ret (C.is c_bl ?_)) fun h2 => nomatch h2
      · rw [Bool.not_eq_false'] at h2
        exact absurd (of_decide_eq_true h2) h4
      · rw [decide_eq_false h4]
        rfl
  rw [if_neg (of_decide_eq_false h)]
  refine w_if (ct_c (c_neS (hu hr.un) (cv 4 hk) c_str rfl)) (fun h => w_ret (C.is c_bl ?_)) fun h => ?_
  · rw [Bool.not_eq_true'] at h
    rw [if_neg (of_decide_eq_false h)]
  rw [Bool.not_eq_false'] at h
  have hcall : k = "call" := of_decide_eq_true h
  rw [if_pos hcall]
  refine w_if (ct_c (c_neI (cv 5 hm) c_int)) (fun h => w_ret (C.is c_bl ?_)) fun h => ?_
  · rw [Bool.not_eq_true'] at h
    rw [h]
    rfl
  rw [Bool.not_eq_false'] at h
  obtain ⟨a, b, c, rfl⟩ := many4 (of_decide_eq_true h)
  subst hcall
  show W T _ _ _ H1 (some (.bl (inD ks xs a && (c.isTup && (decide (lenD c = (sizeOf (ks, xs) a).i) && (isMove b && (its c).all fun x => lX (ks, xs) n true x l (dp - 1))))))) PF
  have hka : keyOk a = true := by
    unfold kOk at hkey
    simp only [Bool.and_eq_true] at hkey
    exact hkey.1
  refine w_if (ct_c (c_notInX (hu1 hr.un) (c_ixT (cv 0 hx1) c_int (fun _ _ => rfl) (j := 1) rfl rfl) hka (cv 2 hz1))) (fun h => w_ret (C.is c_bl ?_)) fun h => ?_
  · rw [Bool.not_eq_true'] at h
    rw [h]
    rfl
  rw [Bool.not_eq_false'] at h
  obtain ⟨nm, rfl⟩ : ∃ nm, a = .str nm := by
    cases a with
    | str nm => exact ⟨nm, rfl⟩
    | _ => cases h
  have hg : (getL ks xs nm).isSome = true := h
  obtain ⟨dm, hdm⟩ := Option.isSome_iff_exists.mp hg
  obtain ⟨im, rfl⟩ := hsz.int dm (getL_mem hdm)
  have hso : sizeOf (ks, xs) (.str nm) = .int im := by
    show (getL ks xs nm).getD .non = _
    rw [hdm]
    rfl
  rw [h, hso]
  refine w_if (ct_not (ct_val (c_isi_tuple B (ha := c_ixT (cv 0 hx1) c_int (fun _ _ => rfl) (j := 3) rfl rfl)))) (fun h => w_ret (C.is c_bl ?_)) fun h => ?_
  · rw [Bool.not_eq_true'] at h
    rw [h]
    rfl
  rw [Bool.not_eq_false'] at h
  obtain ⟨ys, rfl⟩ := tup_of h
  refine w_if (ct_c (c_neI (c_lenT B (c_ixT (cv 0 hx1) c_int (fun _ _ => rfl) (j := 3) rfl rfl)) (c_dgetS (hu1 hr.un) (cv 2 hz1) (c_ixT (cv 0 hx1) c_int (fun _ _ => rfl) (j := 1) rfl rfl) hdm))) (fun h => w_ret (C.is c_bl ?_)) fun h => ?_
  · rw [Bool.not_eq_true'] at h
    have h : decide (lenD (.tup ys) = (D.int im).i) = false := h
    rw [h]
    rfl
  rw [Bool.not_eq_false'] at h
  have h : decide (lenD (.tup ys) = (D.int im).i) = true := h
  rw [h]
  show W T _ _ _ H1 (some (.bl (isMove b && ys.all fun x => lX (ks, xs) n true x l (dp - 1)))) PF
  obtain ⟨pb1, pb2, pb3⟩ := hp1 (d := b) (by simp)
  obtain ⟨pc1, pc2, pc3⟩ := hp1 (d := .tup ys) (by simp)
  rw [isMove_if pb2]
  refine w_set (i := 8) nd (c_ixT (cv 0 hx1) c_int (fun _ _ => rfl) (j := 2) rfl rfl) fun vmv H2 e2 hmv => ?_
  -- the move
  have hT2 := e2.tab hT1
  have hx2 := hx1.mono e2
  have hy2 := hy1.mono e2
  have hz2 := hz1.mono e2
  have hd2 := hd1.mono e2
  by_cases hb : ¬ b.isTup = true
  · refine w_if (k := true) (ct_w (CW.is (cw_or (j := true) (ct_not (ct_val (c_isi_tuple B (ha := cv 8 hmv)))) fun h => ?_) (Bool.or_true _))) (fun h => w_ret (C.is c_bl ?_)) fun h => nomatch h
    · rw [Bool.not_eq_false'] at h
      exact absurd h hb
    · rw [Bool.not_eq_true] at hb
      rw [hb]
      rfl
  have hb := Classical.not_not.mp hb
  obtain ⟨ms, rfl⟩ := tup_of hb
  by_cases hm2 : ¬ (ms.length : Int) = 2
  · refine w_if (k := true) (ct_w (CW.is (cw_or (ct_not (ct_val (c_isi_tuple B (ha := cv 8 hmv)))) fun _ => cw_or (j := true) (ct_c (c_neI (c_lenT B (cv 8 hmv)) c_int)) fun h => ?_) (by rw [Bool.or_true, Bool.or_true]))) (fun h => w_ret (C.is c_bl ?_)) fun h => nomatch h
    · rw [Bool.not_eq_false'] at h
      exact absurd (of_decide_eq_true h) hm2
    · rw [show decide (lenD (.tup ms) = 2) = false from decide_eq_false hm2]
      rfl
  have hm2 := Classical.not_not.mp hm2
  obtain ⟨m0, m1, rfl⟩ : ∃ m0 m1, ms = [m0, m1] := by
    match ms, hm2 with
    | [m0, m1], _ => exact ⟨m0, m1, rfl⟩
    | [], h => simp at h
    | [_], h => simp at h
    | _ :: _ :: _ :: _, h => simp only [List.length_cons] at h; omega
  have hm0 : m0.fl = true := nl_fl (nl_mem pb2 (by simp))
  show W T _ _ _ H2 (some (.bl ((true && (true && (isI m1 && ((m0.eqS "give" && inB m1 0 1000) || (m0.eqS "move" && inB m1 (-5) 5))))) && ys.all fun x => lX (ks, xs) n true x l (dp - 1)))) PF
  refine w_if (k := !isI m1) (ct_w (CW.is (cw_or (ct_not (ct_val (c_isi_tuple B (ha := cv 8 hmv)))) fun _ => cw_or (ct_c (c_neI (c_lenT B (cv 8 hmv)) c_int)) fun _ => cw_or1 (ct_not (ct_val (cc CI hr (by omega) hT2 (ca_cons (c_ixT (cv 8 hmv) c_int (fun _ _ => rfl) (j := 1) rfl rfl) ca_nil) rfl ⟨_, rfl⟩ rfl)))) rfl)) (fun h => w_ret (C.is c_bl ?_)) fun h => ?_
  · rw [Bool.not_eq_true'] at h
    rw [h]
    rfl
  rw [Bool.not_eq_false'] at h
  rw [h]
  have h3 : (m1.isInt && !m1.isBl) = true := h
  rw [Bool.and_eq_true] at h3
  obtain ⟨i1, rfl⟩ := int_of h3.1 h3.2
  refine w_if (k := !((m0.eqS "give" && inB (.int i1) 0 1000) || (m0.eqS "move" && inB (.int i1) (-5) 5))) (ct_not (ct_w (cw_or (ct_w (cw_and (ct_c (c_eqS (hu hr.un) (c_ixT (cv 8 hmv) c_int (fun _ _ => rfl) (j := 0) rfl rfl) c_str hm0)) fun _ => cw_and1 (ct_leLe c_int (c_ixT (cv 8 hmv) c_int (fun _ _ => rfl) (j := 1) rfl rfl) c_int))) fun _ =>
    cw_or1 (ct_w (cw_and (ct_c (c_eqS (hu hr.un) (c_ixT (cv 8 hmv) c_int (fun _ _ => rfl) (j := 0) rfl rfl) c_str hm0)) fun _ => cw_and1 (ct_leLe (c_neg c_int) (c_ixT (cv 8 hmv) c_int (fun _ _ => rfl) (j := 1) rfl rfl) c_int)))))) (fun h => w_ret (C.is c_bl ?_)) fun h => ?_
  · rw [Bool.not_eq_true'] at h
    rw [h]
    rfl
  rw [Bool.not_eq_false'] at h
  rw [h]
  have hly : ys.length ≤ 100000 := by
    cases n with
    | zero => exact (fit_pos pc1).elim
    | succ m => exact Nat.le_trans (fit_tup pc1).1 (by decide)
  refine w_ret (C.is (c_eqL0 (hu hr.un) (c_lc (f := id) (pr := fun p => !lX (ks, xs) n true p l (dp - 1)) (js := [7]) (own := [("_law_part", 7)]) rfl nd (it_tup (c_ixT (cv 0 hx2) c_int (fun _ _ => rfl) (j := 3) rfl rfl)) (blkOk_by (show blkC nmE (fnScope (top 59)) _ _ = true by decide +kernel)) (fun _ _ _ _ _ => pg_name (i := 7) nd rfl (Or.inl rfl)) (tgt_name 7) (by decide) hly fun d vs H3 hd e3 => ⟨[d], rfl, fun hvs => ?_⟩) (c_lst ca_nil)) isEmpty_filter2)
  obtain ⟨q, rfl, hq⟩ := dats1 hvs
  have hfd : fit n d = true ∧ kOk n d = true := by
    cases n with
    | zero => exact (fit_pos pc1).elim
    | succ m =>
      have h1 := (fit_tup pc1).2 d hd
      exact ⟨fit_up h1, kOk_up h1 (kOk_mem pc3 hd)⟩
  have hnd := nl_mem pc2 hd
  exact ⟨cif_one fun s0 H0 A0 cl fp => ct_not (ct_val (cc IE hr (by omega) (e3.tab hT2) (ca_cons (cv 7 hq) (ca_cons (cv 1 (hy2.mono e3)) (ca_cons (cv 2 (hz2.mono e3)) (ca_cons (c_sub (cv 3 (hd2.mono e3)) c_int) ca_nil)))) rfl ⟨_, _, _, _, _, rfl, hfd.1, hnd, hfd.2, hsz⟩ rfl)), fun _ => ⟨fun s0 H0 A0 cl fp => cv 7 hq, hnd⟩⟩
abbrev nmT : List Str := ["_law_one", "_law_lates_here", "_law_sizes", "_law_deep", "_law_part"]
theorem lw_test (M : Mgs K mg) (CI : Cal P w K mg base 1 "_law_is_int" (spD T 1 preOne fIsInt) []) (F : Dfn K mg "_law_is_test" (top 60) cd)
    (IE : Cal P w K mg base (2 * n + 3) "_law_is_expression" (spD T 4 (preL n) (fLX n true)) []) (EA : Cal P w K mg base (2 * n + 3) "_law_is_early" (spD T 1 (preLw n) (fEarly n)) []) :
    Cal P w K mg base (2 * (n + 1) + 3) "_law_is_test" (spD T 4 (preL (n + 1)) (fLX (n + 1) false)) [] := by
  refine calD (k := 2 * n + 4) (N := nmT) (ps := ["_law_one", "_law_lates_here", "_law_sizes", "_law_deep"]) F (by decide +kernel) rfl (fun _ _ _ _ _ us hl => match us, hl with | [_, _, _, _], _ => rfl) fun f A outer s H E vs ds hr hn hv hp hT => ?_
  obtain ⟨v, l, ks, xs, dp, rfl, hfit, hnl, hkey, hsz⟩ := hp
  obtain ⟨x, y, z, u, rfl, hx, hy, hz, hdp⟩ := dats4 hv
  have B := M.B
  have nd : nmT.Nodup := by decide
  have hu : ∀ {u : Nat}, u + 16 * (2 * n + 4) + 200 < cLine → u < cLine := fun h => by omega
  show W T _ _ _ H (some (.bl (stepKT (lX (ks, xs) n true) (earlyD n) v l dp))) PF
  by_cases hv : ¬ v.isTup = true
  · refine w_if (k := true) (ct_w (CW.is (cw_or (ct_c (c_eqI (cv 3 hdp) c_int)) fun _ => cw_or (j := true) (ct_not (ct_val (c_isi_tuple B (ha := cv 0 hx)))) fun h => ?_) ?_)) (fun h => w_ret (C.is c_bl ?_)) fun h => nomatch h
    · rw [Bool.not_eq_false'] at h
      exact absurd h hv
    · rw [Bool.or_true, Bool.or_true]
    · unfold stepKT
      cases v <;> first | exact (congrArg D.bl (Bool.and_false _)).symm | exact absurd rfl hv
  have hv := Classical.not_not.mp hv
  obtain ⟨ws, rfl⟩ := tup_of hv
  refine w_if (k := decide (dp = 0) || decide ((ws.length : Int) < 2)) (ct_w (CW.is (cw_or (ct_c (c_eqI (cv 3 hdp) c_int)) fun _ => cw_or (ct_not (ct_val (c_isi_tuple B (ha := cv 0 hx)))) fun _ => cw_or1 (ct_c (c_lt (c_lenT B (cv 0 hx)) c_int))) rfl)) (fun h => w_ret (C.is c_bl ?_)) fun h => ?_
  · unfold stepKT
    rcases Bool.or_eq_true_iff.mp h with h | h
    · rw [h]
      rfl
    · have h := of_decide_eq_true h
      match ws, h with
      | [], _ => exact (congrArg D.bl (Bool.and_false _)).symm
      | [a], _ =>
        cases a with
        | str k =>
          show D.bl false = D.bl (!decide (dp = 0) && stepTb _ _ k [] l dp)
          unfold stepTb
          rw [show decide (many [] = 2) = false from rfl, show decide (many [] = 3) = false from rfl]
          simp
        | _ => exact (congrArg D.bl (Bool.and_false _)).symm
      | _ :: _ :: _, h => simp only [List.length_cons] at h; omega
  simp only [Bool.or_eq_false_iff] at h
  have h0 := h.1
  have hge := of_decide_eq_false h.2
  have hfa := (fit_tup hfit).2
  obtain ⟨hd, r, rfl⟩ : ∃ hd r, ws = hd :: r := by
    cases ws with
    | nil => simp at hge
    | cons a b => exact ⟨a, b, rfl⟩
  have hlr : r.length ≤ 100000 := by
    have := (fit_tup hfit).1
    rw [List.length_cons] at this
    omega
  have hfl : hd.fl = true := nl_fl (nl_mem hnl List.mem_cons_self)
  have hp1 : ∀ {d : D}, d ∈ r → fit n d = true ∧ d.nl = true ∧ kOk n d = true := fun {d} hd => ⟨hfa d (List.mem_cons_of_mem _ hd), nl_mem hnl (List.mem_cons_of_mem _ hd), kOk_mem hkey (List.mem_cons_of_mem _ hd)⟩
  have key : stepKT (lX (ks, xs) n true) (earlyD n) (.tup (hd :: r)) l dp = (if hd.eqS "below" then decide (many r = 2) && isIn (nth r 0) 0 1000
      else decide (many r = 3) && (if hd.eqS "rest" then isIn (nth r 0) 2 6 && isIn (nth r 1) 0 ((nth r 0).i - 1)
        else if hd.eqS "less" then (r.all fun x => lX (ks, xs) n true x l (dp - 1)) && !(earlyD n (nth r 0) && earlyD n (nth r 1)) else false)) := by
    unfold stepKT
    rw [h0]
    cases hd with
    | str k =>
      show (!false && stepTb _ _ k r l dp) = _
      unfold stepTb
      show (true && _) = _
      rw [Bool.true_and]
      have e : ∀ (s : Str) (a b : Bool), (if k = s then a else b) = (if (D.str k).eqS s = true then a else b) := fun s a b => by
        by_cases q : k = s
        · rw [if_pos q, if_pos (show (D.str k).eqS s = true from decide_eq_true q)]
        · rw [if_neg q, if_neg (by rw [show (D.str k).eqS s = false from decide_eq_false q]; decide)]
      rw [e, e, e]
    | _ =>
      show false = (if false = true then _ else (_ && (if false = true then _ else if false = true then _ else false)))
      simp
  rw [key]
  refine w_if (ct_c (c_eqS (hu hr.un) (c_ixT (cv 0 hx) c_int (fun _ _ => rfl) (j := 0) (ixN_nat (Nat.zero_lt_succ _)) rfl) c_str hfl)) (fun h => ?_) fun h => ?_
  · rw [if_pos h]
    refine w_ret (C.is (c_and (j := isIn (nth r 0) 0 1000) (c_eqI (c_lenT B (cv 0 hx)) c_int) fun h2 => ?_) rfl)
    obtain ⟨a, rfl⟩ := many2 (of_decide_eq_true h2)
    refine C.is (c_and (j := inB a 0 1000) (cc CI hr (by omega) hT (ca_cons (c_ixT (cv 0 hx) c_int (fun _ _ => rfl) (j := 1) rfl rfl) ca_nil) rfl ⟨_, rfl⟩ rfl) fun h3 => ?_) (by rw [← isI_in]; rfl)
    have h3 : (a.isInt && !a.isBl) = true := h3
    rw [Bool.and_eq_true] at h3
    obtain ⟨i, rfl⟩ := int_of h3.1 h3.2
    exact c_one (c_leLe c_int (c_ixT (cv 0 hx) c_int (fun _ _ => rfl) (j := 1) rfl rfl) c_int)
  rw [h, if_neg Bool.false_ne_true]
  refine w_if (ct_c (c_neI (c_lenT B (cv 0 hx)) c_int)) (fun h2 => w_ret (C.is c_bl ?_)) fun h2 => ?_
  · rw [Bool.not_eq_true'] at h2
    have h2 : decide (many r = 3) = false := h2
    rw [h2]
    rfl
  rw [Bool.not_eq_false'] at h2
  obtain ⟨a, b, rfl⟩ := many3 (of_decide_eq_true h2)
  show W T _ _ _ H (some (.bl (true && (if hd.eqS "rest" then isIn a 2 6 && isIn b 0 (a.i - 1) else if hd.eqS "less" then ([a, b].all fun x => lX (ks, xs) n true x l (dp - 1)) && !(earlyD n a && earlyD n b) else false)))) PF
  rw [Bool.true_and]
  refine w_if (ct_c (c_eqS (hu hr.un) (c_ixT (cv 0 hx) c_int (fun _ _ => rfl) (j := 0) rfl rfl) c_str hfl)) (fun h3 => ?_) fun h3 => ?_
  · rw [if_pos h3]
    refine w_ret (C.is (c_and (j := isI b && (inB a 2 6 && inB b 0 (a.i - 1))) (cc CI hr (by omega) hT (ca_cons (c_ixT (cv 0 hx) c_int (fun _ _ => rfl) (j := 1) rfl rfl) ca_nil) rfl ⟨_, rfl⟩ rfl) fun h4 => c_and (cc CI hr (by omega) hT (ca_cons (c_ixT (cv 0 hx) c_int (fun _ _ => rfl) (j := 2) rfl rfl) ca_nil) rfl ⟨_, rfl⟩ rfl) fun h5 => ?_) ?_)
    · have h4 : (a.isInt && !a.isBl) = true := h4
      have h5 : (b.isInt && !b.isBl) = true := h5
      rw [Bool.and_eq_true] at h4 h5
      obtain ⟨i, rfl⟩ := int_of h4.1 h4.2
      obtain ⟨j, rfl⟩ := int_of h5.1 h5.2
      refine C.is (c_and (c_leLe c_int (c_ixT (cv 0 hx) c_int (fun _ _ => rfl) (j := 1) rfl rfl) c_int) fun _ => c_one (c_leLt c_int (c_ixT (cv 0 hx) c_int (fun _ _ => rfl) (j := 2) rfl rfl) (c_ixT (cv 0 hx) c_int (fun _ _ => rfl) (j := 1) rfl rfl))) ?_
      show D.bl ((decide (2 ≤ i) && decide (i ≤ 6)) && (decide (0 ≤ j) && decide (j < i))) = D.bl ((decide (2 ≤ i) && decide (i ≤ 6)) && (decide (0 ≤ j) && decide (j ≤ i - 1)))
      have : decide (j < i) = decide (j ≤ i - 1) := by
        by_cases q : j < i
        · rw [decide_eq_true q, decide_eq_true (by omega)]
        · rw [decide_eq_false q, decide_eq_false (by omega)]
      rw [this]
    · rw [isI_in, isI_in]
      show D.bl (isI a && (isI b && (inB a 2 6 && inB b 0 (a.i - 1)))) = D.bl ((isI a && inB a 2 6) && (isI b && inB b 0 (a.i - 1)))
      cases isI a <;> cases isI b <;> cases inB a 2 6 <;> rfl
  rw [h3, if_neg Bool.false_ne_true]
  refine w_if (ct_c (c_neS (hu hr.un) (c_ixT (cv 0 hx) c_int (fun _ _ => rfl) (j := 0) rfl rfl) c_str hfl)) (fun h4 => w_ret (C.is c_bl ?_)) fun h4 => ?_
  · rw [Bool.not_eq_true'] at h4
    rw [h4, if_neg Bool.false_ne_true]
  rw [Bool.not_eq_false'] at h4
  rw [if_pos h4]
  refine w_if (k := !([a, b].all fun x => lX (ks, xs) n true x l (dp - 1))) (ct_c (C.is (c_neL0 (hu hr.un) (c_lc (f := id) (pr := fun p => !lX (ks, xs) n true p l (dp - 1)) (js := [4]) (own := [("_law_part", 4)]) rfl nd (it_tup (c_from (k := 1) (cv 0 hx) c_int)) (blkOk_by (show blkC nmT (fnScope (top 60)) _ _ = true by decide +kernel)) (fun _ _ _ _ _ => pg_name (i := 4) nd rfl (Or.inl rfl)) (tgt_name 4) (by decide) (by simp) fun d vs H2 hd e2 => ⟨[d], rfl, fun hvs => ?_⟩) (c_lst ca_nil)) ?_)) (fun h5 => w_ret (C.is c_bl ?_)) fun h5 => ?_
  · obtain ⟨q, rfl, hq⟩ := dats1 hvs
    obtain ⟨p1, p2, p3⟩ := hp1 hd
    exact ⟨cif_one fun s0 H0 A0 cl fp => ct_not (ct_val (cc IE hr (by omega) (e2.tab hT) (ca_cons (cv 4 hq) (ca_cons (cv 1 (hy.mono e2)) (ca_cons (cv 2 (hz.mono e2)) (ca_cons (c_sub (cv 3 (hdp.mono e2)) c_int) ca_nil)))) rfl ⟨_, _, _, _, _, rfl, p1, p2, p3, hsz⟩ rfl)), fun _ => ⟨fun s0 H0 A0 cl fp => cv 4 hq, p2⟩⟩
  · show D.bl (!(([a, b].filter _).map id).isEmpty) = _
    rw [isEmpty_filter]
  · rw [Bool.not_eq_true'] at h5
    rw [h5]
    rfl
  · rw [Bool.not_eq_false'] at h5
    rw [h5]
    have hsh : ∀ x ∈ [a, b], sh n x = true := fun x hx => by
      rw [List.all_eq_true] at h5
      exact lX_sh _ _ _ _ _ _ (h5 x hx)
    obtain ⟨pa1, pa2, pa3⟩ := hp1 (d := a) (by simp)
    obtain ⟨pb1, pb2, pb3⟩ := hp1 (d := b) (by simp)
    exact w_ret (C.is (c_not (c_and (cc EA hr (by omega) hT (ca_cons (c_ixT (cv 0 hx) c_int (fun _ _ => rfl) (j := 1) rfl rfl) ca_nil) rfl ⟨_, rfl, hsh a (by simp), pa1, pa2⟩ rfl) fun _ => c_one (cc EA hr (by omega) hT (ca_cons (c_ixT (cv 0 hx) c_int (fun _ _ => rfl) (j := 2) rfl rfl) ca_nil) rfl ⟨_, rfl, hsh b (by simp), pb1, pb2⟩ rfl))) rfl)
theorem lw_zero {x : Str} {st : Stmt} {N ps : List Str} {b : Bool} {k : Nat} (F : Dfn K mg x st cd) (S : scC N ps (fnScope st) = true) (hn : ps.length = 4)
    (hb : ∀ (kV doc pm : Value) (an : Option Addr) (ct : Value) (us : List Value), us.length = ps.length → bindArgs (PySem.W.fnOf x x (fnArgs st) (fnBody st) (fnScope st) .none kV doc pm an cd ct) ⟨us, []⟩ = pure (ps.zip us)) : Cal P w K mg base (k + 1) x (spD T 4 (preL 0) (fLX 0 b)) [] :=
  calD F S hn hb fun f A outer s H E vs ds hr hn hv hp hT => by
    obtain ⟨v, l, ks, xs, dp, _, h, _⟩ := hp
    exact (fit_pos h).elim
theorem lw_both {cd1 cd2 : Value} (M : Mgs K mg) (CI : Cal P w K mg base 1 "_law_is_int" (spD T 1 preOne fIsInt) []) (F1 : Dfn K mg "_law_is_expression" (top 59) cd1) (F2 : Dfn K mg "_law_is_test" (top 60) cd2) (EA : ∀ n, Cal P w K mg base (2 * n + 3) "_law_is_early" (spD T 1 (preLw n) (fEarly n)) []) :
    ∀ n, Cal P w K mg base (2 * n + 3) "_law_is_expression" (spD T 4 (preL n) (fLX n true)) [] ∧ Cal P w K mg base (2 * n + 3) "_law_is_test" (spD T 4 (preL n) (fLX n false)) []
  | 0 => ⟨lw_zero (k := 2) (N := nmE) (ps := ["_law_one", "_law_lates_here", "_law_sizes", "_law_deep"]) F1 (by decide +kernel) rfl (fun _ _ _ _ _ us hl => match us, hl with | [_, _, _, _], _ => rfl),
      lw_zero (k := 2) (N := nmT) (ps := ["_law_one", "_law_lates_here", "_law_sizes", "_law_deep"]) F2 (by decide +kernel) rfl (fun _ _ _ _ _ us hl => match us, hl with | [_, _, _, _], _ => rfl)⟩
  | n + 1 => by
    have ih := lw_both M CI F1 F2 EA n
    exact ⟨lw_expr M CI F1 ih.1 ih.2, lw_test M CI F2 ih.1 (EA n)⟩
end
end G3

set_option Elab.async false
set_option linter.all false
set_option maxRecDepth 100000
set_option maxHeartbeats 4000000
namespace G3
open PySem PySem.Spec PyProof.Rows L2 GX
open GxR (TabG Tabbed)
open C8 (Cal scC fnArgs fnBody fnScope pe_c E0 fnScope_by)

/-! ## The law's judge of programs -/
def okP (n : Nat) (sz : List Str × List D) (d : D) : Bool :=
  ((decide (1 ≤ ((strOf (d.ix 0)).length : Int)) && decide (((strOf (d.ix 0)).length : Int) ≤ 8)) && (signs (strOf (d.ix 0))).all letterB) && (!decide (strOf (d.ix 0) ∈ takenS)) &&
    (isI (d.ix 1) && (inB (d.ix 1) 0 4 && lX sz n true (d.ix 2) (d.ix 1).i 30))
def stepP (n : Nat) (sz : List Str × List D) (s : Bool × Int) (d : D) : Bool × Int :=
  (s.1 && okP n sz d, if (s.1 && okP n sz d) = true then s.2 + nodesD n (d.ix 2) else 0)
def good0 (xs : List D) : Bool := (decide (1 ≤ (xs.length : Int)) && decide ((xs.length : Int) ≤ 8)) && decide (((sizesOf xs).1.length : Int) = xs.length)
def foldP (n : Nat) (xs ys : List D) : Bool × Int := ys.foldl (stepP n (sizesOf xs)) (good0 xs, 0)
def lPr (n : Nat) (xs : List D) : Bool := (foldP n xs xs).1 && decide ((foldP n xs xs).2 ≤ 300)
def fLP (n : Nat) : List D → D
  | [v] => .bl (lPr n (its v))
  | _ => .non
def triple (d : D) : Prop := ∃ nm l b, d = .tup [.str nm, .int l, b]
def preLP (n : Nat) : List D → Prop := fun ds => ∃ xs, ds = [.tup xs] ∧ fit (n + 2) (.tup xs) = true ∧ (D.tup xs).nl = true ∧ kOk (n + 2) (.tup xs) = true ∧ ∀ d ∈ xs, triple d
abbrev nmP : List Str := ["_law_value", "_law_sizes", "_law_nodes_here", "_law_name_here", "_law_lates_here", "_law_body_here", "_law_good", "_law_letters", "_law_sign"]
section
variable {P : Program} {w : World} {K : PySem.W.Frag} {mg : Str → Option Value} {base : Heap} {T : List Addr} {cd : Value} {n : Nat}
theorem take_snoc {xs : List D} {i : Nat} {d : D} (h : xs[i]? = some d) : xs.take (i + 1) = xs.take i ++ [d] := by
  rw [List.take_succ, h]
  rfl
theorem lw_pr (M : Mgs K mg) (CI : Cal P w K mg base 1 "_law_is_int" (spD T 1 preOne fIsInt) []) (CE : Cal P w K mg base (2 * n + 3) "_law_is_expression" (spD T 4 (preL n) (fLX n true)) []) (CN : Cal P w K mg base (2 * n + 3) "_law_nodes" (spD T 1 (preLw n) (fNodes n)) [])
    (F : Dfn K mg "_law_is_program" (top 61) cd) : Cal P w K mg base (2 * n + 4) "_law_is_program" (spD T 1 (preLP n) (fLP n)) [] := by
  refine calD (k := 2 * n + 3) (N := nmP) (ps := ["_law_value"]) F (by decide +kernel) rfl (fun _ _ _ _ _ us hl => match us, hl with | [_], _ => rfl) fun f A outer s H E vs ds hr hn hv hp hT => ?_
  obtain ⟨xs, rfl, hfit, hnl, hkey, htr⟩ := hp
  obtain ⟨x, rfl, hx⟩ := dats1 hv
  have B := M.B
  have nd : nmP.Nodup := by decide
  have hu : ∀ {u : Nat}, u + 16 * (2 * n + 3) + 200 < cLine → u < cLine := fun h => by omega
  have hu1 : ∀ {u : Nat}, u + 16 * (2 * n + 3) + 200 < cLine → u + 1 < cLine := fun h => by omega
  have hfa := fit_tup hfit
  have hszl : (sizesOf xs).1.length = (sizesOf xs).2.length := puts_length rfl
  have hszi : ∀ {ys : List D}, (∀ d ∈ ys, d ∈ xs) → ∀ z ∈ (sizesOf ys).2, ∃ i, z = D.int i := fun {ys} hy => puts_all (fun z hz => absurd hz List.not_mem_nil) fun q hq => by
    obtain ⟨d, hd, rfl⟩ := List.mem_map.mp hq
    obtain ⟨nm, l, c0, rfl⟩ := htr d (hy d hd)
    exact ⟨l, rfl⟩
  have hSz : Szs (sizesOf xs).1 (sizesOf xs).2 := ⟨hszl, hszi fun d h => h⟩
  -- the dict of the sizes
  have first : ∀ {body : List Stmt}, (∀ y H1, Ex T H H1 → Dat H1 (.dic (sizesOf xs).1 (sizesOf xs).2) y → ∀ b1 b2 b3, W T (XF P w K mg base nmP "_law_is_program" (top 61) f cd A outer s H E) ((fnBody (top 61)).drop 2) [some x, some y, some (.int 0), b1, b2, b3, none, none, none] H1 (some (.bl (lPr n xs))) PF) →
      W T (XF P w K mg base nmP "_law_is_program" (top 61) f cd A outer s H E) (fnBody (top 61)) (start nmP [x]) H (some (.bl (lPr n xs))) PF := fun {body} k => by
    refine w_of (pss_cons (ps_par (i := 1) (j := 2) rfl nd rfl rfl (by decide) rfl rfl (pa_cons pe_dnewK (pa_cons pe_int pa_nil)) rfl rfl) (pss_cons (ps_for PassesOwn.never rfl (pi_tup (pv 0)) (g3 (a := 3) (b := 4) (c := 5) rfl nd) (pss_one (ps_dput (hu1 hr.un) (pv 1) (pv 3) (pv 4) rfl))) pss_s)) fun H1 e1 En q nx => ?_
    refine fun a ha => ⟨_, _, rfl, ?_⟩
    obtain ⟨p, us, e3, e4, e5⟩ := dat_tup.mp (hx.mono e1)
    have ea : Ex T H1 (upd H1 a (.dK [])) := Ex.new ha
    have pk : ∀ {H' : Hp}, Ex T H1 H' → H' p = some (.tup us) := fun e' => e'.old _ _ e4 (fun _ z => by cases z)
    have hlen := e5.length
    refine ⟨x, rfl, p, e3, ⟨us, .inl (.inl (pk ea))⟩, for_tup (xs := us) (fun i σ' H' => Ex T H1 H' ∧ ∃ vs b1 b2 b3, σ' = [some x, some (.ref a), some (.int 0), b1, b2, b3, none, none, none] ∧ H' a = some (.dK (((sizesOf (xs.take i)).1.map Sum.inr).zip vs)) ∧ (sizesOf (xs.take i)).1.length = vs.length ∧ vs.length ≤ i ∧
      Dats H' (sizesOf (xs.take i)).2 vs) ⟨ea, [], none, none, none, rfl, by rw [upd_same]; rfl, rfl, Nat.le_refl _, dats_nil.mpr rfl⟩ (fun i σ' H' _ h => .inl (.inl (pk h.1))) (fun i u σ' H' hi h => ?_) fun σ' H' h => ?_⟩
    · obtain ⟨e', vs, b1, b2, b3, rfl, h2, h3, h4, h5⟩ := h
      obtain ⟨d, hd, hu2⟩ := (e5.mono e').getV hi
      have hmem := List.mem_of_getElem? hd
      obtain ⟨nm, l, c0, rfl⟩ := htr d hmem
      refine tgt_tup [3, 4, 5] rfl _ _ u _ H' _ rfl hu2 fun ws hws => ?_
      obtain ⟨a1, a2, a3, rfl, c1, c2, c3⟩ := dats3 hws
      have nt : ∀ ys, H' a ≠ some (.tup ys) := fun ys z => by rw [h2] at z; cases z
      have hil : i < xs.length := (List.getElem?_eq_some_iff.mp hd).1
      have hni : nls (sizesOf (xs.take i)).2 = true := nls_all fun z hz => by
        obtain ⟨j, rfl⟩ := hszi (ys := xs.take i) (fun d hd => List.mem_of_mem_take hd) z hz
        rfl
      refine ⟨_, rfl, _, rfl, _, rfl, a, _, rfl, .inl ⟨_, .inr nm, h2, dat_str.mp c1, ?_, rfl⟩, ?_⟩
      · rw [List.length_zip, List.length_map, h3, Nat.min_self]
        exact Nat.lt_of_le_of_lt (Nat.le_trans h4 (Nat.le_of_lt hil)) (Nat.lt_of_le_of_lt hfa.1 (by decide))
      · have hs : sizesOf (xs.take (i + 1)) = (putN (sizesOf (xs.take i)).1 nm, putL (sizesOf (xs.take i)).1 (sizesOf (xs.take i)).2 nm (.int l)) := by
          unfold sizesOf
          rw [take_snoc hd, List.map_append, List.map_cons, List.map_nil, puts_snoc]
          rfl
        refine ⟨Ex.mut e' ha (fun ps z => by rw [h2] at z; cases z), _, _, _, _, rfl, by rw [upd_same, hs, putK_zip h3], by rw [hs]; exact putL_length h3, ?_, ?_⟩
        · rw [← putL_length (a := a2) h3]
          exact Nat.le_trans (putN_le _ _) (by rw [h3]; exact Nat.succ_le_succ h4)
        · rw [hs]
          exact putL_dats (Dats.upd nt _ _ hni h5) (by rw [dat_int.mp c2]; exact dat_int.mpr rfl)
    · obtain ⟨e', vs, b1, b2, b3, rfl, h2, h3, h4, h5⟩ := h
      rw [hlen, List.take_length] at h2 h5
      exact k (.ref a) H' (e1.trans e') (dat_dic.mpr ⟨a, vs, rfl, h2, h5⟩) b1 b2 b3 H' (Ex.refl T H') En (fun v H3 d0 hd e3 hv => q v H3 d0 hd (e'.trans e3) hv) fun σ' H3 e3 hp => nx σ' H3 (e'.trans e3) hp
  refine first (body := []) fun y H1 e1 hy b1 b2 b3 => ?_
  have hx1 := hx.mono e1
  refine w_set (i := 6) (dd := .bl (good0 xs)) nd (C.is (c_and (c_leLe c_int (c_lenT B (cv 0 hx1)) c_int) fun _ => c_one (c_eqI (c_lenD B (cv 1 hy) hszl) (c_lenT B (cv 0 hx1)))) rfl) fun vg H2 e2 hg => ?_
  have hT2 := (e1.trans e2).tab hT
  have hx2 := hx1.mono e2
  have hy2 := hy.mono e2
  refine w_for (T := T) (Pv := fun i σ' H' => ∃ m g b1 b2 b3 b4 b5, σ' = [some x, some y, some m, b1, b2, b3, some g, b4, b5] ∧ Dat H' (.int (foldP n xs (xs.take i)).2) m ∧ Dat H' (.bl (foldP n xs (xs.take i)).1) g) PassesOwn.never rfl (it_tup (cv 0 hx2)) (g3 (a := 3) (b := 4) (c := 5) rfl nd) (tgt_tup [3, 4, 5] rfl)
    (fun H3 e3 => ⟨_, _, _, _, _, _, _, rfl, dat_int.mpr rfl, hg.mono e3⟩) (fun i dd vs σ' H3 hi e3 hp => ?_) fun σ' H3 e3 hp => ?_
  · obtain ⟨m, g, b1', b2', b3', b4', b5', rfl, hm, hgg⟩ := hp
    have hmem := List.mem_of_getElem? hi
    have hdf := hfa.2 dd hmem
    have hdn := nl_mem hnl hmem
    have hdk := kOk_mem hkey hmem
    obtain ⟨nm, l, bd, rfl⟩ := htr dd hmem
    have hb1 := (fit_tup hdf).2 bd (by simp)
    have hb2 := nl_mem hdn (d := bd) (by simp)
    have hb3 := kOk_mem hdk (x := bd) (by simp)
    have hnm := (fit_tup hdf).2 (.str nm) (by simp)
    refine ⟨_, rfl, fun hvs => ?_⟩
    obtain ⟨a1, a2, a3, rfl, c1, c2, c3⟩ := dats3 hvs
    have hy3 := hy2.mono e3
    have hT3 := e3.tab hT2
    refine w_set (i := 7) (dd := .bl ((decide (1 ≤ (nm.length : Int)) && decide ((nm.length : Int) ≤ 8)) && (signs nm).all letterB)) nd ?_ fun vl H4 e4 hl => ?_
    · refine C.is (c_and (c_isi_str B (ha := cv 3 c1)) fun _ => c_and (c_leLe c_int (c_lenS B (cv 3 c1) (short_str (fit_short hnm))) c_int) fun hle => c_one (c_eqL0 (hu hr.un) (c_lc (f := id) (pr := fun p => !letterB p) (js := [8]) (own := [("_law_sign", 8)]) rfl nd (it_str (cv 3 c1)) (blkOk_by (show blkC nmP (fnScope (top 61)) _ _ = true by decide +kernel)) (fun _ _ _ _ _ => pg_name (i := 8) nd rfl (Or.inl rfl)) (tgt_name 8) (by decide) ?_ fun d vs H4 hd e4 => ⟨[d], rfl, fun hvs => ?_⟩) (c_lst ca_nil))) ?_
      · have h1 : nm.length ≤ 1000 := of_decide_eq_true (fit_short hnm)
        have h2 : (signs nm).length = nm.length := by unfold signs; rw [List.length_map]; rfl
        omega
      · obtain ⟨u, rfl, hu2⟩ := dats1 hvs
        obtain ⟨ch, _, rfl⟩ := List.mem_map.mp hd
        exact ⟨cif_one fun s0 H0 A0 cl fp => ct_c (C.is (c_notInSign (z := lettersS) (cv 8 hu2) c_str) (by simp [letterB])), fun _ => ⟨fun s0 H0 A0 cl fp => cv 8 hu2, rfl⟩⟩
      · show D.bl (true && (_ && (((signs nm).filter _).map id).isEmpty)) = _
        rw [isEmpty_filter, Bool.true_and]
    · refine w_set (i := 6) (dd := .bl ((foldP n xs (xs.take i)).1 && (((decide (1 ≤ (nm.length : Int)) && decide ((nm.length : Int) ≤ 8)) && (signs nm).all letterB) && !decide (nm ∈ takenS)))) nd (C.is (c_and (cv 6 (hgg.mono e4)) fun _ => c_and (cv 7 hl) fun _ => c_one (c_notInS (ss := takenS) (cv 3 (c1.mono e4)) (c_lst (ca_cons c_str (ca_cons c_str (ca_cons c_str (ca_cons c_str (ca_cons c_str (ca_cons c_str (ca_cons c_str (ca_cons c_str (ca_cons c_str ca_nil))))))))))) ) rfl) fun vg2 H5 e5 hg2 => ?_
      have e35 := e4.trans e5
      refine w_set (i := 6) (dd := .bl ((foldP n xs (xs.take i)).1 && okP n (sizesOf xs) (.tup [.str nm, .int l, bd]))) nd ?_ fun vg3 H6 e6 hg3 => ?_
      · refine C.is (c_and (cv 6 hg2) fun _ => c_and (cc CI hr (by omega) (e35.tab hT3) (ca_cons (cv 4 (c2.mono e35)) ca_nil) rfl ⟨_, rfl⟩ rfl) fun _ => c_and (c_leLe c_int (cv 4 (c2.mono e35)) c_int) fun _ => c_one (cc CE hr (by omega) (e35.tab hT3) (ca_cons (cv 5 (c3.mono e35)) (ca_cons (cv 4 (c2.mono e35)) (ca_cons (cv 1 (hy3.mono e35)) (ca_cons c_int ca_nil)))) rfl ⟨_, _, _, _, _, rfl, hb1, hb2, hb3, hSz⟩ rfl)) ?_
        unfold okP
        show D.bl (((foldP n xs (xs.take i)).1 && (_ && _)) && (_ && (_ && _))) = D.bl ((foldP n xs (xs.take i)).1 && ((_ && _) && (_ && (_ && _))))
        rw [Bool.and_assoc]
        rfl
      · have e36 := e35.trans e6
        refine w_set (i := 2) (dd := .int (if ((foldP n xs (xs.take i)).1 && okP n (sizesOf xs) (.tup [.str nm, .int l, bd])) = true then (foldP n xs (xs.take i)).2 + nodesD n bd else 0)) nd (c_ifx (ct_val (cv 6 hg3)) (fun h => ?_) fun h => ?_) fun vm H7 e7 hm7 => w_nil fun H8 e8 => ?_
        · rw [if_pos h]
          rw [Bool.and_eq_true] at h
          have hX : lX (sizesOf xs) n true bd l 30 = true := by
            have h2 := h.2
            unfold okP at h2
            simp only [Bool.and_eq_true] at h2
            exact h2.2.2.2
          exact c_add (cv 2 (hm.mono e36)) (cc CN hr (by omega) (e36.tab hT3) (ca_cons (cv 5 (c3.mono e36)) ca_nil) rfl ⟨_, rfl, lX_sh _ _ _ _ _ _ hX, hb1, hb2⟩ rfl)
        · rw [if_neg (by rw [h]; decide)]
          exact c_int
        · have hs : foldP n xs (xs.take (i + 1)) = stepP n (sizesOf xs) (foldP n xs (xs.take i)) (.tup [.str nm, .int l, bd]) := by
            unfold foldP
            rw [take_snoc hi, List.foldl_append]
            rfl
          rw [hs]
          exact ⟨_, _, _, _, _, _, _, rfl, hm7.mono e8, (hg3.mono e7).mono e8⟩
  · obtain ⟨m, g, b1', b2', b3', b4', b5', rfl, hm, hgg⟩ := hp
    rw [List.take_length] at hm hgg
    exact w_ret (C.is (c_and (cv 6 hgg) fun _ => c_one (c_le (cv 2 hm) c_int)) rfl)
end
end G3

set_option Elab.async false
set_option linter.all false
set_option maxRecDepth 100000
set_option maxHeartbeats 4000000
namespace G3
open PySem PySem.Spec PyProof.Rows L2 GX
open GxR (TabG Tabbed)
open C8 (Cal scC fnArgs fnBody fnScope pe_c E0 fnScope_by)

/-! ## _law_alike of two that are the same -/
/-- bools, ints, short texts, tuples of such -/
def sol : Nat → D → Bool
  | 0, _ => false
  | n + 1, d => match d with
    | .tup xs => decide (xs.length ≤ 1000) && xs.all (sol n)
    | .str s => decide (s.length ≤ 1000)
    | .int _ => true
    | .bl _ => true
    | _ => false
theorem sol_tup {n : Nat} {xs : List D} (h : sol (n + 1) (.tup xs) = true) : xs.length ≤ 1000 ∧ ∀ x ∈ xs, sol n x = true := by
  unfold sol at h
  simp only [Bool.and_eq_true, decide_eq_true_eq, List.all_eq_true] at h
  exact h
theorem sol_up : ∀ {n : Nat} {d : D}, sol n d = true → sol (n + 1) d = true
  | 0, d, h => by cases h
  | n + 1, d, h => by
    cases d with
    | tup xs =>
      have q := sol_tup h
      show (decide (xs.length ≤ 1000) && xs.all (sol (n + 1))) = true
      rw [decide_eq_true q.1, Bool.true_and, List.all_eq_true]
      exact fun x hx => sol_up (q.2 x hx)
    | non => cases h
    | lst xs => cases h
    | dic a b => cases h
    | str s => exact h
    | int i => rfl
    | bl b => rfl
theorem sol_le {d : D} {n m : Nat} (hnm : n ≤ m) (h : sol n d = true) : sol m d = true := by
  induction hnm with
  | refl => exact h
  | step _ ih => exact sol_up ih
theorem sol_fit : ∀ {n : Nat} {d : D}, sol n d = true → fit n d = true
  | 0, d, h => by cases h
  | n + 1, d, h => by
    cases d with
    | tup xs =>
      have q := sol_tup h
      show (decide (xs.length ≤ 1000) && xs.all (fit n)) = true
      rw [decide_eq_true q.1, Bool.true_and, List.all_eq_true]
      exact fun x hx => sol_fit (q.2 x hx)
    | non => cases h
    | lst xs => cases h
    | dic a b => cases h
    | str s => exact h
    | int i => rfl
    | bl b => rfl
theorem sol_nl : ∀ {n : Nat} {d : D}, sol n d = true → d.nl = true
  | 0, d, h => by cases h
  | n + 1, d, h => by
    cases d with
    | tup xs =>
      have q := sol_tup h
      unfold D.nl
      exact nls_all fun x hx => sol_nl (q.2 x hx)
    | non => cases h
    | lst xs => cases h
    | dic a b => cases h
    | str s => rfl
    | int i => rfl
    | bl b => rfl
def preA (n : Nat) : List D → Prop := fun ds => ∃ d, ds = [d, d] ∧ sol n d = true
def fTrue : List D → D := fun _ => .bl true
theorem filter_none {n : Nat} {f : D → Bool} (h : ∀ d ∈ intsD n, f d = false) : (((intsD n).filter f).map id).isEmpty = true := by
  rw [List.filter_eq_nil_iff.mpr fun d hd => by rw [h d hd]; decide]
  rfl
section
variable {P : Program} {w : World} {K : PySem.W.Frag} {mg : Str → Option Value} {base : Heap} {T : List Addr} {cd : Value} {n : Nat}
abbrev nmA : List Str := ["_law_found", "_law_due", "_law_k"]
theorem lw_alike (M : Mgs K mg) (F : Dfn K mg "_law_alike" (top 40) cd) : ∀ n, Cal P w K mg base (n + 1) "_law_alike" (spD T 2 (preA n) fTrue) []
  | 0 => by
    refine calD (k := 0) (N := nmA) (ps := ["_law_found", "_law_due"]) F (by decide +kernel) rfl (fun _ _ _ _ _ us hl => match us, hl with | [_, _], _ => rfl) fun f A outer s H E vs ds hr hn hv hp hT => ?_
    obtain ⟨d, _, h⟩ := hp
    cases h
  | n + 1 => by
    have ih := lw_alike M F n
    refine calD (k := n + 1) (N := nmA) (ps := ["_law_found", "_law_due"]) F (by decide +kernel) rfl (fun _ _ _ _ _ us hl => match us, hl with | [_, _], _ => rfl) fun f A outer s H E vs ds hr hn hv hp hT => ?_
    obtain ⟨d, rfl, hs⟩ := hp
    obtain ⟨x, y, rfl, hx, hy⟩ := dats2 hv
    have B := M.B
    have nd : nmA.Nodup := by decide
    have hu : ∀ {u : Nat}, u + 16 * (n + 1) + 200 < cLine → u < cLine := fun h => by omega
    show W T _ _ _ H (some (.bl true)) PF
    refine w_if (ct_val (c_isi_tl B (ha := cv 1 hy))) (fun h => ?_) fun h => ?_
    · obtain ⟨xs, rfl⟩ : ∃ xs, d = .tup xs := by
        cases d with
        | tup xs => exact ⟨xs, rfl⟩
        | lst xs => cases hs
        | _ => cases h
      have q := sol_tup hs
      refine w_if (k := false) (ct_w (CW.is (cw_or (ct_not (ct_val (c_isi_tl B (ha := cv 0 hx)))) fun _ => cw_or1 (ct_c (c_neB (c_isi_list B (ha := cv 0 hx)) (c_isi_list B (ha := cv 1 hy))))) rfl)) (fun h => nomatch h) fun _ => ?_
      refine w_if (k := false) (ct_c (C.is (c_neI (c_lenT B (cv 0 hx)) (c_lenT B (cv 1 hy))) ?_)) (fun h => nomatch h) fun _ => ?_
      · rw [decide_eq_true rfl]
        rfl
      · refine w_ret (C.is (c_eqL0 (hu hr.un) (c_lc (f := id) (pr := fun _ => false) (js := [2]) (own := [("_law_k", 2)]) rfl nd (it_range (n := xs.length) B (Nat.le_trans q.1 (by decide)) (c_lenT B (cv 1 hy))) (blkOk_by (show blkC nmA (fnScope (top 40)) _ _ = true by decide +kernel)) (fun _ _ _ _ _ => pg_name (i := 2) nd rfl (Or.inl rfl)) (tgt_name 2) (by decide) ?_ fun d vs H1 hd e1 => ⟨[d], rfl, fun hvs => ?_⟩) (c_lst ca_nil)) ?_)
        · unfold intsD
          rw [List.length_map, List.length_range]
          exact Nat.le_trans q.1 (by decide)
        · obtain ⟨u, rfl, hu2⟩ := dats1 hvs
          obtain ⟨i, hi, rfl⟩ := List.mem_map.mp hd
          have hi : i < xs.length := List.mem_range.mp hi
          refine ⟨cif_one fun s0 H0 A0 cl fp => ct_not (k := true) (ct_val (cc ih hr (by omega) (e1.tab hT) (ca_cons (c_ixT (cv 0 (hx.mono e1)) (cv 2 hu2) (fun _ _ => rfl) (ixN_nat hi) (List.getElem?_eq_getElem hi)) (ca_cons (c_ixT (cv 1 (hy.mono e1)) (cv 2 hu2) (fun _ _ => rfl) (ixN_nat hi) (List.getElem?_eq_getElem hi)) ca_nil)) rfl ⟨_, rfl, q.2 _ (List.getElem_mem hi)⟩ rfl)), fun h => nomatch h⟩
        · rw [filter_none fun _ _ => rfl]
    · refine w_if (k := d.isStr) (ct_w (CW.is (cw_or (ct_c (c_isN (cv 1 hy))) fun _ => cw_or1 (ct_val (c_isi_str B (ha := cv 1 hy)))) ?_)) (fun h2 => ?_) fun h2 => w_ret ?_
      · cases d <;> first | rfl | cases hs
      · obtain ⟨z, rfl⟩ := str_of h2
        refine w_ret (C.is (c_and (c_eqS (hu hr.un) (cv 0 hx) (cv 1 hy) rfl) fun _ => c_one (c_eqB (c_isi_str B (ha := cv 0 hx)) (c_isi_str B (ha := cv 1 hy)))) ?_)
        show D.bl (decide (z = z) && _) = _
        rw [decide_eq_true rfl]
        rfl
      · cases d with
        | int i =>
          refine C.is (c_and (c_isi_int B (ha := cv 0 hx)) fun _ => c_and (c_eqB (c_isi_bool B (ha := cv 0 hx)) (c_isi_bool B (ha := cv 1 hy))) fun _ => c_one (c_eqI (cv 0 hx) (cv 1 hy))) ?_
          show D.bl (true && (true && decide (i = i))) = _
          rw [decide_eq_true rfl]
          rfl
        | bl b =>
          refine C.is (c_and (c_isi_int B (ha := cv 0 hx)) fun _ => c_and (c_eqB (c_isi_bool B (ha := cv 0 hx)) (c_isi_bool B (ha := cv 1 hy))) fun _ => c_one (c_eqB (cv 0 hx) (cv 1 hy))) ?_
          cases b <;> rfl
        | str z => cases h2
        | tup xs => cases h
        | _ => cases hs
end
end G3

set_option Elab.async false
set_option linter.all false
set_option maxRecDepth 100000
set_option maxHeartbeats 4000000
namespace G3
open PySem PySem.Spec PyProof.Rows L2 GX

/-! ## The plain law: both judges say the same -/
def pG (E : D → Bool) (a b c : D) : Bool := isName a && (isMove b && (c.isTup && (decide (lenD c ≤ 4) && (its c).all E)))
theorem isTuple_many {k : Str} {r : List D} {m : Int} : isTuple (.tup (.str k :: r)) m = decide (many r = m) := by
  show (decide (((D.str k :: r).length : Int) = m) && true) = _
  rw [Bool.and_true]
  rfl
theorem eqS_dec {k s : Str} : (D.str k).eqS s = decide (k = s) := rfl
theorem ite_cond {α : Type} (b : Bool) (inst : Decidable (b = true)) (x y : α) : @ite α (b = true) inst x y = cond b x y := by cases b <;> simp
theorem notTuple {v : D} (h : ∀ k r, v ≠ .tup (.str k :: r)) (m : Int) : isTuple v m = false := by
  cases hq : isTuple v m with
  | false => rfl
  | true =>
    obtain ⟨k, r, e, _⟩ := isTuple_of hq
    exact absurd e (h k r)
theorem headed (v : D) : (∃ k r, v = .tup (.str k :: r)) ∨ ∀ k r, v ≠ .tup (.str k :: r) := by
  by_cases h : ∃ k r, v = .tup (.str k :: r)
  · exact .inl h
  · exact .inr fun k r e => h ⟨k, r, e⟩
theorem stepK_no {G : D → D → D → Bool} {E T : D → Int → Int → Bool} {v : D} {l dp : Int} (h : ∀ k r, v ≠ .tup (.str k :: r)) : stepK G E T v l dp = false := by
  cases hq : stepK G E T v l dp with
  | false => rfl
  | true =>
    obtain ⟨k, r, e, _⟩ := stepK_of hq
    exact absurd e (h k r)
theorem stepKT_no {E : D → Int → Int → Bool} {Er : D → Bool} {v : D} {l dp : Int} (h : ∀ k r, v ≠ .tup (.str k :: r)) : stepKT E Er v l dp = false := by
  cases hq : stepKT E Er v l dp with
  | false => rfl
  | true =>
    obtain ⟨k, r, e, _⟩ := stepKT_of hq
    exact absurd e (h k r)
/-- the two ways to sort an expression: by its length first, by its kind first -/
theorem stepE_eq {E T : D → Int → Int → Bool} {v : D} {l dp : Int} : stepE E T v l dp = stepK (pG fun x => E x l (dp - 1)) E T v l dp := by
  rcases headed v with ⟨k, r, rfl⟩ | h
  · unfold stepE stepK
    congr 1
    show _ = stepKb _ _ _ k r l dp
    simp only [isTuple_many, ite_cond]
    show cond (decide (many r = 1)) (decide (k = "early")) (cond (decide (many r = 2)) (cond (decide (k = "number")) (isIn (nth r 0) 0 1000000) (decide (k = "late") && isIn (nth r 0) 0 (l - 1))) (cond (decide (many r = 3)) (decide (k ∈ pairsS) && r.all fun x => E x l (dp - 1)) (decide (many r = 4) && cond (decide (k = "if")) (T (nth r 0) l (dp - 1) && (r.drop 1).all fun x => E x l (dp - 1))
      (!(!decide (k = "call") || (!isName (nth r 0) || (!isMove (nth r 1) || !(nth r 2).isTup))) && (decide (lenD (nth r 2) ≤ 4) && (its (nth r 2)).all fun x => E x l (dp - 1)))))) = _
    unfold stepKb pG
    by_cases m1 : many r = 1
    · have m2 : ¬ many r = 2 := by omega
      have m3 : ¬ many r = 3 := by omega
      have m4 : ¬ many r = 4 := by omega
      rw [decide_eq_true m1, decide_eq_false m2, decide_eq_false m3, decide_eq_false m4]
      simp only [cond_true, Bool.false_and]
      by_cases c : k = "early"
      · simp [c]
      · simp [c]
    rw [decide_eq_false m1, cond_false]
    by_cases m2 : many r = 2
    · have m3 : ¬ many r = 3 := by omega
      have m4 : ¬ many r = 4 := by omega
      rw [decide_eq_true m2, decide_eq_false m3, decide_eq_false m4]
      simp only [cond_true, Bool.false_and, Bool.true_and]
      by_cases c1 : k = "early"
      · subst c1
        rw [if_pos rfl]
        rfl
      rw [if_neg c1]
      by_cases c2 : k = "number"
      · rw [if_pos c2, decide_eq_true c2, cond_true]
      rw [if_neg c2, decide_eq_false c2, cond_false]
      by_cases c3 : k = "late"
      · rw [if_pos c3, decide_eq_true c3, Bool.true_and]
      · rw [if_neg c3, decide_eq_false c3]
        simp
    rw [decide_eq_false m2, cond_false]
    by_cases m3 : many r = 3
    · have m4 : ¬ many r = 4 := by omega
      rw [decide_eq_true m3, decide_eq_false m4]
      simp only [cond_true, Bool.false_and, Bool.true_and]
      by_cases c4 : k ∈ pairsS
      · have n1 : ¬ k = "early" := fun z => by rw [z] at c4; revert c4; decide
        have n2 : ¬ k = "number" := fun z => by rw [z] at c4; revert c4; decide
        have n3 : ¬ k = "late" := fun z => by rw [z] at c4; revert c4; decide
        rw [if_neg n1, if_neg n2, if_neg n3, if_pos c4, decide_eq_true c4, Bool.true_and]
      · rw [if_neg c4, decide_eq_false c4]
        simp
    rw [decide_eq_false m3, cond_false]
    by_cases m4 : many r = 4
    · rw [decide_eq_true m4, Bool.true_and, Bool.true_and, Bool.true_and]
      by_cases c5 : k = "if"
      · subst c5
        rw [if_neg (by decide), if_neg (by decide), if_neg (by decide), if_neg (by decide), if_pos rfl]
        rfl
      rw [decide_eq_false c5, cond_false]
      by_cases c6 : k = "call"
      · subst c6
        rw [if_neg (by decide), if_neg (by decide), if_neg (by decide), if_neg (by decide), if_neg (by decide), if_pos rfl]
        cases isName (nth r 0) <;> cases isMove (nth r 1) <;> cases (nth r 2).isTup <;> rfl
      · rw [decide_eq_false c6]
        simp only [if_neg c5, if_neg c6, Bool.false_and]
        simp
    · rw [decide_eq_false m4]
      simp
  · rw [stepK_no h]
    unfold stepE
    simp only [notTuple h, ite_cond, cond_false, Bool.false_and, Bool.and_false]
theorem stepT_eq {E : D → Int → Int → Bool} {Er : D → Bool} {v : D} {l dp : Int} : stepT E Er v l dp = stepKT E Er v l dp := by
  rcases headed v with ⟨k, r, rfl⟩ | h
  · unfold stepT stepKT
    congr 1
    show _ = stepTb _ _ k r l dp
    simp only [isTuple_many, ite_cond]
    show cond (decide (many r = 2)) (decide (k = "below") && isIn (nth r 0) 0 1000) (decide (many r = 3) && cond (decide (k = "rest")) (isIn (nth r 0) 2 6 && isIn (nth r 1) 0 ((nth r 0).i - 1)) (!(!decide (k = "less") || !r.all fun x => E x l (dp - 1)) && !r.all Er)) = _
    unfold stepTb
    by_cases m2 : many r = 2
    · have m3 : ¬ many r = 3 := by omega
      rw [decide_eq_true m2, decide_eq_false m3, cond_true]
      by_cases c1 : k = "below"
      · rw [if_pos c1, decide_eq_true c1]
      · rw [if_neg c1, decide_eq_false c1]
        simp
    rw [decide_eq_false m2, cond_false]
    by_cases m3 : many r = 3
    · obtain ⟨a, b, rfl⟩ := many3 m3
      rw [decide_eq_true m3, Bool.true_and, Bool.true_and]
      by_cases c1 : k = "below"
      · subst c1
        rw [if_pos rfl]
        rfl
      rw [if_neg c1]
      by_cases c2 : k = "rest"
      · rw [if_pos c2, decide_eq_true c2, cond_true]
      rw [if_neg c2, decide_eq_false c2, cond_false]
      by_cases c3 : k = "less"
      · rw [if_pos c3, decide_eq_true c3]
        show (!(false || !([a, b].all fun x => E x l (dp - 1))) && !(Er a && (Er b && true))) = _
        rw [Bool.false_or, Bool.not_not, Bool.and_true]
        rfl
      · rw [if_neg c3, decide_eq_false c3]
        rfl
    · rw [decide_eq_false m3]
      simp
  · rw [stepKT_no h]
    unfold stepT
    simp only [notTuple h, ite_cond, cond_false, Bool.false_and, Bool.and_false]
theorem isX_true {n : Nat} {v : D} {l dp : Int} : isX (n + 1) true v l dp = stepK (pG fun x => isX n true x l (dp - 1)) (isX n true) (isX n false) v l dp := stepE_eq
theorem isX_false {n : Nat} {v : D} {l dp : Int} : isX (n + 1) false v l dp = stepKT (isX n true) (earlyD n) v l dp := stepT_eq
/-- the sizes are those of good names -/
def SzOk (sz : List Str × List D) : Prop := ∀ nm d, getL sz.1 sz.2 nm = some d → nameS nm = true ∧ ∃ m, d = .int m ∧ 0 ≤ m ∧ m ≤ 4
theorem calls_mem {n : Nat} {v c : D} : c ∈ callsD (n + 1) v ↔ (kindD v = "call" ∧ c = v) ∨ ∃ x ∈ partsD v, c ∈ callsD n x := by
  show c ∈ (partsD v).foldl (fun acc x => acc ++ callsD n x) (if kindD v = "call" then [v] else []) ↔ _
  have go : ∀ (xs acc : List D), c ∈ xs.foldl (fun acc x => acc ++ callsD n x) acc ↔ c ∈ acc ∨ ∃ x ∈ xs, c ∈ callsD n x := fun xs => by
    induction xs with
    | nil => intro acc; simp
    | cons x xs ih =>
      intro acc
      rw [List.foldl_cons, ih]
      simp only [List.mem_append, List.mem_cons]
      constructor
      · rintro ((h | h) | ⟨y, hy, h⟩)
        · exact .inl h
        · exact .inr ⟨x, .inl rfl, h⟩
        · exact .inr ⟨y, .inr hy, h⟩
      · rintro (h | ⟨y, hy | hy, h⟩)
        · exact .inl (.inl h)
        · exact .inl (.inr (hy ▸ h))
        · exact .inr ⟨y, hy, h⟩
  rw [go]
  by_cases h : kindD v = "call"
  · simp [h]
  · simp [h]
theorem calls_all {n : Nat} {v : D} {p : D → Prop} : (∀ c ∈ callsD (n + 1) v, p c) ↔ (kindD v = "call" → p v) ∧ ∀ x ∈ partsD v, ∀ c ∈ callsD n x, p c := by
  constructor
  · intro h
    exact ⟨fun e => h v (calls_mem.mpr (.inl ⟨e, rfl⟩)), fun x hx c hc => h c (calls_mem.mpr (.inr ⟨x, hx, hc⟩))⟩
  · rintro ⟨h1, h2⟩ c hc
    rcases calls_mem.mp hc with ⟨e, rfl⟩ | ⟨x, hx, hc⟩
    · exact h1 e
    · exact h2 x hx c hc
theorem lX_iff {sz : List Str × List D} (ok : SzOk sz) : ∀ (n : Nat) (b : Bool) (v : D) (l dp : Int), lX sz n b v l dp = true ↔ isX n b v l dp = true ∧ ∀ c ∈ callsD n v, callOk sz c = true
  | 0, b, v, l, dp => ⟨fun h => (by cases h), fun h => (by cases h.1)⟩
  | n + 1, b, v, l, dp => by
    have ih := lX_iff ok n
    have alls : ∀ {xs : List D} {dp : Int}, (xs.all fun x => lX sz n true x l dp) = true ↔ (xs.all fun x => isX n true x l dp) = true ∧ ∀ x ∈ xs, ∀ c ∈ callsD n x, callOk sz c = true := fun {xs dp} => by
      rw [List.all_eq_true, List.all_eq_true]
      constructor
      · intro h
        exact ⟨fun x hx => ((ih _ _ _ _).mp (h x hx)).1, fun x hx => ((ih _ _ _ _).mp (h x hx)).2⟩
      · rintro ⟨h1, h2⟩ x hx
        exact (ih _ _ _ _).mpr ⟨h1 x hx, h2 x hx⟩
    by_cases hno : ∀ k r, v ≠ .tup (.str k :: r)
    · have e1 : lX sz (n + 1) b v l dp = false := by
        cases b with
        | true => exact stepK_no hno
        | false => exact stepKT_no hno
      have e2 : isX (n + 1) b v l dp = false := by
        cases b with
        | true => rw [isX_true]; exact stepK_no hno
        | false => rw [isX_false]; exact stepKT_no hno
      rw [e1, e2]
      exact ⟨fun h => (by cases h), fun h => (by cases h.1)⟩
    obtain ⟨k, r, rfl⟩ : ∃ k r, v = .tup (.str k :: r) := by
      rcases headed v with h | h
      · exact h
      · exact absurd h hno
    rw [calls_all]
    have hk : kindD (.tup (.str k :: r)) = k := rfl
    cases b with
    | true =>
      rw [isX_true]
      show (!decide (dp = 0) && stepKb _ _ _ k r l dp) = true ↔ (!decide (dp = 0) && stepKb _ _ _ k r l dp) = true ∧ _
      rw [Bool.and_eq_true, Bool.and_eq_true, hk, partsD_tup]
      unfold stepKb
      by_cases c1 : k = "early"
      · subst c1
        simp only [if_true, if_pos (show ("early" : Str) ∈ leafS by decide)]
        constructor
        · intro h; exact ⟨h, fun e => absurd e (by decide), fun x hx => by cases hx⟩
        · intro h; exact h.1
      rw [if_neg c1, if_neg c1]
      by_cases c2 : k = "number"
      · subst c2
        simp only [if_true, if_pos (show ("number" : Str) ∈ leafS by decide)]
        constructor
        · intro h; exact ⟨h, fun e => absurd e (by decide), fun x hx => by cases hx⟩
        · intro h; exact h.1
      rw [if_neg c2, if_neg c2]
      by_cases c3 : k = "late"
      · subst c3
        simp only [if_true, if_pos (show ("late" : Str) ∈ leafS by decide)]
        constructor
        · intro h; exact ⟨h, fun e => absurd e (by decide), fun x hx => by cases hx⟩
        · intro h; exact h.1
      rw [if_neg c3, if_neg c3]
      by_cases c4 : k ∈ pairsS
      · obtain ⟨nc, nl⟩ := pairs_not c4
        rw [if_pos c4, if_pos c4, if_neg nl, if_neg nc, Bool.and_eq_true, Bool.and_eq_true, alls]
        constructor
        · rintro ⟨h0, h1, h2, h3⟩
          exact ⟨⟨h0, h1, h2⟩, fun e => absurd e nc, h3⟩
        · rintro ⟨⟨h0, h1, h2⟩, _, h3⟩
          exact ⟨h0, h1, h2, h3⟩
      rw [if_neg c4, if_neg c4]
      by_cases c5 : k = "if"
      · subst c5
        rw [if_pos rfl, if_pos rfl, if_neg (by decide), if_neg (by decide)]
        simp only [Bool.and_eq_true]
        rw [alls]
        constructor
        · rintro ⟨h0, h1, h2, h3, h4⟩
          obtain ⟨a, b, c, rfl⟩ := many4 (of_decide_eq_true h1)
          have h2 := (ih false a l (dp - 1)).mp h2
          refine ⟨⟨h0, h1, h2.1, h3⟩, fun e => absurd e (by decide), fun x hx => ?_⟩
          rcases List.mem_cons.mp hx with q | q
          · rw [q]; exact h2.2
          · exact h4 x q
        · rintro ⟨⟨h0, h1, h2, h3⟩, _, h4⟩
          obtain ⟨a, b, c, rfl⟩ := many4 (of_decide_eq_true h1)
          exact ⟨h0, h1, (ih false a l (dp - 1)).mpr ⟨h2, h4 a List.mem_cons_self⟩, h3, fun x hx => h4 x (List.mem_cons_of_mem _ hx)⟩
      rw [if_neg c5, if_neg c5]
      by_cases c6 : k = "call"
      · subst c6
        rw [if_pos rfl, if_pos rfl, if_neg (by decide), if_pos rfl]
        unfold lG pG
        simp only [Bool.and_eq_true]
        rw [alls]
        constructor
        · rintro ⟨h0, h1, h2, h3, h4, h5, h6, h7⟩
          obtain ⟨a, b, c, rfl⟩ := many4 (of_decide_eq_true h1)
          obtain ⟨nm, rfl⟩ : ∃ nm, a = .str nm := by
            cases a with
            | str nm => exact ⟨nm, rfl⟩
            | _ => cases h2
          obtain ⟨ys, e⟩ := tup_of h3
          have e : c = .tup ys := e
          subst e
          obtain ⟨dm, hg⟩ := Option.isSome_iff_exists.mp (show (getL sz.1 sz.2 nm).isSome = true from h2)
          obtain ⟨hn, m, rfl, q0, q4⟩ := ok nm dm hg
          have hs : sizeOf sz (.str nm) = .int m := by
            show (getL sz.1 sz.2 nm).getD .non = _
            rw [hg]
            rfl
          have h4 : lenD (.tup ys) = m := by
            have := of_decide_eq_true h4
            rw [show nth [D.str nm, b, .tup ys] 0 = .str nm from rfl, hs] at this
            exact this
          refine ⟨⟨h0, h1, hn, h5, h3, decide_eq_true (by show lenD (.tup ys) ≤ 4; omega), h6⟩, fun _ => ?_, h7⟩
          show decide (((getL sz.1 sz.2 nm).getD (.int (-1))).i = lenD (.tup ys)) = true
          rw [hg]
          exact decide_eq_true h4.symm
        · rintro ⟨⟨h0, h1, h2, h3, h4, h5, h6⟩, h7, h8⟩
          obtain ⟨a, b, c, rfl⟩ := many4 (of_decide_eq_true h1)
          obtain ⟨nm, e, hn⟩ := isName_of h2
          have e : a = .str nm := e
          subst e
          obtain ⟨ys, e⟩ := tup_of h4
          have e : c = .tup ys := e
          subst e
          have h7 : decide (((getL sz.1 sz.2 nm).getD (.int (-1))).i = lenD (.tup ys)) = true := h7 True.intro
          have h7 := of_decide_eq_true h7
          cases hg : getL sz.1 sz.2 nm with
          | none =>
            rw [hg] at h7
            have h7 : (-1 : Int) = lenD (.tup ys) := h7
            have : 0 ≤ lenD (.tup ys) := Int.natCast_nonneg _
            omega
          | some dm =>
            rw [hg] at h7
            have hs : sizeOf sz (.str nm) = dm := by
              show (getL sz.1 sz.2 nm).getD .non = _
              rw [hg]
              rfl
            refine ⟨h0, h1, ?_, h4, decide_eq_true ?_, h3, h6, h8⟩
            · show (getL sz.1 sz.2 nm).isSome = true
              rw [hg]
              rfl
            · rw [show nth [D.str nm, b, .tup ys] 0 = .str nm from rfl, hs]
              exact h7.symm
      rw [if_neg c6, if_neg c6]
      constructor
      · rintro ⟨_, h⟩; cases h
      · rintro ⟨⟨_, h⟩, _⟩; cases h
    | false =>
      rw [isX_false]
      show (!decide (dp = 0) && stepTb _ _ k r l dp) = true ↔ (!decide (dp = 0) && stepTb _ _ k r l dp) = true ∧ _
      rw [Bool.and_eq_true, Bool.and_eq_true, hk, partsD_tup]
      unfold stepTb
      by_cases c1 : k = "below"
      · subst c1
        simp only [if_true, if_pos (show ("below" : Str) ∈ leafS by decide)]
        constructor
        · intro h; exact ⟨h, fun e => absurd e (by decide), fun x hx => by cases hx⟩
        · intro h; exact h.1
      rw [if_neg c1, if_neg c1]
      by_cases c2 : k = "rest"
      · subst c2
        simp only [if_true, if_pos (show ("rest" : Str) ∈ leafS by decide)]
        constructor
        · intro h; exact ⟨h, fun e => absurd e (by decide), fun x hx => by cases hx⟩
        · intro h; exact h.1
      rw [if_neg c2, if_neg c2]
      by_cases c3 : k = "less"
      · subst c3
        rw [if_pos rfl, if_pos rfl, if_neg (by decide), if_neg (by decide)]
        simp only [Bool.and_eq_true]
        rw [alls]
        constructor
        · rintro ⟨h0, h1, ⟨h2, h3⟩, h4⟩
          exact ⟨⟨h0, h1, h2, h4⟩, fun e => absurd e (by decide), h3⟩
        · rintro ⟨⟨h0, h1, h2, h4⟩, _, h3⟩
          exact ⟨h0, h1, ⟨h2, h3⟩, h4⟩
      rw [if_neg c3, if_neg c3]
      constructor
      · rintro ⟨_, h⟩; simp at h
      · rintro ⟨⟨_, h⟩, _⟩; simp at h
end G3

set_option Elab.async false
set_option linter.all false
set_option maxRecDepth 100000
set_option maxHeartbeats 4000000
namespace G3
open PySem PySem.Spec PyProof.Rows L2 GX

/-! ## The judges of programs agree -/
theorem putN_mem {ks : List Str} {k z : Str} (h : z ∈ putN ks k) : z ∈ ks ∨ z = k := by
  unfold putN at h
  split at h
  · exact .inl h
  · rcases List.mem_append.mp h with q | q
    · exact .inl q
    · exact .inr (List.mem_singleton.mp q)
theorem puts_keys : ∀ {r : List (Str × D)} {ks : List Str} {ds : List D} {z : Str}, z ∈ (puts ks ds r).1 → z ∈ ks ∨ ∃ q ∈ r, z = q.1
  | [], ks, ds, z, h => .inl h
  | (k, d) :: r, ks, ds, z, h => by
    rcases puts_keys (r := r) (ks := putN ks k) (ds := putL ks ds k d) h with q | ⟨p, hp, e⟩
    · rcases putN_mem q with q | q
      · exact .inl q
      · exact .inr ⟨(k, d), List.mem_cons_self, q⟩
    · exact .inr ⟨p, List.mem_cons_of_mem _ hp, e⟩
theorem getL_key {α : Type} {z : Str} {a : α} : ∀ {ks : List Str} {as : List α}, getL ks as z = some a → z ∈ ks
  | [], as, h => by cases h
  | k :: ks, [], h => by cases h
  | k :: ks, b :: as, h => by
    unfold getL at h
    split at h
    · rename_i e
      rw [e]
      exact List.mem_cons_self
    · exact List.mem_cons_of_mem _ (getL_key h)
theorem nameS_iff {nm : Str} : nameS nm = (((decide (1 ≤ (nm.length : Int)) && decide ((nm.length : Int) ≤ 8)) && (signs nm).all letterB) && !decide (nm ∈ takenS)) := by
  unfold nameS badS
  cases decide (1 ≤ (nm.length : Int)) <;> cases decide ((nm.length : Int) ≤ 8) <;> cases decide (nm ∈ takenS) <;> cases (signs nm).all letterB <;> rfl
theorem okP_iff {n : Nat} {sz : List Str × List D} {nm : Str} {l : Int} {b : D} : okP n sz (.tup [.str nm, .int l, b]) = true ↔ nameS nm = true ∧ 0 ≤ l ∧ l ≤ 4 ∧ lX sz n true b l 30 = true := by
  show ((((decide (1 ≤ (nm.length : Int)) && decide ((nm.length : Int) ≤ 8)) && (signs nm).all letterB) && (!decide (nm ∈ takenS))) && (true && ((decide (0 ≤ l) && decide (l ≤ 4)) && lX sz n true b l 30))) = true ↔ _
  rw [← nameS_iff]
  simp only [Bool.and_eq_true, decide_eq_true_eq, Bool.true_and]
  constructor
  · rintro ⟨h1, ⟨h2, h3⟩, h4⟩; exact ⟨h1, h2, h3, h4⟩
  · rintro ⟨h1, h2, h3, h4⟩; exact ⟨h1, ⟨h2, h3⟩, h4⟩
theorem isFn_iff {n : Nat} {nm : Str} {l : Int} {b : D} : isFn n (.tup [.str nm, .int l, b]) = true ↔ nameS nm = true ∧ 0 ≤ l ∧ l ≤ 4 ∧ isX n true b l 30 = true := by
  constructor
  · intro h
    obtain ⟨nm2, l2, c, e, h1, h2, h3, h4⟩ := isFn_of h
    cases e
    exact ⟨h1, h2, h3, h4⟩
  · rintro ⟨h1, h2, h3, h4⟩
    show (if (!nameS nm || !(true && (true && (decide (0 ≤ l) && decide (l ≤ 4))))) = true then false else isX n true b l 30) = true
    rw [h1, decide_eq_true h2, decide_eq_true h3]
    exact h4
theorem szOk_of {xs : List D} (h : ∀ d ∈ xs, ∃ nm l b, d = .tup [.str nm, .int l, b] ∧ nameS nm = true ∧ 0 ≤ l ∧ l ≤ 4) : SzOk (sizesOf xs) := by
  intro nm d hg
  constructor
  · rcases puts_keys (getL_key hg) with q | ⟨p, hp, e⟩
    · cases q
    · obtain ⟨d, hd, rfl⟩ := List.mem_map.mp hp
      obtain ⟨nm2, l, b, rfl, h1, _⟩ := h d hd
      rw [e]
      exact h1
  · exact puts_all (p := fun d => ∃ m, d = .int m ∧ 0 ≤ m ∧ m ≤ 4) (fun z hz => absurd hz List.not_mem_nil) (fun q hq => by
      obtain ⟨d, hd, rfl⟩ := List.mem_map.mp hq
      obtain ⟨nm2, l, b, rfl, _, h2, h3⟩ := h d hd
      exact ⟨l, rfl, h2, h3⟩) d (getL_mem hg)
theorem foldP_fst {n : Nat} {sz : List Str × List D} : ∀ (ys : List D) (g : Bool) (m : Int), (ys.foldl (stepP n sz) (g, m)).1 = (g && ys.all (okP n sz))
  | [], g, m => by simp
  | y :: ys, g, m => by
    rw [List.foldl_cons]
    show (ys.foldl (stepP n sz) (g && okP n sz y, _)).1 = _
    rw [foldP_fst ys, List.all_cons, Bool.and_assoc]
theorem foldP_snd {n : Nat} {sz : List Str × List D} : ∀ (ys : List D) (g : Bool) (m : Int), (g && ys.all (okP n sz)) = true → (ys.foldl (stepP n sz) (g, m)).2 = m + sumN n ys
  | [], g, m, _ => by show m = m + 0; omega
  | y :: ys, g, m, h => by
    rw [List.all_cons, ← Bool.and_assoc] at h
    have h1 : (g && okP n sz y) = true := by
      rw [Bool.and_eq_true] at h
      exact h.1
    rw [List.foldl_cons]
    show (ys.foldl (stepP n sz) (g && okP n sz y, if (g && okP n sz y) = true then m + nodesD n (y.ix 2) else 0)).2 = _
    rw [if_pos h1, foldP_snd ys _ _ h]
    show m + nodesD n (y.ix 2) + sumN n ys = m + (nodesD n (y.ix 2) + sumN n ys)
    omega
theorem lPr_iff {n : Nat} {xs : List D} : lPr n xs = true ↔ good0 xs = true ∧ (∀ d ∈ xs, okP n (sizesOf xs) d = true) ∧ sumN n xs ≤ 300 := by
  unfold lPr foldP
  rw [Bool.and_eq_true, foldP_fst, decide_eq_true_eq]
  constructor
  · rintro ⟨h1, h2⟩
    rw [foldP_snd xs _ _ h1] at h2
    rw [Bool.and_eq_true, List.all_eq_true] at h1
    exact ⟨h1.1, h1.2, by omega⟩
  · rintro ⟨h1, h2, h3⟩
    have h : (good0 xs && xs.all (okP n (sizesOf xs))) = true := by
      rw [Bool.and_eq_true, List.all_eq_true]
      exact ⟨h1, h2⟩
    exact ⟨h, by rw [foldP_snd xs _ _ h]; omega⟩
theorem prog_iff {n : Nat} {xs : List D} (htr : ∀ d ∈ xs, triple d) : lPr n xs = true ↔ Prog n xs := by
  rw [lPr_iff]
  constructor
  · rintro ⟨h1, h2, h3⟩
    have sz : SzOk (sizesOf xs) := szOk_of fun d hd => by
      obtain ⟨nm, l, b, rfl⟩ := htr d hd
      obtain ⟨q1, q2, q3, _⟩ := okP_iff.mp (h2 _ hd)
      exact ⟨nm, l, b, rfl, q1, q2, q3⟩
    unfold good0 at h1
    simp only [Bool.and_eq_true, decide_eq_true_eq] at h1
    have both : ∀ d ∈ xs, isFn n d = true ∧ ∀ c ∈ callsD n (d.ix 2), callOk (sizesOf xs) c = true := fun d hd => by
      obtain ⟨nm, l, b, rfl⟩ := htr d hd
      obtain ⟨q1, q2, q3, q4⟩ := okP_iff.mp (h2 _ hd)
      have q := (lX_iff sz n true b l 30).mp q4
      exact ⟨isFn_iff.mpr ⟨q1, q2, q3, q.1⟩, q.2⟩
    exact ⟨by omega, by omega, fun d hd => (both d hd).1, by omega, h3, fun d hd => (both d hd).2⟩
  · intro p
    have sz : SzOk (sizesOf xs) := szOk_of fun d hd => by
      obtain ⟨nm, l, b, rfl, q1, q2, q3, _⟩ := isFn_of (p.fn d hd)
      exact ⟨nm, l, b, rfl, q1, q2, q3⟩
    have h1 := p.one
    have h8 := p.eight
    have hk := p.keys
    refine ⟨?_, fun d hd => ?_, p.nod⟩
    · unfold good0
      simp only [Bool.and_eq_true, decide_eq_true_eq]
      omega
    · have hc := p.calls d hd
      obtain ⟨nm, l, b, rfl, q1, q2, q3, q4⟩ := isFn_of (p.fn d hd)
      exact okP_iff.mpr ⟨q1, q2, q3, (lX_iff sz n true b l 30).mpr ⟨q4, hc⟩⟩
theorem lPr_isPr {n : Nat} {xs : List D} (htr : ∀ d ∈ xs, triple d) : lPr n xs = isPr n (.tup xs) := by
  cases h : lPr n xs with
  | true => exact (isPr_mk ((prog_iff htr).mp h)).symm
  | false =>
    cases h2 : isPr n (.tup xs) with
    | false => rfl
    | true =>
      obtain ⟨ys, e, p⟩ := isPr_of h2
      cases e
      rw [(prog_iff htr).mpr p] at h
      cases h
/-- more late numbers -/
theorem isX_mono : ∀ (n : Nat) (b : Bool) (v : D) (l l' dp : Int), l ≤ l' → isX n b v l dp = true → isX n b v l' dp = true
  | 0, b, v, l, l', dp, hl, h => by cases h
  | n + 1, b, v, l, l', dp, hl, h => by
    have ih := isX_mono n
    have alls : ∀ {xs : List D} {dp : Int}, (xs.all fun x => isX n true x l dp) = true → (xs.all fun x => isX n true x l' dp) = true := fun {xs dp} h => by
      rw [List.all_eq_true] at h ⊢
      exact fun x hx => ih _ _ _ _ _ hl (h x hx)
    cases b with
    | true =>
      rw [isX_true] at h ⊢
      obtain ⟨k, r, rfl, _⟩ := stepK_of h
      have h : (!decide (dp = 0) && stepKb _ _ _ k r l dp) = true := h
      show (!decide (dp = 0) && stepKb _ _ _ k r l' dp) = true
      rw [Bool.and_eq_true] at h ⊢
      refine ⟨h.1, ?_⟩
      have h := h.2
      unfold stepKb at h ⊢
      by_cases c1 : k = "early"
      · rw [if_pos c1] at h ⊢; exact h
      rw [if_neg c1] at h ⊢
      by_cases c2 : k = "number"
      · rw [if_pos c2] at h ⊢; exact h
      rw [if_neg c2] at h ⊢
      by_cases c3 : k = "late"
      · rw [if_pos c3] at h ⊢
        rw [Bool.and_eq_true] at h ⊢
        refine ⟨h.1, ?_⟩
        obtain ⟨i, e, q1, q2⟩ := isIn_of h.2
        rw [e]
        show (true && (true && (decide (0 ≤ i) && decide (i ≤ l' - 1)))) = true
        rw [decide_eq_true q1, decide_eq_true (by omega)]
        rfl
      rw [if_neg c3] at h ⊢
      by_cases c4 : k ∈ pairsS
      · rw [if_pos c4] at h ⊢
        rw [Bool.and_eq_true] at h ⊢
        exact ⟨h.1, alls h.2⟩
      rw [if_neg c4] at h ⊢
      by_cases c5 : k = "if"
      · rw [if_pos c5] at h ⊢
        simp only [Bool.and_eq_true] at h ⊢
        exact ⟨h.1, ih _ _ _ _ _ hl h.2.1, alls h.2.2⟩
      rw [if_neg c5] at h ⊢
      by_cases c6 : k = "call"
      · rw [if_pos c6] at h ⊢
        unfold pG at h ⊢
        simp only [Bool.and_eq_true] at h ⊢
        obtain ⟨q1, q2, q3, q4, q5, q6⟩ := h
        exact ⟨q1, q2, q3, q4, q5, alls q6⟩
      rw [if_neg c6] at h
      cases h
    | false =>
      rw [isX_false] at h ⊢
      obtain ⟨k, r, rfl, _⟩ := stepKT_of h
      have h : (!decide (dp = 0) && stepTb _ _ k r l dp) = true := h
      show (!decide (dp = 0) && stepTb _ _ k r l' dp) = true
      rw [Bool.and_eq_true] at h ⊢
      refine ⟨h.1, ?_⟩
      have h := h.2
      unfold stepTb at h ⊢
      by_cases c1 : k = "below"
      · rw [if_pos c1] at h ⊢; exact h
      rw [if_neg c1] at h ⊢
      rw [Bool.and_eq_true] at h ⊢
      refine ⟨h.1, ?_⟩
      have h := h.2
      by_cases c2 : k = "rest"
      · rw [if_pos c2] at h ⊢; exact h
      rw [if_neg c2] at h ⊢
      by_cases c3 : k = "less"
      · rw [if_pos c3] at h ⊢
        rw [Bool.and_eq_true] at h ⊢
        exact ⟨alls h.1, h.2⟩
      rw [if_neg c3] at h
      cases h
/-! ## The body of a name -/
theorem puts_nodup : ∀ {r : List (Str × D)} {ks : List Str} {ds : List D}, (puts ks ds r).1.length = ks.length + r.length → puts ks ds r = (ks ++ r.map (·.1), ds ++ r.map (·.2)) ∧ (∀ q ∈ r, q.1 ∉ ks) ∧ (r.map (·.1)).Nodup
  | [], ks, ds, h => ⟨by simp [puts], fun q hq => (by cases hq), List.nodup_nil⟩
  | (k, d) :: r, ks, ds, h => by
    have hle : ∀ {r : List (Str × D)} {ks : List Str} {ds : List D}, (puts ks ds r).1.length ≤ ks.length + r.length := fun {r} => by
      induction r with
      | nil => intro ks ds; exact Nat.le_refl _
      | cons p r ih =>
        intro ks ds
        have h1 := ih (ks := putN ks p.1) (ds := putL ks ds p.1 p.2)
        have h2 := putN_le ks p.1
        show (puts (putN ks p.1) (putL ks ds p.1 p.2) r).1.length ≤ _
        rw [List.length_cons]
        omega
    have h : (puts (putN ks k) (putL ks ds k d) r).1.length = ks.length + (r.length + 1) := h
    have h1 := hle (r := r) (ks := putN ks k) (ds := putL ks ds k d)
    have hk : k ∉ ks := fun z => by
      have : (putN ks k).length = ks.length := by
        unfold putN
        rw [if_pos z]
      omega
    have hn : putN ks k = ks ++ [k] := by
      unfold putN
      rw [if_neg hk]
    have hd : putL ks ds k d = ds ++ [d] := by
      unfold putL
      rw [if_neg hk]
    rw [hn, hd] at h
    obtain ⟨e1, e2, e3⟩ := puts_nodup (r := r) (ks := ks ++ [k]) (ds := ds ++ [d]) (by rw [h, List.length_append]; simp; omega)
    refine ⟨?_, fun q hq => ?_, ?_⟩
    · show puts (putN ks k) (putL ks ds k d) r = _
      rw [hn, hd, e1]
      simp
    · rcases List.mem_cons.mp hq with z | z
      · rw [z]; exact hk
      · exact fun w => e2 q z (List.mem_append_left _ w)
    · rw [List.map_cons]
      refine List.nodup_cons.mpr ⟨fun z => ?_, e3⟩
      obtain ⟨q, hq, e⟩ := List.mem_map.mp z
      exact e2 q hq (List.mem_append_right _ (by rw [e]; exact List.mem_singleton.mpr rfl))
theorem getL_at {α : Type} {z : Str} {a : α} : ∀ {ks : List Str} {as : List α} {i : Nat}, ks.Nodup → ks[i]? = some z → as[i]? = some a → getL ks as z = some a
  | [], as, i, _, h, _ => by simp at h
  | k :: ks, [], i, _, _, h => by simp at h
  | k :: ks, b :: as, 0, nd, h1, h2 => by
    have e1 : k = z := by simpa using h1
    have e2 : b = a := by simpa using h2
    unfold getL
    rw [if_pos e1, e2]
  | k :: ks, b :: as, i + 1, nd, h1, h2 => by
    have n := List.nodup_cons.mp nd
    have h1 : ks[i]? = some z := by simpa using h1
    unfold getL
    rw [if_neg (fun e => n.1 (by rw [e]; exact List.mem_of_getElem? h1))]
    exact getL_at n.2 h1 (by simpa using h2)
theorem body_at {n : Nat} {xs : List D} (p : Prog n xs) {i : Nat} {nm : Str} {l b : D} (h : xs[i]? = some (.tup [.str nm, l, b])) : bodyOf xs nm = some b := by
  have hk := p.keys
  have hlen : ∀ {r r' : List (Str × D)} {ks : List Str} {ds ds' : List D}, r.map (·.1) = r'.map (·.1) → (puts ks ds r).1 = (puts ks ds' r').1 := fun {r} => by
    induction r with
    | nil =>
      intro r' ks ds ds' e
      cases r' with
      | nil => rfl
      | cons a b => cases e
    | cons p r ih =>
      intro r' ks ds ds' e
      cases r' with
      | nil => cases e
      | cons q r' =>
        rw [List.map_cons, List.map_cons] at e
        injection e with e1 e2
        show (puts (putN ks p.1) (putL ks ds p.1 p.2) r).1 = (puts (putN ks q.1) (putL ks ds' q.1 q.2) r').1
        rw [e1]
        exact ih e2
  have hb : (bodsOf xs).1.length = 0 + (xs.map fun (d : D) => (strOf (d.ix 0), d.ix 2)).length := by
    have e : (bodsOf xs).1 = (sizesOf xs).1 := hlen (by rw [List.map_map, List.map_map]; rfl)
    rw [e, hk, List.length_map, Nat.zero_add]
  obtain ⟨e1, e2, e3⟩ := puts_nodup (r := xs.map fun (d : D) => (strOf (d.ix 0), d.ix 2)) (ks := []) (ds := []) hb
  have e1 : bodsOf xs = ([] ++ (xs.map fun (d : D) => (strOf (d.ix 0), d.ix 2)).map (·.1), [] ++ (xs.map fun (d : D) => (strOf (d.ix 0), d.ix 2)).map (·.2)) := e1
  unfold bodyOf
  rw [e1]
  refine getL_at (i := i) (by simpa using e3) ?_ ?_
  · show ([] ++ _)[i]? = _
    rw [List.nil_append, List.getElem?_map, List.getElem?_map, h]
    rfl
  · show ([] ++ _)[i]? = _
    rw [List.nil_append, List.getElem?_map, List.getElem?_map, h]
    rfl
end G3

set_option Elab.async false
set_option linter.all false
set_option maxRecDepth 100000
set_option maxHeartbeats 4000000
namespace G3
open PySem PySem.Spec PyProof.Rows L2 GX
open GxR (TabG Tabbed)
open C8 (Cal scC fnArgs fnBody fnScope pe_c E0 fnScope_by)

/-! ## Draws: the row changes, all else stays -/
/-- H without r -/
def hid (r : Addr) (H : Hp) : Hp := fun b => if b = r then none else H b
theorem hid_ne {r b : Addr} {H : Hp} (h : b ≠ r) : hid r H b = H b := if_neg h
theorem hid_r {r : Addr} {H : Hp} : hid r H r = none := if_pos rfl
theorem hid_some {r b : Addr} {H : Hp} {o : HO} (h : hid r H b = some o) : b ≠ r ∧ H b = some o := by
  by_cases e : b = r
  · rw [e, hid_r] at h
    cases h
  · rw [hid_ne e] at h
    exact ⟨e, h⟩
theorem hid_upd {r : Addr} {H : Hp} {o : HO} : hid r (upd H r o) = hid r H := by
  funext b
  by_cases e : b = r
  · rw [e, hid_r, hid_r]
  · rw [hid_ne e, hid_ne e, upd_ne e]
theorem ex_hid {T : List Addr} {r : Addr} {H : Hp} : Ex T (hid r H) H := ⟨fun b o h _ => (hid_some h).2, fun t P hP => by
  obtain ⟨ps, e, q⟩ := t P hP
  exact ⟨ps, (hid_some e).2, q⟩⟩
theorem ex_hids {T : List Addr} {r : Addr} {H H' : Hp} (hr : ∀ ps, H r ≠ some (.tbl ps)) (hr2 : ∀ ps, H' r ≠ some (.tbl ps)) (e : Ex T H H') (ht : Tb T (hid r H) → Tb T H) : Ex T (hid r H) (hid r H') := ⟨fun b o h n => by
  obtain ⟨h1, h2⟩ := hid_some h
  rw [hid_ne h1]
  exact e.old b o h2 n, fun t P hP => by
  obtain ⟨ps, q1, q2⟩ := e.tab (ht t) P hP
  have nb : P ≠ r := fun z => hr2 ps (by rw [← z]; exact q1)
  exact ⟨ps, by rw [hid_ne nb]; exact q1, q2⟩⟩
/-- the row of the draws -/
structure RwAt (K : PySem.W.Frag) (r sc : Addr) (ns : List Int) (i s c : Int) (H : Hp) : Prop where
  row : H r = some (.lst [.ref sc, .int i, .int s, .int c])
  ne : sc ≠ r ∨ ∃ (o : Obj) (its : Array Value) (n : Nat), K.lookup sc = some o ∧ o.cls = .type "list" ∧ o.dict = none ∧ o.data = .seq its n ∧ its.size ≤ sizeLine ∧ Vals (ns.map V.int) its.toList
  scr : SqL K H sc (ns.map V.int)
  len : ns.length ≤ 63
  pos : 0 ≤ i
  low : 0 ≤ s
  high : s < 2147483647
def Rw (K : PySem.W.Frag) (r sc : Addr) (ns : List Int) (H : Hp) : Prop := ∃ i s c, RwAt K r sc ns i s c H
theorem sqL_keep {T : List Addr} {K : PySem.W.Frag} {H H' : Hp} {a : Addr} {xs : List V} (e : Ex T H H') (h : SqL K H a xs) : SqL K H' a xs := by
  rcases h with (h | ⟨o, h⟩) | h
  · exact .inl (.inl (e.old _ _ h (fun _ z => by cases z)))
  · exact .inl (.inr ⟨o, e.old _ _ h (fun _ z => by cases z)⟩)
  · exact .inr h
theorem sqL_upd {K : PySem.W.Frag} {H : Hp} {a r : Addr} {o : HO} {xs : List V} (n : a ≠ r) (h : SqL K H a xs) : SqL K (upd H r o) a xs := by
  rcases h with (h | ⟨o', h⟩) | h
  · exact .inl (.inl (by rw [upd_ne n]; exact h))
  · exact .inl (.inr ⟨o', by rw [upd_ne n]; exact h⟩)
  · exact .inr h
theorem RwAt.keep {T : List Addr} {K : PySem.W.Frag} {r sc : Addr} {ns : List Int} {i s c : Int} {H H' : Hp} (h : RwAt K r sc ns i s c H) (e : Ex T H H') : RwAt K r sc ns i s c H' :=
  ⟨e.old _ _ h.row (fun _ z => by cases z), h.ne, sqL_keep e h.scr, h.len, h.pos, h.low, h.high⟩
theorem RwAt.set {K : PySem.W.Frag} {r sc : Addr} {ns : List Int} {i s c i' s' c' : Int} {H : Hp} (h : RwAt K r sc ns i s c H) (h1 : 0 ≤ i') (h2 : 0 ≤ s') (h3 : s' < 2147483647) : RwAt K r sc ns i' s' c' (upd H r (.lst [.ref sc, .int i', .int s', .int c'])) :=
  ⟨upd_same, h.ne, h.ne.elim (fun n => sqL_upd n h.scr) .inr, h.len, h1, h2, h3⟩
theorem Rw.notTbl {K : PySem.W.Frag} {r sc : Addr} {ns : List Int} {H : Hp} (h : Rw K r sc ns H) : ∀ ps, H r ≠ some (.tbl ps) := fun ps z => by
  obtain ⟨i, s, c, q⟩ := h
  rw [q.row] at z
  cases z
/-- blocks, by what their ends are to reach -/
def G (T : List Addr) (X : Cx) (body : List Stmt) (σ : L2.St) (H : Hp) (E : Ends) : Prop := ∀ H1, Ex T H H1 → tSS X body E σ H1
section
variable {T : List Addr} {X : Cx} {σ : L2.St} {H H' : Hp} {e c : Expr} {pos p p2 : Pos} {E : Ends} {d : D} {rest a : List Stmt} {r sc : Addr} {ns : List Int} {i s cc0 : Int}
theorem g_of {body : List Stmt} {t : TS} (p : PSs X body t) (q : ∀ H1, Ex T H H1 → t E σ H1) : G T X body σ H E := fun H1 e1 pins s I => p.run pins s σ H1 E I (q H1 e1)
theorem g_ret (h : C T X e σ H d) (q : ∀ v H1, Ex T H H1 → Dat H1 d v → E.rt v H1) : G T X (.Return (some e) pos :: rest) σ H E := g_of (pss_cons (ps_ret pe_s) pss_s) fun H1 e1 => h H1 e1 _ fun v H2 e2 hv => q v H2 (e1.trans e2) hv
theorem g_set {n : Str} {i : Nat} (hN : X.N.Nodup) (h : C T X e σ H d) (hr : ∀ v H1, Ex T H H1 → Dat H1 d v → G T X rest (σ.set i (some v)) H1 E) (hi : X.N[i]? = some n := by rfl) (hx : Loc X.env.scope n := by first | exact Or.inl rfl | exact Or.inr rfl)
    (hs : swapsWith e (some (.Name n p2)) pos.line X.env = pure false := by rfl) (hf : X.fn n = true ∨ X.env.scope.names.lookup n = some .local := by first | exact .inl rfl | exact .inr rfl) : G T X (.Assign [.Name n p2] e pos :: rest) σ H E :=
  g_of (pss_cons (ps_set (i := i) hN hi hx pe_s hs hf) pss_s) fun H1 e1 => h H1 e1 _ fun v H2 e2 hv => hr v H2 (e1.trans e2) hv H2 (Ex.refl T H2)
theorem g_if {k : Bool} (hc : CT T X c σ H k) (ha : k = true → G T X a σ H { E with nx := fun _ _ => False }) (hr : k = false → G T X rest σ H E) : G T X (.If c a [] pos :: rest) σ H E :=
  g_of (pss_cons (ps_if pt_s (u := tNext) (t := fun E σ H => tSS X a { E with nx := fun _ _ => False } σ H) ⟨fun pins s σ H D I h => wpAny_mono (h pins s I) (fun f s' q => by
    cases f with
    | next => obtain ⟨_, _, _, z⟩ := q; exact z.elim
    | brk => exact q
    | cont => exact q
    | ret v => exact q) fun _ _ z => z⟩ pss_nil) pss_s) fun H1 e1 => hc H1 e1 _ fun H2 e2 => by
    cases k with
    | true =>
      rw [if_pos rfl]
      exact ha rfl H2 (e1.trans e2)
    | false =>
      rw [if_neg Bool.false_ne_true]
      exact hr rfl H2 (e1.trans e2)
/-- row[k] = e -/
theorem g_row {n : Str} {j : Nat} {k m : Int} {vs : List V} {kc : Nat} {pk ps : Pos} (h : C T X e σ H (.int m)) (hr : H r = some (.lst vs)) (hσ : σ[0]? = some (some (.ref r))) (hk : ixN vs.length k = some j) (hq : ∀ H1, Ex T H H1 → G T X rest σ (upd H1 r (.lst (vs.set j (.int m)))) E) (hN : X.N[0]? = some n := by rfl)
    (hvis : Vis X.env.scope n := by first | exact Or.inl rfl | exact Or.inr (Or.inl rfl)) (h1 : (n == ("__debug__" : Str)) = false := by decide) (h2 : (n == ("__classdict__" : Str)) = false := by decide)
    (hs : swapsWithSole [.Subscript (.Name n p2) (.Constant (.int k) kc pk) ps] e pos.line X.env = pure false := by rfl) (hw : swappedStores [.Subscript (.Name n p2) (.Constant (.int k) kc pk) ps] e X.env = pure none := by rfl)
    (h3 : (assignEach [.Subscript (.Name n p2) (.Constant (.int k) kc pk) ps] X.env).map (·.2) = [assign (.Subscript (.Name n p2) (.Constant (.int k) kc pk) ps) X.env] := by rfl)
    (ha : ∀ v, assign (.Subscript (.Name n p2) (.Constant (.int k) kc pk) ps) X.env v = (do
      let ov ← holding [v] (eval (.Name n p2) X.env)
      let iv ← holding [v, ov] (eval (.Constant (.int k) kc pk) X.env)
      standAt ps
      holding [v, ov, iv] (setItem ov iv v)
      release [v, ov, iv] []) := by intro _; rfl) : G T X (.Assign [.Subscript (.Name n p2) (.Constant (.int k) kc pk) ps] e pos :: rest) σ H E :=
  g_of (pss_cons (ps_asg pe_s (pg_sub (pv 0 hN (hvis.elim Or.inl Or.inr) h1 h2) pe_int set_list ha) hs hw h3) pss_s) fun H1 e1 => h H1 e1 _ fun v H2 e2 hv => by
    have hr2 := (e1.trans e2).old _ _ hr (fun _ z => by cases z)
    refine ⟨_, hσ, r, vs, k, j, rfl, rfl, hr2, hk, ?_⟩
    rw [dat_int.mp hv]
    exact hq H2 (e1.trans e2) _ (Ex.refl T _)
/-- row[k], an int -/
theorem c_row {n : Str} {k z : Int} {j : Nat} {vs : List V} {kc : Nat} {pk : Pos} (hr : H r = some (.lst vs)) (hσ : σ[0]? = some (some (.ref r))) (hk : ixN vs.length k = some j) (hz : vs[j]? = some (.int z)) (hN : X.N[0]? = some n := by rfl)
    (hvis : Vis X.env.scope n := by first | exact Or.inl rfl | exact Or.inr (Or.inl rfl)) (h1 : (n == ("__debug__" : Str)) = false := by decide) (h2 : (n == ("__classdict__" : Str)) = false := by decide) : C T X (.Subscript (.Name n p2) (.Constant (.int k) kc pk) pos) σ H (.int z) :=
  c_of (pe_ix ix_list (pv 0 hN hvis h1 h2) pe_int (fun _ _ => rfl)) fun H1 e1 Q q => ⟨_, hσ, r, vs, k, _, rfl, rfl, .inl (.inl (e1.old _ _ hr (fun _ z => by cases z))), by
    unfold atI
    rw [hk]
    exact hz, q _ H1 (Ex.refl T H1) (dat_int.mpr rfl)⟩
theorem c_lenScr {n : Str} {kc : Nat} {pk p3 p4 : Pos} (B : Blt X.mg) (R : RwAt X.K r sc ns i s cc0 H) (hσ : σ[0]? = some (some (.ref r))) (hN : X.N[0]? = some n := by rfl) (hg : Gl X "len" := by rfl)
    (hvis : Vis X.env.scope n := by first | exact Or.inl rfl | exact Or.inr (Or.inl rfl)) (h1 : (n == ("__debug__" : Str)) = false := by decide) (h2 : (n == ("__classdict__" : Str)) = false := by decide)
    (he : starEach [.Subscript (.Name n p2) (.Constant (.int 0) kc pk) p4] X.env = (false, eval (.Subscript (.Name n p2) (.Constant (.int 0) kc pk) p4) X.env) :: starEach [] X.env := by rfl) : C T X (.Call (.Name "len" p3) [.Subscript (.Name n p2) (.Constant (.int 0) kc pk) p4] [] pos) σ H (.int ns.length) :=
  c_of (pe_callB call_len_seq hg B.len PySem.boot_len (pa_cons (pe_ix ix_list (pv 0 hN hvis h1 h2) pe_int (fun _ _ => rfl)) pa_nil he) (he := he)) fun H1 e1 Q q => by
    have R1 := R.keep e1
    refine ⟨_, hσ, r, _, 0, .ref sc, rfl, rfl, .inl (.inl R1.row), rfl, sc, _, rfl, .inl R1.scr, ?_⟩
    rw [List.length_map]
    exact q _ H1 (Ex.refl T H1) (dat_int.mpr rfl)
theorem c_cell {n : Str} {kc : Nat} {pk p4 : Pos} {b : Expr} {k z : Int} {j : Nat} (R : RwAt X.K r sc ns i s cc0 H) (hσ : σ[0]? = some (some (.ref r))) (hb : C T X b σ H (.int k)) (hs : PlainIx b) (hk : ixN ns.length k = some j) (hz : ns[j]? = some z) (hN : X.N[0]? = some n := by rfl)
    (hvis : Vis X.env.scope n := by first | exact Or.inl rfl | exact Or.inr (Or.inl rfl)) (h1 : (n == ("__debug__" : Str)) = false := by decide) (h2 : (n == ("__classdict__" : Str)) = false := by decide) : C T X (.Subscript (.Subscript (.Name n p2) (.Constant (.int 0) kc pk) p4) b pos) σ H (.int z) :=
  c_of (pe_ix ix_list (pe_ix ix_list (pv 0 hN hvis h1 h2) pe_int (fun _ _ => rfl)) pe_s hs) fun H1 e1 Q q => by
    have R1 := R.keep e1
    refine ⟨_, hσ, r, _, 0, .ref sc, rfl, rfl, .inl (.inl R1.row), rfl, hb H1 e1 _ fun w H2 e2 hw => ?_⟩
    have R2 := R1.keep e2
    refine ⟨sc, _, k, .int z, rfl, dat_int.mp hw, R2.scr, ?_, q _ H2 e2 (dat_int.mpr rfl)⟩
    unfold atI
    rw [List.length_map, hk]
    show (ns.map V.int)[j]? = _
    rw [List.getElem?_map, hz]
    rfl
end
/-- a draw: the row, then data -/
def spR (K : PySem.W.Frag) (T : List Addr) (n : Nat) (pre : List D → Prop) (Post : List D → D → Prop) : Sp := fun vs H Q _ => ∃ r sc ns us ds, vs = .ref r :: us ∧ ds.length = n ∧ Dats (hid r H) ds us ∧ pre ds ∧ Rw K r sc ns H ∧ Tb T (hid r H) ∧
  ∀ v H' d, Ex T (hid r H) (hid r H') → Rw K r sc ns H' → Dat (hid r H') d v → Post ds d → Q v H'
def preTk : List D → Prop := fun ds => ∃ m, ds = [.int m] ∧ 1 ≤ m ∧ m < 1000000
def postTk : List D → D → Prop := fun ds d => ∃ m i, ds = [.int m] ∧ d = .int i ∧ 0 ≤ i ∧ i < m
abbrev nmK : List Str := ["_law_row", "_law_many", "_law_found", "_law_cell"]
section
variable {P : Program} {w : World} {K : PySem.W.Frag} {mg : Str → Option Value} {base : Heap} {T : List Addr} {cd : Value}
theorem mod_post {m x : Int} (h : 1 ≤ m) : ∃ m' i, [D.int m] = [.int m'] ∧ D.int (x % m) = .int i ∧ 0 ≤ i ∧ i < m' := ⟨m, x % m, rfl, rfl, Int.emod_nonneg _ (by omega), Int.emod_lt_of_pos _ (by omega)⟩
theorem dr_taken (M : Mgs K mg) (F : Dfn K mg "_law_taken" (top 38) cd) : Cal P w K mg base 1 "_law_taken" (spR K T 1 preTk postTk) [] := by
  refine calG (k := 0) (N := nmK) (ps := ["_law_row", "_law_many"]) F (by decide +kernel) (fun vs H Q E h => ?_) (fun _ _ _ _ _ us hl => match us, hl with | [_, _], _ => rfl) fun f A outer s0 H E vs Q hr h => ?_
  · obtain ⟨r, sc, ns, us, ds, rfl, h1, h2, _⟩ := h
    rw [List.length_cons, h2.length, h1]
    rfl
  obtain ⟨r, sc, ns, us, ds, rfl, h1, h2, ⟨m, rfl, hm1, hm2⟩, ⟨i, s, c, R⟩, hT, q⟩ := h
  obtain ⟨y, rfl, hy⟩ := dats1 h2
  have B := M.B
  have nd : nmK.Nodup := by decide
  have hy : Dat H (.int m) y := hy.mono (ex_hid (T := T) (r := r))
  have fin : ∀ {v : V} {H' : Hp} {i s c} {x : Int}, Ex T (hid r H) (hid r H') → RwAt K r sc ns i s c H' → Dat H' (.int (x % m)) v → Q v H' := fun {v H' i s c x} e R' hv => q v H' _ e ⟨i, s, c, R'⟩ (dat_int.mpr (dat_int.mp hv)) (mod_post hm1)
  have ehid : ∀ {H1 : Hp}, Ex T H H1 → Ex T (hid r H) (hid r H1) := fun {H1} e => ex_hids (fun ps z => by rw [R.row] at z; cases z) (fun ps z => by rw [(R.keep e).row] at z; cases z) e fun t => ex_hid.tab t
  refine (show G T _ (fnBody (top 38)) _ H _ from ?_) H (Ex.refl T H)
  refine g_if (ct_c (c_gt (c_row R.row rfl (j := 3) rfl rfl) c_int)) (fun hc => ?_) fun hc => ?_
  · refine g_set (i := 2) nd (c_mod (c_intI B (c_row R.row rfl (j := 3) rfl rfl)) (cv 1 hy) (by omega)) fun v H1 e1 hv => ?_
    have R1 := R.keep e1
    refine g_row (r := r) (j := 3) (c_fdiv (c_row R1.row rfl (j := 3) rfl rfl) (cv 1 (hy.mono e1)) ⟨by omega, by omega⟩) R1.row rfl rfl fun H2 e2 => ?_
    have R2 := R1.keep e2
    have R3 := R2.set (c' := c / m) R2.pos R2.low R2.high
    have hv2 : Dat (upd H2 r (.lst [.ref sc, .int i, .int s, .int (c / m)])) (.int (c % m)) v := dat_int.mpr (dat_int.mp hv)
    refine g_ret (cv 2 hv2) fun v' H3 e3 hv3 => fin ?_ (R3.keep e3) hv3
    have e4 := ehid (e1.trans e2)
    have e5 : Ex T (hid r H2) (hid r H3) := by
      have z : Ex T (hid r (upd H2 r (.lst [.ref sc, .int i, .int s, .int (c / m)]))) (hid r H3) := ex_hids (fun ps z => by rw [R3.row] at z; cases z) (fun ps z => by rw [(R3.keep e3).row] at z; cases z) e3 fun t => ex_hid.tab t
      rw [hid_upd] at z
      exact z
    exact e4.trans e5
  refine g_row (r := r) (j := 1) (c_add (c_row R.row rfl (j := 1) rfl rfl) c_int) R.row rfl rfl fun H1 e1 => ?_
  have R1 := (R.keep e1).set (i' := i + 1) (s' := s) (c' := c) (by have := R.pos; omega) R.low R.high
  have e01 := ehid e1
  have hy1 : Dat (upd H1 r (.lst [.ref sc, .int (i + 1), .int s, .int c])) (.int m) y := dat_int.mpr (dat_int.mp hy)
  -- from a heap behind the first store to the end
  have far : ∀ {H2 H3 : Hp} {o : HO} {vs : List V}, o = .lst vs → Ex T (hid r H) (hid r H2) → Ex T (upd H2 r o) H3 → Ex T (hid r H) (hid r H3) := fun {H2 H3 o vs} ho e e' => by
    subst ho
    have z : Ex T (hid r (upd H2 r (.lst vs))) (hid r H3) := ex_hids (fun ps z => by rw [upd_same] at z; cases z) (fun ps z => by rw [e'.old _ _ upd_same (fun _ z => by cases z)] at z; cases z) e' fun t => ex_hid.tab t
    rw [hid_upd] at z
    exact e.trans z
  have hmul : CMul s 48271 := .inl ⟨by have := R.low; omega, by have := R.high; omega⟩
  have hmod : ∀ x : Int, 0 ≤ x % 2147483647 ∧ x % 2147483647 < 2147483647 := fun x => ⟨Int.emod_nonneg _ (by decide), Int.emod_lt_of_pos _ (by decide)⟩
  refine g_if (ct_c (c_gt (c_row R1.row rfl (j := 1) rfl rfl) (c_lenScr B R1 rfl))) (fun hc2 => ?_) fun hc2 => ?_
  · refine g_row (r := r) (j := 2) (c_mod (c_intI B (c_add (c_mul (c_row R1.row rfl (j := 2) rfl rfl) c_int hmul) c_int)) c_int (by decide)) R1.row rfl rfl fun H2 e2 => ?_
    have R2 := (R1.keep e2).set (i' := i + 1) (s' := (s * 48271 + 11) % 2147483647) (c' := c) R1.pos (hmod _).1 (hmod _).2
    have hy2 : Dat (upd H2 r (.lst [.ref sc, .int (i + 1), .int ((s * 48271 + 11) % 2147483647), .int c])) (.int m) y := dat_int.mpr (dat_int.mp hy)
    refine g_ret (c_mod (c_intI B (c_fdiv (c_row R2.row rfl (j := 2) rfl rfl) c_int ⟨by decide, by decide⟩)) (cv 1 hy2) (by omega)) fun v H3 e3 hv => fin (far rfl (far rfl e01 e2) e3) (R2.keep e3) hv
  · have hle : i + 1 ≤ ns.length := by
      have := of_decide_eq_false hc2
      omega
    have hpos := R.pos
    have hlt : i.toNat < ns.length := by omega
    have hix : ixN ns.length (i + 1 - 1) = some i.toNat := by
      unfold ixN
      rw [if_pos (by omega), if_pos (by omega)]
      congr 1
      omega
    refine g_set (i := 3) nd (c_cell R1 rfl (c_sub (c_row R1.row rfl (j := 1) rfl rfl) c_int) (fun _ _ => rfl) hix (List.getElem?_eq_getElem hlt)) fun vc H2 e2 hvc => ?_
    have R2 := R1.keep e2
    refine g_row (r := r) (j := 2) (c_mod (c_intI B (c_add (c_add (c_mul (c_row R2.row rfl (j := 2) rfl rfl) c_int hmul) (cv 3 hvc)) c_int)) c_int (by decide)) R2.row rfl rfl fun H3 e3 => ?_
    have R3 := (R2.keep e3).set (i' := i + 1) (s' := (s * 48271 + ns[i.toNat] + 11) % 2147483647) (c' := c) R1.pos (hmod _).1 (hmod _).2
    have e03 : Ex T (hid r H) (hid r H3) := far rfl e01 (e2.trans e3)
    have hy3 : ∀ {H' : Hp}, Dat H' (.int m) y := dat_int.mpr (dat_int.mp hy)
    have hc3 : ∀ {H' : Hp}, Dat H' (.int ns[i.toNat]) vc := dat_int.mpr (dat_int.mp hvc)
    -- if cell >= 10 ** 18: row[3] = ..
    refine g_of (pss_cons (ps_if pt_s (pss_one (ps_asg pe_s (pg_sub (pv 0) pe_int set_list))) pss_nil) pss_s) fun H4 e4 => ?_
    refine (ct_c (T := T) (c_ge (cv 3 hc3) (c_pow c_int c_int ⟨by decide, by decide, by decide⟩))) H4 e4 _ fun H5 e5 => ?_
    have R5 := R3.keep (e4.trans e5)
    have e05 := far rfl e03 (e4.trans e5)
    cases decide ((10 : Int) ^ (18 : Int).toNat ≤ ns[i.toNat]) with
    | false =>
      rw [if_neg Bool.false_ne_true]
      exact (show G T _ _ _ H5 _ from g_ret (c_mod (c_intI B (cv 3 hc3)) (cv 1 hy3) (by omega)) fun v H6 e6 hv => fin (e05.trans (ex_hids (fun ps z => by rw [R5.row] at z; cases z) (fun ps z => by rw [(R5.keep e6).row] at z; cases z) e6 fun t => ex_hid.tab t)) (R5.keep e6) hv) H5 (Ex.refl T H5)
    | true =>
      rw [if_pos rfl]
      refine (c_fdiv (T := T) (cv 3 hc3) (cv 1 hy3) ⟨by omega, by omega⟩) H5 (Ex.refl T H5) _ fun v6 H6 e6 hv6 => ?_
      have R6 := R5.keep e6
      refine ⟨_, rfl, r, _, 3, 3, rfl, rfl, R6.row, rfl, ?_⟩
      rw [dat_int.mp hv6]
      have R7 := R6.set (c' := ns[i.toNat] / m) R6.pos R6.low R6.high
      have e06 := e05.trans (ex_hids (fun ps z => by rw [R5.row] at z; cases z) (fun ps z => by rw [R6.row] at z; cases z) e6 fun t => ex_hid.tab t)
      exact (show G T _ _ _ (upd H6 r (.lst [.ref sc, .int (i + 1), .int ((s * 48271 + ns[i.toNat] + 11) % 2147483647), .int (ns[i.toNat] / m)])) _ from g_ret (c_mod (c_intI B (cv 3 hc3)) (cv 1 hy3) (by omega)) fun v H8 e8 hv => fin (far rfl e06 e8) (R7.keep e8) hv) _ (Ex.refl T _)
end
end G3

set_option Elab.async false
set_option linter.all false
set_option maxRecDepth 100000
set_option maxHeartbeats 4000000
namespace G3
open PySem PySem.Spec PyProof.Rows L2 GX
open GxR (TabG Tabbed)
open C8 (Cal scC fnArgs fnBody fnScope pe_c E0 fnScope_by)

/-! ## What draws come to -/
theorem Rw.keep {T : List Addr} {K : PySem.W.Frag} {r sc : Addr} {ns : List Int} {H H' : Hp} (h : Rw K r sc ns H) (e : Ex T H H') : Rw K r sc ns H' := by
  obtain ⟨i, s, c, q⟩ := h
  exact ⟨i, s, c, q.keep e⟩
theorem Rw.some {K : PySem.W.Frag} {r sc : Addr} {ns : List Int} {H : Hp} (h : Rw K r sc ns H) : ∃ vs, H r = some (.lst vs) := by
  obtain ⟨i, s, c, q⟩ := h
  exact ⟨_, q.row⟩
theorem ex_hidR {T : List Addr} {K : PySem.W.Frag} {r sc : Addr} {ns : List Int} {H H' : Hp} (h : Rw K r sc ns H) (e : Ex T H H') : Ex T (hid r H) (hid r H') := ex_hids h.notTbl (h.keep e).notTbl e fun t => ex_hid.tab t
theorem hid_new {r p : Addr} {H : Hp} {o : HO} (h : p ≠ r) : hid r (upd H p o) = upd (hid r H) p o := by
  funext b
  by_cases e : b = r
  · rw [e, hid_r, upd_ne (fun z => h z.symm), hid_r]
  · rw [hid_ne e]
    by_cases e2 : b = p
    · rw [e2, upd_same, upd_same]
    · rw [upd_ne e2, upd_ne e2, hid_ne e]
section
variable {H : Hp} {r : Addr}
mutual
theorem dat_hid (hr : ∀ xs, H r ≠ some (.tup xs)) : ∀ (d : D) (v : V), d.nl = true → Dat H d v → Dat (hid r H) d v
  | .non, v, _, h => by unfold Dat at h ⊢; exact h
  | .bl b, v, _, h => by unfold Dat at h ⊢; exact h
  | .int i, v, _, h => by unfold Dat at h ⊢; exact h
  | .str s, v, _, h => by unfold Dat at h ⊢; exact h
  | .tup xs, v, n, h => by
    unfold D.nl at n
    unfold Dat at h ⊢
    obtain ⟨a, vs, e1, e2, e3⟩ := h
    refine ⟨a, vs, e1, ?_, dats_hid hr xs vs n e3⟩
    rw [hid_ne (fun q => hr vs (by rw [← q]; exact e2))]
    exact e2
  | .lst xs, v, n, h => by unfold D.nl at n; cases n
  | .dic ks xs, v, n, h => by unfold D.nl at n; cases n
theorem dats_hid (hr : ∀ xs, H r ≠ some (.tup xs)) : ∀ (ds : List D) (vs : List V), nls ds = true → Dats H ds vs → Dats (hid r H) ds vs
  | [], vs, _, h => by unfold Dats at h ⊢; exact h
  | d :: ds, vs, n, h => by
    unfold nls at n
    rw [Bool.and_eq_true] at n
    unfold Dats at h ⊢
    obtain ⟨v, r, e1, e2, e3⟩ := h
    exact ⟨v, r, e1, dat_hid hr d v n.1 e2, dats_hid hr ds r n.2 e3⟩
end
end
/-- may stand beside a row: not a list that looks like one -/
def notRow : List D → Bool
  | [.tup _, .int _, .int _, .int _] => false
  | _ => true
def D.free : D → Bool
  | .lst xs => nls xs && notRow xs
  | d => d.nl
theorem free_hid {K : PySem.W.Frag} {r sc : Addr} {ns : List Int} {H : Hp} {d : D} {v : V} (R : Rw K r sc ns H) (hf : d.free = true) (h : Dat H d v) : Dat (hid r H) d v := by
  have hr : ∀ xs, H r ≠ some (.tup xs) := fun xs z => by
    obtain ⟨vs, e⟩ := R.some
    rw [e] at z
    cases z
  cases d with
  | lst xs =>
    have hf : (nls xs && notRow xs) = true := hf
    rw [Bool.and_eq_true] at hf
    obtain ⟨a, vs, e1, e2, e3⟩ := dat_lst.mp h
    have na : a ≠ r := fun z => by
      subst z
      obtain ⟨i, s, c, q⟩ := R
      rw [q.row] at e2
      cases e2
      have hl := e3.length
      match xs, e3, hf with
      | [x0, x1, x2, x3], e3, hf =>
        obtain ⟨v0, v1, v2, v3, z, q0, q1, q2, q3⟩ := dats4 e3
        cases z
        have n0 : x0.nl = true := nls_mem hf.1 (by simp)
        have f1 : ∃ i, x1 = .int i := by
          cases x1 with
          | int i => exact ⟨i, rfl⟩
          | non => cases dat_non.mp q1
          | bl b => cases dat_bl.mp q1
          | str b => cases dat_str.mp q1
          | tup b => obtain ⟨_, _, z, _⟩ := dat_tup.mp q1; cases z
          | lst b => obtain ⟨_, _, z, _⟩ := dat_lst.mp q1; cases z
          | dic b c => obtain ⟨_, _, z, _⟩ := dat_dic.mp q1; cases z
        have f2 : ∃ i, x2 = .int i := by
          cases x2 with
          | int i => exact ⟨i, rfl⟩
          | non => cases dat_non.mp q2
          | bl b => cases dat_bl.mp q2
          | str b => cases dat_str.mp q2
          | tup b => obtain ⟨_, _, z, _⟩ := dat_tup.mp q2; cases z
          | lst b => obtain ⟨_, _, z, _⟩ := dat_lst.mp q2; cases z
          | dic b c => obtain ⟨_, _, z, _⟩ := dat_dic.mp q2; cases z
        have f3 : ∃ i, x3 = .int i := by
          cases x3 with
          | int i => exact ⟨i, rfl⟩
          | non => cases dat_non.mp q3
          | bl b => cases dat_bl.mp q3
          | str b => cases dat_str.mp q3
          | tup b => obtain ⟨_, _, z, _⟩ := dat_tup.mp q3; cases z
          | lst b => obtain ⟨_, _, z, _⟩ := dat_lst.mp q3; cases z
          | dic b c => obtain ⟨_, _, z, _⟩ := dat_dic.mp q3; cases z
        obtain ⟨i1, rfl⟩ := f1
        obtain ⟨i2, rfl⟩ := f2
        obtain ⟨i3, rfl⟩ := f3
        cases x0 with
        | tup ys => exact nomatch (show false = true from hf.2)
        | non => cases dat_non.mp q0
        | bl b => cases dat_bl.mp q0
        | int b => cases dat_int.mp q0
        | str b => cases dat_str.mp q0
        | lst b => unfold D.nl at n0; cases n0
        | dic b c => unfold D.nl at n0; cases n0
      | [], _, _ => simp at hl
      | [_], _, _ => simp at hl
      | [_, _], _, _ => simp at hl
      | [_, _, _], _, _ => simp at hl
      | _ :: _ :: _ :: _ :: _ :: _, _, _ => simp at hl
    refine dat_lst.mpr ⟨a, vs, e1, by rw [hid_ne na]; exact e2, dats_hid hr _ _ hf.1 e3⟩
  | dic a b => unfold D.free D.nl at hf; cases hf
  | non => exact dat_hid hr _ _ rfl h
  | bl b => exact dat_hid hr _ _ rfl h
  | int b => exact dat_hid hr _ _ rfl h
  | str b => exact dat_hid hr _ _ rfl h
  | tup b => exact dat_hid hr _ _ hf h
/-- an expression draws: what it comes to has P -/
def CR (T : List Addr) (r sc : Addr) (ns : List Int) (X : Cx) (e : Expr) (σ : L2.St) (B : Hp) (P : D → Prop) : Prop := ∀ H1, Ex T B (hid r H1) → Rw X.K r sc ns H1 → ∀ Q : VK, (∀ v H2 d, Ex T (hid r H1) (hid r H2) → Rw X.K r sc ns H2 → Dat (hid r H2) d v → P d → Q v H2) → tS X e σ H1 Q
def CTR (T : List Addr) (r sc : Addr) (ns : List Int) (X : Cx) (e : Expr) (σ : L2.St) (B : Hp) (P : Bool → Prop) : Prop := ∀ H1, Ex T B (hid r H1) → Rw X.K r sc ns H1 → ∀ Q : Bool → Hp → Prop, (∀ k H2, Ex T (hid r H1) (hid r H2) → Rw X.K r sc ns H2 → P k → Q k H2) → tST X e σ H1 Q
def CWR (T : List Addr) (r sc : Addr) (ns : List Int) (X : Cx) (e : Expr) (σ : L2.St) (B : Hp) (P : Bool → Prop) : Prop := ∀ H1, Ex T B (hid r H1) → Rw X.K r sc ns H1 → ∀ Q : Bool → Hp → Prop, (∀ k H2, Ex T (hid r H1) (hid r H2) → Rw X.K r sc ns H2 → P k → Q k H2) → tSW X e σ H1 Q
def CAR (T : List Addr) (r sc : Addr) (ns : List Int) (X : Cx) (es : List Expr) (σ : L2.St) (B : Hp) (P : List D → Prop) : Prop := ∀ H1, Ex T B (hid r H1) → Rw X.K r sc ns H1 → ∀ Q : List V → Hp → Prop, (∀ vs H2 ds, Ex T (hid r H1) (hid r H2) → Rw X.K r sc ns H2 → Dats (hid r H2) ds vs → P ds → Q vs H2) → tSA X es σ H1 Q
def WR (T : List Addr) (r sc : Addr) (ns : List Int) (X : Cx) (body : List Stmt) (σ : L2.St) (B : Hp) (P : D → Prop) (N : L2.St → Hp → Prop) : Prop := ∀ H1, Ex T B (hid r H1) → Rw X.K r sc ns H1 → ∀ E : Ends, (∀ v H2 d, Ex T (hid r H1) (hid r H2) → Rw X.K r sc ns H2 → Dat (hid r H2) d v → P d → E.rt v H2) →
  (∀ σ' H2, Ex T (hid r H1) (hid r H2) → Rw X.K r sc ns H2 → N σ' H2 → E.nx σ' H2) → tSS X body E σ H1
section
variable {T : List Addr} {r sc : Addr} {ns : List Int} {X : Cx} {σ : L2.St} {B B' : Hp} {e a b c : Expr} {es : List Expr} {rest body : List Stmt} {d : D} {pos p p2 : Pos} {P P' : D → Prop} {N : L2.St → Hp → Prop}
theorem CR.imp (h : CR T r sc ns X e σ B P) (q : ∀ d, P d → P' d) : CR T r sc ns X e σ B P' := fun H1 e1 R Q k => h H1 e1 R Q fun v H2 d e2 R2 hv hp => k v H2 d e2 R2 hv (q d hp)
theorem CR.mono (h : CR T r sc ns X e σ B P) (q : Ex T B B') : CR T r sc ns X e σ B' P := fun H1 e1 => h H1 (q.trans e1)
theorem CTR.imp {P P' : Bool → Prop} (h : CTR T r sc ns X e σ B P) (q : ∀ d, P d → P' d) : CTR T r sc ns X e σ B P' := fun H1 e1 R Q k => h H1 e1 R Q fun v H2 e2 R2 hp => k v H2 e2 R2 (q _ hp)
theorem cr_c (h : C T X e σ B d) (hf : d.free = true) : CR T r sc ns X e σ B (· = d) := fun H1 e1 R Q k => h H1 (e1.trans ex_hid) Q fun v H2 e2 hv => k v H2 d (ex_hidR R e2) (R.keep e2) (free_hid (R.keep e2) hf hv) rfl
theorem ctr_c {k : Bool} (h : CT T X e σ B k) : CTR T r sc ns X e σ B (· = k) := fun H1 e1 R Q q => h H1 (e1.trans ex_hid) Q fun H2 e2 => q k H2 (ex_hidR R e2) (R.keep e2) rfl
theorem ctr_w {P : Bool → Prop} (h : CWR T r sc ns X e σ B P) : CTR T r sc ns X e σ B P := fun H1 e1 R Q q pins s I => (pw_s (e := e)).pt.run pins s σ H1 Q I (h H1 e1 R Q q)
theorem cwr_or1 {P : Bool → Prop} (h : CTR T r sc ns X a σ B P) : CWR T r sc ns X (.BoolOp .Or [a] pos) σ B P := fun H1 e1 R Q q wh pins s I => (pw_or1 pt_s).run wh pins s σ H1 Q I (h H1 e1 R Q q)
theorem cwr_or {P P' : Bool → Prop} (ha : CTR T r sc ns X a σ B P') (hb : P' false → CWR T r sc ns X (.BoolOp .Or (b :: es) pos) σ B P) (ht : P' true → P true) : CWR T r sc ns X (.BoolOp .Or (a :: b :: es) pos) σ B P := fun H1 e1 R Q q wh pins s I =>
  (pw_or pt_s pw_s).run wh pins s σ H1 Q I (ha H1 e1 R _ fun k H2 e2 R2 hp => by
    cases k with
    | true =>
      rw [if_pos rfl]
      exact q true H2 e2 R2 (ht hp)
    | false =>
      rw [if_neg Bool.false_ne_true]
      exact hb hp H2 (e1.trans e2) R2 Q fun k H3 e3 R3 hp3 => q k H3 (e2.trans e3) R3 hp3)
/-- a comparison that draws, as a test -/
theorem ctr_cmp {op : CmpOp} {P : Bool → Prop} (h : CR T r sc ns X (.Compare a [op] [b] pos) σ B (fun d => ∃ k, d = .bl k ∧ P k)) : CTR T r sc ns X (.Compare a [op] [b] pos) σ B P := fun H1 e1 R Q q pins s I =>
  isTrue_of_eval1 (thn (h H1 e1 R (fun v H2 => ∃ k, v = .bl k ∧ Q k H2) (fun v H2 d e2 R2 hv hp => by
    obtain ⟨k, rfl, hk⟩ := hp
    exact ⟨k, dat_bl.mp hv, q k H2 e2 R2 hk⟩) pins s I) fun v s1 ⟨x, H2, I2, r2, k, ex, q2⟩ => by
    subst ex
    cases r2
    exact wpAny_truthy_bool ⟨H2, I2, q2⟩)
theorem cr_cmp {op : CmpOp} {g : Int → Int → Bool} {j : Int} (ho : OpR X (compareOp op) (rI0 fun i j => .bl (g i j))) (hm : behindInMarks op b = false) (ha : CR T r sc ns X a σ B (fun d => ∃ i, d = .int i)) (hb : C T X b σ B (.int j)) : CR T r sc ns X (.Compare a [op] [b] pos) σ B (fun d => ∃ k, d = .bl k ∧ True) := fun H1 e1 R Q q pins s I =>
  (pe_cmpR ho pe_s pe_s hm).run pins s σ H1 Q I (ha H1 e1 R _ fun v H2 d e2 R2 hv hp => hb H2 ((e1.trans e2).trans ex_hid) _ fun w H3 e3 hw => by
    obtain ⟨i, rfl⟩ := hp
    exact ⟨i, j, dat_int.mp hv, dat_int.mp hw, q _ H3 (.bl (g i j)) (e2.trans (ex_hidR R2 e3)) (R2.keep e3) (dat_bl.mpr rfl) ⟨_, rfl, True.intro⟩⟩)
theorem op_eqI0 : OpR X (compareOp .Eq) (rI0 fun i j => .bl (decide (i = j))) := fun pins s σ H x y v u Q I rx ry h => by
  obtain ⟨i, j, rfl, rfl, q⟩ := h
  refine op_eq pins s σ H (.int i) (.int j) v u Q I rx ry ⟨rfl, ?_⟩
  rw [show decide (V.int i = V.int j) = decide (i = j) by simp]
  exact q
theorem cr_eq {j : Int} (ha : CR T r sc ns X a σ B (fun d => ∃ i, d = .int i)) (hb : C T X b σ B (.int j)) : CTR T r sc ns X (.Compare a [.Eq] [b] pos) σ B (fun _ => True) := ctr_cmp (cr_cmp op_eqI0 (nomark _) ha hb)
theorem cr_gt {j : Int} (ha : CR T r sc ns X a σ B (fun d => ∃ i, d = .int i)) (hb : C T X b σ B (.int j)) : CTR T r sc ns X (.Compare a [.Gt] [b] pos) σ B (fun _ => True) := ctr_cmp (cr_cmp op_gt (nomark _) ha hb)
theorem cr_add {i : Int} (ha : C T X a σ B (.int i)) (hb : CR T r sc ns X b σ B (fun d => ∃ j, d = .int j ∧ P (.int (i + j)))) : CR T r sc ns X (.BinOp a .Add b pos) σ B P := fun H1 e1 R Q q pins s I =>
  (pe_op op_add pe_s pe_s).run pins s σ H1 Q I (ha H1 (e1.trans ex_hid) _ fun v H2 e2 hv => hb H2 (e1.trans (ex_hidR R e2)) (R.keep e2) _ fun w H3 d e3 R3 hw hp => by
    obtain ⟨j, rfl, hp⟩ := hp
    exact ⟨i, j, dat_int.mp hv, dat_int.mp hw, q _ H3 (.int (i + j)) ((ex_hidR R e2).trans e3) R3 (dat_int.mpr rfl) hp⟩)
theorem cr_ifx {Pc : Bool → Prop} (hc : CTR T r sc ns X c σ B Pc) (h1 : Pc true → CR T r sc ns X a σ B P) (h2 : Pc false → CR T r sc ns X b σ B P) : CR T r sc ns X (.IfExp c a b pos) σ B P := fun H1 e1 R Q q pins s I =>
  (pe_ifExp pt_s pe_s pe_s).run pins s σ H1 Q I (hc H1 e1 R _ fun k H2 e2 R2 hp => by
    cases k with
    | true =>
      rw [if_pos rfl]
      exact h1 hp H2 (e1.trans e2) R2 Q fun v H3 d e3 R3 hv hp3 => q v H3 d (e2.trans e3) R3 hv hp3
    | false =>
      rw [if_neg Bool.false_ne_true]
      exact h2 hp H2 (e1.trans e2) R2 Q fun v H3 d e3 R3 hv hp3 => q v H3 d (e2.trans e3) R3 hv hp3)
theorem car_nil : CAR T r sc ns X [] σ B (· = []) := fun H1 e1 R Q q pos pins s I => pa_nil.run pos pins s σ H1 Q I (q [] H1 [] (Ex.refl T _) R (dats_nil.mpr rfl) rfl)
theorem car_cons {P2 : List D → Prop} (h : CR T r sc ns X e σ B P) (hr : CAR T r sc ns X es σ B P2) (hs : starEach (e :: es) X.env = (false, eval e X.env) :: starEach es X.env := by rfl) : CAR T r sc ns X (e :: es) σ B (fun l => ∃ d t, l = d :: t ∧ P d ∧ P2 t) := fun H1 e1 R Q q pos pins s I =>
  (pa_cons pe_s pa_s hs).run pos pins s σ H1 Q I (h H1 e1 R _ fun v H2 d e2 R2 hv hp => hr H2 (e1.trans e2) R2 _ fun vs H3 ds e3 R3 hvs hp3 => q _ H3 (d :: ds) (e2.trans e3) R3 (dats_cons.mpr ⟨v, vs, rfl, hv.mono e3, hvs⟩) ⟨d, ds, rfl, hp, hp3⟩)
theorem cr_tup {P2 : List D → Prop} {k : Nat} (h : CAR T r sc ns X es σ B P2) (hl : ∀ l, P2 l → l.length ≤ 100000) : CR T r sc ns X (.Tuple es k pos) σ B (fun d => ∃ l, d = .tup l ∧ P2 l) := fun H1 e1 R Q q pins s I =>
  (pe_tup pa_s).run pins s σ H1 Q I (h H1 e1 R _ fun vs H2 ds e2 R2 hv hp => ⟨by rw [hv.length]; exact Nat.le_trans (hl ds hp) (by decide), fun pt hpt => by
    have nr : pt ≠ r := fun z => by
      obtain ⟨us, e⟩ := R2.some
      rw [z, e] at hpt
      cases hpt
    have en : Ex T (hid r H2) (hid r (upd H2 pt (.tup vs))) := by
      rw [hid_new nr]
      exact Ex.new (by rw [hid_ne nr]; exact hpt)
    exact q _ _ (.tup ds) (e2.trans en) (R2.keep (T := T) (Ex.new hpt)) (dat_tup.mpr ⟨pt, vs, rfl, by rw [hid_ne nr]; exact upd_same, hv.mono en⟩) ⟨ds, rfl, hp⟩⟩)
theorem cr_call {x : Str} {k j n : Nat} {pre : List D → Prop} {Post : List D → D → Prop} {P2 : List D → Prop} {nm : Str} (F : Cal X.prog X.w X.K X.mg X.base k x (spR X.K T n pre Post) []) (hr : Room j X.A) (hk : k ≤ j) (hT : Tb T B) (hσ : σ[0]? = some (some (.ref r))) (ha : CAR T r sc ns X es σ B P2) (hn : ∀ l, P2 l → l.length = n ∧ pre l)
    (hN : X.N[0]? = some nm := by rfl) (hvis : Vis X.env.scope nm := by first | exact Or.inl rfl | exact Or.inr (Or.inl rfl) | exact Or.inr (Or.inr rfl)) (h1 : (nm == ("__debug__" : Str)) = false := by decide) (h2 : (nm == ("__classdict__" : Str)) = false := by decide) (hg : Gl X x := by rfl)
    (hdb : (x == ("__debug__" : Str)) = false := by decide) (he : starEach (.Name nm p2 :: es) X.env = (false, eval (.Name nm p2) X.env) :: starEach es X.env := by rfl) (hpl : (backTo pos (starEach es X.env)).any (·.1) = false := by rfl) :
    CR T r sc ns X (.Call (.Name x p) (.Name nm p2 :: es) [] pos) σ B (fun d => ∃ l, P2 l ∧ Post l d) := fun H1 e1 R Q q pins s I =>
  (pe_c F hr hk hg (pa_cons (pv 0 hN hvis h1 h2) pa_s he) hdb he hpl).run pins s σ H1 Q I ⟨_, hσ, ha H1 e1 R _ fun vs H2 ds e2 R2 hv hp => ⟨r, sc, ns, vs, ds, by rw [List.append_nil], (hn ds hp).1, hv, (hn ds hp).2, R2, (e1.trans e2).tab hT, fun v H' d e3 R3 hv3 hp3 => q v H' d (e2.trans e3) R3 hv3 ⟨ds, hp, hp3⟩⟩⟩
/-- things[draw] -/
theorem cr_ixL {xs : List D} (ha : C T X a σ B (.lst xs)) (hf : (D.lst xs).free = true) (hb : CR T r sc ns X b σ B (fun d => ∃ i : Int, d = .int i ∧ 0 ≤ i ∧ i < xs.length)) (hs : PlainIx b) : CR T r sc ns X (.Subscript a b pos) σ B (fun d => d ∈ xs) := fun H1 e1 R Q q pins s I =>
  (pe_ix ix_list pe_s pe_s hs).run pins s σ H1 Q I (ha H1 (e1.trans ex_hid) _ fun v H2 e2 hv => hb H2 (e1.trans (ex_hidR R e2)) (R.keep e2) _ fun w H3 d e3 R3 hw hp => by
    obtain ⟨i, rfl, h0, h1⟩ := hp
    obtain ⟨pl, vs, e4, e5, e6⟩ := dat_lst.mp ((free_hid (R.keep e2) hf hv).mono e3)
    obtain ⟨e7, e8⟩ := hid_some e5
    have hlt : i.toNat < xs.length := by omega
    obtain ⟨x, hx1, hx2⟩ := e6.get (List.getElem?_eq_getElem hlt)
    refine ⟨pl, vs, i, x, e4, dat_int.mp hw, .inl (.inl e8), ?_, q x H3 _ ((ex_hidR R e2).trans e3) R3 hx2 (List.getElem_mem hlt)⟩
    unfold atI ixN
    rw [if_pos h0, if_pos (by rw [e6.length]; exact h1)]
    exact hx1)
/-! ### blocks -/
theorem WR.imp (h : WR T r sc ns X body σ B P N) (q : ∀ d, P d → P' d) : WR T r sc ns X body σ B P' N := fun H1 e1 R E k n => h H1 e1 R E (fun v H2 d e2 R2 hv hp => k v H2 d e2 R2 hv (q d hp)) n
theorem wr_of {t : TS} (pp : PSs X body t) (q : ∀ H1, Ex T B (hid r H1) → Rw X.K r sc ns H1 → ∀ E : Ends, (∀ v H2 d, Ex T (hid r H1) (hid r H2) → Rw X.K r sc ns H2 → Dat (hid r H2) d v → P d → E.rt v H2) →
    (∀ σ' H2, Ex T (hid r H1) (hid r H2) → Rw X.K r sc ns H2 → N σ' H2 → E.nx σ' H2) → t E σ H1) : WR T r sc ns X body σ B P N := fun H1 e1 R E k n pins s I => pp.run pins s σ H1 E I (q H1 e1 R E k n)
theorem wr_ret (h : CR T r sc ns X e σ B P) : WR T r sc ns X (.Return (some e) pos :: rest) σ B P N := wr_of (pss_cons (ps_ret pe_s) pss_s) fun H1 e1 R E k n => h H1 e1 R _ k
theorem wr_nil (h : ∀ H1, Ex T B (hid r H1) → Rw X.K r sc ns H1 → N σ H1) : WR T r sc ns X [] σ B P N := wr_of pss_nil fun H1 e1 R E k n => n σ H1 (Ex.refl T _) R (h H1 e1 R)
theorem wr_set {n : Str} {i : Nat} {P1 : D → Prop} (hN : X.N.Nodup) (h : CR T r sc ns X e σ B P1) (hr : ∀ v d B', Ex T B B' → Dat B' d v → P1 d → WR T r sc ns X rest (σ.set i (some v)) B' P N) (hi : X.N[i]? = some n := by rfl) (hx : Loc X.env.scope n := by first | exact Or.inl rfl | exact Or.inr rfl)
    (hs : swapsWith e (some (.Name n p2)) pos.line X.env = pure false := by rfl) (hf : X.fn n = true ∨ X.env.scope.names.lookup n = some .local := by first | exact .inl rfl | exact .inr rfl) : WR T r sc ns X (.Assign [.Name n p2] e pos :: rest) σ B P N :=
  wr_of (pss_cons (ps_set (i := i) hN hi hx pe_s hs hf) pss_s) fun H1 e1 R E k n => h H1 e1 R _ fun v H2 d e2 R2 hv hp => hr v d (hid r H2) (e1.trans e2) hv hp H2 (Ex.refl T _) R2 E (fun v H3 d e3 R3 hv hp => k v H3 d (e2.trans e3) R3 hv hp) fun σ' H3 e3 R3 hp => n σ' H3 (e2.trans e3) R3 hp
theorem wr_if {Pc : Bool → Prop} {a : List Stmt} (hc : CTR T r sc ns X c σ B Pc) (ha : Pc true → WR T r sc ns X a σ B P (fun _ _ => False)) (hr : Pc false → WR T r sc ns X rest σ B P N) : WR T r sc ns X (.If c a [] pos :: rest) σ B P N :=
  wr_of (pss_cons (ps_if pt_s pss_s pss_nil) pss_s) fun H1 e1 R E k n => hc H1 e1 R _ fun b H2 e2 R2 hp => by
    cases b with
    | true =>
      rw [if_pos rfl]
      exact ha hp H2 (e1.trans e2) R2 _ (fun v H3 d e3 R3 hv hp => k v H3 d (e2.trans e3) R3 hv hp) fun σ' H3 e3 R3 hp => hp.elim
    | false =>
      rw [if_neg Bool.false_ne_true]
      exact hr hp H2 (e1.trans e2) R2 E (fun v H3 d e3 R3 hv hp => k v H3 d (e2.trans e3) R3 hv hp) fun σ' H3 e3 R3 hp => n σ' H3 (e2.trans e3) R3 hp
/-- if c: (goes on) -/
theorem wr_ifN {Pc : Bool → Prop} {a : List Stmt} {N1 : L2.St → Hp → Prop} (hc : CTR T r sc ns X c σ B Pc) (ha : Pc true → WR T r sc ns X a σ B P N1) (hb : Pc false → ∀ H1, Ex T B (hid r H1) → Rw X.K r sc ns H1 → N1 σ H1) (hr : ∀ σ' H1, Ex T B (hid r H1) → Rw X.K r sc ns H1 → N1 σ' H1 → WR T r sc ns X rest σ' (hid r H1) P N) : WR T r sc ns X (.If c a [] pos :: rest) σ B P N :=
  wr_of (pss_cons (ps_if pt_s pss_s pss_nil) pss_s) fun H1 e1 R E k n => hc H1 e1 R _ fun b H2 e2 R2 hp => by
    have go : ∀ σ' H3, Ex T (hid r H2) (hid r H3) → Rw X.K r sc ns H3 → N1 σ' H3 → tSS X rest E σ' H3 := fun σ' H3 e3 R3 hn => hr σ' H3 ((e1.trans e2).trans e3) R3 hn H3 (Ex.refl T _) R3 E (fun v H4 d e4 R4 hv hp => k v H4 d ((e2.trans e3).trans e4) R4 hv hp) fun σ'' H4 e4 R4 hp => n σ'' H4 ((e2.trans e3).trans e4) R4 hp
    cases b with
    | true =>
      rw [if_pos rfl]
      exact ha hp H2 (e1.trans e2) R2 _ (fun v H3 d e3 R3 hv hp => k v H3 d (e2.trans e3) R3 hv hp) go
    | false =>
      rw [if_neg Bool.false_ne_true]
      exact go σ H2 (Ex.refl T _) R2 (hb hp H2 (e1.trans e2) R2)
theorem wr_asg {tg : Expr} {g : TG} {sp : D → Option (List D)} {js : List Nat} {P1 : D → Prop} (h : CR T r sc ns X e σ B P1) (hg : PG X tg g) (ht : Tgt g sp js) (hr : ∀ d, P1 d → ∃ ds, sp d = some ds ∧ nls ds = true ∧ ∀ vs B', Ex T B B' → Dats B' ds vs → WR T r sc ns X rest (setAll σ js vs) B' P N)
    (hs : swapsWithSole [tg] e pos.line X.env = pure false := by rfl) (hw : swappedStores [tg] e X.env = pure none := by rfl) (h1 : (assignEach [tg] X.env).map (·.2) = [assign tg X.env] := by rfl) : WR T r sc ns X (.Assign [tg] e pos :: rest) σ B P N :=
  wr_of (pss_cons (ps_asg pe_s hg hs hw h1) pss_s) fun H1 e1 R E k n => h H1 e1 R _ fun v H2 d e2 R2 hv hp => by
    obtain ⟨ds, hsp, hnl, hk⟩ := hr d hp
    have hv2 : Dat H2 d v := hv.mono (ex_hid (T := T))
    -- the parts, seen without the row
    refine ht d ds v σ H2 _ hsp hv2 fun vs hvs => ?_
    have hvs2 : Dats (hid r H2) ds vs := dats_hid (fun xs z => by
      obtain ⟨us, e⟩ := R2.some
      rw [e] at z
      cases z) ds vs hnl hvs
    exact hk vs (hid r H2) (e1.trans e2) hvs2 H2 (Ex.refl T _) R2 E (fun v H3 d e3 R3 hv hp => k v H3 d (e2.trans e3) R3 hv hp) fun σ' H3 e3 R3 hp => n σ' H3 (e2.trans e3) R3 hp
theorem wr_par {i j : Nat} {x y : Str} {px py pt pt2 : Pos} {kt k2 : Nat} {P1 : List D → Prop} (hc : X.calm = true) (hN : X.N.Nodup) (ha : CAR T r sc ns X [a, b] σ B P1) (hr : ∀ v w d1 d2 B', Ex T B B' → P1 [d1, d2] → Dat B' d1 v → Dat B' d2 w → WR T r sc ns X rest ((σ.set i (some v)).set j (some w)) B' P N)
    (hl : ∀ l, P1 l → l.length = 2) (hi : X.N[i]? = some x := by rfl) (hj : X.N[j]? = some y := by rfl) (hij : i ≠ j := by decide) (hx : X.env.scope.names.lookup x = some .local := by rfl) (hy : X.env.scope.names.lookup y = some .local := by rfl)
    (hw : swappedStores [.Tuple [.Name x px, .Name y py] kt pt] (.Tuple [a, b] k2 pt2) X.env = pure (some [x, y]) := by rfl) (hs : swapsWithSole [.Tuple [.Name x px, .Name y py] kt pt] (.Tuple [a, b] k2 pt2) pos.line X.env = pure false := by rfl) :
    WR T r sc ns X (.Assign [.Tuple [.Name x px, .Name y py] kt pt] (.Tuple [a, b] k2 pt2) pos :: rest) σ B P N :=
  wr_of (pss_cons (ps_par hc hN hi hj hij hx hy pa_s hw hs) pss_s) fun H1 e1 R E k n => ha H1 e1 R _ fun vs H2 ds e2 R2 hvs hp => by
    obtain ⟨d1, d2, rfl⟩ : ∃ d1 d2, ds = [d1, d2] := by
      have := hl ds hp
      match ds, this with
      | [d1, d2], _ => exact ⟨d1, d2, rfl⟩
    obtain ⟨v, w, rfl, h1, h2⟩ := dats2 hvs
    exact ⟨v, w, rfl, hr v w d1 d2 (hid r H2) (e1.trans e2) hp h1 h2 H2 (Ex.refl T _) R2 E (fun v H3 d e3 R3 hv hp => k v H3 d (e2.trans e3) R3 hv hp) fun σ' H3 e3 R3 hp => n σ' H3 (e2.trans e3) R3 hp⟩
end
end G3

set_option Elab.async false
set_option linter.all false
set_option maxRecDepth 100000
set_option maxHeartbeats 4000000
namespace G3
open PySem PySem.Spec PyProof.Rows L2 GX
open GxR (TabG Tabbed)
open C8 (Cal scC fnArgs fnBody fnScope pe_c E0 fnScope_by)

/-! ## What is drawn -/
/-- the names of calls are texts -/
def kS : Nat → D → Bool
  | 0, _ => true
  | n + 1, d => match d with
    | .tup xs => (!decide (kindD (.tup xs) = "call") || ((D.tup xs).ix 1).isStr) && xs.all (kS n)
    | _ => true
structure Good (n : Nat) (d : D) : Prop where
  sh : sh n d = true
  sol : sol n d = true
  kS : kS n d = true
theorem sh_up : ∀ {n : Nat} {d : D}, sh n d = true → sh (n + 1) d = true
  | 0, d, h => by cases h
  | n + 1, d, h => by
    have h1 := sh_head h
    show (headOk d && (partsD d).all (G3.sh (n + 1))) = true
    rw [h1, Bool.true_and, List.all_eq_true]
    exact fun x hx => sh_up (sh_part h hx)
theorem kS_up : ∀ {n : Nat} {d : D}, sol n d = true → kS n d = true → kS (n + 1) d = true
  | 0, d, h, _ => by cases h
  | n + 1, d, s, h => by
    cases d with
    | tup xs =>
      have s2 := (sol_tup s).2
      unfold kS at h ⊢
      simp only [Bool.and_eq_true, List.all_eq_true] at h ⊢
      exact ⟨h.1, fun x hx => kS_up (s2 x hx) (h.2 x hx)⟩
    | _ => rfl
theorem Good.up {n : Nat} {d : D} (h : Good n d) : Good (n + 1) d := ⟨sh_up h.sh, sol_up h.sol, kS_up h.sol h.kS⟩
theorem Good.le {n m : Nat} {d : D} (h : Good n d) (hnm : n ≤ m) : Good m d := by
  induction hnm with
  | refl => exact h
  | step _ ih => exact ih.up
theorem kS_kOk : ∀ {n : Nat} {d : D}, kS n d = true → kOk n d = true
  | 0, d, _ => rfl
  | n + 1, d, h => by
    cases d with
    | tup xs =>
      unfold kS at h
      unfold kOk
      simp only [Bool.and_eq_true, List.all_eq_true, Bool.or_eq_true] at h ⊢
      refine ⟨?_, fun x hx => kS_kOk (h.2 x hx)⟩
      rcases h.1 with q | q
      · exact .inl q
      · right
        obtain ⟨s, e⟩ := str_of q
        rw [e]
        rfl
    | _ => rfl
/-- small data: ints and short texts -/
def atomB : D → Bool
  | .int _ => true
  | .str s => decide (s.length ≤ 1000)
  | _ => false
theorem atom_sol {n : Nat} {d : D} (h : atomB d = true) : sol (n + 1) d = true := by
  cases d with
  | int i => rfl
  | str s => exact h
  | _ => cases h
theorem atom_kS {n : Nat} {d : D} (h : atomB d = true) : kS n d = true := by
  cases n with
  | zero => rfl
  | succ n => cases d <;> first | rfl | cases h
theorem good_leaf {k : Str} {r : List D} (hk : k ∈ leafS) (hr : r.all atomB = true) (hl : r.length ≤ 5) : Good 2 (.tup (.str k :: r)) := by
  have nc : ¬ k = "call" := fun z => by rw [z] at hk; revert hk; decide
  have kl : k.length ≤ 1000 := by
    unfold leafS at hk
    simp only [List.mem_cons, List.not_mem_nil, or_false] at hk
    rcases hk with rfl | rfl | rfl | rfl | rfl <;> decide
  rw [List.all_eq_true] at hr
  refine ⟨?_, ?_, ?_⟩
  · show (headOk _ && (partsD _).all _) = true
    rw [partsD_tup, if_pos hk]
    show ((!decide (k = "call") || _) && true) = true
    rw [decide_eq_false nc]
    rfl
  · show (decide ((D.str k :: r).length ≤ 1000) && (D.str k :: r).all (G3.sol 1)) = true
    rw [decide_eq_true (by rw [List.length_cons]; omega), Bool.true_and, List.all_eq_true]
    intro x hx
    rcases List.mem_cons.mp hx with q | q
    · rw [q]; exact decide_eq_true kl
    · exact atom_sol (hr x q)
  · show ((!decide (kindD (.tup (.str k :: r)) = "call") || _) && (D.str k :: r).all (G3.kS 1)) = true
    rw [show decide (kindD (.tup (.str k :: r)) = "call") = false from decide_eq_false nc]
    show (true && _) = true
    rw [Bool.true_and, List.all_eq_true]
    intro x hx
    rcases List.mem_cons.mp hx with q | q
    · rw [q]; rfl
    · exact atom_kS (hr x q)
theorem good_node {n : Nat} {k : Str} {r : List D} (hk : k.length ≤ 1000) (nl : ¬ k ∈ leafS) (nc : ¬ k = "call") (hr : ∀ x ∈ r, Good n x) (hl : r.length ≤ 5) (hn : 1 ≤ n) : Good (n + 1) (.tup (.str k :: r)) := by
  obtain ⟨m, rfl⟩ : ∃ m, n = m + 1 := ⟨n - 1, by omega⟩
  refine ⟨?_, ?_, ?_⟩
  · show (headOk _ && (partsD _).all _) = true
    rw [partsD_tup, if_neg nl, if_neg nc]
    show ((!decide (k = "call") || _) && _) = true
    rw [decide_eq_false nc]
    show (true && _) = true
    rw [Bool.true_and, List.all_eq_true]
    exact fun x hx => (hr x hx).sh
  · show (decide ((D.str k :: r).length ≤ 1000) && (D.str k :: r).all (G3.sol (m + 1))) = true
    rw [decide_eq_true (by rw [List.length_cons]; omega), Bool.true_and, List.all_eq_true]
    intro x hx
    rcases List.mem_cons.mp hx with q | q
    · rw [q]; exact decide_eq_true hk
    · exact (hr x q).sol
  · show ((!decide (kindD (.tup (.str k :: r)) = "call") || _) && (D.str k :: r).all (G3.kS (m + 1))) = true
    rw [show decide (kindD (.tup (.str k :: r)) = "call") = false from decide_eq_false nc]
    show (true && _) = true
    rw [Bool.true_and, List.all_eq_true]
    intro x hx
    rcases List.mem_cons.mp hx with q | q
    · rw [q]; rfl
    · exact (hr x q).kS
def moveD (d : D) : Prop := ∃ k i, d = .tup [.str k, .int i] ∧ (k = "give" ∨ k = "move")
theorem good_call {n : Nat} {nm : Str} {mv : D} {args : List D} (hnm : nm.length ≤ 1000) (hmv : moveD mv) (ha : ∀ x ∈ args, Good n x) (hl : args.length ≤ 5) (hn : 1 ≤ n) : Good (n + 2) (.tup [.str "call", .str nm, mv, .tup args]) := by
  obtain ⟨m, rfl⟩ : ∃ m, n = m + 1 := ⟨n - 1, by omega⟩
  obtain ⟨k, i, rfl, hk⟩ := hmv
  have hkl : k.length ≤ 1000 := by rcases hk with rfl | rfl <;> decide
  have hkc : decide (kindD (.tup [.str k, .int i]) = "call") = false := by rcases hk with rfl | rfl <;> rfl
  refine ⟨?_, ?_, ?_⟩
  · show (true && args.all (G3.sh (m + 2))) = true
    rw [Bool.true_and, List.all_eq_true]
    exact fun x hx => sh_up (ha x hx).sh
  · show (true && (decide (("call" : Str).length ≤ 1000) && (decide (nm.length ≤ 1000) && ((true && (decide (k.length ≤ 1000) && (true && true))) && ((decide (args.length ≤ 1000) && args.all (G3.sol (m + 1))) && true))))) = true
    rw [decide_eq_true hnm, decide_eq_true hkl, decide_eq_true (show args.length ≤ 1000 by omega), List.all_eq_true.mpr fun x hx => (ha x hx).sol]
    rfl
  · show (true && (true && (true && (((!decide (kindD (.tup [.str k, .int i]) = "call") || _) && (true && (true && true))) && (((!decide (kindD (.tup args) = "call") || _) && args.all (G3.kS (m + 1))) && true))))) = true
    rw [hkc, List.all_eq_true.mpr fun x hx => (ha x hx).kS]
    have hka : kindD (.tup args) ≠ "call" := fun z => by
      cases args with
      | nil => revert z; decide
      | cons a as =>
        cases a with
        | str s =>
          have := (ha (.str s) List.mem_cons_self).sh
          unfold G3.sh headOk at this
          cases this
        | _ => revert z; show ¬ ("" : Str) = "call"; decide
    rw [decide_eq_false hka]
    rfl
section
variable {T : List Addr} {r sc : Addr} {ns : List Int} {X : Cx} {σ : L2.St} {B B' : Hp} {elt c : Expr} {p q pos pos1 pos2 : Pos} {P : D → Prop} {scope : Scope} {own : List (Str × Nat)} {j : Nat} {tg : Expr}
/-- tuple([draw for k in range(m)]) -/
theorem cr_tlc {m : Nat} (Bl : Blt X.mg) (hc : X.calm = true) (hN : X.N.Nodup) (hm : m ≤ 1000) (hcm : C T X c σ B (.int m)) (ok : BlkOk X.N X.env.scope scope own) (hg : ∀ s H A cl fp, PG (XB X scope s H A cl fp) tg (gName j)) (hj : j ∈ own.map (·.2)) (hP : ∀ d, P d → d.nl = true)
    (hs : ∀ v B', Ex T B B' → (∀ i : Int, v = .int i → ∀ s H A cl fp, CR T r sc ns (XB X scope s H A cl fp) elt ((wipe σ (own.map (·.2))).set j (some v)) B' P))
    (hgt : Gl X "tuple" := by rfl) (hgr : Gl X "range" := by rfl) (hs1 : starEach [c] X.env = (false, eval c X.env) :: starEach [] X.env := by rfl) (hs2 : starEach [c] X.env = [(false, eval c X.env)] := by rfl) (hfold : ∀ x, foldedSetIterable (.Call (.Name "range" q) [c] [] pos2) X.env x = pure x := by intro _; rfl)
    (he : starEach [.ListComp elt [⟨tg, .Call (.Name "range" q) [c] [] pos2, [], 0⟩] scope pos1] X.env = (false, eval (.ListComp elt [⟨tg, .Call (.Name "range" q) [c] [] pos2, [], 0⟩] scope pos1) X.env) :: starEach [] X.env := by rfl) :
    CR T r sc ns X (.Call (.Name "tuple" p) [.ListComp elt [⟨tg, .Call (.Name "range" q) [c] [] pos2, [], 0⟩] scope pos1] [] pos) σ B (fun d => ∃ l, d = .tup l ∧ l.length = m ∧ ∀ x ∈ l, P x) := fun H1 e1 R Q k pins s I => by
  refine (pe_callTy call_tuple_of hgt Bl.tuple PyProof.Rows.boot_tuple (pa_cons (pe_lc (tt := tYes) (te := tSB X scope elt) hc hN (pi_range1 hgr Bl.range (pa_cons pe_s pa_nil hs1) hs2) ok hg (fun _ _ _ _ _ => pts_nil) (fun s H A cl fp => ⟨fun pins s' σ' H' Q I h => h s H A cl fp pins s' I⟩) hfold) pa_nil he) (he := he)).run pins s σ H1 Q I ?_
  refine hcm H1 (e1.trans ex_hid) _ fun v H2 e2 hv => ⟨(m : Int), by rw [dat_int.mp hv], by omega, by omega, fun L hL => ?_⟩
  have R2 := R.keep e2
  have eh2 := ex_hidR R e2
  have nL : L ≠ r := fun z => by
    obtain ⟨us, e⟩ := R2.some
    rw [z, e] at hL
    cases hL
  -- the row is untouched by what happens at L
  have keepL : ∀ {H' : Hp} {o : HO}, Rw X.K r sc ns H' → Rw X.K r sc ns (upd H' L o) := fun {H' o} R' => by
    obtain ⟨i, s, c, q⟩ := R'
    obtain ⟨i2, s2, c2, q2⟩ := R2
    refine ⟨i, s, c, by rw [upd_ne (fun z => nL z.symm)]; exact q.row, q.ne, ?_, q.len, q.pos, q.low, q.high⟩
    rcases q2.scr with h | h
    · refine sqL_upd (fun z => ?_) q.scr
      rcases h with h | ⟨o', h⟩
      · rw [z, hL] at h; cases h
      · rw [z, hL] at h; cases h
    · exact .inr h
  have w : Walk (Itr 0 ((m : Int).toNat)) m (fun _ => True) (YFn fun i => .int (0 + (i : Nat))) := walk_range
  refine lc_it w (fun i H' => ∃ acc ds, H' L = some (.lst acc) ∧ Ex T (hid r H2) (hid r H') ∧ Rw X.K r sc ns H' ∧ Dats (hid r H') ds acc ∧ ds.length = i ∧ (∀ x ∈ ds, P x)) ⟨[], [], upd_same, ?_, keepL R2, dats_nil.mpr rfl, rfl, fun x hx => by cases hx⟩ (fun _ _ _ _ => True.intro) (fun i x H' H'' hi p y => ?_) fun H' p => ?_
  · rw [hid_new nL]
    exact Ex.new (by rw [hid_ne nL]; exact hL)
  · obtain ⟨acc, ds, p1, p2, p3, p4, p5, p6⟩ := p
    obtain ⟨rfl, rfl⟩ := y
    refine ⟨by simpa [setAll] using wipe_setAll (σ := σ) (own := own.map (·.2)) (js := [j]) (us := [V.int (0 + (i : Int))]) (fun j' hj' => by rw [List.mem_singleton.mp hj']; exact hj), ?_⟩
    unfold tYes
    refine iteT ?_
    intro s0 H0 A cl fp
    refine hs (V.int (0 + (i : Int))) B (Ex.refl T B) (0 + (i : Int)) rfl s0 H0 A cl fp H'' ((e1.trans eh2).trans p2) p3 _ fun v4 H4 d e4 R4 hv4 hp4 => ?_
    have a4 : H4 L = some (.lst acc) := by
      have z : hid r H'' L = some (.lst acc) := by rw [hid_ne nL]; exact p1
      exact (hid_some (e4.old _ _ z (fun _ z => by cases z))).2
    have hlacc : acc.length = i := by rw [p4.length, p5]
    refine ⟨acc, a4, by rw [hlacc]; exact Nat.lt_of_lt_of_le hi (Nat.le_trans hm (by decide)), acc ++ [v4], ds ++ [d], upd_same, ?_, keepL R4, ?_, by rw [List.length_append, p5]; rfl, fun x hx => ?_⟩
    · rw [hid_new nL]
      exact Ex.mut (p2.trans e4) (by rw [hid_ne nL]; exact hL) (fun ps z => by rw [hid_ne nL, a4] at z; cases z)
    · rw [hid_new nL]
      have nt : ∀ ys, hid r H4 L ≠ some (.tup ys) := fun ys z => by rw [hid_ne nL, a4] at z; cases z
      exact (Dats.upd nt _ _ (nls_all fun x hx => hP x (p6 x hx)) (p4.mono e4)).append (Dats.one (Dat.upd nt _ _ (hP d hp4) hv4))
    · rcases List.mem_append.mp hx with z | z
      · exact p6 x z
      · rw [List.mem_singleton.mp z]; exact hp4
  · obtain ⟨acc, ds, p1, p2, p3, p4, p5, p6⟩ := p
    refine ⟨L, acc, rfl, .inl ⟨.inl (.inl p1), fun a ha => ?_⟩⟩
    have na : a ≠ r := fun z => by
      obtain ⟨us, e⟩ := p3.some
      rw [z, e] at ha
      cases ha
    have en : Ex T (hid r H') (hid r (upd H' a (.tup acc))) := by
      rw [hid_new na]
      exact Ex.new (by rw [hid_ne na]; exact ha)
    exact k _ _ (.tup ds) ((eh2.trans p2).trans en) (p3.keep (T := T) (Ex.new ha)) (dat_tup.mpr ⟨a, acc, rfl, by rw [hid_ne na]; exact upd_same, p4.mono en⟩) ⟨ds, rfl, p5, p6⟩
end
end G3

set_option Elab.async false
set_option linter.all false
set_option maxRecDepth 100000
set_option maxHeartbeats 4000000
namespace G3
open PySem PySem.Spec PyProof.Rows L2 GX
open GxR (TabG Tabbed)
open C8 (Cal scC fnArgs fnBody fnScope pe_c E0 fnScope_by)

/-! ## The draws -/
/-- a draw by its body -/
theorem calR {P : Program} {w : World} {K : PySem.W.Frag} {mg : Str → Option Value} {base : Heap} {x : Str} {st : Stmt} {cd : Value} {N ps : List Str} {k n : Nat} {T : List Addr} {pre : List D → Prop} {Post : List D → D → Prop} (F : Dfn K mg x st cd) (S : scC N ps (fnScope st) = true) (hn : ps.length = n + 1)
    (hb : ∀ (kV doc pm : Value) (an : Option Addr) (ct : Value) (us : List Value), us.length = ps.length → bindArgs (PySem.W.fnOf x x (fnArgs st) (fnBody st) (fnScope st) .none kV doc pm an cd ct) ⟨us, []⟩ = pure (ps.zip us))
    (body : ∀ (f : Addr) (A : Around) (outer : List Env) (s : Shared) (H : Hp) (E : XK) (r sc : Addr) (ns : List Int) (us : List V) (ds : List D) (B : Hp), Room k (XF P w K mg base N x st f cd A outer s H E).A → ds.length = n → Dats B ds us → pre ds → Tb T B →
      WR T r sc ns (XF P w K mg base N x st f cd A outer s H E) (fnBody st) (start N (.ref r :: us)) B (Post ds) (fun _ _ => False)) :
    Cal P w K mg base (k + 1) x (spR K T n pre Post) [] := by
  refine calG F S (fun vs H Q E h => ?_) hb fun f A outer s H E vs Q hr h => ?_
  · obtain ⟨r, sc, ns, us, ds, rfl, h1, h2, _⟩ := h
    rw [List.length_cons, h2.length, h1, hn]
  · obtain ⟨r, sc, ns, us, ds, rfl, h1, h2, h3, h4, h5, q⟩ := h
    exact body f A outer s H E r sc ns us ds (hid r H) hr h1 h2 h3 h5 H (Ex.refl T _) h4 _ (fun v H2 d e2 R2 hv hp => q v H2 d e2 R2 hv hp) fun _ _ _ _ z => z.elim
def prePk : List D → Prop := fun ds => ∃ xs, ds = [.lst xs] ∧ (D.lst xs).free = true ∧ 1 ≤ xs.length ∧ xs.length < 1000000
def postPk : List D → D → Prop := fun ds d => ∃ xs, ds = [.lst xs] ∧ d ∈ xs
def preN0 : List D → Prop := fun ds => ds = []
def namesL : List Str := ["f", "g", "h", "pow", "go", "turn", "zig", "low"]
def postNm : List D → D → Prop := fun _ d => ∃ s ∈ namesL, d = .str s
def preMv : List D → Prop := fun ds => ∃ b, ds = [.bl b]
def postMv : List D → D → Prop := fun _ d => moveD d
theorem taken_int {m : Int} {d : D} (h : ∃ l, (∃ d t, l = d :: t ∧ d = D.int m ∧ t = []) ∧ postTk l d) : ∃ i, d = .int i ∧ 0 ≤ i ∧ i < m := by
  obtain ⟨l, ⟨d0, t, rfl, rfl, rfl⟩, m', i, e, rfl, h0, h1⟩ := h
  cases e
  exact ⟨i, rfl, h0, h1⟩
theorem pick_mem {xs : List D} {d : D} (h : ∃ l, (∃ d t, l = d :: t ∧ d = D.lst xs ∧ t = []) ∧ postPk l d) : d ∈ xs := by
  obtain ⟨l, ⟨d0, t, rfl, rfl, rfl⟩, xs', e, h⟩ := h
  cases e
  exact h
section
variable {T : List Addr} {r sc : Addr} {ns : List Int} {X : Cx} {σ : L2.St} {B : Hp} {e : Expr} {es : List Expr} {p p2 pos : Pos} {j : Nat} {nm : Str}
/-- _law_taken(row, m) -/
theorem cr_taken {m : Int} (F : Cal X.prog X.w X.K X.mg X.base 1 "_law_taken" (spR X.K T 1 preTk postTk) []) (hr : Room j X.A) (hj : 1 ≤ j) (hT : Tb T B) (hσ : σ[0]? = some (some (.ref r))) (ha : C T X e σ B (.int m)) (h1 : 1 ≤ m) (h2 : m < 1000000)
    (hN : X.N[0]? = some nm := by rfl) (hvis : Vis X.env.scope nm := by first | exact Or.inl rfl | exact Or.inr (Or.inl rfl) | exact Or.inr (Or.inr rfl)) (q1 : (nm == ("__debug__" : Str)) = false := by decide) (q2 : (nm == ("__classdict__" : Str)) = false := by decide) (hg : Gl X "_law_taken" := by rfl)
    (he : starEach [.Name nm p2, e] X.env = (false, eval (.Name nm p2) X.env) :: starEach [e] X.env := by rfl) (hpl : (backTo pos (starEach [e] X.env)).any (·.1) = false := by rfl) (hs : starEach [e] X.env = (false, eval e X.env) :: starEach [] X.env := by rfl) :
    CR T r sc ns X (.Call (.Name "_law_taken" p) [.Name nm p2, e] [] pos) σ B (fun d => ∃ i, d = .int i ∧ 0 ≤ i ∧ i < m) :=
  (cr_call F hr hj hT hσ (car_cons (cr_c ha rfl) car_nil hs) (fun l hl => by
    obtain ⟨d, t, rfl, rfl, rfl⟩ := hl
    exact ⟨rfl, m, rfl, h1, h2⟩) hN hvis q1 q2 hg (by decide) he hpl).imp fun d h => taken_int h
/-- _law_pick(row, things) -/
theorem cr_pick {xs : List D} (F : Cal X.prog X.w X.K X.mg X.base 2 "_law_pick" (spR X.K T 1 prePk postPk) []) (hr : Room j X.A) (hj : 2 ≤ j) (hT : Tb T B) (hσ : σ[0]? = some (some (.ref r))) (ha : C T X e σ B (.lst xs)) (hf : (D.lst xs).free = true) (h1 : 1 ≤ xs.length) (h2 : xs.length < 1000000)
    (hN : X.N[0]? = some nm := by rfl) (hvis : Vis X.env.scope nm := by first | exact Or.inl rfl | exact Or.inr (Or.inl rfl) | exact Or.inr (Or.inr rfl)) (q1 : (nm == ("__debug__" : Str)) = false := by decide) (q2 : (nm == ("__classdict__" : Str)) = false := by decide) (hg : Gl X "_law_pick" := by rfl)
    (he : starEach [.Name nm p2, e] X.env = (false, eval (.Name nm p2) X.env) :: starEach [e] X.env := by rfl) (hpl : (backTo pos (starEach [e] X.env)).any (·.1) = false := by rfl) (hs : starEach [e] X.env = (false, eval e X.env) :: starEach [] X.env := by rfl) :
    CR T r sc ns X (.Call (.Name "_law_pick" p) [.Name nm p2, e] [] pos) σ B (fun d => d ∈ xs) :=
  (cr_call F hr hj hT hσ (car_cons (cr_c ha hf) car_nil hs) (fun l hl => by
    obtain ⟨d, t, rfl, rfl, rfl⟩ := hl
    exact ⟨rfl, xs, rfl, hf, h1, h2⟩) hN hvis q1 q2 hg (by decide) he hpl).imp fun d h => pick_mem h
end
section
variable {P : Program} {w : World} {K : PySem.W.Frag} {mg : Str → Option Value} {base : Heap} {T : List Addr} {cd : Value} {n : Nat}
theorem dr_pick (M : Mgs K mg) (CT : Cal P w K mg base 1 "_law_taken" (spR K T 1 preTk postTk) []) (F : Dfn K mg "_law_pick" (top 39) cd) : Cal P w K mg base 2 "_law_pick" (spR K T 1 prePk postPk) [] := by
  refine calR (k := 1) (N := ["_law_row", "_law_things"]) (ps := ["_law_row", "_law_things"]) F (by decide +kernel) rfl (fun _ _ _ _ _ us hl => match us, hl with | [_, _], _ => rfl) fun f A outer s H E r sc ns us ds B hr hn hv hp hT => ?_
  obtain ⟨xs, rfl, hf, h1, h2⟩ := hp
  obtain ⟨y, rfl, hy⟩ := dats1 hv
  exact wr_ret ((cr_ixL (cv 1 hy) hf (cr_taken (m := xs.length) CT hr (by omega) hT rfl (c_lenL M.B (cv 1 hy)) (by omega) (by omega)) (fun _ _ => rfl)).imp fun d h => ⟨xs, rfl, h⟩)
theorem free_of_strs : ∀ ss : List Str, (D.lst (ss.map D.str)).free = true := fun ss => by
  show (nls (ss.map D.str) && notRow (ss.map D.str)) = true
  rw [nls_all (fun d hd => by
    obtain ⟨s, _, rfl⟩ := List.mem_map.mp hd
    rfl)]
  cases ss <;> rfl
theorem dr_name (M : Mgs K mg) (CPk : Cal P w K mg base 2 "_law_pick" (spR K T 1 prePk postPk) []) (F : Dfn K mg "_law_name" (top 42) cd) : Cal P w K mg base 3 "_law_name" (spR K T 0 preN0 postNm) [] := by
  refine calR (k := 2) (N := ["_law_row"]) (ps := ["_law_row"]) F (by decide +kernel) rfl (fun _ _ _ _ _ us hl => match us, hl with | [_], _ => rfl) fun f A outer s H E r sc ns us ds B hr hn hv hp hT => ?_
  cases hp
  cases dats_nil.mp hv
  refine wr_ret ((cr_pick (xs := namesL.map D.str) CPk hr (by omega) hT rfl (c_lst (ca_cons c_str (ca_cons c_str (ca_cons c_str (ca_cons c_str (ca_cons c_str (ca_cons c_str (ca_cons c_str (ca_cons c_str ca_nil))))))))) (free_of_strs _) (by decide) (by decide)).imp fun d h => ?_)
  obtain ⟨s, hs, rfl⟩ := List.mem_map.mp h
  exact ⟨s, hs, rfl⟩
theorem int_list {is : List Int} {d : D} (h : d ∈ is.map D.int) : ∃ i, d = .int i := by
  obtain ⟨i, _, rfl⟩ := List.mem_map.mp h
  exact ⟨i, rfl⟩
theorem dr_move (M : Mgs K mg) (CTk : Cal P w K mg base 1 "_law_taken" (spR K T 1 preTk postTk) []) (CPk : Cal P w K mg base 2 "_law_pick" (spR K T 1 prePk postPk) []) (F : Dfn K mg "_law_move" (top 44) cd) : Cal P w K mg base 3 "_law_move" (spR K T 1 preMv postMv) [] := by
  refine calR (k := 2) (N := ["_law_row", "_law_is_hot"]) (ps := ["_law_row", "_law_is_hot"]) F (by decide +kernel) rfl (fun _ _ _ _ _ us hl => match us, hl with | [_, _], _ => rfl) fun f A outer s H E r sc ns us ds B hr hn hv hp hT => ?_
  obtain ⟨b, rfl⟩ := hp
  obtain ⟨y, rfl, hy⟩ := dats1 hv
  have tk : ∀ {m : Int} {d : D}, (∃ i, d = .int i ∧ 0 ≤ i ∧ i < m) → ∃ i, d = .int i := fun ⟨i, e, _⟩ => ⟨i, e⟩
  have mk : ∀ {k : Str} {d : D}, (k = "give" ∨ k = "move") → (∃ l, d = .tup l ∧ ∃ d0 t, l = d0 :: t ∧ d0 = .str k ∧ ∃ d1 t1, t = d1 :: t1 ∧ (∃ i, d1 = .int i) ∧ t1 = []) → moveD d := fun {k d} hk ⟨l, e, d0, t, e1, e2, d1, t1, e3, ⟨i, e4⟩, e5⟩ => ⟨k, i, by rw [e, e1, e2, e3, e4, e5], hk⟩
  refine wr_if (cr_eq ((cr_taken (m := 6) CTk hr (by omega) hT rfl c_int (by decide) (by decide)).imp fun _ h => tk h) c_int) (fun _ => wr_ret ((cr_tup (car_cons (cr_c c_str rfl) (car_cons ((cr_taken (m := 6) CTk hr (by omega) hT rfl c_int (by decide) (by decide)).imp fun _ h => tk h) car_nil)) (fun l hl => ?_)).imp fun d h => mk (.inl rfl) h)) fun _ => ?_
  · obtain ⟨_, _, rfl, _, _, _, rfl, _, rfl⟩ := hl
    simp
  refine wr_if (ctr_w (cwr_or (P := fun _ => True) (ctr_c (ct_val (cv 1 hy))) (fun _ => cwr_or1 (cr_eq ((cr_taken (m := 8) CTk hr (by omega) hT rfl c_int (by decide) (by decide)).imp fun _ h => tk h) c_int)) fun _ => True.intro)) (fun _ => wr_ret ((cr_tup (car_cons (cr_c c_str rfl) (car_cons ((cr_pick (xs := [0, 1, 2, 5, -1, -3].map D.int) CPk hr (by omega) hT rfl (c_lst (ca_cons c_int (ca_cons c_int (ca_cons c_int (ca_cons c_int (ca_cons (c_neg c_int) (ca_cons (c_neg c_int) ca_nil))))))) rfl (by decide) (by decide)).imp fun _ h => int_list h) car_nil)) (fun l hl => ?_)).imp fun d h => mk (.inr rfl) h)) fun _ =>
    wr_ret ((cr_tup (car_cons (cr_c c_str rfl) (car_cons ((cr_pick (xs := [-1, -1, -2, -3, 0].map D.int) CPk hr (by omega) hT rfl (c_lst (ca_cons (c_neg c_int) (ca_cons (c_neg c_int) (ca_cons (c_neg c_int) (ca_cons (c_neg c_int) (ca_cons c_int ca_nil)))))) rfl (by decide) (by decide)).imp fun _ h => int_list h) car_nil)) (fun l hl => ?_)).imp fun d h => mk (.inr rfl) h)
  · obtain ⟨_, _, rfl, _, _, _, rfl, _, rfl⟩ := hl
    simp
  · obtain ⟨_, _, rfl, _, _, _, rfl, _, rfl⟩ := hl
    simp
end
end G3

set_option Elab.async false
set_option linter.all false
set_option maxRecDepth 100000
set_option maxHeartbeats 4000000
namespace G3
open PySem PySem.Spec PyProof.Rows L2 GX
open GxR (TabG Tabbed)
open C8 (Cal scC fnArgs fnBody fnScope pe_c E0 fnScope_by)

/-! ## Expressions and tests are drawn -/
def bnd (dp : Int) : Nat := if dp ≤ 0 then 2 else dp.toNat + 3
def nmOk (d : D) : Prop := ∃ nm m, d = .tup [.str nm, .int m] ∧ nm.length ≤ 1000 ∧ 0 ≤ m ∧ m ≤ 2
structure NsOk (nms : List D) : Prop where
  all : ∀ d ∈ nms, nmOk d
  len : nms.length ≤ 100
def preX' (two : Nat) (n : Nat) : List D → Prop := fun ds => ∃ dp l nms hot, ds = [.int dp, .int l, .lst nms, .bl hot] ∧ dp ≤ 4 ∧ 2 * dp + two ≤ n ∧ two ≤ n ∧ 0 ≤ l ∧ l ≤ 100 ∧ NsOk nms
def postX (b : Int → Nat) : List D → D → Prop := fun ds d => ∃ dp l nms hot, ds = [.int dp, .int l, .lst nms, .bl hot] ∧ Good (b dp) d
def bndT (dp : Int) : Nat := bnd (dp - 1) + 1
theorem nmOk_nl {d : D} (h : nmOk d) : d.nl = true := by
  obtain ⟨nm, m, rfl, _⟩ := h
  rfl
theorem NsOk.free {nms : List D} (h : NsOk nms) : (D.lst nms).free = true := by
  show (nls nms && notRow nms) = true
  rw [nls_all fun d hd => nmOk_nl (h.all d hd)]
  match nms, h with
  | [], _ => rfl
  | [a], _ => cases a <;> rfl
  | [a, b], _ => cases a <;> cases b <;> rfl
  | [a, b, c], _ => cases a <;> cases b <;> cases c <;> rfl
  | a :: b :: c :: d :: [], h =>
    obtain ⟨nm, m, rfl, _⟩ := h.all b (by simp)
    cases a <;> rfl
  | a :: b :: c :: d :: _ :: _, _ => cases a <;> cases b <;> cases c <;> cases d <;> rfl
theorem bnd_step {dp : Int} (h : 0 < dp) : bnd (dp - 1) + 1 ≤ bnd dp ∧ bnd (dp - 2) + 2 ≤ bnd dp := by
  unfold bnd
  constructor
  · split <;> split <;> omega
  · split <;> split <;> omega
theorem bnd_two (dp : Int) : 2 ≤ bnd dp := by
  unfold bnd
  split <;> omega
theorem bnd_le {dp : Int} (h : dp ≤ 4) : bnd dp ≤ 7 := by
  unfold bnd
  split <;> omega
abbrev nmX : List Str := ["_law_row", "_law_deep", "_law_lates_here", "_law_names", "_law_is_hot", "_law_way", "_law_kind", "_law_test_here", "_law_name_here", "_law_many", "_law_k"]
abbrev nmTs : List Str := ["_law_row", "_law_deep", "_law_lates_here", "_law_names", "_law_is_hot", "_law_way", "_law_divisor", "_law_one", "_law_other"]
theorem g2 {X : Cx} {x y : Str} {px py pt : Pos} {kk a b : Nat} (hc : X.calm = true) (nd : X.N.Nodup) (ha : X.N[a]? = some x := by rfl) (hb : X.N[b]? = some y := by rfl) (la : X.env.scope.names.lookup x = some .local := by rfl) (lb : X.env.scope.names.lookup y = some .local := by rfl) :
    PG X (.Tuple [.Name x px, .Name y py] kk pt) (gTup X.K 2 (gAll [a, b])) :=
  pg_tup hc (pgs_cons (pg_name nd ha (.inl la) (.inr la)) (pgs_cons (pg_name nd hb (.inl lb) (.inr lb)) pgs_nil))
section
variable {T : List Addr} {r sc : Addr} {ns : List Int} {X : Cx} {σ : L2.St} {B : Hp} {e1 e2 e3 e4 : Expr} {p p2 pos : Pos} {j k n : Nat} {nm x : Str} {b : Int → Nat} {two : Nat}
/-- a draw of an expression or a test -/
theorem cr_draw {dp l : Int} {nms : List D} {hot : Bool} (F : Cal X.prog X.w X.K X.mg X.base k x (spR X.K T 4 (preX' two n) (postX b)) []) (hr : Room j X.A) (hj : k ≤ j) (hT : Tb T B) (hσ : σ[0]? = some (some (.ref r)))
    (h1 : C T X e1 σ B (.int dp)) (h2 : C T X e2 σ B (.int l)) (h3 : C T X e3 σ B (.lst nms)) (h4 : C T X e4 σ B (.bl hot)) (hp : dp ≤ 4 ∧ 2 * dp + two ≤ n ∧ two ≤ n ∧ 0 ≤ l ∧ l ≤ 100) (ho : NsOk nms)
    (hN : X.N[0]? = some nm := by rfl) (hvis : Vis X.env.scope nm := by first | exact Or.inl rfl | exact Or.inr (Or.inl rfl) | exact Or.inr (Or.inr rfl)) (q1 : (nm == ("__debug__" : Str)) = false := by decide) (q2 : (nm == ("__classdict__" : Str)) = false := by decide) (hg : Gl X x := by rfl) (hdb : (x == ("__debug__" : Str)) = false := by decide)
    (he : starEach [.Name nm p2, e1, e2, e3, e4] X.env = (false, eval (.Name nm p2) X.env) :: starEach [e1, e2, e3, e4] X.env := by rfl) (hpl : (backTo pos (starEach [e1, e2, e3, e4] X.env)).any (·.1) = false := by rfl)
    (s1 : starEach [e1, e2, e3, e4] X.env = (false, eval e1 X.env) :: starEach [e2, e3, e4] X.env := by rfl) (s2 : starEach [e2, e3, e4] X.env = (false, eval e2 X.env) :: starEach [e3, e4] X.env := by rfl) (s3 : starEach [e3, e4] X.env = (false, eval e3 X.env) :: starEach [e4] X.env := by rfl) (s4 : starEach [e4] X.env = (false, eval e4 X.env) :: starEach [] X.env := by rfl) :
    CR T r sc ns X (.Call (.Name x p) [.Name nm p2, e1, e2, e3, e4] [] pos) σ B (Good (b dp)) :=
  (cr_call F hr hj hT hσ (car_cons (cr_c h1 rfl) (car_cons (cr_c h2 rfl) (car_cons (cr_c h3 ho.free) (car_cons (cr_c h4 rfl) car_nil s4) s3) s2) s1) (fun l' hl => by
    obtain ⟨_, _, rfl, rfl, _, _, rfl, rfl, _, _, rfl, rfl, _, _, rfl, rfl, rfl⟩ := hl
    exact ⟨rfl, dp, l, nms, hot, rfl, hp.1, hp.2.1, hp.2.2.1, hp.2.2.2.1, hp.2.2.2.2, ho⟩) hN hvis q1 q2 hg hdb he hpl).imp fun d h => by
    obtain ⟨l', ⟨_, _, rfl, rfl, _, _, rfl, rfl, _, _, rfl, rfl, _, _, rfl, rfl, rfl⟩, dp', l2, nms', hot', e, hg⟩ := h
    cases e
    exact hg
end
theorem tup2 {P1 P2 : D → Prop} {d : D} (h : ∃ l, d = .tup l ∧ ∃ d0 t, l = d0 :: t ∧ P1 d0 ∧ ∃ d1 t1, t = d1 :: t1 ∧ P2 d1 ∧ t1 = []) : ∃ a b, d = .tup [a, b] ∧ P1 a ∧ P2 b := by
  obtain ⟨l, e, d0, t, e1, h1, d1, t1, e2, h2, e3⟩ := h
  exact ⟨d0, d1, by rw [e, e1, e2, e3], h1, h2⟩
theorem tup3 {P1 P2 P3 : D → Prop} {d : D} (h : ∃ l, d = .tup l ∧ ∃ d0 t, l = d0 :: t ∧ P1 d0 ∧ ∃ d1 t1, t = d1 :: t1 ∧ P2 d1 ∧ ∃ d2 t2, t1 = d2 :: t2 ∧ P3 d2 ∧ t2 = []) : ∃ a b c, d = .tup [a, b, c] ∧ P1 a ∧ P2 b ∧ P3 c := by
  obtain ⟨l, e, d0, t, e1, h1, h⟩ := h
  obtain ⟨b, c, e2, h2, h3⟩ := tup2 ⟨t, rfl, h⟩
  cases e2
  exact ⟨d0, b, c, by rw [e, e1], h1, h2, h3⟩
theorem tup4 {P1 P2 P3 P4 : D → Prop} {d : D} (h : ∃ l, d = .tup l ∧ ∃ d0 t, l = d0 :: t ∧ P1 d0 ∧ ∃ d1 t1, t = d1 :: t1 ∧ P2 d1 ∧ ∃ d2 t2, t1 = d2 :: t2 ∧ P3 d2 ∧ ∃ d3 t3, t2 = d3 :: t3 ∧ P4 d3 ∧ t3 = []) : ∃ a b c e, d = .tup [a, b, c, e] ∧ P1 a ∧ P2 b ∧ P3 c ∧ P4 e := by
  obtain ⟨l, e, d0, t, e1, h1, h⟩ := h
  obtain ⟨b, c, x, e2, h2, h3, h4⟩ := tup3 ⟨t, rfl, h⟩
  cases e2
  exact ⟨d0, b, c, x, by rw [e, e1], h1, h2, h3, h4⟩
theorem len_cons {l : List D} {P1 : D → Prop} {P2 : List D → Prop} {n : Nat} (hP : ∀ t, P2 t → t.length ≤ n) (h : ∃ d t, l = d :: t ∧ P1 d ∧ P2 t) : l.length ≤ n + 1 := by
  obtain ⟨d, t, rfl, _, h2⟩ := h
  have := hP t h2
  rw [List.length_cons]
  omega
section
variable {P : Program} {w : World} {K : PySem.W.Frag} {mg : Str → Option Value} {base : Heap} {T : List Addr} {cd : Value} {n : Nat}
theorem dr_expr (M : Mgs K mg) (CTk : Cal P w K mg base 1 "_law_taken" (spR K T 1 preTk postTk) []) (CPk : Cal P w K mg base 2 "_law_pick" (spR K T 1 prePk postPk) []) (CMv : Cal P w K mg base 3 "_law_move" (spR K T 1 preMv postMv) []) (F : Dfn K mg "_law_expression" (top 43) cd)
    (IE : Cal P w K mg base (n + 22) "_law_expression" (spR K T 4 (preX' 1 n) (postX bnd)) []) (IT : Cal P w K mg base (n + 22) "_law_test" (spR K T 4 (preX' 2 n) (postX bndT)) []) :
    Cal P w K mg base (n + 1 + 22) "_law_expression" (spR K T 4 (preX' 1 (n + 1)) (postX bnd)) [] := by
  refine calR (k := n + 22) (N := nmX) (ps := ["_law_row", "_law_deep", "_law_lates_here", "_law_names", "_law_is_hot"]) F (by decide +kernel) rfl (fun _ _ _ _ _ us hl => match us, hl with | [_, _, _, _, _], _ => rfl) fun f A outer s H E r sc ns us ds B hr hn hv hp hT => ?_
  obtain ⟨dp, l, nms, hot, rfl, hp4, hpn, hpn1, hl0, hl1, hns⟩ := hp
  obtain ⟨y1, y2, y3, y4, rfl, h1, h2, h3, h4⟩ := dats4 hv
  have nd : nmX.Nodup := by decide
  have hu : ∀ {u : Nat}, u + 16 * (n + 22) + 200 < cLine → u < cLine := fun h => by omega
  have fin : ∀ {d : D}, Good (bnd dp) d → postX bnd [.int dp, .int l, .lst nms, .bl hot] d := fun h => ⟨dp, l, nms, hot, rfl, h⟩
  have two := bnd_two dp
  have b2 : ∀ {d : D}, Good 2 d → postX bnd [.int dp, .int l, .lst nms, .bl hot] d := fun h => fin (h.le two)
  have len2 : ∀ {P1 P2 : D → Prop} (l : List D), (∃ d t, l = d :: t ∧ P1 d ∧ ∃ d1 t1, t = d1 :: t1 ∧ P2 d1 ∧ t1 = []) → l.length ≤ 100000 := fun l h => by
    obtain ⟨_, _, rfl, _, _, _, rfl, _, rfl⟩ := h
    simp
  have len3 : ∀ {P1 P2 P3 : D → Prop} (l : List D), (∃ d t, l = d :: t ∧ P1 d ∧ ∃ d1 t1, t = d1 :: t1 ∧ P2 d1 ∧ ∃ d2 t2, t1 = d2 :: t2 ∧ P3 d2 ∧ t2 = []) → l.length ≤ 100000 := fun l h => by
    obtain ⟨_, _, rfl, _, _, _, rfl, _, _, _, rfl, _, rfl⟩ := h
    simp
  have len4 : ∀ {P1 P2 P3 P4 : D → Prop} (l : List D), (∃ d t, l = d :: t ∧ P1 d ∧ ∃ d1 t1, t = d1 :: t1 ∧ P2 d1 ∧ ∃ d2 t2, t1 = d2 :: t2 ∧ P3 d2 ∧ ∃ d3 t3, t2 = d3 :: t3 ∧ P4 d3 ∧ t3 = []) → l.length ≤ 100000 := fun l h => by
    obtain ⟨_, _, rfl, _, _, _, rfl, _, _, _, rfl, _, _, _, rfl, _, rfl⟩ := h
    simp
  refine wr_set (i := 5) (P1 := fun d => ∃ i, d = .int i ∧ 0 ≤ i ∧ (dp ≤ 0 → i < 3)) nd (cr_ifx (ctr_c (ct_c (c_gt (cv 1 h1) c_int))) (fun hk => ?_) fun hk => ?_) fun vw dw B1 e1 hw hPw => ?_
  · have hk : 0 < dp := of_decide_eq_true hk.symm
    exact (cr_taken (m := 10) CTk hr (by omega) hT rfl c_int (by decide) (by decide)).imp fun d ⟨i, e, q0, q1⟩ => ⟨i, e, q0, fun z => absurd hk (by omega)⟩
  · exact (cr_taken (m := 3) CTk hr (by omega) hT rfl c_int (by decide) (by decide)).imp fun d ⟨i, e, q0, q1⟩ => ⟨i, e, q0, fun _ => q1⟩
  obtain ⟨way, rfl, w0, wlow⟩ := hPw
  have g1 := h1.mono e1
  have g2' := h2.mono e1
  have g3' := h3.mono e1
  have g4 := h4.mono e1
  have hT1 := e1.tab hT
  refine wr_if (ctr_c (ct_w (cw_or (ct_c (c_eqI (cv 5 hw) c_int)) fun _ => cw_or1 (ct_w (cw_and (ct_c (c_eqI (cv 5 hw) c_int)) fun _ => cw_and1 (ct_c (c_eqI (cv 2 g2') c_int))))))) (fun _ => wr_ret ((cr_tup (car_cons (cr_c c_str rfl) (car_cons ((cr_pick (xs := [0, 1, 2, 3, 7, 40].map D.int) CPk hr (by omega) hT1 rfl (c_lst (ca_cons c_int (ca_cons c_int (ca_cons c_int (ca_cons c_int (ca_cons c_int (ca_cons c_int ca_nil))))))) rfl (by decide) (by decide)).imp fun _ h => int_list h) car_nil)) len2).imp fun d h => ?_)) fun hk1 => ?_
  · obtain ⟨a, b, rfl, rfl, i, rfl⟩ := tup2 h
    exact b2 (good_leaf (by decide) rfl (by simp))
  have hk1 := hk1.symm
  simp only [Bool.or_eq_false_iff, decide_eq_false_iff_not, Bool.and_eq_false_iff] at hk1
  refine wr_if (ctr_c (ct_c (c_eqI (cv 5 hw) c_int))) (fun _ => wr_ret ((cr_tup (car_cons (cr_c c_str rfl) car_nil) fun l hl => ?_).imp fun d h => ?_)) fun hk2 => ?_
  · obtain ⟨_, _, rfl, _, rfl⟩ := hl
    simp
  · obtain ⟨l', rfl, d0, t, rfl, rfl, rfl⟩ := h
    exact b2 (good_leaf (by decide) rfl (by decide))
  have hk2 : ¬ way = 1 := of_decide_eq_false hk2.symm
  refine wr_if (ctr_c (ct_c (c_eqI (cv 5 hw) c_int))) (fun hk3 => ?_) fun hk3 => ?_
  · have hk3 : way = 2 := of_decide_eq_true hk3.symm
    have hl2 : ¬ l = 0 := by
      rcases hk1.2 with h | h
      · exact absurd hk3 h
      · exact h
    refine wr_ret ((cr_tup (car_cons (cr_c c_str rfl) (car_cons (cr_taken (m := l) CTk hr (by omega) hT1 rfl (cv 2 g2') (by omega) (by omega)) car_nil)) len2).imp fun d h => ?_)
    obtain ⟨a, b, rfl, rfl, i, rfl, _⟩ := tup2 h
    exact b2 (good_leaf (by decide) rfl (by simp))
  have hk3 : ¬ way = 2 := of_decide_eq_false hk3.symm
  have hdp : 0 < dp := by
    by_cases q : dp ≤ 0
    · have := wlow q
      have := hk1.1
      omega
    · omega
  obtain ⟨bs1, bs2⟩ := bnd_step hdp
  refine wr_if (ctr_c (ct_c (c_lt (cv 5 hw) c_int))) (fun _ => ?_) fun hk4 => ?_
  · refine wr_set (i := 6) (P1 := fun d => ∃ s ∈ pairsS, d = .str s) nd ((cr_pick (xs := pairsS.map D.str) CPk hr (by omega) hT1 rfl (c_lst (ca_cons c_str (ca_cons c_str (ca_cons c_str ca_nil)))) (free_of_strs _) (by decide) (by decide)).imp fun d h => ?_) fun vk dk B2 e2 hk hPk => ?_
    · obtain ⟨s, hs, rfl⟩ := List.mem_map.mp h
      exact ⟨s, hs, rfl⟩
    · obtain ⟨kk, hkk, rfl⟩ := hPk
      have dr : ∀ {pos p p2 p3 p4 p5 p6 p7 p8 : Pos} {j8 : Nat}, CR T r sc ns (XF P w K mg base nmX "_law_expression" (top 43) f cd A outer s H E) (.Call (.Name "_law_expression" p) [.Name "_law_row" p2, .BinOp (.Name "_law_deep" p3) .Sub (.Constant (.int 1) j8 p4) p5, .Name "_law_lates_here" p6, .Name "_law_names" p7, .Name "_law_is_hot" p8] [] pos) _ B2 (Good (bnd (dp - 1))) := fun {pos p p2 p3 p4 p5 p6 p7 p8 j8} =>
        cr_draw (σ := ((start nmX [.ref r, y1, y2, y3, y4]).set 5 (some vw)).set 6 (some vk)) IE hr (by omega) (e2.tab hT1) rfl (c_sub (cv 1 (g1.mono e2)) c_int) (cv 2 (g2'.mono e2)) (cv 3 (g3'.mono e2)) (cv 4 (g4.mono e2)) ⟨by omega, by omega, by omega, hl0, hl1⟩ hns
      refine wr_ret ((cr_tup (car_cons (cr_c (cv 6 hk) rfl) (car_cons dr (car_cons dr car_nil))) len3).imp fun d h => ?_)
      obtain ⟨a, b, c, rfl, rfl, ha, hb⟩ := tup3 h
      obtain ⟨nc, nl⟩ := pairs_not hkk
      have hks : kk.length ≤ 1000 := by
        unfold pairsS at hkk
        simp only [List.mem_cons, List.not_mem_nil, or_false] at hkk
        rcases hkk with rfl | rfl | rfl <;> decide
      refine fin ((good_node hks nl nc (fun x hx => ?_) (by simp) (by have := bnd_two (dp - 1); omega)).le bs1)
      rcases List.mem_cons.mp hx with q | q
      · rw [q]; exact ha
      · rw [List.mem_singleton.mp q]; exact hb
  refine wr_if (ctr_c (ct_w (cw_or (ct_c (c_lt (cv 5 hw) c_int)) fun _ => cw_or1 (ct_c (c_eqL0 (hu hr.un) (cv 3 g3') (c_lst ca_nil)))))) (fun _ => ?_) fun hk5 => ?_
  · refine wr_set (i := 7) (P1 := Good (bndT (dp - 1))) nd (cr_draw IT hr (by omega) hT1 rfl (c_sub (cv 1 g1) c_int) (cv 2 g2') (cv 3 g3') (cv 4 g4) ⟨by omega, by omega, by omega, hl0, hl1⟩ hns) fun vt dt B2 e2 ht hPt => ?_
    have dr : ∀ {pos p p2 p3 p4 p5 p6 p7 p8 : Pos} {j8 : Nat}, CR T r sc ns (XF P w K mg base nmX "_law_expression" (top 43) f cd A outer s H E) (.Call (.Name "_law_expression" p) [.Name "_law_row" p2, .BinOp (.Name "_law_deep" p3) .Sub (.Constant (.int 1) j8 p4) p5, .Name "_law_lates_here" p6, .Name "_law_names" p7, .Name "_law_is_hot" p8] [] pos) _ B2 (Good (bnd (dp - 1))) := fun {pos p p2 p3 p4 p5 p6 p7 p8 j8} =>
      cr_draw (σ := ((start nmX [.ref r, y1, y2, y3, y4]).set 5 (some vw)).set 7 (some vt)) IE hr (by omega) (e2.tab hT1) rfl (c_sub (cv 1 (g1.mono e2)) c_int) (cv 2 (g2'.mono e2)) (cv 3 (g3'.mono e2)) (cv 4 (g4.mono e2)) ⟨by omega, by omega, by omega, hl0, hl1⟩ hns
    refine wr_ret ((cr_tup (car_cons (cr_c c_str rfl) (car_cons (cr_c (cv 7 ht) (by rw [show dt.free = dt.nl by cases dt <;> first | rfl | (have := sol_nl hPt.sol; unfold D.nl at this; cases this)]; exact sol_nl hPt.sol)) (car_cons dr (car_cons dr car_nil)))) len4).imp fun d h => ?_)
    obtain ⟨a, b, c, e, rfl, rfl, rfl, hc, he⟩ := tup4 h
    have bt : bndT (dp - 1) + 1 ≤ bnd dp := by
      unfold bndT
      rw [show dp - 1 - 1 = dp - 2 by omega]
      omega
    have hm : 1 ≤ bnd dp - 1 := by omega
    have := good_node (n := bnd dp - 1) (k := "if") (r := [b, c, e]) (by decide) (by decide) (by decide) (fun x hx => ?_) (by simp) hm
    · rw [show bnd dp - 1 + 1 = bnd dp by omega] at this
      exact fin this
    · rcases List.mem_cons.mp hx with q | q
      · rw [q]; exact hPt.le (by omega)
      · rcases List.mem_cons.mp q with q | q
        · rw [q]; exact hc.le (by omega)
        · rw [List.mem_singleton.mp q]; exact he.le (by omega)
  have hk5 := hk5.symm
  simp only [Bool.or_eq_false_iff] at hk5
  have hne : 1 ≤ nms.length := by
    cases nms with
    | nil => exact nomatch hk5.2
    | cons a b => simp
  refine wr_asg (P1 := fun d => nmOk d) (sp := spN 2) (js := [8, 9]) ((cr_pick (xs := nms) CPk hr (by omega) hT1 rfl (cv 3 g3') hns.free hne (by have := hns.len; omega)).imp fun d h => hns.all d h) (g2 (a := 8) (b := 9) rfl nd) (tgt_tup [8, 9] rfl) fun d hd => ?_
  obtain ⟨cn, m, rfl, hcn, hm0, hm2⟩ := hd
  refine ⟨_, rfl, rfl, fun vs B2 e2 hvs => ?_⟩
  obtain ⟨u1, u2, rfl, c1, c2⟩ := dats2 hvs
  obtain ⟨mm, rfl⟩ : ∃ mm : Nat, m = mm := ⟨m.toNat, by omega⟩
  have hT2 := e2.tab hT1
  refine wr_ret ((cr_tup (car_cons (cr_c c_str rfl) (car_cons (cr_c (cv 8 c1) rfl) (car_cons ((cr_call CMv hr (by omega) hT2 rfl (car_cons (cr_c (cv 4 (g4.mono e2)) rfl) car_nil) fun l' hl => ?_).imp (P' := moveD) fun d h => ?_) (car_cons (cr_tlc (P := Good (bnd (dp - 2))) (m := mm) (j := 10) (own := [("_law_k", 10)]) M.B rfl nd (by omega) (cv 9 c2) (blkOk_by (show blkC nmX (fnScope (top 43)) _ _ = true by decide +kernel)) (fun _ _ _ _ _ => pg_name (i := 10) nd rfl (Or.inl rfl)) (by decide) (fun d hd => sol_nl hd.sol) fun v B3 e3 i hv s0 H0 A0 cl fp => ?_) car_nil)))) len4).imp fun d h => ?_)
  · obtain ⟨_, _, rfl, rfl, rfl⟩ := hl
    exact ⟨rfl, hot, rfl⟩
  · obtain ⟨_, _, h⟩ := h
    exact h
  · have e13 := e2.trans e3
    exact cr_draw IE hr (by omega) (e3.tab hT2) rfl (c_sub (cv 1 (g1.mono e13)) c_int) (cv 2 (g2'.mono e13)) (cv 3 (g3'.mono e13)) (cv 4 (g4.mono e13)) ⟨by omega, by omega, by omega, hl0, hl1⟩ hns
  · obtain ⟨a, b, c, e, rfl, rfl, rfl, hc, args, rfl, hal, hargs⟩ := tup4 h
    exact fin ((good_call hcn hc hargs (by omega) (by have := bnd_two (dp - 2); omega)).le bs2)
theorem dr_test (M : Mgs K mg) (CTk : Cal P w K mg base 1 "_law_taken" (spR K T 1 preTk postTk) []) (CPk : Cal P w K mg base 2 "_law_pick" (spR K T 1 prePk postPk) []) (CEa : Cal P w K mg base 19 "_law_is_early" (spD T 1 (preLw 8) (fEarly 8)) []) (F : Dfn K mg "_law_test" (top 46) cd)
    (IE : Cal P w K mg base (n + 22) "_law_expression" (spR K T 4 (preX' 1 n) (postX bnd)) []) : Cal P w K mg base (n + 1 + 22) "_law_test" (spR K T 4 (preX' 2 (n + 1)) (postX bndT)) [] := by
  refine calR (k := n + 22) (N := nmTs) (ps := ["_law_row", "_law_deep", "_law_lates_here", "_law_names", "_law_is_hot"]) F (by decide +kernel) rfl (fun _ _ _ _ _ us hl => match us, hl with | [_, _, _, _, _], _ => rfl) fun f A outer s H E r sc ns us ds B hr hn hv hp hT => ?_
  obtain ⟨dp, l, nms, hot, rfl, hp4, hpn, hpn1, hl0, hl1, hns⟩ := hp
  obtain ⟨y1, y2, y3, y4, rfl, h1, h2, h3, h4⟩ := dats4 hv
  have nd : nmTs.Nodup := by decide
  have fin : ∀ {d : D}, Good (bndT dp) d → postX bndT [.int dp, .int l, .lst nms, .bl hot] d := fun h => ⟨dp, l, nms, hot, rfl, h⟩
  have two : 2 ≤ bnd (dp - 1) := bnd_two _
  have b2 : ∀ {d : D}, Good 2 d → postX bndT [.int dp, .int l, .lst nms, .bl hot] d := fun h => fin (h.le (by unfold bndT; omega))
  have len2 : ∀ {P1 P2 : D → Prop} (l : List D), (∃ d t, l = d :: t ∧ P1 d ∧ ∃ d1 t1, t = d1 :: t1 ∧ P2 d1 ∧ t1 = []) → l.length ≤ 100000 := fun l h => by
    obtain ⟨_, _, rfl, _, _, _, rfl, _, rfl⟩ := h
    simp
  have len3 : ∀ {P1 P2 P3 : D → Prop} (l : List D), (∃ d t, l = d :: t ∧ P1 d ∧ ∃ d1 t1, t = d1 :: t1 ∧ P2 d1 ∧ ∃ d2 t2, t1 = d2 :: t2 ∧ P3 d2 ∧ t2 = []) → l.length ≤ 100000 := fun l h => by
    obtain ⟨_, _, rfl, _, _, _, rfl, _, _, _, rfl, _, rfl⟩ := h
    simp
  have free : ∀ {b : Nat} {d : D}, Good b d → d.free = true := fun {b d} g => by
    rw [show d.free = d.nl by cases d <;> first | rfl | (have := sol_nl g.sol; unfold D.nl at this; cases this)]
    exact sol_nl g.sol
  refine wr_set (i := 5) nd (cr_taken (m := 5) CTk hr (by omega) hT rfl c_int (by decide) (by decide)) fun vw dw B1 e1 hw hPw => ?_
  obtain ⟨way, rfl, w0, w5⟩ := hPw
  have g1 := h1.mono e1
  have g2' := h2.mono e1
  have g3' := h3.mono e1
  have g4 := h4.mono e1
  have hT1 := e1.tab hT
  refine wr_if (ctr_c (ct_c (c_lt (cv 5 hw) c_int))) (fun _ => wr_ret ((cr_tup (car_cons (cr_c c_str rfl) (car_cons ((cr_pick (xs := [1, 1, 2, 4, 6].map D.int) CPk hr (by omega) hT1 rfl (c_lst (ca_cons c_int (ca_cons c_int (ca_cons c_int (ca_cons c_int (ca_cons c_int ca_nil)))))) rfl (by decide) (by decide)).imp fun _ h => int_list h) car_nil)) len2).imp fun d h => ?_)) fun _ => ?_
  · obtain ⟨a, b, rfl, rfl, i, rfl⟩ := tup2 h
    exact b2 (good_leaf (by decide) rfl (by simp))
  refine wr_if (ctr_c (ct_c (c_eqI (cv 5 hw) c_int))) (fun _ => ?_) fun _ => ?_
  · refine wr_set (i := 6) (P1 := fun d => ∃ i, d = .int i ∧ 2 ≤ i ∧ i < 5) nd (cr_add c_int ((cr_taken (m := 3) CTk hr (by omega) hT1 rfl c_int (by decide) (by decide)).imp fun d ⟨i, e, q0, q1⟩ => ⟨i, e, 2 + i, rfl, by omega, by omega⟩)) fun vd dd B2 e2 hd hPd => ?_
    obtain ⟨dv, rfl, dv2, dv5⟩ := hPd
    refine wr_ret ((cr_tup (car_cons (cr_c c_str rfl) (car_cons (cr_c (cv 6 hd) rfl) (car_cons (cr_taken (m := dv) CTk hr (by omega) (e2.tab hT1) rfl (cv 6 hd) (by omega) (by omega)) car_nil))) len3).imp fun d h => ?_)
    obtain ⟨a, b, c, rfl, rfl, rfl, i, rfl, _⟩ := tup3 h
    exact b2 (good_leaf (by decide) rfl (by simp))
  have dr : ∀ {pos p p2 p3 p4 p5 p6 p7 p8 : Pos} {j8 : Nat}, CR T r sc ns (XF P w K mg base nmTs "_law_test" (top 46) f cd A outer s H E) (.Call (.Name "_law_expression" p) [.Name "_law_row" p2, .BinOp (.Name "_law_deep" p3) .Sub (.Constant (.int 1) j8 p4) p5, .Name "_law_lates_here" p6, .Name "_law_names" p7, .Name "_law_is_hot" p8] [] pos) _ B1 (Good (bnd (dp - 1))) := fun {pos p p2 p3 p4 p5 p6 p7 p8 j8} =>
    cr_draw (σ := (start nmTs [.ref r, y1, y2, y3, y4]).set 5 (some vw)) IE hr (by omega) hT1 rfl (c_sub (cv 1 g1) c_int) (cv 2 g2') (cv 3 g3') (cv 4 g4) ⟨by omega, by omega, by omega, hl0, hl1⟩ hns
  refine wr_par (i := 7) (j := 8) rfl nd (car_cons dr (car_cons dr car_nil)) (fun va vb da db B2 e2 hP ha hb => ?_) fun l hl => ?_
  · obtain ⟨_, _, q, pa, _, _, rfl, pb, rfl⟩ := hP
    injection q with q1 q2
    injection q2 with q2 _
    subst q1
    subst q2
    have hT2 := e2.tab hT1
    have hb7 : bnd (dp - 1) ≤ 7 := bnd_le (by omega)
    have lw : ∀ {d : D}, Good (bnd (dp - 1)) d → preLw 8 [d] := fun {d} g => ⟨d, rfl, (g.le (by omega : bnd (dp - 1) ≤ 8)).sh, sol_fit (g.le (by omega : bnd (dp - 1) ≤ 8)).sol, sol_nl g.sol⟩
    have less : ∀ {x y : D}, Good (bnd (dp - 1)) x → Good (bnd (dp - 1)) y → Good (bndT dp) (.tup [.str "less", x, y]) := fun {x y} gx gy => good_node (by decide) (by decide) (by decide) (fun z hz => by
      rcases List.mem_cons.mp hz with q | q
      · rw [q]; exact gx
      · rw [List.mem_singleton.mp q]; exact gy) (by simp) (by omega)
    refine wr_if (ctr_c (ct_w (cw_and (ct_val (cc CEa hr (by omega) hT2 (ca_cons (cv 7 ha) ca_nil) rfl (lw pa) rfl)) fun _ => cw_and1 (ct_val (cc CEa hr (by omega) hT2 (ca_cons (cv 8 hb) ca_nil) rfl (lw pb) rfl))))) (fun _ => wr_ret (cr_ifx (ctr_c (ct_c (c_eqI (cv 2 (g2'.mono e2)) c_int))) (fun _ => ?_) fun hl2 => ?_)) fun _ => wr_ret ((cr_tup (car_cons (cr_c c_str rfl) (car_cons (cr_c (cv 7 ha) (free pa)) (car_cons (cr_c (cv 8 hb) (free pb)) car_nil))) len3).imp fun d h => ?_)
    · refine (cr_tup (car_cons (cr_c c_str rfl) (car_cons (cr_add (P := fun d => ∃ i, d = .int i) c_int ((cr_taken (m := 4) CTk hr (by omega) hT2 rfl c_int (by decide) (by decide)).imp fun d ⟨i, e, _⟩ => ⟨i, e, 1 + i, rfl⟩)) car_nil)) len2).imp fun d h => ?_
      obtain ⟨a, b, rfl, rfl, i, rfl⟩ := tup2 h
      exact b2 (good_leaf (by decide) rfl (by simp))
    · have hl2 : ¬ l = 0 := of_decide_eq_false hl2.symm
      refine (cr_tup (car_cons (cr_c c_str rfl) (car_cons (cr_c (cv 7 ha) (free pa)) (car_cons (cr_tup (car_cons (cr_c c_str rfl) (car_cons (cr_taken (m := l) CTk hr (by omega) hT2 rfl (cv 2 (g2'.mono e2)) (by omega) (by omega)) car_nil)) len2) car_nil))) len3).imp fun d h => ?_
      obtain ⟨a, b, c, rfl, rfl, rfl, hc⟩ := tup3 h
      obtain ⟨x1, x2, rfl, rfl, i, rfl, _⟩ := tup2 hc
      exact fin (less pa ((good_leaf (by decide) rfl (by simp)).le two))
    · obtain ⟨a, b, c, rfl, rfl, rfl, rfl⟩ := tup3 h
      exact fin (less pa pb)
  · obtain ⟨_, _, rfl, _, _, _, rfl, _, rfl⟩ := hl
    rfl
theorem dr_zero {x : Str} {st : Stmt} {N ps : List Str} {k two : Nat} {b : Int → Nat} (h2 : 1 ≤ two) (F : Dfn K mg x st cd) (S : scC N ps (fnScope st) = true) (hn : ps.length = 5)
    (hb : ∀ (kV doc pm : Value) (an : Option Addr) (ct : Value) (us : List Value), us.length = ps.length → bindArgs (PySem.W.fnOf x x (fnArgs st) (fnBody st) (fnScope st) .none kV doc pm an cd ct) ⟨us, []⟩ = pure (ps.zip us)) : Cal P w K mg base (k + 1) x (spR K T 4 (preX' two 0) (postX b)) [] :=
  calR F S hn hb fun f A outer s H E r sc ns us ds B hr hn hv hp hT => by
    obtain ⟨dp, l, nms, hot, _, _, _, h, _⟩ := hp
    omega
theorem dr_both {cd1 cd2 : Value} (M : Mgs K mg) (CTk : Cal P w K mg base 1 "_law_taken" (spR K T 1 preTk postTk) []) (CPk : Cal P w K mg base 2 "_law_pick" (spR K T 1 prePk postPk) []) (CMv : Cal P w K mg base 3 "_law_move" (spR K T 1 preMv postMv) []) (CEa : Cal P w K mg base 19 "_law_is_early" (spD T 1 (preLw 8) (fEarly 8)) [])
    (F1 : Dfn K mg "_law_expression" (top 43) cd1) (F2 : Dfn K mg "_law_test" (top 46) cd2) : ∀ n, Cal P w K mg base (n + 22) "_law_expression" (spR K T 4 (preX' 1 n) (postX bnd)) [] ∧ Cal P w K mg base (n + 22) "_law_test" (spR K T 4 (preX' 2 n) (postX bndT)) []
  | 0 => ⟨dr_zero (k := 21) (N := nmX) (ps := ["_law_row", "_law_deep", "_law_lates_here", "_law_names", "_law_is_hot"]) (by decide) F1 (by decide +kernel) rfl (fun _ _ _ _ _ us hl => match us, hl with | [_, _, _, _, _], _ => rfl),
      dr_zero (k := 21) (N := nmTs) (ps := ["_law_row", "_law_deep", "_law_lates_here", "_law_names", "_law_is_hot"]) (by decide) F2 (by decide +kernel) rfl (fun _ _ _ _ _ us hl => match us, hl with | [_, _, _, _, _], _ => rfl)⟩
  | n + 1 => by
    have ih := dr_both M CTk CPk CMv CEa F1 F2 n
    exact ⟨dr_expr M CTk CPk CMv F1 ih.1 ih.2, dr_test M CTk CPk CEa F2 ih.1⟩
end
end G3

set_option Elab.async false
set_option linter.all false
set_option maxRecDepth 100000
set_option maxHeartbeats 4000000
namespace G3
open PySem PySem.Spec PyProof.Rows L2 GX
open GxR (TabG Tabbed)
open C8 (Cal scC fnArgs fnBody fnScope pe_c E0 fnScope_by)

/-! ## Programs are drawn -/
theorem rw_upd {K : PySem.W.Frag} {r sc L : Addr} {ns : List Int} {H2 H' : Hp} {o : HO} (R2 : Rw K r sc ns H2) (hL : H2 L = none) (R' : Rw K r sc ns H') : Rw K r sc ns (upd H' L o) := by
  have nL : L ≠ r := fun z => by
    obtain ⟨us, e⟩ := R2.some
    rw [z, e] at hL
    cases hL
  obtain ⟨i, s, c, q⟩ := R'
  obtain ⟨i2, s2, c2, q2⟩ := R2
  refine ⟨i, s, c, by rw [upd_ne (fun z => nL z.symm)]; exact q.row, q.ne, ?_, q.len, q.pos, q.low, q.high⟩
  rcases q2.scr with h | h
  · refine sqL_upd (fun z => ?_) q.scr
    rcases h with h | ⟨o', h⟩
    · rw [z, hL] at h; cases h
    · rw [z, hL] at h; cases h
  · exact .inr h
def prT (x : D) : Prop := ∃ nm m body, x = .tup [.str nm, .int m, body] ∧ nm.length ≤ 1000 ∧ 0 ≤ m ∧ m ≤ 2 ∧ Good 8 body
def postP : List D → D → Prop := fun _ d => ∃ xs, d = .tup xs ∧ 1 ≤ xs.length ∧ xs.length ≤ 4 ∧ ∀ x ∈ xs, prT x
theorem prT_nl {x : D} (h : prT x) : x.nl = true := by
  obtain ⟨nm, m, body, rfl, _, _, _, g⟩ := h
  have := sol_nl g.sol
  show nls [.str nm, .int m, body] = true
  exact nls_all fun d hd => by
    rcases List.mem_cons.mp hd with q | q
    · rw [q]; rfl
    · rcases List.mem_cons.mp q with q | q
      · rw [q]; rfl
      · rw [List.mem_singleton.mp q]; exact this
theorem free_nl {d : D} (h : d.nl = true) : d.free = true := by
  rw [show d.free = d.nl by cases d <;> first | rfl | (unfold D.nl at h; cases h)]
  exact h
theorem prT_free {xs : List D} (h : ∀ x ∈ xs, prT x) : (D.lst xs).free = true := by
  show (nls xs && notRow xs) = true
  rw [nls_all fun d hd => prT_nl (h d hd)]
  match xs, h with
  | [], _ => rfl
  | [a], _ => cases a <;> rfl
  | [a, b], _ => cases a <;> cases b <;> rfl
  | [a, b, c], _ => cases a <;> cases b <;> cases c <;> rfl
  | a :: b :: c :: d :: [], h =>
    obtain ⟨nm, m, bd, rfl, _⟩ := h b (by simp)
    cases a <;> rfl
  | a :: b :: c :: d :: _ :: _, _ => cases a <;> cases b <;> cases c <;> cases d <;> rfl
abbrev nmPr : List Str := ["_law_row", "_law_is_hot", "_law_names", "_law_found", "_law_turn", "_law_name_here", "_law_many", "_law_body_here", "_law_rest", "_law_one"]
section
variable {P : Program} {w : World} {K : PySem.W.Frag} {mg : Str → Option Value} {base : Heap} {T : List Addr} {cd : Value} {n : Nat}
theorem ss_of {X : Cx} {body : List Stmt} {t : TS} {E : Ends} {σ : L2.St} {H : Hp} (p : PSs X body t) (h : t E σ H) : tSS X body E σ H := fun pins s I => p.run pins s σ H E I h
theorem dr_program (M : Mgs K mg) (CTk : Cal P w K mg base 1 "_law_taken" (spR K T 1 preTk postTk) []) (CNm : Cal P w K mg base 3 "_law_name" (spR K T 0 preN0 postNm) []) (IE : Cal P w K mg base 31 "_law_expression" (spR K T 4 (preX' 1 9) (postX bnd)) [])
    (F : Dfn K mg "_law_program" (top 47) cd) : Cal P w K mg base 32 "_law_program" (spR K T 1 preMv postP) [] := by
  refine calG (k := 31) (N := nmPr) (ps := ["_law_row", "_law_is_hot"]) F (by decide +kernel) (fun vs H Q E h => ?_) (fun _ _ _ _ _ us hl => match us, hl with | [_, _], _ => rfl) fun f A outer s0 H E vs Q hr h => ?_
  · obtain ⟨r, sc, ns, us, ds, rfl, h1, h2, _⟩ := h
    rw [List.length_cons, h2.length, h1]
    rfl
  obtain ⟨r, sc, ns, us, ds, rfl, h1, h2, ⟨hot, rfl⟩, R, hT, q⟩ := h
  obtain ⟨y, rfl, hy⟩ := dats1 h2
  have B := M.B
  have nd : nmPr.Nodup := by decide
  have hy : ∀ {H' : Hp}, Dat H' (.bl hot) y := dat_bl.mpr (dat_bl.mp hy)
  refine ss_of (pss_cons (ps_par (i := 2) (j := 3) rfl nd rfl rfl (by decide) rfl rfl (pa_cons (pe_lst pa_nil) (pa_cons (pe_lst pa_nil) pa_nil)) rfl rfl)
    (pss_cons (ps_for PassesOwn.never rfl (pi_range1 rfl B.range (pa_cons pe_s pa_nil)) (pg_name (i := 4) nd rfl (Or.inl rfl)) (pss_cons (ps_set (i := 5) nd rfl (Or.inl rfl) pe_s) (pss_one (ps_if pt_s (pss_one (ps_expr (pe_bm PySem.F.plainAttrs_list PySem.F.slot_list_append PySem.F.type_list_append mt_append (pv 2) (pa_cons pe_s pa_nil)))) pss_nil))))
    (pss_cons (ps_for PassesOwn.never rfl (pi_list (pv 2)) (g2 (a := 5) (b := 6) rfl nd) (pss_cons (ps_set (i := 7) nd rfl (Or.inl rfl) pe_s) (pss_cons (ps_if pt_s (pss_cons (ps_set (i := 8) nd rfl (Or.inl rfl) pe_s) (pss_one (ps_set (i := 7) nd rfl (Or.inl rfl) pe_s))) pss_nil) (pss_one (ps_expr (pe_bm PySem.F.plainAttrs_list PySem.F.slot_list_append PySem.F.type_list_append mt_append (pv 3) (pa_cons pe_s pa_nil)))))))
    (pss_one (ps_ret pe_s))))) ?_
  refine ⟨by decide, fun a ha => ⟨by decide, fun b hb => ⟨_, _, rfl, ?_⟩⟩⟩
  have hab : b ≠ a := fun z => by rw [z, upd_same] at hb; cases hb
  have hb0 : H b = none := by rw [upd_ne hab] at hb; exact hb
  have nr : ∀ {L : Addr}, H L = none → L ≠ r := fun {L} hL z => by
    obtain ⟨us, e⟩ := R.some
    rw [z, e] at hL
    cases hL
  have na := nr ha
  have nb := nr hb0
  have hda : ∀ {H' : Hp} {o : HO}, hid r (upd H' a o) = upd (hid r H') a o := fun {_ _} => hid_new na
  have hdb : ∀ {H' : Hp} {o : HO}, hid r (upd H' b o) = upd (hid r H') b o := fun {_ _} => hid_new nb
  have ha' : hid r H a = none := by rw [hid_ne na]; exact ha
  have hb' : hid r H b = none := by rw [hid_ne nb]; exact hb0
  have e2 : Ex T (hid r H) (hid r (upd (upd H a (.lst [])) b (.lst []))) := by
    rw [hdb, hda]
    exact (Ex.new ha').trans (Ex.new (by rw [upd_ne hab]; exact hb'))
  have R2 : Rw K r sc ns (upd (upd H a (.lst [])) b (.lst [])) := rw_upd R hb0 (rw_upd R ha R)
  have eT : ∀ {H' : Hp}, Ex T (hid r H) (hid r H') → Tb T (hid r H') := fun {H'} e => e.tab hT
  -- how many
  refine (cr_add (r := r) (sc := sc) (ns := ns) (T := T) (B := hid r (upd (upd H a (.lst [])) b (.lst []))) (P := fun d => ∃ j, d = .int j ∧ 1 ≤ j ∧ j ≤ 4) c_int ((cr_taken (m := 4) CTk hr (by omega) (eT e2) rfl c_int (by decide) (by decide)).imp fun d ⟨i, e, q0, q1⟩ => ⟨i, e, 1 + i, rfl, by omega, by omega⟩)) _ (Ex.refl T _) R2 _ fun v3 H3 d3 e3 R3 hv3 hp3 => ?_
  obtain ⟨j, rfl, hj1, hj4⟩ := hp3
  refine ⟨j, by rw [dat_int.mp hv3], by omega, by omega, ?_⟩
  have keep : ∀ {H' H'' : Hp} {L : Addr} {o : List V}, L ≠ r → Ex T (hid r H') (hid r H'') → H' L = some (.lst o) → H'' L = some (.lst o) := fun {H' H'' L o} hL e h => by
    have z : hid r H' L = some (.lst o) := by rw [hid_ne hL]; exact h
    exact (hid_some (e.old _ _ z (fun _ z => by cases z))).2
  have a3 : H3 a = some (.lst []) := keep na e3 (by rw [upd_ne (fun z => hab z.symm)]; exact upd_same)
  have b3 : H3 b = some (.lst []) := keep nb e3 upd_same
  refine for_range (lo := 0) (n := j.toNat) (fun i σ' H' => ∃ acc nms x4 x5, σ' = [some (.ref r), some y, some (.ref a), some (.ref b), x4, x5, none, none, none, none] ∧ H' a = some (.lst acc) ∧ H' b = some (.lst []) ∧ Dats (hid r H') nms acc ∧ (∀ d ∈ nms, nmOk d) ∧ nms.length ≤ i ∧ (1 ≤ i → 1 ≤ nms.length) ∧ Ex T (hid r H) (hid r H') ∧ Rw K r sc ns H')
    ⟨[], [], none, none, rfl, a3, b3, dats_nil.mpr rfl, fun d hd => (by cases hd), Nat.le_refl _, fun h => by omega, e2.trans e3, R3⟩ (fun i σ' H' hi hp => ?_) fun σ' H' hp => ?_
  · obtain ⟨acc, nms, x4, x5, rfl, hA, hB, hD, hO, hL, hL1, hE, hR⟩ := hp
    have hns : NsOk nms := ⟨hO, by omega⟩
    refine (cr_call (r := r) (sc := sc) (ns := ns) (T := T) (B := hid r H') (P2 := (· = [])) CNm hr (by omega) (eT hE) rfl car_nil fun l hl => by subst hl; exact ⟨rfl, rfl⟩) H' (Ex.refl T _) hR _ fun v4 H4 d4 e4 R4 hv4 hp4 => ?_
    obtain ⟨_, _, nm, hnm, rfl⟩ := hp4
    have hnl : nm.length ≤ 1000 := by
      unfold namesL at hnm
      simp only [List.mem_cons, List.not_mem_nil, or_false] at hnm
      rcases hnm with rfl | rfl | rfl | rfl | rfl | rfl | rfl | rfl <;> decide
    have A4 := keep na e4 hA
    have B4 := keep nb e4 hB
    have D4 := hD.mono e4
    have dn : Dat (hid r H4) (.lst nms) (.ref a) := dat_lst.mpr ⟨a, acc, rfl, by rw [hid_ne na]; exact A4, D4⟩
    refine (ctr_c (r := r) (sc := sc) (ns := ns) (T := T) (B := hid r H4) (k := !decide (nm ∈ nms.map fun (d : D) => strOf (d.ix 0))) (ct_c (c_notInS (cv 5 hv4) (C.is (c_lc (f := fun d => .str (strOf (d.ix 0))) (pr := fun _ => true) (js := [9, 6]) (own := [("_law_one", 9), ("_law_many", 6)]) rfl nd (it_lst (cv 2 dn)) (blkOk_by (show blkC nmPr (fnScope (top 47)) _ _ = true by decide +kernel)) (fun _ _ _ _ _ => g2 (a := 9) (b := 6) rfl nd) (tgt_tup [9, 6] rfl) (by decide) (by omega) fun d vs H5 hd e5 => ?_) ?_)))) H4 (Ex.refl T _) R4 _ fun k H5 e5 R5 hk => ?_
    · obtain ⟨nm2, m2, rfl, _⟩ := hO d hd
      refine ⟨_, rfl, fun hvs => ?_⟩
      obtain ⟨u1, u2, rfl, c1, c2⟩ := dats2 hvs
      exact ⟨cif_nil, fun _ => ⟨fun s0 H0 A0 cl fp => cv 9 c1, rfl⟩⟩
    · rw [List.filter_eq_self.mpr fun _ _ => rfl, List.map_map]
      rfl
    have e45 := e4.trans e5
    have A5 := keep na e5 A4
    have B5 := keep nb e5 B4
    have D5 := D4.mono e5
    cases k with
    | true =>
      refine iteT ?_
      refine ⟨_, rfl, .inl ⟨rfl, acc, .inl (.inl A5)⟩, ?_⟩
      refine (cr_tup (r := r) (sc := sc) (ns := ns) (T := T) (B := hid r H5) (car_cons (cr_c (cv 5 (hv4.mono e5)) rfl) (car_cons (cr_taken (m := 3) CTk hr (by omega) (eT (hE.trans e45)) rfl c_int (by decide) (by decide)) car_nil)) fun l hl => ?_) H5 (Ex.refl T _) R5 _ fun v6 H6 d6 e6 R6 hv6 hp6 => ?_
      · obtain ⟨_, _, rfl, _, _, _, rfl, _, rfl⟩ := hl
        simp
      · obtain ⟨x1, x2, rfl, rfl, m, rfl, m0, m3⟩ := tup2 hp6
        have A6 := keep na e6 A5
        have B6 := keep nb e6 B5
        have hnn : nls nms = true := nls_all fun d hd => nmOk_nl (hO d hd)
        have nt : ∀ ys, hid r H6 a ≠ some (.tup ys) := fun ys z => by rw [hid_ne na, A6] at z; cases z
        have hsl : acc.length < sizeLine := by
          rw [hD.length]
          have h4 : nms.length ≤ 4 := by omega
          exact Nat.lt_of_le_of_lt h4 (by decide)
        refine ⟨a, acc, v6, rfl, rfl, A6, hsl, acc ++ [v6], nms ++ [.tup [.str nm, .int m]], _, _, rfl, upd_same, by rw [upd_ne hab]; exact B6, ?_, fun d hd => ?_, by rw [List.length_append]; simpa using hL, fun _ => by rw [List.length_append]; simp, ?_, rw_upd R ha R6⟩
        · rw [hda]
          exact (Dats.upd nt _ _ hnn (D5.mono e6)).append (Dats.one (Dat.upd nt _ _ rfl hv6))
        · rcases List.mem_append.mp hd with z | z
          · exact hO d z
          · rw [List.mem_singleton.mp z]
            exact ⟨nm, m, rfl, hnl, m0, by omega⟩
        · rw [hda]
          exact Ex.mut ((hE.trans e45).trans e6) ha' (fun ps z => by rw [hid_ne na, A6] at z; cases z)
    | false =>
      refine iteF ?_
      refine ⟨acc, nms, _, _, rfl, A5, B5, D5, hO, by omega, fun _ => ?_, hE.trans e45, R5⟩
      have hk := hk.symm
      rw [Bool.not_eq_false'] at hk
      have hk := of_decide_eq_true hk
      cases nms with
      | nil => cases hk
      | cons a b => simp
  · obtain ⟨acc, nms, x4, x5, rfl, hA, hB, hD, hO, hL, hL1, hE, hR⟩ := hp
    have hn4 : nms.length ≤ 4 := by omega
    have hn1 : 1 ≤ nms.length := hL1 (by omega)
    have hns : NsOk nms := ⟨hO, by omega⟩
    have hnn : nls nms = true := nls_all fun d hd => nmOk_nl (hO d hd)
    refine ⟨_, rfl, a, rfl, ⟨acc, .inl (.inl hA)⟩, for_list (xs := acc) (fun i σ' H' => ∃ fnd xs y5 y6 y7 y8 y9, σ' = [some (.ref r), some y, some (.ref a), some (.ref b), x4, y5, y6, y7, y8, y9] ∧ H' a = some (.lst acc) ∧ Dats (hid r H') nms acc ∧ H' b = some (.lst fnd) ∧ Dats (hid r H') xs fnd ∧ xs.length = i ∧ (∀ x ∈ xs, prT x) ∧ Ex T (hid r H) (hid r H') ∧ Rw K r sc ns H')
      ⟨[], [], x5, none, none, none, none, rfl, hA, hD, hB, dats_nil.mpr rfl, rfl, fun x hx => (by cases hx), hE, hR⟩ (fun i σ' H'' _ h => ?_) (fun i u σ' H' hi h => ?_) fun σ' H' h => ?_⟩
    · obtain ⟨_, _, _, _, _, _, _, _, h, _⟩ := h
      exact .inl (.inl h)
    · obtain ⟨fnd, xs, y5, y6, y7, y8, y9, rfl, gA, gD, gB, gX, gL, gP, gE, gR⟩ := h
      obtain ⟨d, hd, hu⟩ := gD.getV hi
      have hmem := List.mem_of_getElem? hd
      have hil : i < nms.length := (List.getElem?_eq_some_iff.mp hd).1
      obtain ⟨nm, m, rfl, hnl, m0, m2⟩ := hO d hmem
      refine tgt_tup [5, 6] rfl _ _ u _ H' _ rfl (hu.mono (ex_hid (T := T))) fun ws hws => ?_
      obtain ⟨u1, u2, rfl, c1, c2⟩ := dats2 hws
      have c1 : ∀ {H'' : Hp}, Dat H'' (.str nm) u1 := dat_str.mpr (dat_str.mp c1)
      have c2 : ∀ {H'' : Hp}, Dat H'' (.int m) u2 := dat_int.mpr (dat_int.mp c2)
      have dn : Dat (hid r H') (.lst nms) (.ref a) := dat_lst.mpr ⟨a, acc, rfl, by rw [hid_ne na]; exact gA, gD⟩
      refine (cr_draw (r := r) (sc := sc) (ns := ns) (T := T) (B := hid r H') IE hr (by omega) (eT gE) rfl c_int (cv 6 c2) (cv 2 dn) (cv 1 hy) ⟨by decide, by decide, by decide, m0, by omega⟩ hns) H' (Ex.refl T _) gR _ fun v4 H4 d4 e4 R4 hv4 hp4 => ?_
      -- the append
      have app : ∀ {H5 : Hp} {v7 : V} {z8 : Option V} {Dn : Ends} {te : TE}, Ex T (hid r H') (hid r H5) → Rw K r sc ns H5 → (∀ Q : VK, (∀ v H6 d, Ex T (hid r H5) (hid r H6) → Rw K r sc ns H6 → Dat (hid r H6) d v → prT d → Q v H6) → te [some (.ref r), some y, some (.ref a), some (.ref b), x4, some u1, some u2, some v7, z8, y9] H5 Q) →
          (∀ σ6 H6, (∃ fnd xs y5 y6 y7 y8 y9, σ6 = [some (.ref r), some y, some (.ref a), some (.ref b), x4, y5, y6, y7, y8, y9] ∧ H6 a = some (.lst acc) ∧ Dats (hid r H6) nms acc ∧ H6 b = some (.lst fnd) ∧ Dats (hid r H6) xs fnd ∧ xs.length = i + 1 ∧ (∀ x ∈ xs, prT x) ∧ Ex T (hid r H) (hid r H6) ∧ Rw K r sc ns H6) → Dn.nx σ6 H6) →
          tDrop (tBM K "list" rAppend (tVar 3) (tCons te tNil)) Dn [some (.ref r), some y, some (.ref a), some (.ref b), x4, some u1, some u2, some v7, z8, y9] H5 := fun {H5 v7 z8 Dn te} e5 R5 hte hnx => by
        have A5 := keep na e5 gA
        have B5 := keep nb e5 gB
        refine ⟨_, rfl, .inl ⟨rfl, fnd, .inl (.inl B5)⟩, hte _ fun v6 H6 d6 e6 R6 hv6 hp6 => ?_⟩
        have A6 := keep na e6 A5
        have B6 := keep nb e6 B5
        have nt : ∀ ys, hid r H6 b ≠ some (.tup ys) := fun ys z => by rw [hid_ne nb, B6] at z; cases z
        refine ⟨b, fnd, v6, rfl, rfl, B6, by rw [gX.length, gL]; exact Nat.lt_of_lt_of_le hil (Nat.le_trans hn4 (by decide)), hnx _ _ ⟨fnd ++ [v6], xs ++ [d6], _, _, _, _, _, rfl, by rw [upd_ne (fun z => hab z.symm)]; exact A6, ?_, upd_same, ?_, by rw [List.length_append, gL]; rfl, fun x hx => ?_, ?_, rw_upd R hb0 R6⟩⟩
        · rw [hdb]
          exact Dats.upd nt _ _ hnn ((gD.mono e5).mono e6)
        · rw [hdb]
          exact (Dats.upd nt _ _ (nls_all fun x hx => prT_nl (gP x hx)) ((gX.mono e5).mono e6)).append (Dats.one (Dat.upd nt _ _ (prT_nl hp6) hv6))
        · rcases List.mem_append.mp hx with z | z
          · exact gP x z
          · rw [List.mem_singleton.mp z]; exact hp6
        · rw [hdb]
          exact Ex.mut ((gE.trans e5).trans e6) hb' (fun ps z => by rw [hid_ne nb, B6] at z; cases z)
      have pr : ∀ {bd d : D}, Good 8 bd → (∃ l, d = .tup l ∧ ∃ d0 t, l = d0 :: t ∧ d0 = .str nm ∧ ∃ d1 t1, t = d1 :: t1 ∧ d1 = .int m ∧ ∃ d2 t2, t1 = d2 :: t2 ∧ d2 = bd ∧ t2 = []) → prT d := fun {bd d} hg h => by
        obtain ⟨x1, x2, x3, rfl, rfl, rfl, rfl⟩ := tup3 h
        exact ⟨nm, m, x3, rfl, hnl, m0, m2, hg⟩
      have l3 : ∀ {P1 P2 P3 : D → Prop} (l : List D), (∃ d t, l = d :: t ∧ P1 d ∧ ∃ d1 t1, t = d1 :: t1 ∧ P2 d1 ∧ ∃ d2 t2, t1 = d2 :: t2 ∧ P3 d2 ∧ t2 = []) → l.length ≤ 100000 := fun l h => by
        obtain ⟨_, _, rfl, _, _, _, rfl, _, _, _, rfl, _, rfl⟩ := h
        simp
      have l4 : ∀ {P1 P2 P3 P4 : D → Prop} (l : List D), (∃ d t, l = d :: t ∧ P1 d ∧ ∃ d1 t1, t = d1 :: t1 ∧ P2 d1 ∧ ∃ d2 t2, t1 = d2 :: t2 ∧ P3 d2 ∧ ∃ d3 t3, t2 = d3 :: t3 ∧ P4 d3 ∧ t3 = []) → l.length ≤ 100000 := fun l h => by
        obtain ⟨_, _, rfl, _, _, _, rfl, _, _, _, rfl, _, _, _, rfl, _, rfl⟩ := h
        simp
      have hg4 : Good 8 d4 := hp4.le (by decide)
      refine (cr_gt (r := r) (sc := sc) (ns := ns) (T := T) (B := hid r H4) ((cr_taken (m := 5) CTk hr (by omega) (eT (gE.trans e4)) rfl c_int (by decide) (by decide)).imp fun d ⟨i, e, _⟩ => ⟨i, e⟩) c_int) H4 (Ex.refl T _) R4 _ fun k H5 e5 R5 _ => ?_
      have e45 := e4.trans e5
      cases k with
      | false =>
        refine iteF ?_
        exact app e45 R5 (fun Q k => ((cr_tup (r := r) (sc := sc) (ns := ns) (T := T) (B := hid r H5) (car_cons (cr_c (cv 5 c1) rfl) (car_cons (cr_c (cv 6 c2) rfl) (car_cons (cr_c (cv 7 (hv4.mono e5)) (free_nl (sol_nl hg4.sol))) car_nil))) l3).imp fun d h => pr hg4 h) H5 (Ex.refl T _) R5 Q k) fun σ6 H6 h => h
      | true =>
        refine iteT ?_
        refine (cr_draw (r := r) (sc := sc) (ns := ns) (T := T) (B := hid r H5) IE hr (by omega) (eT (gE.trans e45)) rfl c_int (cv 6 c2) (c_lst ca_nil) c_bl ⟨by decide, by decide, by decide, m0, by omega⟩ ⟨fun d hd => (by cases hd), by decide⟩) H5 (Ex.refl T _) R5 _ fun v8 H6 d8 e6 R6 hv8 hp8 => ?_
        refine (cr_tup (r := r) (sc := sc) (ns := ns) (T := T) (B := hid r H6) (car_cons (cr_c c_str rfl) (car_cons (cr_c (c_tup (ca_cons c_str (ca_cons c_int ca_nil))) rfl) (car_cons (cr_c (cv 8 hv8) (free_nl (sol_nl hp8.sol))) (car_cons (cr_c (cv 7 ((hv4.mono e5).mono e6)) (free_nl (sol_nl hg4.sol))) car_nil)))) l4) H6 (Ex.refl T _) R6 _ fun v9 H7 d9 e7 R7 hv9 hp9 => ?_
        obtain ⟨x1, x2, x3, x5, rfl, rfl, rfl, rfl, rfl⟩ := tup4 hp9
        have hg9 : Good 8 (.tup [.str "if", .tup [.str "below", .int 1], x3, x5]) := good_node (n := 7) (by decide) (by decide) (by decide) (fun x hx => by
          rcases List.mem_cons.mp hx with q | q
          · rw [q]; exact (good_leaf (by decide) rfl (by decide)).le (by decide)
          · rcases List.mem_cons.mp q with q | q
            · rw [q]; exact hp8.le (by decide)
            · rw [List.mem_singleton.mp q]; exact hp4.le (by decide)) (by simp) (by decide)
        exact app ((e45.trans e6).trans e7) R7 (fun Q k => ((cr_tup (r := r) (sc := sc) (ns := ns) (T := T) (B := hid r H7) (car_cons (cr_c (cv 5 c1) rfl) (car_cons (cr_c (cv 6 c2) rfl) (car_cons (cr_c (cv 7 hv9) (free_nl (sol_nl hg9.sol))) car_nil))) l3).imp fun d h => pr hg9 h) H7 (Ex.refl T _) R7 Q k) fun σ6 H6 h => h
    · obtain ⟨fnd, xs, y5, y6, y7, y8, y9, rfl, gA, gD, gB, gX, gL, gP, gE, gR⟩ := h
      have dn : Dat (hid r H') (.lst xs) (.ref b) := dat_lst.mpr ⟨b, fnd, rfl, by rw [hid_ne nb]; exact gB, gX⟩
      have hxl : xs.length = nms.length := by rw [gL, hD.length]
      refine (cr_c (r := r) (sc := sc) (ns := ns) (T := T) (B := hid r H') (c_tupleL B (cv 3 dn)) (free_nl (by unfold D.nl; exact nls_all fun x hx => prT_nl (gP x hx)))) H' (Ex.refl T _) gR _ fun v9 H9 d9 e9 R9 hv9 hp9 => ?_
      subst hp9
      exact q v9 H9 _ (gE.trans e9) R9 hv9 ⟨xs, rfl, by omega, by omega, gP⟩
end
end G3

set_option Elab.async false
set_option linter.all false
set_option maxRecDepth 100000
set_option maxHeartbeats 500000
namespace G3
open PySem PySem.Spec PyProof.Rows L2 GX
open GxR (TabG Tabbed)
open C8 (Cal scC fnArgs fnBody fnScope pe_c E0 fnScope_by)

/-! ## One thing changed -/
section
variable {T : List Addr} {r sc : Addr} {ns : List Int} {X : Cx} {σ : L2.St} {B : Hp} {a b : Expr} {pos : Pos} {Pa Pb : List D → Prop}
/-- a tuple and a tuple -/
theorem cr_cat (ha : CR T r sc ns X a σ B (fun d => ∃ xs, d = .tup xs ∧ Pa xs)) (hb : CR T r sc ns X b σ B (fun d => ∃ ys, d = .tup ys ∧ Pb ys)) (hl : ∀ xs ys, Pa xs → Pb ys → xs.length + ys.length ≤ 100000) : CR T r sc ns X (.BinOp a .Add b pos) σ B (fun d => ∃ zs, d = .tup zs ∧ ∃ xs ys, zs = xs ++ ys ∧ Pa xs ∧ Pb ys) := fun H1 e1 R Q q pins s I =>
  (pe_op op_catA pe_s pe_s).run pins s σ H1 Q I (ha H1 e1 R _ fun v H2 d e2 R2 hv hp => hb H2 (e1.trans e2) R2 _ fun w H3 d' e3 R3 hw hp' => by
    obtain ⟨xs, rfl, hxs⟩ := hp
    obtain ⟨ys, rfl, hys⟩ := hp'
    obtain ⟨p, vs, e4, e5, e6⟩ := dat_tup.mp (hv.mono e3)
    obtain ⟨p2, vs2, e7, e8, e9⟩ := dat_tup.mp hw
    have e5' := (hid_some e5).2
    have e8' := (hid_some e8).2
    have hz : vs.length + vs2.length ≤ sizeLine := by rw [e6.length, e9.length]; exact Nat.le_trans (hl xs ys hxs hys) (by decide)
    have fin : ∃ zs, D.tup (xs ++ ys) = .tup zs ∧ ∃ xs ys, zs = xs ++ ys ∧ Pa xs ∧ Pb ys := ⟨_, rfl, xs, ys, rfl, hxs, hys⟩
    refine ⟨p, p2, vs, vs2, e4, e7, .inl (.inl e5'), .inl (.inl e8'), hz, fun z => ?_, fun z z2 => ?_, fun z z2 t ht => ?_⟩
    · subst z
      have hx : xs = [] := List.eq_nil_of_length_eq_zero e6.length.symm
      subst hx
      exact q _ H3 _ (e2.trans e3) R3 (dat_tup.mpr ⟨p2, vs2, rfl, e8, e9⟩) fin
    · subst z2
      have hy : ys = [] := List.eq_nil_of_length_eq_zero e9.length.symm
      subst hy
      exact q _ H3 _ (e2.trans e3) R3 (dat_tup.mpr ⟨p, vs, rfl, e5, by rw [List.append_nil]; exact e6⟩) fin
    · have nt : t ≠ r := fun z => by
        obtain ⟨us, e⟩ := R3.some
        rw [z, e] at ht
        cases ht
      have en : Ex T (hid r H3) (hid r (upd H3 t (.tup (vs ++ vs2)))) := by
        rw [hid_new nt]
        exact Ex.new (by rw [hid_ne nt]; exact ht)
      exact q _ _ _ ((e2.trans e3).trans en) (R3.keep (T := T) (Ex.new ht)) (dat_tup.mpr ⟨t, _, rfl, by rw [hid_ne nt]; exact upd_same, (e6.append e9).mono en⟩) fin)
end
@[irreducible] def kindsA : List D := [.non, .int 3, .int (-1), .tup [.str "number", .int (-1)], .tup [.str "late", .int 2], .tup [.str "late", .int 4], .tup [.str "early"], .tup [.str "early", .int 1], .tup [.str "below", .int 3], .tup [.str "rest", .int 2, .int 2]]
@[irreducible] def kindsB : List D := [.tup [.str "move", .int 6], .tup [.str "give", .int 1001], .tup [], .bl true, .str "f", .str "early", .tup [.str "number", .int 1000001]]
@[irreducible] def kindsL : List D := kindsA ++ kindsB
/-- a written constant's datum -/
def cstL (f : Expr → Option D) : List Expr → Option (List D)
  | [] => some []
  | e :: es => match f e, cstL f es with
    | some d, some ds => some (d :: ds)
    | _, _ => none
def cst : Nat → Expr → Option D
  | 0, _ => none
  | n + 1, e => match e with
    | .Constant c _ _ => (match c with
      | .int i => some (.int i)
      | .none => some .non
      | .bool b => some (.bl b)
      | .str s => some (.str s)
      | _ => none)
    | .UnaryOp .USub (.Constant (.int i) _ _) _ => some (.int (-i))
    | .Tuple es _ _ => if es.length ≤ 1000 then (cstL (cst n) es).map .tup else none
    | _ => none
section
variable {T : List Addr} {X : Cx} {σ : L2.St} {B : Hp}
theorem cstL_length {f : Expr → Option D} : ∀ {es : List Expr} {ds : List D}, cstL f es = some ds → ds.length = es.length
  | [], ds, h => by cases h; rfl
  | e :: es, ds, h => by
    unfold cstL at h
    split at h
    · rename_i d ds' h1 h2
      cases h
      rw [List.length_cons, List.length_cons, cstL_length h2]
    · cases h
theorem cst_star {n : Nat} {e : Expr} {d : D} (h : cst n e = some d) (es : List Expr) (env : Env) : starEach (e :: es) env = (false, eval e env) :: starEach es env := by
  cases n with
  | zero => cases h
  | succ n => cases e <;> first | rfl | cases h
theorem ca_csts {n : Nat} (ih : ∀ {e : Expr} {d : D}, cst n e = some d → C T X e σ B d) : ∀ {es : List Expr} {ds : List D}, cstL (cst n) es = some ds → CA T X es σ B ds
  | [], ds, h => by cases h; exact ca_nil
  | e :: es, ds, h => by
    unfold cstL at h
    split at h
    · rename_i d ds' h1 h2
      cases h
      exact ca_cons (ih h1) (ca_csts ih h2) (cst_star h1 es X.env)
    · cases h
theorem c_cst : ∀ {n : Nat} {e : Expr} {d : D}, cst n e = some d → C T X e σ B d
  | 0, e, d, h => by cases h
  | n + 1, e, d, h => by
    cases e with
    | Constant c j p =>
      cases c with
      | int i => cases h; exact c_int
      | none => cases h; exact c_non
      | bool b => cases h; exact c_bl
      | str s => cases h; exact c_str
      | _ => cases h
    | Tuple es k p =>
      have h : (if es.length ≤ 1000 then (cstL (cst n) es).map D.tup else none) = some d := h
      split at h
      · rename_i hl
        cases hq : cstL (cst n) es with
        | none => rw [hq] at h; cases h
        | some ds =>
          rw [hq] at h
          cases h
          exact c_tup (ca_csts (fun h => c_cst h) hq) (by rw [cstL_length hq]; omega)
      · cases h
    | UnaryOp op a p =>
      cases op with
      | USub =>
        cases a with
        | Constant c j p2 =>
          cases c with
          | int i => cases h; exact c_neg c_int
          | _ => cases h
        | _ => cases h
      | _ => cases h
    | _ => cases h
theorem c_cstL {es : List Expr} {ds : List D} {pos : Pos} (h : cstL (cst 3) es = some ds) (hl : ds.length ≤ 100000) : C T X (.List es pos) σ B (.lst ds) := c_lst (ca_csts (fun h => c_cst h) h) hl
end
/-- what a changed thing is -/
structure Bent (n : Nat) (d : D) : Prop where
  fit : fit n d = true
  nl : d.nl = true
  kOk : ∀ m, kOk m d = true
  no : d ≠ .str "call"
theorem kOk_atom {d : D} (h : d.isTup = false) : ∀ m, kOk m d = true := fun m => by
  cases m with
  | zero => rfl
  | succ m => cases d <;> first | rfl | cases h
theorem kOk_flat {xs : List D} (hk : ¬ kindD (.tup xs) = "call") (h : ∀ x ∈ xs, x.isTup = false) : ∀ m, kOk m (.tup xs) = true := fun m => by
  cases m with
  | zero => rfl
  | succ m =>
    show ((!decide (kindD (.tup xs) = "call") || _) && xs.all (kOk m)) = true
    rw [decide_eq_false hk]
    show (true && _) = true
    rw [Bool.true_and, List.all_eq_true]
    exact fun x hx => kOk_atom (h x hx) m
def flatK (d : D) : Bool := match d with
  | .tup xs => !decide (kindD (.tup xs) = "call") && xs.all fun x => !x.isTup
  | _ => true
theorem kinds_all : ∀ d ∈ kindsL, (G3.fit 2 d && (d.nl && (keyOk d && flatK d))) = true ∧ d ≠ .str "call" := by
  intro d hd
  unfold kindsL kindsA kindsB at hd
  simp only [List.mem_append, List.mem_cons, List.not_mem_nil, or_false] at hd
  rcases hd with (rfl | rfl | rfl | rfl | rfl | rfl | rfl | rfl | rfl | rfl) | (rfl | rfl | rfl | rfl | rfl | rfl | rfl) <;> exact ⟨rfl, by intro h; cases h⟩
theorem kind_bent {d : D} (h : d ∈ kindsL) : Bent 2 d ∧ keyOk d = true := by
  obtain ⟨h1, h2⟩ := kinds_all d h
  simp only [Bool.and_eq_true] at h1
  refine ⟨⟨h1.1, h1.2.1, fun m => ?_, h2⟩, h1.2.2.1⟩
  have hf := h1.2.2.2
  cases d with
  | tup xs =>
    unfold flatK at hf
    simp only [Bool.and_eq_true, Bool.not_eq_true', decide_eq_false_iff_not, List.all_eq_true] at hf
    exact kOk_flat hf.1 hf.2 m
  | _ => exact kOk_atom rfl m
theorem fit_le {d : D} {n m : Nat} (hnm : n ≤ m) (h : fit n d = true) : fit m d = true := by
  induction hnm with
  | refl => exact h
  | step _ ih => exact fit_up ih
theorem Bent.le {d : D} {n m : Nat} (h : Bent n d) (hnm : n ≤ m) : Bent m d := ⟨fit_le hnm h.fit, h.nl, h.kOk, h.no⟩
theorem kOk_any : ∀ {n : Nat} {d : D}, sol n d = true → kS n d = true → ∀ m, kOk m d = true
  | n, d, s, k, 0 => rfl
  | 0, d, s, k, m + 1 => by cases s
  | n + 1, d, s, k, m + 1 => by
    cases d with
    | tup xs =>
      have s2 := (sol_tup s).2
      unfold kS at k
      simp only [Bool.and_eq_true, List.all_eq_true, Bool.or_eq_true] at k
      show ((!decide (kindD (.tup xs) = "call") || keyOk ((D.tup xs).ix 1)) && xs.all (kOk m)) = true
      simp only [Bool.and_eq_true, List.all_eq_true, Bool.or_eq_true]
      refine ⟨?_, fun x hx => kOk_any (s2 x hx) (k.2 x hx) m⟩
      rcases k.1 with q | q
      · exact .inl q
      · right
        obtain ⟨z, e⟩ := str_of q
        rw [e]
        rfl
    | _ => rfl
def preB (n : Nat) : List D → Prop := fun ds => ∃ d, ds = [d] ∧ sol n d = true ∧ kS n d = true
def postB (n : Nat) : List D → D → Prop := fun ds e => ∃ d, ds = [d] ∧ Bent (n + 2) e ∧ (d.isTup = false → e ∈ kindsL)
/-- a tuple with one item changed -/
theorem bent_tup {n : Nat} {xs : List D} {j : Nat} {d e : D} (hs : sol (n + 1) (.tup xs) = true) (hk : kS (n + 1) (.tup xs) = true) (hd : xs[j]? = some d) (he : Bent (n + 2) e) (hed : d.isTup = false → e ∈ kindsL) : Bent (n + 3) (.tup ((xs.take j ++ [e]) ++ xs.drop (j + 1))) := by
  have s2 := sol_tup hs
  have hj : j < xs.length := (List.getElem?_eq_some_iff.mp hd).1
  have k2 := hk
  unfold kS at k2
  simp only [Bool.and_eq_true, List.all_eq_true, Bool.or_eq_true] at k2
  have mem : ∀ x ∈ (xs.take j ++ [e]) ++ xs.drop (j + 1), x ∈ xs ∨ x = e := fun x hx => by
    rcases List.mem_append.mp hx with q | q
    · rcases List.mem_append.mp q with q | q
      · exact .inl (List.mem_of_mem_take q)
      · exact .inr (List.mem_singleton.mp q)
    · exact .inl (List.mem_of_mem_drop q)
  have hlen : ((xs.take j ++ [e]) ++ xs.drop (j + 1)).length = xs.length := by
    rw [List.length_append, List.length_append, List.length_take, List.length_drop, List.length_singleton]
    omega
  refine ⟨?_, ?_, fun m => ?_, fun z => by cases z⟩
  · show (decide (((xs.take j ++ [e]) ++ xs.drop (j + 1)).length ≤ 1000) && ((xs.take j ++ [e]) ++ xs.drop (j + 1)).all (G3.fit (n + 2))) = true
    rw [hlen, decide_eq_true s2.1, Bool.true_and, List.all_eq_true]
    intro x hx
    rcases mem x hx with q | q
    · exact fit_le (by omega) (sol_fit (s2.2 x q))
    · rw [q]; exact he.fit
  · show nls _ = true
    refine nls_all fun x hx => ?_
    rcases mem x hx with q | q
    · exact sol_nl (s2.2 x q)
    · rw [q]; exact he.nl
  · cases m with
    | zero => rfl
    | succ m =>
      show ((!decide (kindD (.tup ((xs.take j ++ [e]) ++ xs.drop (j + 1))) = "call") || keyOk ((D.tup ((xs.take j ++ [e]) ++ xs.drop (j + 1))).ix 1)) && ((xs.take j ++ [e]) ++ xs.drop (j + 1)).all (G3.kOk m)) = true
      simp only [Bool.and_eq_true, List.all_eq_true, Bool.or_eq_true]
      refine ⟨?_, fun x hx => ?_⟩
      · cases j with
        | zero =>
          left
          have h1 : ¬ kindD (.tup (([] ++ [e]) ++ xs.drop 1)) = "call" := fun z => by
            cases e with
            | str k =>
              have z : k = "call" := z
              exact he.no (by rw [z])
            | _ => revert z; show ¬ ("" : Str) = "call"; decide
          rw [show (xs.take 0 ++ [e]) = ([] ++ [e]) by simp]
          rw [decide_eq_false h1]
          rfl
        | succ j =>
          obtain ⟨x0, xr, rfl⟩ : ∃ x0 xr, xs = x0 :: xr := by
            cases xs with
            | nil => simp at hd
            | cons a b => exact ⟨a, b, rfl⟩
          by_cases hc : kindD (.tup (x0 :: xr)) = "call"
          · right
            rcases k2.1 with q | q
            · rw [hc] at q
              cases q
            · obtain ⟨nm, hnm⟩ := str_of q
              cases j with
              | zero =>
                have hix : d = .str nm := by
                  cases xr with
                  | nil => simp at hd
                  | cons x1 xt =>
                    have e1 : x1 = d := by simpa using hd
                    have e2 : x1 = .str nm := hnm
                    rw [← e1, e2]
                have he2 : e ∈ kindsL := hed (by rw [hix]; rfl)
                exact (kind_bent he2).2
              | succ j =>
                cases xr with
                | nil => simp at hd
                | cons x1 xt =>
                  have e2 : x1 = .str nm := hnm
                  show keyOk x1 = true
                  rw [e2]
                  rfl
          · left
            have e3 : kindD (.tup (((x0 :: xr).take (j + 1) ++ [e]) ++ (x0 :: xr).drop (j + 1 + 1))) = kindD (.tup (x0 :: xr)) := by
              rw [List.take_succ_cons, List.cons_append, List.cons_append]
              cases x0 <;> rfl
            rw [e3, decide_eq_false hc]
            rfl
      · rcases mem x hx with q | q
        · exact kOk_any (s2.2 x q) (k2.2 x q) m
        · rw [q]; exact he.kOk m
section
variable {P : Program} {w : World} {K : PySem.W.Frag} {mg : Str → Option Value} {base : Heap} {T : List Addr} {cd : Value} {n : Nat}
abbrev nmB : List Str := ["_law_row", "_law_one", "_law_kinds", "_law_at"]
def stIf : Stmt → List Stmt
  | .If _ b _ _ => b
  | _ => []
def asgE : Stmt → Expr
  | .Assign _ e _ => e
  | _ => .List [] ⟨0, 0, 0, 0⟩
def binR : Expr → Expr
  | .BinOp _ _ e _ => e
  | e => e
def lstEs : Expr → List Expr
  | .List es _ => es
  | _ => []
@[irreducible] def exA : List Expr := lstEs (asgE ((stIf ((fnBody (top 62)).getD 0 (.Pass ⟨0, 0, 0, 0⟩))).getD 0 (.Pass ⟨0, 0, 0, 0⟩)))
@[irreducible] def exB : List Expr := lstEs (binR (asgE ((stIf ((fnBody (top 62)).getD 0 (.Pass ⟨0, 0, 0, 0⟩))).getD 1 (.Pass ⟨0, 0, 0, 0⟩))))
theorem exA_cst : cstL (cst 3) exA = some kindsA := by kernel_rfl
theorem exB_cst : cstL (cst 3) exB = some kindsB := by kernel_rfl
theorem kindsA_len : kindsA.length ≤ 100000 := by unfold kindsA; simp
theorem kindsB_len : kindsB.length ≤ 100000 := by unfold kindsB; simp
theorem kindsAB_len : kindsA.length + kindsB.length ≤ 100000 := by unfold kindsA kindsB; simp
theorem c_exA {T : List Addr} {X : Cx} {σ : L2.St} {B : Hp} {pos : Pos} : C T X (.List exA pos) σ B (.lst kindsA) := by
  have h := exA_cst
  have h2 := kindsA_len
  generalize exA = ks at h ⊢
  exact c_cstL h h2
theorem c_exB {T : List Addr} {X : Cx} {σ : L2.St} {B : Hp} {pos : Pos} : C T X (.List exB pos) σ B (.lst kindsB) := by
  have h := exB_cst
  have h2 := kindsB_len
  generalize exB = ks at h ⊢
  exact c_cstL h h2
theorem kinds_one : 1 ≤ kindsL.length := by unfold kindsL kindsA kindsB; simp
theorem kinds_few : kindsL.length < 1000000 := by unfold kindsL kindsA kindsB; simp
theorem kinds_cat : D.lst (kindsA ++ kindsB) = .lst kindsL := by unfold kindsL; rfl
theorem lst_free {xs : List D} (h : ∀ d ∈ xs, d.nl = true) (hl : 5 ≤ xs.length) : (D.lst xs).free = true := by
  show (nls xs && notRow xs) = true
  rw [nls_all h, Bool.true_and]
  match xs, hl with
  | a :: b :: c :: d :: _ :: _, _ => cases a <;> cases b <;> cases c <;> cases d <;> rfl
theorem kinds_free : (D.lst kindsL).free = true := lst_free (fun d hd => (kind_bent hd).1.nl) (by unfold kindsL kindsA kindsB; simp)
theorem kindsA_free : (D.lst kindsA).free = true := lst_free (fun d hd => (kind_bent (by unfold kindsL; exact List.mem_append_left _ hd)).1.nl) (by unfold kindsA; simp)
theorem dr_bent (M : Mgs K mg) (CTk : Cal P w K mg base 1 "_law_taken" (spR K T 1 preTk postTk) []) (CPk : Cal P w K mg base 2 "_law_pick" (spR K T 1 prePk postPk) []) (F : Dfn K mg "_law_bent" (top 62) cd) : ∀ n, Cal P w K mg base (n + 3) "_law_bent" (spR K T 1 (preB n) (postB n)) []
  | 0 => calR (k := 2) (N := nmB) (ps := ["_law_row", "_law_one"]) F (by decide +kernel) rfl (fun _ _ _ _ _ us hl => match us, hl with | [_, _], _ => rfl) fun f A outer s H E r sc ns us ds B hr hn hv hp hT => by
      obtain ⟨d, _, h, _⟩ := hp
      cases h
  | n + 1 => by
    have ih := dr_bent M CTk CPk F n
    refine calR (k := n + 3) (N := nmB) (ps := ["_law_row", "_law_one"]) F (by decide +kernel) rfl (fun _ _ _ _ _ us hl => match us, hl with | [_, _], _ => rfl) fun f A outer s H E r sc ns us ds B hr hn hv hp hT => ?_
    obtain ⟨d, rfl, hs, hk⟩ := hp
    obtain ⟨y, rfl, hy⟩ := dats1 hv
    have nd : nmB.Nodup := by decide
    have hu : ∀ {u : Nat}, u + 16 * (n + 3) + 200 < cLine → u < cLine := fun h => by omega
    have fin : ∀ {e : D}, e ∈ kindsL → postB (n + 1) [d] e := fun h => ⟨d, rfl, (kind_bent h).1.le (by omega), fun _ => h⟩
    have tkI : ∀ {m : Int} {d : D}, (∃ i, d = .int i ∧ 0 ≤ i ∧ i < m) → ∃ i, d = .int i := fun ⟨i, e, _⟩ => ⟨i, e⟩
    refine wr_if (Pc := fun k => k = false → ∃ xs, d = .tup xs ∧ 1 ≤ xs.length) (ctr_w (cwr_or (P' := fun k => k = !d.isTup) (ctr_c (ct_not (ct_val (c_isi_tuple M.B (ha := cv 1 hy))))) (fun hk1 => ?_) fun _ h => nomatch h)) (fun _ => ?_) fun hne => ?_
    · have hd : d.isTup = true := by
        cases hq : d.isTup with
        | true => rfl
        | false => rw [hq] at hk1; cases hk1
      obtain ⟨xs, rfl⟩ := tup_of hd
      refine cwr_or (P' := fun k => k = xs.isEmpty) (ctr_c (ct_c (c_eqT0 (hu hr.un) (cv 1 hy) (c_tup ca_nil)))) (fun h => cwr_or1 ((cr_eq ((cr_taken (m := 3) CTk hr (by omega) hT rfl c_int (by decide) (by decide)).imp fun _ h => tkI h) c_int).imp fun _ _ _ => ⟨xs, rfl, ?_⟩)) fun _ h => nomatch h
      cases xs with
      | nil => cases h
      | cons a b => simp
    · have ktA : ∀ {X' : Cx} {σ' : L2.St} {B' : Hp} {es : List Expr} {ps : Pos}, es = exA → C T X' (.List es ps) σ' B' (.lst kindsA) := fun h => by
        rw [h]
        exact c_exA
      refine wr_set (i := 2) (P1 := (· = .lst kindsA)) nd (cr_c (d := .lst kindsA) (ktA (by kernel_rfl)) kindsA_free) fun v2 d2 B2 e2 h2 hp2 => ?_
      subst hp2
      have kt : ∀ {X' : Cx} {σ' : L2.St} {B' : Hp} {es : List Expr} {ps : Pos}, es = exB → C T X' (.List es ps) σ' B' (.lst kindsB) := fun h => by
        rw [h]
        exact c_exB
      have hcat : ∀ {pos1 pos2 p : Pos} {es : List Expr}, cstL (cst 3) es = some kindsB → C T (XF P w K mg base nmB "_law_bent" (top 62) f cd A outer s H E) (.BinOp (.Name "_law_kinds" p) .Add (.List es pos1) pos2) ((start nmB [.ref r, y]).set 2 (some v2)) B2 (.lst kindsL) := fun {pos1 pos2 p es} h => by
        have hb : C T (XF P w K mg base nmB "_law_bent" (top 62) f cd A outer s H E) (.List es pos1) ((start nmB [.ref r, y]).set 2 (some v2)) B2 (.lst kindsB) := by
          exact c_cstL h kindsB_len
        have ha : C T (XF P w K mg base nmB "_law_bent" (top 62) f cd A outer s H E) (.Name "_law_kinds" p) ((start nmB [.ref r, y]).set 2 (some v2)) B2 (.lst kindsA) := cv 2 h2
        exact C.is (c_catL ha hb kindsAB_len) kinds_cat
      refine wr_set (i := 2) (P1 := (· = .lst kindsL)) nd (cr_c (d := .lst kindsL) (hcat ?heq) kinds_free) ?rest
      case heq => kernel_rfl
      refine fun v3 d3 B3 e3 h3 hp3 => ?_
      subst hp3
      exact wr_ret ((cr_pick (xs := kindsL) CPk hr (by omega) (e3.tab (e2.tab hT)) rfl (cv 2 h3) kinds_free kinds_one kinds_few).imp fun _ h => fin h)
    obtain ⟨xs, rfl, h1⟩ := hne rfl
    have s2 := sol_tup hs
    have k2 := hk
    unfold kS at k2
    simp only [Bool.and_eq_true, List.all_eq_true, Bool.or_eq_true] at k2
    refine wr_set (i := 3) nd (cr_taken (m := xs.length) CTk hr (by omega) hT rfl (c_lenT M.B (cv 1 hy)) (by omega) (by omega)) fun va da B2 e2 ha hp2 => ?_
    obtain ⟨i, rfl, i0, i1⟩ := hp2
    obtain ⟨j, rfl⟩ : ∃ j : Nat, i = j := ⟨i.toNat, by omega⟩
    have hj : j < xs.length := by omega
    have hT2 := e2.tab hT
    have hy2 := hy.mono e2
    have hdj : xs[j]? = some xs[j] := List.getElem?_eq_getElem hj
    have hmem := List.mem_of_getElem? hdj
    have nlx : ∀ {zs : List D}, (∀ z ∈ zs, z ∈ xs) → (D.tup zs).nl = true := fun h => by
      unfold D.nl
      exact nls_all fun z hz => sol_nl (s2.2 z (h z hz))
    refine wr_ret ((cr_cat (Pa := fun zs => ∃ e, Bent (n + 2) e ∧ (xs[j].isTup = false → e ∈ kindsL) ∧ zs = xs.take j ++ [e]) (Pb := fun zs => zs = xs.drop (j + 1)) ((cr_cat (Pa := fun zs => zs = xs.take j) (Pb := fun zs => ∃ e, zs = [e] ∧ Bent (n + 2) e ∧ (xs[j].isTup = false → e ∈ kindsL)) ((cr_c (c_upto (k := j) (cv 1 hy2) (cv 3 ha)) (free_nl (nlx fun z hz => List.mem_of_mem_take hz))).imp fun d h => ⟨_, h, rfl⟩)
      ((cr_tup (car_cons (cr_call ih hr (by omega) hT2 rfl (car_cons (cr_c (c_ixT (cv 1 hy2) (cv 3 ha) (fun _ _ => rfl) (ixN_nat hj) hdj) (free_nl (sol_nl (s2.2 _ hmem)))) car_nil) fun l hl => ?_) car_nil) fun l hl => ?_).imp fun d h => ?_) fun zs ys h1 h2 => ?_).imp fun d h => ?_) ((cr_c (c_from (k := j + 1) (cv 1 hy2) (C.is (c_add (cv 3 ha) c_int) rfl)) (free_nl (nlx fun z hz => List.mem_of_mem_drop hz))).imp fun d h => ⟨_, h, rfl⟩) fun zs ys h1 h2 => ?_).imp fun d h => ?_)
    · obtain ⟨_, _, rfl, rfl, rfl⟩ := hl
      exact ⟨rfl, _, rfl, s2.2 _ hmem, k2.2 _ hmem⟩
    · obtain ⟨_, _, rfl, _, rfl⟩ := hl
      simp
    · obtain ⟨l, rfl, e, t, rfl, ⟨l2, ⟨_, _, rfl, rfl, rfl⟩, d', e', hb, hk'⟩, rfl⟩ := h
      cases e'
      exact ⟨_, rfl, e, rfl, hb, hk'⟩
    · obtain ⟨e, rfl, _⟩ := h2
      rw [h1, List.length_take, List.length_singleton]
      have := s2.1
      omega
    · obtain ⟨zs, rfl, x1, x2, rfl, rfl, e, rfl, hb, hk'⟩ := h
      exact ⟨_, rfl, e, hb, hk', rfl⟩
    · obtain ⟨e, _, _, rfl⟩ := h1
      rw [h2, List.length_append, List.length_take, List.length_drop, List.length_singleton]
      have := s2.1
      omega
    · obtain ⟨zs, rfl, x1, x2, rfl, ⟨e, hb, hk', rfl⟩, rfl⟩ := h
      exact ⟨_, rfl, bent_tup hs hk hdj hb hk', fun z => by cases z⟩
end
end G3

set_option Elab.async false
set_option linter.all false
set_option maxRecDepth 100000
set_option maxHeartbeats 2000000
namespace G3
open PySem PySem.Spec PyProof.Rows L2 GX
open GxR (TabG Tabbed)
open C8 (Cal scC fnArgs fnBody fnScope pe_c E0 fnScope_by)

/-! ## law -/
section
variable {T : List Addr} {r sc : Addr} {ns : List Int} {X : Cx} {σ : L2.St} {B B' : Hp} {e a b c : Expr} {es : List Expr} {rest body : List Stmt} {d : D} {pos p p2 q : Pos} {P P' : D → Prop} {N : L2.St → Hp → Prop}
theorem cr_callJ {x : Str} {k j n i0 : Nat} {pre : List D → Prop} {Post : List D → D → Prop} {P2 : List D → Prop} {nm : Str} (F : Cal X.prog X.w X.K X.mg X.base k x (spR X.K T n pre Post) []) (hr : Room j X.A) (hk : k ≤ j) (hT : Tb T B) (hσ : σ[i0]? = some (some (.ref r))) (ha : CAR T r sc ns X es σ B P2) (hn : ∀ l, P2 l → l.length = n ∧ pre l)
    (hN : X.N[i0]? = some nm := by rfl) (hvis : Vis X.env.scope nm := by first | exact Or.inl rfl | exact Or.inr (Or.inl rfl) | exact Or.inr (Or.inr rfl)) (h1 : (nm == ("__debug__" : Str)) = false := by decide) (h2 : (nm == ("__classdict__" : Str)) = false := by decide) (hg : Gl X x := by rfl)
    (hdb : (x == ("__debug__" : Str)) = false := by decide) (he : starEach (.Name nm p2 :: es) X.env = (false, eval (.Name nm p2) X.env) :: starEach es X.env := by rfl) (hpl : (backTo pos (starEach es X.env)).any (·.1) = false := by rfl) :
    CR T r sc ns X (.Call (.Name x p) (.Name nm p2 :: es) [] pos) σ B (fun d => ∃ l, P2 l ∧ Post l d) := fun H1 e1 R Q q pins s I =>
  (pe_c F hr hk hg (pa_cons (pv i0 hN hvis h1 h2) pa_s he) hdb he hpl).run pins s σ H1 Q I ⟨_, hσ, ha H1 e1 R _ fun vs H2 ds e2 R2 hv hp => ⟨r, sc, ns, vs, ds, by rw [List.append_nil], (hn ds hp).1, hv, (hn ds hp).2, R2, (e1.trans e2).tab hT, fun v H' d e3 R3 hv3 hp3 => q v H' d (e2.trans e3) R3 hv3 ⟨ds, hp, hp3⟩⟩⟩
/-- no draws any more -/
theorem wr_w (h : W T X body σ B (some d) PF) (hf : d.free = true) (hp : P d) : WR T r sc ns X body σ B P N := fun H1 e1 R E k n => h H1 (e1.trans ex_hid) E (fun v H2 d0 hd e2 hv => by
    cases hd
    exact k v H2 d (ex_hidR R e2) (R.keep e2) (free_hid (R.keep e2) hf hv) hp) fun σ' H2 e2 hn => hn.elim
theorem wr_range {m j : Nat} {tg : Expr} (Pv : L2.St → Prop) (Bl : Blt X.mg) (hpo : PassesOwn (model X.prog X.w) X.A X.env X.xe) (hc : X.calm = true) (hm : m ≤ 1000) (hcm : C T X c σ B (.int m)) (hg : PG X tg (gName j)) (h0 : Pv σ)
    (hs : ∀ σ' B' v, Ex T B B' → Pv σ' → WR T r sc ns X body (σ'.set j (some v)) B' P (fun σ'' _ => Pv σ'')) (hr : ∀ σ' B', Ex T B B' → Pv σ' → WR T r sc ns X rest σ' B' P N)
    (hgr : Gl X "range" := by rfl) (hs1 : starEach [c] X.env = (false, eval c X.env) :: starEach [] X.env := by rfl) (hs2 : starEach [c] X.env = [(false, eval c X.env)] := by rfl) (hfold : ∀ x, foldedSetIterable (.Call (.Name "range" q) [c] [] p) X.env x = pure x := by intro _; rfl) :
    WR T r sc ns X (.For tg (.Call (.Name "range" q) [c] [] p) body [] pos :: rest) σ B P N :=
  wr_of (pss_cons (ps_for hpo hc (pi_range1 hgr Bl.range (pa_cons pe_s pa_nil hs1) hs2) hg pss_s hfold) pss_s) fun H1 e1 R E k n => hcm H1 (e1.trans ex_hid) _ fun v H2 e2 hv => ⟨(m : Int), by rw [dat_int.mp hv], by omega, by omega, by
    have eh := ex_hidR R e2
    refine for_range (lo := 0) (n := (m : Int).toNat) (fun i σ' H' => Ex T (hid r H2) (hid r H') ∧ Rw X.K r sc ns H' ∧ Pv σ') ⟨Ex.refl T _, R.keep e2, h0⟩ (fun i σ' H' hi hp => ?_) fun σ' H' hp => ?_
    · obtain ⟨e3, R3, hP⟩ := hp
      exact hs σ' (hid r H') (.int (0 + (i : Int))) ((e1.trans eh).trans e3) hP H' (Ex.refl T _) R3 _ (fun v H4 d e4 R4 hv hp => k v H4 d ((eh.trans e3).trans e4) R4 hv hp) fun σ'' H4 e4 R4 hp4 => ⟨e3.trans e4, R4, hp4⟩
    · obtain ⟨e3, R3, hP⟩ := hp
      exact hr σ' (hid r H') ((e1.trans eh).trans e3) hP H' (Ex.refl T _) R3 E (fun v H4 d e4 R4 hv hp => k v H4 d ((eh.trans e3).trans e4) R4 hv hp) fun σ'' H4 e4 R4 hp4 => n σ'' H4 ((eh.trans e3).trans e4) R4 hp4⟩
end
/-- what the two judges are asked of -/
def trip (x : D) : Prop := ∃ nm l body, x = .tup [.str nm, .int l, body] ∧ nm.length ≤ 1000 ∧ fit 10 body = true ∧ body.nl = true ∧ kOk 10 body = true
structure Okx (xs : List D) : Prop where
  all : ∀ x ∈ xs, trip x
  len : xs.length ≤ 1000
theorem trip_of {x : D} (h : prT x) : trip x := by
  obtain ⟨nm, m, bd, rfl, h1, _, _, g⟩ := h
  have g := g.le (show 8 ≤ 10 by decide)
  exact ⟨nm, m, bd, rfl, h1, sol_fit g.sol, sol_nl g.sol, kS_kOk g.kS⟩
theorem trip_kind {nm : Str} {l : Int} {b : D} : ¬ kindD (.tup [.str nm, .int l, b]) = "call" ∨ keyOk ((D.tup [.str nm, .int l, b]).ix 1) = true := .inr rfl
theorem Okx.fit {xs : List D} (h : Okx xs) : fit 12 (.tup xs) = true := by
  show (decide (xs.length ≤ 1000) && xs.all (G3.fit 11)) = true
  rw [decide_eq_true h.len, Bool.true_and, List.all_eq_true]
  intro x hx
  obtain ⟨nm, l, b, rfl, h1, h2, _⟩ := h.all x hx
  show (decide (3 ≤ 1000) && (decide (nm.length ≤ 1000) && (true && (G3.fit 10 b && true)))) = true
  rw [decide_eq_true h1, h2]
  rfl
theorem Okx.nl {xs : List D} (h : Okx xs) : (D.tup xs).nl = true := by
  show nls xs = true
  refine nls_all fun x hx => ?_
  obtain ⟨nm, l, b, rfl, h1, h2, h3, _⟩ := h.all x hx
  show nls [.str nm, .int l, b] = true
  exact nls_all fun d hd => by
    rcases List.mem_cons.mp hd with q | q
    · rw [q]; rfl
    · rcases List.mem_cons.mp q with q | q
      · rw [q]; rfl
      · rw [List.mem_singleton.mp q]; exact h3
theorem Okx.kOk {xs : List D} (h : Okx xs) : kOk 12 (.tup xs) = true := by
  have hk : ¬ kindD (.tup xs) = "call" := fun z => by
    cases xs with
    | nil => revert z; decide
    | cons x r =>
      obtain ⟨nm, l, b, rfl, _⟩ := h.all x List.mem_cons_self
      revert z
      show ¬ ("" : Str) = "call"
      decide
  show ((!decide (kindD (.tup xs) = "call") || _) && xs.all (G3.kOk 11)) = true
  rw [decide_eq_false hk]
  show (true && _) = true
  rw [Bool.true_and, List.all_eq_true]
  intro x hx
  obtain ⟨nm, l, b, rfl, h1, h2, h3, h4⟩ := h.all x hx
  show ((!decide (kindD (.tup [.str nm, .int l, b]) = "call") || true) && (true && (true && (G3.kOk 10 b && true)))) = true
  rw [h4, Bool.or_true]
  rfl
theorem Okx.triples {xs : List D} (h : Okx xs) : ∀ d ∈ xs, triple d := fun d hd => by
  obtain ⟨nm, l, b, e, _⟩ := h.all d hd
  exact ⟨nm, l, b, e⟩
section
variable {P : Program} {w : World} {K : PySem.W.Frag} {mg : Str → Option Value} {base : Heap} {T : List Addr} {cd : Value}
variable {X : Cx} {σ : L2.St} {H : Hp} {a b : Expr} {p1 p2 p3 pos pos1 pos2 : Pos} {j : Nat} {xs : List D}
/-- the two judges agree -/
theorem c_judge (CA : Cal X.prog X.w X.K X.mg X.base 14 "_law_alike" (spD T 2 (preA 13) fTrue) []) (CP : Cal X.prog X.w X.K X.mg X.base 26 "is_program" (spD T 1 (preFit 12) (fPr 10)) []) (CL : Cal X.prog X.w X.K X.mg X.base 24 "_law_is_program" (spD T 1 (preLP 10) (fLP 10)) [])
    (hr : Room j X.A) (hj : 26 ≤ j) (hT : Tb T H) (ha : C T X a σ H (.tup xs)) (hb : C T X b σ H (.tup xs)) (ok : Okx xs) (g1 : Gl X "_law_alike" := by rfl) (g2 : Gl X "is_program" := by rfl) (g3 : Gl X "_law_is_program" := by rfl)
    (s1 : starEach [a] X.env = (false, eval a X.env) :: starEach [] X.env := by rfl) (s2 : starEach [b] X.env = (false, eval b X.env) :: starEach [] X.env := by rfl) :
    C T X (.Call (.Name "_law_alike" p1) [.Call (.Name "is_program" p2) [a] [] pos1, .Call (.Name "_law_is_program" p3) [b] [] pos2] [] pos) σ H (.bl true) :=
  cc CA hr (by omega) hT (ca_cons (cc CP hr (by omega) hT (ca_cons ha ca_nil s1) rfl ⟨_, rfl, ok.fit⟩ rfl g2 (by decide) s1 (by rfl)) (ca_cons (cc CL hr (by omega) hT (ca_cons hb ca_nil s2) rfl ⟨_, rfl, ok.fit, ok.nl, ok.kOk, ok.triples⟩ rfl g3 (by decide) s2 (by rfl)) ca_nil)) rfl ⟨.bl (isPr 10 (.tup xs)), by
    show [D.bl (isPr 10 (.tup xs)), D.bl (lPr 10 xs)] = _
    rw [lPr_isPr ok.triples], rfl⟩ rfl g1
/-- what is no program -/
theorem c_nojudge (CA : Cal X.prog X.w X.K X.mg X.base 14 "_law_alike" (spD T 2 (preA 13) fTrue) []) (CP : Cal X.prog X.w X.K X.mg X.base 26 "is_program" (spD T 1 (preFit 12) (fPr 10)) []) {d : D}
    (hr : Room j X.A) (hj : 26 ≤ j) (hT : Tb T H) (ha : C T X a σ H d) (hf : fit 12 d = true) (hd : isPr 10 d = false) {kk : Nat} (g1 : Gl X "_law_alike" := by rfl) (g2 : Gl X "is_program" := by rfl)
    (s1 : starEach [a] X.env = (false, eval a X.env) :: starEach [] X.env := by rfl) :
    C T X (.Call (.Name "_law_alike" p1) [.Call (.Name "is_program" p2) [a] [] pos1, .Constant (.bool false) kk pos2] [] pos) σ H (.bl true) :=
  cc CA hr (by omega) hT (ca_cons (cc CP hr (by omega) hT (ca_cons ha ca_nil s1) rfl ⟨_, rfl, hf⟩ rfl g2 (by decide) s1 (by rfl)) (ca_cons c_bl ca_nil)) rfl ⟨.bl false, by
    show [D.bl (isPr 10 d), D.bl false] = _
    rw [hd], rfl⟩ rfl g1
theorem c_dict0 {T : List Addr} {X : Cx} {σ : L2.St} {H : Hp} {pos : Pos} : C T X (.Dict [] [] pos) σ H (.dic [] []) := c_of pe_dnewK fun H1 e1 Q q => fun p hp => q _ _ (Ex.new hp) (dat_dic.mpr ⟨p, [], rfl, upd_same, dats_nil.mpr rfl⟩)
theorem calls_sol {m : Nat} : ∀ {k : Nat} {v c : D}, sol m v = true → c ∈ callsD k v → sol m c = true
  | 0, v, c, h, hc => by cases hc
  | k + 1, v, c, h, hc => by
    rcases calls_mem.mp hc with ⟨_, rfl⟩ | ⟨x, hx, hc⟩
    · exact h
    · refine calls_sol (k := k) ?_ hc
      unfold partsD at hx
      split at hx
      · rename_i kk r
        cases m with
        | zero => cases h
        | succ m =>
          have hs := (sol_tup h).2
          split at hx
          · cases hx
          · split at hx
            · have hl := hs _ (lastL_mem (x := .str kk) (r := r))
              cases hd : lastL (.str kk :: r) with
              | tup ys =>
                rw [hd] at hl hx
                cases m with
                | zero => cases hl
                | succ m => exact sol_up (sol_up ((sol_tup hl).2 x hx))
              | _ => rw [hd] at hx; cases hx
            · exact sol_up (hs x (List.mem_cons_of_mem _ hx))
      · cases hx
abbrev nmLaw : List Str := ["_law_script", "_law_row", "_law_program_here", "_law_at", "_law_name_here", "_law_many", "_law_body_here", "_law_turn", "_law_other", "_law_other_row", "_law_value", "_law_one", "_law_size", "_law_part"]
def spLawG (K : PySem.W.Frag) (T : List Addr) : Sp := fun vs H Q _ => ∃ (sc : Addr) (ns : List Int), vs = [.ref sc] ∧ SqL K H sc (ns.map V.int) ∧ ns.length ≤ 63 ∧ Tb T H ∧ ∀ H', Q (.bl true) H'
/-- the calls that law makes -/
structure Calls (P : Program) (w : World) (K : PySem.W.Frag) (mg : Str → Option Value) (base : Heap) (T : List Addr) : Prop where
  A : Cal P w K mg base 14 "_law_alike" (spD T 2 (preA 13) fTrue) []
  Ip : Cal P w K mg base 26 "is_program" (spD T 1 (preFit 12) (fPr 10)) []
  L : Cal P w K mg base 24 "_law_is_program" (spD T 1 (preLP 10) (fLP 10)) []
  Pr : Cal P w K mg base 32 "_law_program" (spR K T 1 preMv postP) []
  Tk : Cal P w K mg base 1 "_law_taken" (spR K T 1 preTk postTk) []
  Bn : Cal P w K mg base 11 "_law_bent" (spR K T 1 (preB 8) (postB 8)) []
  Fn : Cal P w K mg base 28 "functions" (spD T 1 (preP 10) fFunctions) []
  Nc : Cal P w K mg base 28 "node_count" (spD T 1 (preP 10) (fCount 10)) []
  Cs : Cal P w K mg base 29 "calls" (spD T 2 (preNN 10) (fCallsOf 10)) []
  Ie : Cal P w K mg base 24 "is_early" (spD T 1 (preE 10) (fEarly 10)) []
  Le : Cal P w K mg base 23 "_law_is_early" (spD T 1 (preLw 10) (fEarly 10)) []
  Ln : Cal P w K mg base 23 "_law_nodes" (spD T 1 (preLw 10) (fNodes 10)) []
  Lc : Cal P w K mg base 23 "_law_calls" (spD T 1 (preCalls 10) (fCalls 10)) []
theorem okx_take {xs : List D} {n : Nat} (h : Okx xs) : Okx (xs.take n) := ⟨fun x hx => h.all x (List.mem_of_mem_take hx), by rw [List.length_take]; have := h.len; omega⟩
theorem okx_drop {xs : List D} {n : Nat} (h : Okx xs) : Okx (xs.drop n) := ⟨fun x hx => h.all x (List.mem_of_mem_drop hx), by rw [List.length_drop]; have := h.len; omega⟩
theorem okx_app {xs ys : List D} (h : Okx xs) (h2 : Okx ys) (hl : xs.length + ys.length ≤ 1000) : Okx (xs ++ ys) := ⟨fun x hx => by
  rcases List.mem_append.mp hx with q | q
  · exact h.all x q
  · exact h2.all x q, by rw [List.length_append]; exact hl⟩
theorem okx_one {x : D} (h : trip x) : Okx [x] := ⟨fun y hy => by rw [List.mem_singleton.mp hy]; exact h, by simp⟩
theorem isPr_one {n : Nat} {x : D} (h : isFn n x = false) : isPr n (.tup [x]) = false := by
  unfold isPr
  simp [h]
theorem sumN_ge {n : Nat} : ∀ {xs : List D} {nm l b : D}, D.tup [nm, l, b] ∈ xs → nodesD n b ≤ sumN n xs
  | [], _, _, _, h => by cases h
  | x :: xs, nm, l, b, h => by
    have e : sumN n (x :: xs) = nodesD n (x.ix 2) + sumN n xs := rfl
    have p : ∀ ys : List D, 0 ≤ sumN n ys := fun ys => by
      induction ys with
      | nil => exact Int.le_refl 0
      | cons y ys ih =>
        have e : sumN n (y :: ys) = nodesD n (y.ix 2) + sumN n ys := rfl
        have := nodes_pos n (y.ix 2)
        omega
    rcases List.mem_cons.mp h with rfl | h
    · have := p xs
      have e2 : (D.tup [nm, l, b]).ix 2 = b := rfl
      rw [e2] at e
      omega
    · have := sumN_ge (n := n) h
      have := nodes_pos n (x.ix 2)
      omega
section
variable {P : Program} {w : World} {K : PySem.W.Frag} {mg : Str → Option Value} {base : Heap} {T : List Addr} {cd : Value}
/-- what a def's code keeps to, by what lies at its address -/
def FnG (P : Program) (w : World) (K : PySem.W.Frag) (mg : Str → Option Value) (base : Heap) (k : Nat) (x : Str) (st : Stmt) (cd : Value) (ps : List Str) (sp : Sp) : Prop :=
  ∀ (f : Addr) (oc : Value) (od : Option Addr) (kV doc pm : Value) (an : Option Addr) (ct : Value) (osl : Array (Option Value)), K.lookup f = some ⟨oc, od, .func (PySem.W.fnOf x x (fnArgs st) (fnBody st) (fnScope st) .none kV doc pm an cd ct), osl⟩ → PySem.W.codeIn K cd x = true →
    FnOk P w K mg base CX0 k f (PySem.W.fnOf x x (fnArgs st) (fnBody st) (fnScope st) .none kV doc pm an cd ct) ps sp
theorem fnG {x : Str} {st : Stmt} {N ps : List Str} {k : Nat} {sp : Sp} (S : scC N ps (fnScope st) = true) (len : ∀ vs H Q E, sp vs H Q E → vs.length = ps.length)
    (body : ∀ (f : Addr) (A : Around) (outer : List Env) (s : Shared) (H : Hp) (E : XK) (vs : List V) (Q : VK), Room k (XF P w K mg base N x st f cd A outer s H E).A → sp vs H Q E → tSS (XF P w K mg base N x st f cd A outer s H E) (fnBody st) { nx := fun _ H' => Q .non H', rt := Q } (start N vs) H) :
    FnG P w K mg base (k + 1) x st cd ps sp := fun f oc od kV doc pm an ct osl h3 h4 => by
  refine fn_of h3 h4 (fnScope_by S) len fun A outer s H vs Q E hr hsp => ?_
  exact ⟨_, PSs.nox pss_s, body f A outer s H E vs Q hr hsp⟩
theorem the_law (M : Mgs K mg) (cs : Calls P w K mg base T) : FnG P w K mg base 65 "law" (top 63) cd ["_law_script"] (spLawG K T) := by
  refine fnG (k := 64) (N := nmLaw) (ps := ["_law_script"]) (by decide +kernel) (fun vs H Q E h => ?_) fun f A outer s0 H E vs Q hr h => ?_
  · obtain ⟨sc, ns, rfl, _⟩ := h
    rfl
  obtain ⟨sc, ns, rfl, hS, h63, hT, q⟩ := h
  have Bl := M.B
  have nd : nmLaw.Nodup := by decide
  have hu : ∀ {u : Nat}, u + 16 * 64 + 200 < cLine → u < cLine := fun h => by omega
  refine ss_of (pss_cons (ps_set (i := 1) nd rfl (Or.inl rfl) (pe_lst (pa_cons (pv 0) (pa_cons pe_int (pa_cons pe_int (pa_cons pe_int pa_nil)))))) pss_s) ?_
  refine ⟨_, rfl, by show 4 ≤ sizeLine; decide, fun r hrn => ?_⟩
  have R1 : Rw K r sc ns (upd H r (.lst [.ref sc, .int 0, .int 14000, .int 0])) := by
    refine ⟨0, 14000, 0, upd_same, ?_, ?_, h63, by decide, by decide, by decide⟩
    · rcases hS with h | h
      · refine .inl fun z => ?_
        rcases h with h | ⟨o, h⟩
        · rw [z, hrn] at h; cases h
        · rw [z, hrn] at h; cases h
      · exact .inr h
    · rcases hS with h | h
      · refine sqL_upd (fun z => ?_) (.inl h)
        rcases h with h | ⟨o, h⟩
        · rw [z, hrn] at h; cases h
        · rw [z, hrn] at h; cases h
      · exact .inr h
  have hT1 : Tb T (hid r (upd H r (.lst [.ref sc, .int 0, .int 14000, .int 0]))) := fun p hp => by
    obtain ⟨ps, e, z⟩ := hT p hp
    have nr : p ≠ r := fun z => by rw [z, hrn] at e; cases e
    exact ⟨ps, by rw [hid_ne nr, upd_ne nr]; exact e, z⟩
  refine (show WR T r sc ns (XF P w K mg base nmLaw "law" (top 63) f cd A outer s0 H E) _ _ (hid r (upd H r (.lst [.ref sc, .int 0, .int 14000, .int 0]))) (fun d => d = .bl true) (fun _ _ => False) from ?_) _ (Ex.refl T _) R1 _ (fun v H2 d e2 R2 hv hp => by
    subst hp
    rw [dat_bl.mp hv]
    exact q H2) fun _ _ _ _ z => z.elim
  generalize hid r (upd H r (.lst [.ref sc, .int 0, .int 14000, .int 0])) = B at hT1 ⊢
  clear R1 hS hT hrn
  refine wr_set (i := 2) (P1 := postP []) nd ((cr_callJ (i0 := 1) cs.Pr hr (by omega) hT1 rfl (car_cons (cr_c c_bl rfl) car_nil) fun l hl => ?_).imp fun d h => ?_) fun vp dp B2 e2 hp hP => ?_
  · obtain ⟨_, _, rfl, rfl, rfl⟩ := hl
    exact ⟨rfl, true, rfl⟩
  · obtain ⟨_, _, h⟩ := h
    exact h
  obtain ⟨xs, rfl, hx1, hx4, hpr⟩ := hP
  have ok : Okx xs := ⟨fun x hx => trip_of (hpr x hx), by omega⟩
  have hT2 := e2.tab hT1
  refine wr_if (ctr_c (ct_not (ct_val (c_judge cs.A cs.Ip cs.L hr (by omega) hT2 (cv 2 hp) (cv 2 hp) ok)))) (fun h => nomatch h) fun _ => ?_
  refine wr_set (i := 3) (P1 := fun d => ∃ i, d = .int i ∧ 0 ≤ i ∧ i < (xs.length : Int)) nd ((cr_callJ (i0 := 1) cs.Tk hr (by omega) hT2 rfl (car_cons (cr_c (c_lenT Bl (cv 2 hp)) rfl) car_nil) fun l hl => ?_).imp fun d h => taken_int h) fun va da B3 e3 ha hA => ?_
  · obtain ⟨_, _, rfl, rfl, rfl⟩ := hl
    exact ⟨rfl, _, rfl, by omega, by omega⟩
  obtain ⟨i, rfl, i0, i1⟩ := hA
  obtain ⟨j, rfl⟩ : ∃ j : Nat, i = j := ⟨i.toNat, by omega⟩
  have hj : j < xs.length := by omega
  have hT3 := e3.tab hT2
  have hp3 := hp.mono e3
  have hxj : xs[j]? = some xs[j] := List.getElem?_eq_getElem hj
  obtain ⟨nm, m, bd, hxe, hnl, hm0, hm2, hg⟩ := hpr xs[j] (List.getElem_mem hj)
  rw [hxe] at hxj
  have tnl : (D.tup [.str nm, .int m, bd]).nl = true := prT_nl ⟨nm, m, bd, rfl, hnl, hm0, hm2, hg⟩
  refine wr_asg (P1 := (· = .tup [.str nm, .int m, bd])) (sp := spN 3) (js := [4, 5, 6]) (cr_c (c_ixT (cv 2 hp3) (cv 3 ha) (fun _ _ => rfl) (ixN_nat hj) hxj) (free_nl tnl)) (g3 (a := 4) (b := 5) (c := 6) rfl nd) (tgt_tup [4, 5, 6] rfl) fun d hd => ?_
  subst hd
  refine ⟨_, rfl, tnl, fun vs B4 e4 hvs => ?_⟩
  obtain ⟨u1, u2, u3, rfl, c1, c2, c3⟩ := dats3 hvs
  have hT4 := e4.tab hT3
  have hp4 := hp3.mono e4
  have ha4 := ha.mono e4
  have gb := hg.le (show 8 ≤ 10 by decide)
  have bfree : bd.free = true := free_nl (sol_nl hg.sol)
  have l4 := hx4
  have sub_nl : ∀ {zs : List D}, (∀ z ∈ zs, z ∈ xs) → (D.tup zs).nl = true := fun h => by
    show nls _ = true
    exact nls_all fun z hz => prT_nl (hpr z (h z hz))
  refine wr_range (m := 6) (j := 7) (fun σ' => ∃ x7 x8, σ' = [some (.ref sc), some (.ref r), some vp, some va, some u1, some u2, some u3, x7, x8, none, none, none, none, none]) Bl PassesOwn.never rfl (by decide) c_int (pg_name (i := 7) nd rfl (Or.inl rfl)) ⟨none, none, rfl⟩ (fun σ' B5 v e5 hσ => ?_) fun σ' B5 e5 hσ => ?_
  · obtain ⟨x7, x8, rfl⟩ := hσ
    have hp5 := hp4.mono e5
    have ha5 := ha4.mono e5
    have hT5 := e5.tab hT4
    refine wr_set (i := 8) (P1 := fun d => ∃ zs, d = .tup zs ∧ Okx zs) nd ((cr_cat (Pa := fun zs => ∃ x, trip x ∧ zs = xs.take j ++ [x]) (Pb := fun zs => zs = xs.drop (j + 1)) ((cr_cat (Pa := fun zs => zs = xs.take j) (Pb := fun zs => ∃ x, trip x ∧ zs = [x]) ((cr_c (c_upto (k := j) (cv 2 hp5) (cv 3 ha5)) (free_nl (sub_nl fun z hz => List.mem_of_mem_take hz))).imp fun d h => ⟨_, h, rfl⟩)
      ((cr_tup (car_cons (cr_tup (car_cons (cr_c (cv 4 (c1.mono e5)) rfl) (car_cons (cr_c (cv 5 (c2.mono e5)) rfl) (car_cons ((cr_callJ (i0 := 1) cs.Bn hr (by omega) hT5 rfl (car_cons (cr_c (cv 6 (c3.mono e5)) bfree) car_nil) fun l hl => ?_).imp (P' := Bent 10) fun d h => ?_) car_nil))) fun l hl => ?_) car_nil) fun l hl => ?_).imp fun d h => ?_) fun zs ys h1 h2 => ?_).imp fun d h => ?_) ((cr_c (c_from (k := j + 1) (cv 2 hp5) (C.is (c_add (cv 3 ha5) c_int) rfl)) (free_nl (sub_nl fun z hz => List.mem_of_mem_drop hz))).imp fun d h => ⟨_, h, rfl⟩) fun zs ys h1 h2 => ?_).imp fun d h => ?_) fun vo do' B6 e6 ho hO => ?_
    · obtain ⟨z, _, rfl, hz, rfl⟩ := hl
      rw [hz]
      exact ⟨rfl, bd, rfl, hg.sol, hg.kS⟩
    · obtain ⟨_, _, _, e, hb, _⟩ := h
      exact hb
    · obtain ⟨_, _, rfl, _, _, _, rfl, _, _, _, rfl, _, rfl⟩ := hl
      simp
    · obtain ⟨_, _, rfl, _, rfl⟩ := hl
      simp
    · obtain ⟨l, rfl, x, t, rfl, hx, rfl⟩ := h
      obtain ⟨y1, y2, y3, rfl, rfl, rfl, hb⟩ := tup3 hx
      exact ⟨_, rfl, _, ⟨nm, m, y3, rfl, hnl, hb.fit, hb.nl, hb.kOk 10⟩, rfl⟩
    · obtain ⟨x, _, rfl⟩ := h2
      rw [h1, List.length_take, List.length_singleton]
      omega
    · obtain ⟨zs, rfl, y1, y2, rfl, rfl, x, hx, rfl⟩ := h
      exact ⟨_, rfl, x, hx, rfl⟩
    · obtain ⟨x, _, rfl⟩ := h1
      rw [h2, List.length_append, List.length_take, List.length_drop, List.length_singleton]
      omega
    · obtain ⟨zs, rfl, y1, y2, rfl, ⟨x, hx, rfl⟩, rfl⟩ := h
      refine ⟨_, rfl, okx_app (okx_app (okx_take ok) (okx_one hx) ?_) (okx_drop ok) ?_⟩
      · rw [List.length_take, List.length_singleton]; omega
      · rw [List.length_append, List.length_take, List.length_drop, List.length_singleton]; omega
    · obtain ⟨zs, rfl, okz⟩ := hO
      exact wr_if (ctr_c (ct_not (ct_val (c_judge cs.A cs.Ip cs.L hr (by omega) (e6.tab hT5) (cv 8 ho) (cv 8 ho) okz)))) (fun h => nomatch h) fun _ => wr_nil fun _ _ _ => ⟨_, _, rfl⟩
  · obtain ⟨x7, x8, rfl⟩ := hσ
    have hp5 := hp4.mono e5
    have ha5 := ha4.mono e5
    have hT5 := e5.tab hT4
    have k1 := c1.mono e5
    have k2 := c2.mono e5
    have k3 := c3.mono e5
    have bt : ∀ {mm : Int} {nn : Str}, nn.length ≤ 1000 → trip (.tup [.str nn, .int mm, bd]) := fun h => ⟨_, _, bd, rfl, h, sol_fit gb.sol, sol_nl gb.sol, kS_kOk gb.kS⟩
    have te : ∀ {nn : Str}, nn.length ≤ 1000 → trip (.tup [.str nn, .int 0, .tup [.str "early"]]) := fun h => ⟨_, _, _, rfl, h, rfl, rfl, rfl⟩
    have l0 : xs.length ≤ 1000 := by omega
    refine wr_w (d := .bl true) ?_ rfl rfl
    refine w_set (i := 9) nd (c_lst (ca_cons (c_catT (cv 2 hp5) (c_upto (k := 1) (cv 2 hp5) c_int) ?_) (ca_cons (c_catT (c_catT (c_upto (k := j) (cv 2 hp5) (cv 3 ha5)) (c_tup (ca_cons (c_tup (ca_cons (cv 4 k1) (ca_cons (c_add (cv 5 k2) c_int) (ca_cons (cv 6 k3) ca_nil)))) ca_nil)) ?_) (c_from (k := j + 1) (cv 2 hp5) (C.is (c_add (cv 3 ha5) c_int) rfl)) ?_) (ca_cons (c_from (k := 1) (cv 2 hp5) c_int) ca_nil)))) fun v9 B6 e6 h9 => ?_
    · rw [List.length_take]; omega
    · rw [List.length_take, List.length_singleton]; omega
    · rw [List.length_append, List.length_take, List.length_drop, List.length_singleton]; omega
    refine w_set (i := 9) nd (c_catL (cv 9 h9) (c_lst (ca_cons (c_tup (ca_cons (c_tup (ca_cons (cv 4 (k1.mono e6)) (ca_cons c_int (ca_cons (cv 6 (k3.mono e6)) ca_nil)))) ca_nil)) (ca_cons (c_tup (ca_cons (c_tup (ca_cons c_str (ca_cons c_int (ca_cons (c_tup (ca_cons c_str ca_nil)) ca_nil)))) ca_nil)) (ca_cons (c_tup (ca_cons (c_tup (ca_cons c_str (ca_cons c_int (ca_cons (c_tup (ca_cons c_str ca_nil)) ca_nil)))) ca_nil)) (ca_cons (c_tup (ca_cons (c_tup (ca_cons c_str (ca_cons c_int (ca_cons (c_tup (ca_cons c_str ca_nil)) ca_nil)))) ca_nil)) ca_nil))))) (by simp)) fun w9 B7 e7 g9 => ?_
    have e67 := e6.trans e7
    refine w_for (T := T) (Pv := fun i σ' H' => ∃ x7 x8, σ' = [some (.ref sc), some (.ref r), some vp, some va, some u1, some u2, some u3, x7, x8, some w9, none, none, none, none]) PassesOwn.never rfl (it_lst (cv 9 g9)) (pg_name (i := 8) nd rfl (Or.inl rfl)) (tgt_name 8) (fun H2 e2 => ⟨_, _, rfl⟩) (fun i dd vs σ' H2 hi e2 hp => ?_) (fun σ' H2 e2 hp => ?_)
    · obtain ⟨y7, y8, rfl⟩ := hp
      refine ⟨[dd], rfl, fun hvs => ?_⟩
      obtain ⟨y, rfl, hy⟩ := dats1 hvs
      have hm := List.mem_of_getElem? hi
      have ok2 : ∃ zs, dd = .tup zs ∧ Okx zs := by
        simp only [List.cons_append, List.nil_append, List.mem_cons, List.not_mem_nil, or_false] at hm
        rcases hm with rfl | rfl | rfl | rfl | rfl | rfl | rfl
        · exact ⟨_, rfl, okx_app ok (okx_take ok) (by rw [List.length_take]; omega)⟩
        · exact ⟨_, rfl, okx_app (okx_app (okx_take ok) (okx_one (bt hnl)) (by rw [List.length_take, List.length_singleton]; omega)) (okx_drop ok) (by rw [List.length_append, List.length_take, List.length_drop, List.length_singleton]; omega)⟩
        · exact ⟨_, rfl, okx_drop ok⟩
        · exact ⟨_, rfl, okx_one (bt hnl)⟩
        · exact ⟨_, rfl, okx_one (te (by decide))⟩
        · exact ⟨_, rfl, okx_one (te (by decide))⟩
        · exact ⟨_, rfl, okx_one (te (by decide))⟩
      obtain ⟨zs, rfl, okz⟩ := ok2
      exact w_if (ct_not (ct_val (c_judge cs.A cs.Ip cs.L hr (by omega) ((e67.trans e2).tab hT5) (cv 8 hy) (cv 8 hy) okz))) (fun h => nomatch h) fun _ => w_nil fun _ _ => ⟨_, _, rfl⟩
    obtain ⟨y7, y8, rfl⟩ := hp
    have e8 := e67.trans e2
    have hp8 := hp5.mono e8
    have k18 := k1.mono e8
    have k28 := k2.mono e8
    have k38 := k3.mono e8
    refine w_for (T := T) (Pv := fun i σ' H' => ∃ x7 x8 x10, σ' = [some (.ref sc), some (.ref r), some vp, some va, some u1, some u2, some u3, x7, x8, some w9, x10, none, none, none]) PassesOwn.never rfl
      (it_lst (c_lst (ca_cons c_non (ca_cons c_int (ca_cons c_str (ca_cons (c_listT Bl (cv 2 hp8)) (ca_cons (c_tup (ca_cons c_int ca_nil)) (ca_cons (c_tup (ca_cons (c_tup (ca_cons (cv 4 k18) (ca_cons (cv 5 k28) ca_nil))) ca_nil)) (ca_cons (c_tup (ca_cons (c_tup (ca_cons (cv 4 k18) (ca_cons (cv 5 k28) (ca_cons (cv 6 k38) (ca_cons c_int ca_nil))))) ca_nil)) (ca_cons (c_tup (ca_cons (c_lst (ca_cons (cv 4 k18) (ca_cons (cv 5 k28) (ca_cons (cv 6 k38) ca_nil)))) ca_nil)) (ca_cons c_dict0 ca_nil)))))))))))
      (pg_name (i := 10) nd rfl (Or.inl rfl)) (tgt_name 10) (fun H2 e2 => ⟨_, _, _, rfl⟩) (fun i dd vs σ' H3 hi e3 hp => ?_) (fun σ' H3 e3 hp => ?_)
    · obtain ⟨z7, z8, z10, rfl⟩ := hp
      refine ⟨[dd], rfl, fun hvs => ?_⟩
      obtain ⟨y, rfl, hy⟩ := dats1 hvs
      have hm := List.mem_of_getElem? hi
      have nf : fit 12 dd = true ∧ isPr 10 dd = false := by
        have sn : fit 9 (.str nm) = true := by show decide (nm.length ≤ 1000) = true; exact decide_eq_true hnl
        have sn10 : fit 10 (.str nm) = true := by show decide (nm.length ≤ 1000) = true; exact decide_eq_true hnl
        have sb : fit 10 bd = true := sol_fit gb.sol
        simp only [List.mem_cons, List.not_mem_nil, or_false] at hm
        rcases hm with rfl | rfl | rfl | rfl | rfl | rfl | rfl | rfl | rfl
        · exact ⟨rfl, rfl⟩
        · exact ⟨rfl, rfl⟩
        · exact ⟨rfl, rfl⟩
        · exact ⟨ok.fit, rfl⟩
        · exact ⟨rfl, isPr_one rfl⟩
        · refine ⟨?_, isPr_one rfl⟩
          show (true && ((true && (G3.fit 10 (.str nm) && (true && true))) && true)) = true
          rw [sn10]; rfl
        · refine ⟨?_, isPr_one rfl⟩
          show (true && ((true && (G3.fit 10 (.str nm) && (true && (G3.fit 10 bd && (true && true))))) && true)) = true
          rw [sn10, sb]; rfl
        · refine ⟨?_, isPr_one rfl⟩
          show (true && ((true && (G3.fit 10 (.str nm) && (true && (G3.fit 10 bd && true)))) && true)) = true
          rw [sn10, sb]; rfl
        · exact ⟨rfl, rfl⟩
      exact w_if (ct_not (ct_val (c_nojudge cs.A cs.Ip hr (by omega) ((e8.trans e3).tab hT5) (cv 10 hy) nf.1 nf.2))) (fun h => nomatch h) fun _ => w_nil fun _ _ => ⟨_, _, _, rfl⟩
    obtain ⟨z7, z8, z10, rfl⟩ := hp
    have e9 := e8.trans e3
    have hT9 := e9.tab hT5
    have hp9 := hp5.mono e9
    have k19 := k1.mono e9
    have k39 := k3.mono e9
    refine w_if (ct_not (ct_val (cc cs.L hr (by omega) hT9 (ca_cons (cv 2 hp9) ca_nil) rfl ⟨_, rfl, ok.fit, ok.nl, ok.kOk, ok.triples⟩ rfl))) (fun _ => w_ret c_bl) fun hL => ?_
    have pr : Prog 10 xs := by
      refine (prog_iff ok.triples).mp ?_
      cases hq : lPr 10 xs with
      | true => rfl
      | false => exact absurd (show (!(lPr 10 xs)) = false from hL) (by rw [hq]; decide)
    have hpre : preP 10 [.tup xs] := ⟨_, rfl, ok.fit, isPr_mk pr, ok.nl⟩
    have bdy : bodyOf xs nm = some bd := body_at pr hxj
    have bX : ∀ {d : D}, d ∈ xs → ∃ nm l b, d = .tup [.str nm, .int l, b] ∧ nm.length ≤ 1000 ∧ fit 10 b = true ∧ b.nl = true ∧ sh 10 b = true ∧ sol 11 (.str nm) = true := fun {d} hd => by
      obtain ⟨nm, l, b, rfl, h1, h2, h3, _⟩ := ok.all d hd
      obtain ⟨_, _, _, hX⟩ := isFn_iff.mp (pr.fn _ hd)
      exact ⟨nm, l, b, rfl, h1, h2, h3, isX_sh _ _ _ _ _ hX, decide_eq_true h1⟩
    have hX : isX 10 true bd 4 30 = true := by
      obtain ⟨_, _, h4, hX⟩ := isFn_iff.mp (pr.fn _ (List.mem_of_getElem? hxj))
      exact isX_mono _ _ _ _ _ _ h4 hX
    have bsh := isX_sh _ _ _ _ _ hX
    have bfit : fit 10 bd = true := sol_fit gb.sol
    have bnl : bd.nl = true := sol_nl gb.sol
    have cn : nodesD 10 bd ≤ 300 := by
      have := pr.nod
      exact Int.le_trans (sumN_ge (List.mem_of_getElem? hxj)) this
    refine w_if (ct_not (ct_val (cc cs.A hr (by omega) hT9 (ca_cons (cc cs.Fn hr (by omega) hT9 (ca_cons (cv 2 hp9) ca_nil) rfl hpre rfl) (ca_cons (c_tupleL Bl (c_lc (f := fun d => d.ix 0) (pr := fun _ => true) (js := [11, 12, 13]) (own := [("_law_one", 11), ("_law_size", 12), ("_law_part", 13)]) rfl nd (it_tup (cv 2 hp9)) (blkOk_by (show blkC nmLaw (fnScope (top 63)) _ _ = true by decide +kernel)) (fun _ _ _ _ _ => g3 rfl nd) (tgt_tup [11, 12, 13] rfl) (by decide) (by omega) fun d vs H4 hd e4 => ?_)) ca_nil)) rfl ?_ rfl))) (fun h => nomatch h) fun _ => ?_
    · obtain ⟨nm', l', b', rfl, _⟩ := bX hd
      refine ⟨_, rfl, fun hvs => ?_⟩
      obtain ⟨a1, a2, a3, rfl, b1, b2, b3⟩ := dats3 hvs
      exact ⟨cif_nil, fun _ => ⟨fun s0 H0 A0 cl fp => cv 11 b1, rfl⟩⟩
    · refine ⟨.tup (xs.map fun d => d.ix 0), ?_, ?_⟩
      · rw [List.filter_eq_self.mpr fun _ _ => rfl]
        rfl
      · show (decide ((xs.map fun d => d.ix 0).length ≤ 1000) && (xs.map fun d => d.ix 0).all (G3.sol 12)) = true
        rw [List.length_map, decide_eq_true l0, Bool.true_and, List.all_eq_true]
        intro x hx
        obtain ⟨d, hd, rfl⟩ := List.mem_map.mp hx
        obtain ⟨nm', l', b', rfl, _, _, _, _, h⟩ := bX hd
        exact sol_up h
    refine w_if (ct_not (ct_val (cc cs.A hr (by omega) hT9 (ca_cons (cc cs.Nc hr (by omega) hT9 (ca_cons (cv 2 hp9) ca_nil) rfl hpre rfl) (ca_cons (c_sumL (f := fun d => nodesD 10 (d.ix 2)) (xs := xs) Bl rfl (C.is (c_lc (f := fun d => .int (nodesD 10 (d.ix 2))) (pr := fun _ => true) (js := [11, 12, 13]) (own := [("_law_one", 11), ("_law_size", 12), ("_law_part", 13)]) rfl nd (it_tup (cv 2 hp9)) (blkOk_by (show blkC nmLaw (fnScope (top 63)) _ _ = true by decide +kernel)) (fun _ _ _ _ _ => g3 rfl nd) (tgt_tup [11, 12, 13] rfl) (by decide) (by omega) fun d vs H4 hd e4 => ?_) ?_)) ca_nil)) rfl ⟨.int (sumN 10 xs), rfl, rfl⟩ rfl))) (fun h => nomatch h) fun _ => ?_
    · obtain ⟨nm', l', b', rfl, h1, h2, h3, h4, _⟩ := bX hd
      refine ⟨_, rfl, fun hvs => ?_⟩
      obtain ⟨a1, a2, a3, rfl, b1, b2, b3⟩ := dats3 hvs
      exact ⟨cif_nil, fun _ => ⟨fun s0 H0 A0 cl fp => cc cs.Ln hr (by omega) (e4.tab hT9) (ca_cons (cv 13 b3) ca_nil) rfl ⟨_, rfl, h4, h2, h3⟩ rfl, rfl⟩⟩
    · rw [List.filter_eq_self.mpr fun _ _ => rfl]
    refine w_if (ct_not (ct_val (cc cs.A hr (by omega) hT9 (ca_cons (cc cs.Cs hr (by omega) hT9 (ca_cons (cv 2 hp9) (ca_cons (cv 4 k19) ca_nil)) rfl ⟨_, _, rfl, ok.fit, isPr_mk pr, ok.nl, by show (bodyOf xs nm).isSome = true; rw [bdy]; rfl⟩ rfl) (ca_cons (c_tupleL Bl (cc cs.Lc hr (by omega) hT9 (ca_cons (cv 6 k39) ca_nil) rfl ⟨_, rfl, bsh, by omega⟩ rfl)) ca_nil)) rfl ?_ rfl))) (fun h => nomatch h) fun _ => ?_
    · refine ⟨.tup (callsD 10 bd), ?_, ?_⟩
      · show [D.tup (callsD 10 ((bodyOf xs nm).getD .non)), _] = _
        rw [bdy]
        rfl
      · have hc := calls_len 10 bd
        show (decide ((callsD 10 bd).length ≤ 1000) && (callsD 10 bd).all (G3.sol 12)) = true
        rw [decide_eq_true (show (callsD 10 bd).length ≤ 1000 by omega), Bool.true_and, List.all_eq_true]
        exact fun x hx => calls_sol (sol_le (show 10 ≤ 12 by decide) gb.sol) hx
    exact w_ret (cc cs.A hr (by omega) hT9 (ca_cons (cc cs.Ie hr (by omega) hT9 (ca_cons (cv 6 k39) ca_nil) rfl ⟨_, rfl, bfit, hX⟩ rfl) (ca_cons (cc cs.Le hr (by omega) hT9 (ca_cons (cv 6 k39) ca_nil) rfl ⟨_, rfl, bsh, bfit, bnl⟩ rfl) ca_nil)) rfl ⟨.bl (earlyD 10 bd), rfl, rfl⟩ rfl)
end
end
end G3

set_option Elab.async false
set_option linter.all false
set_option maxRecDepth 100000
set_option maxHeartbeats 2000000
namespace G3
open PySem PySem.Spec PyProof.Rows L2 GX
open GxR (TabG Tabbed)
open C8 (Cal scC fnArgs fnBody fnScope pe_c E0 fnScope_by)

/-! ## the end: all defs together -/
def DfE (K : PySem.W.Frag) (mg : Str → Option Value) (x : Str) (st : Stmt) : Prop := ∃ cd, Dfn K mg x st cd
def DfT (K : PySem.W.Frag) (mg : Str → Option Value) (cs : List (Addr × Addr)) (x : Str) (st : Stmt) : Prop := ∃ c Pt, (c, Pt) ∈ cs ∧ Dfn K mg x st (.ref c)
structure Defs (K : PySem.W.Frag) (mg : Str → Option Value) (cs : List (Addr × Addr)) : Prop where
  d18 : DfE K mg "is_in" (top 18)
  d19 : DfT K mg cs "is_name" (top 19)
  d20 : DfE K mg "is_tuple" (top 20)
  d21 : DfE K mg "is_move" (top 21)
  d22 : DfT K mg cs "is_test" (top 22)
  d23 : DfT K mg cs "is_expression" (top 23)
  d24 : DfE K mg "parts_of" (top 24)
  d25 : DfT K mg cs "is_all_early" (top 25)
  d26 : DfT K mg cs "nodes_of" (top 26)
  d27 : DfE K mg "calls_of" (top 27)
  d28 : DfE K mg "is_function" (top 28)
  d29 : DfT K mg cs "is_program" (top 29)
  d30 : DfE K mg "need_program" (top 30)
  d31 : DfE K mg "bodies" (top 31)
  d32 : DfE K mg "need_name" (top 32)
  d33 : DfE K mg "functions" (top 33)
  d34 : DfT K mg cs "node_count" (top 34)
  d35 : DfE K mg "calls" (top 35)
  d36 : DfE K mg "is_early" (top 36)
  d38 : DfE K mg "_law_taken" (top 38)
  d39 : DfE K mg "_law_pick" (top 39)
  d40 : DfE K mg "_law_alike" (top 40)
  d41 : DfE K mg "_law_is_int" (top 41)
  d42 : DfE K mg "_law_name" (top 42)
  d43 : DfE K mg "_law_expression" (top 43)
  d44 : DfE K mg "_law_move" (top 44)
  d45 : DfE K mg "_law_is_early" (top 45)
  d46 : DfE K mg "_law_test" (top 46)
  d47 : DfE K mg "_law_program" (top 47)
  d48 : DfE K mg "_law_parts" (top 48)
  d49 : DfE K mg "_law_nodes" (top 49)
  d50 : DfE K mg "_law_calls" (top 50)
  d59 : DfE K mg "_law_is_expression" (top 59)
  d60 : DfE K mg "_law_is_test" (top 60)
  d61 : DfE K mg "_law_is_program" (top 61)
  d62 : DfE K mg "_law_bent" (top 62)
  d63 : DfE K mg "law" (top 63)
theorem chain {P : Program} {w : World} {K : PySem.W.Frag} {mg : Str → Option Value} {base : Heap} {cs : List (Addr × Addr)} (M : Mgs K mg) (D : Defs K mg cs) (tb : ∀ p ∈ cs, LamX.TabB base mg p.1 p.2) : ∀ cd, FnG P w K mg base 65 "law" (top 63) cd ["_law_script"] (spLawG K (cs.map (·.2))) := by
  intro cd
  have inT : ∀ {c Pt : Addr}, (c, Pt) ∈ cs → Pt ∈ cs.map (·.2) := fun h => List.mem_map.mpr ⟨_, h, rfl⟩
  generalize eT : cs.map (·.2) = T at inT ⊢
  obtain ⟨_, F18⟩ := D.d18
  obtain ⟨c19, P19, m19, F19⟩ := D.d19
  obtain ⟨_, F20⟩ := D.d20
  obtain ⟨_, F21⟩ := D.d21
  obtain ⟨c22, P22, m22, F22⟩ := D.d22
  obtain ⟨c23, P23, m23, F23⟩ := D.d23
  obtain ⟨_, F24⟩ := D.d24
  obtain ⟨c25, P25, m25, F25⟩ := D.d25
  obtain ⟨c26, P26, m26, F26⟩ := D.d26
  obtain ⟨_, F27⟩ := D.d27
  obtain ⟨_, F28⟩ := D.d28
  obtain ⟨c29, P29, m29, F29⟩ := D.d29
  obtain ⟨_, F30⟩ := D.d30
  obtain ⟨_, F31⟩ := D.d31
  obtain ⟨_, F32⟩ := D.d32
  obtain ⟨_, F33⟩ := D.d33
  obtain ⟨c34, P34, m34, F34⟩ := D.d34
  obtain ⟨_, F35⟩ := D.d35
  obtain ⟨_, F36⟩ := D.d36
  obtain ⟨_, F38⟩ := D.d38
  obtain ⟨_, F39⟩ := D.d39
  obtain ⟨_, F40⟩ := D.d40
  obtain ⟨_, F41⟩ := D.d41
  obtain ⟨_, F42⟩ := D.d42
  obtain ⟨_, F43⟩ := D.d43
  obtain ⟨_, F44⟩ := D.d44
  obtain ⟨_, F45⟩ := D.d45
  obtain ⟨_, F46⟩ := D.d46
  obtain ⟨_, F47⟩ := D.d47
  obtain ⟨_, F48⟩ := D.d48
  obtain ⟨_, F49⟩ := D.d49
  obtain ⟨_, F50⟩ := D.d50
  obtain ⟨_, F59⟩ := D.d59
  obtain ⟨_, F60⟩ := D.d60
  obtain ⟨_, F61⟩ := D.d61
  obtain ⟨_, F62⟩ := D.d62
  have CIn := def_is_in (P := P) (w := w) (base := base) (T := T) M F18
  have CNa := def_is_name (P := P) (w := w) (base := base) (T := T) M (tb _ m19) (inT m19) F19
  have CTu := def_is_tuple (P := P) (w := w) (base := base) (T := T) M F20
  have CMo := def_is_move M CIn CTu F21
  have CPa := def_parts (P := P) (w := w) (base := base) (T := T) M F24
  have CEa := def_early M CPa (tb _ m25) (inT m25) F25
  have CNo := def_nodes M CPa (tb _ m26) (inT m26) F26
  have CCa := def_calls M CPa F27
  have CX := def_both M CIn CTu CNa CMo (tb _ m23) (inT m23) F23 (tb _ m22) (inT m22) F22 CEa
  have CFn := def_fn (n := 10) M CIn CNa (CX 10).1 F28
  have CPr := def_pr (n := 10) M CFn (CNo 10) (CCa 10) (tb _ m29) (inT m29) F29
  have CNp := def_need (n := 10) M CPr F30
  have CBo := def_bodies (P := P) (w := w) (base := base) (T := T) (n := 10) M F31
  have CNn := def_needName (n := 10) M CNp CBo F32
  have CFs := def_functions (n := 10) M CNp F33
  have CCo := def_count (n := 10) M CNp (CNo 10) (tb _ m34) (inT m34) F34
  have CCs := def_callsOf (n := 10) M CNn CBo (CCa 10) F35
  have CIe := def_isEarly (n := 10) M (CX 10).1 (CEa 10) F36
  have LI := lw_isInt (P := P) (w := w) (base := base) (T := T) M F41
  have LE := lw_early (P := P) (w := w) (base := base) (T := T) M F45
  have LP := lw_parts (P := P) (w := w) (base := base) (T := T) M F48
  have LN := lw_nodes M LP F49
  have LC := lw_calls M LP F50
  have LX := lw_both M LI F59 F60 LE
  have LPr := lw_pr (n := 10) M LI (LX 10).1 (LN 10) F61
  have LA := lw_alike (P := P) (w := w) (base := base) (T := T) M F40 13
  have RT := dr_taken (P := P) (w := w) (base := base) (T := T) M F38
  have RP := dr_pick M RT F39
  have RN := dr_name M RP F42
  have RM := dr_move M RT RP F44
  have RX := dr_both M RT RP RM (LE 8) F43 F46
  have RG := dr_program M RT RN (RX 9).1 F47
  have RB := dr_bent M RT RP F62 8
  exact the_law M ⟨LA, CPr, LPr, RG, RT, RB, CFs, CCo, CCs, CIe, LE 10, LN 10, LC 10⟩
theorem law_at {l : PySem.W.OpenLaw} {w : World} {K : PySem.W.Frag} {mg : Str → Option Value} {fa : Addr} {h : Heap} {cs : List (Addr × Addr)} (M : Mgs K mg) (D : Defs K mg cs) (hm : mg "law" = some (.ref fa))
    (hT : ∀ p ∈ cs, h.get? p.2 = some { cls := .none, data := .fields #[] }) (nT : ∀ p ∈ cs, K.lookup p.2 = none) (C : ∀ p ∈ cs, PySem.W.CodeHd h p.1 p.2) : LamX.LawAtS l w K CX0 65 63 "_law_script" mg fa h := by
  obtain ⟨cd, F⟩ := D.d63
  obtain ⟨f, oc, od, kV, doc, pm, an, ct, osl, h1, h2, h3, h4⟩ := F.ex
  rw [hm] at h1
  cases h1
  refine ⟨_, cs, spLawG K (cs.map (·.2)), hT, nT, C, fun s u => .of_eq rfl, fun H a ns hl _ hH hS => ⟨a, ns, rfl, hS, hl, fun p hp => ?_, fun _ => rfl⟩, fun base KX hns TB => chain M D TB cd _ _ _ _ _ _ _ _ _ h3 h4⟩
  obtain ⟨q, hq, rfl⟩ := List.mem_map.mp hp
  exact ⟨#[], hH q hq, trivial⟩
theorem walkG {l : PySem.W.OpenLaw} {q : Program} {loose : List Str} {XP : (Str → Option Value) → Heap → Prop} {YP : World → Heap → Prop} {d : DefRec} {K : Params → PySem.W.Frag} (hn : l.most = some 63) (hdf : d.params.defaults = []) (hd : d.name = "law")
    (hY : ∀ (w : World) (h : Heap), YP w h → (K w.params).In h)
    (F : ∀ (w : World) (mg : Str → Option Value) (h : Heap), (K w.params).In h → h.Ns mainGlobals mg → ∃ ts : List (Addr × Addr), (∀ p ∈ ts, ∃ x d, PySem.W.tabIn (K w.params) x = some p ∧ (recsOf q).find? (fun e => e.name == x) = some d ∧ (K w.params).lookup p.2 = none) ∧ Mgs (K w.params) mg ∧ Defs (K w.params) mg ts) :
    PySem.W.WalkO q loose XP YP l.row.toRowW d [] (fun f vs => PySem.call f vs) := by
  refine Att.attach_callB hn hdf fun w s₀ s₁ mg mb fa o pm cd doc a vs ns G Y ho hfd hcd hmg hobj hints hlen hbits hg => ?_
  have KX := hY w _ Y
  obtain ⟨ts, h1, M, D⟩ := F w mg _ KX G.T.g
  rw [hd] at hmg
  have tb : ∀ p ∈ ts, PySem.W.CodeHd s₁.heap p.1 p.2 ∧ s₁.heap.get? p.2 = some { cls := .none, data := .fields #[] } := fun p hp => by
    obtain ⟨x, e, e1, e2, _⟩ := h1 p hp
    exact PySem.W.tab_of G.T KX e2 e1
  obtain ⟨fd, cs, sp, hT, nT, C, hb, hsp, hF⟩ := law_at (l := l) (w := w) M D hmg (fun p hp => (tb p hp).2) (fun p hp => let ⟨_, _, _, _, z⟩ := h1 p hp; z) fun p hp => (tb p hp).1
  exact LamX.law_callTs (k := 65) KX G.T.g G.T.b G.T.builtins G.T.nolimit hg hT nT C G.T.bmain hobj hints (Nat.le_trans hlen (by decide)) ⟨rfl, by decide, by decide⟩ hF hb (fun H hH hS => hsp H a ns hlen hbits hH hS) fun H e s' z => z
/-! what k_is is asked -/
theorem dfE {K : PySem.W.Frag} {h : Heap} {mg : Str → Option Value} {x : Str} {st : Stmt} {f : Addr} {oc : Value} {od : Option Addr} {kV doc pm : Value} {an : Option Addr} {cd ct : Value} {osl : Array (Option Value)} (X : K.In h) (G : h.Ns mainGlobals mg)
    (a : PySem.W.nsIn K mainGlobals x = some (some (.ref f))) (l : K.lookup f = some ⟨oc, od, .func (PySem.W.fnOf x x (fnArgs st) (fnBody st) (fnScope st) .none kV doc pm an cd ct), osl⟩) (c : PySem.W.codeIn K cd x = true) (k : PySem.W.keepIn K (.ref f) = true) : DfE K mg x st :=
  ⟨cd, ⟨f, oc, od, kV, doc, pm, an, ct, osl, PySem.W.mg_of X G a, k, l, c⟩⟩
def tabP (K : PySem.W.Frag) (x : Str) : Addr × Addr := (PySem.W.tabIn K x).getD (0, 0)
theorem dfT {K : PySem.W.Frag} {h : Heap} {mg : Str → Option Value} {x : Str} {st : Stmt} {f : Addr} {oc : Value} {od : Option Addr} {kV doc pm : Value} {an : Option Addr} {cd ct : Value} {osl : Array (Option Value)} {cs : List (Addr × Addr)} (X : K.In h) (G : h.Ns mainGlobals mg)
    (ht : (PySem.W.tabIn K x).isSome = true) (hm : tabP K x ∈ cs)
    (a : PySem.W.nsIn K mainGlobals x = some (some (.ref f))) (l : K.lookup f = some ⟨oc, od, .func (PySem.W.fnOf x x (fnArgs st) (fnBody st) (fnScope st) .none kV doc pm an cd ct), osl⟩) (c : PySem.W.codeIn K cd x = true) (k : PySem.W.keepIn K (.ref f) = true) : DfT K mg cs x st := by
  unfold tabP at hm
  cases e : PySem.W.tabIn K x with
  | none => rw [e] at ht; cases ht
  | some p =>
    obtain ⟨co, P⟩ := p
    rw [e] at hm
    have hm : (co, P) ∈ cs := hm
    have e2 : cd = .ref co := PySem.W.law_code X G e (PySem.W.mg_of X G a) (X _ _ l) rfl
    subst e2
    exact ⟨co, P, hm, f, oc, od, kV, doc, pm, an, ct, osl, PySem.W.mg_of X G a, k, l, c⟩
theorem tab_ok {K : PySem.W.Frag} {q : Program} {x : Str} (h1 : (PySem.W.tabIn K x).isSome = true) (h2 : (match PySem.W.tabIn K x with | some (_, P) => (K.lookup P).isNone | none => false) = true) (h3 : ∃ d, (recsOf q).find? (fun e => e.name == x) = some d) :
    ∃ y d, PySem.W.tabIn K y = some (tabP K x) ∧ (recsOf q).find? (fun e => e.name == y) = some d ∧ K.lookup (tabP K x).2 = none := by
  obtain ⟨d, h3⟩ := h3
  unfold tabP
  cases e : PySem.W.tabIn K x with
  | none => rw [e] at h1; cases h1
  | some p =>
    rw [e] at h2
    exact ⟨x, d, e, h3, Option.isNone_iff_eq_none.mp h2⟩
def strV : Value → Option Str
  | .str s _ => some s
  | _ => none
theorem vals_strs : ∀ {us : List Value} {ss : List Str}, us.map strV = ss.map some → Vals (ss.map V.str) us
  | [], [], _ => .nil
  | [], _ :: _, h => by cases h
  | _ :: _, [], h => by cases h
  | u :: us, s :: ss, h => by
    simp only [List.map_cons, List.cons.injEq] at h
    refine .cons ?_ (vals_strs h.2)
    cases u with
    | str t z =>
      have e : t = s := Option.some.inj h.1
      rw [e]
      exact ⟨_, rfl⟩
    | _ => cases h.1
theorem klOf {K : PySem.W.Frag} {h : Heap} {mg : Str → Option Value} {x : Str} {ss : List Str} {p : Addr} {dd : Option Addr} {its : Array Value} {n : Nat} {sl : Array (Option Value)} (X : K.In h) (G : h.Ns mainGlobals mg)
    (a : PySem.W.nsIn K mainGlobals x = some (some (.ref p))) (l : K.lookup p = some ⟨.type "list", dd, .seq its n, sl⟩) (hd : dd = none) (hz : its.size ≤ sizeLine) (hi : its.toList.map strV = ss.map some) : KL K mg x ss :=
  ⟨p, PySem.W.mg_of X G a, fun H => .inr ⟨_, its, n, l, rfl, hd, rfl, hz, vals_strs hi⟩⟩
theorem allN {α : Type} {P : α → Prop} : ∀ p ∈ ([] : List α), P p := fun p h => by cases h
theorem allC {α : Type} {P : α → Prop} {a : α} {l : List α} (h : P a) (hl : ∀ p ∈ l, P p) : ∀ p ∈ a :: l, P p := fun p hp => by
  rcases List.mem_cons.mp hp with e | e
  · rw [e]; exact h
  · exact hl p e
theorem intOf {K : PySem.W.Frag} {h : Heap} {mg : Str → Option Value} {x : Str} {z n : Int} {t : Nat} (X : K.In h) (G : h.Ns mainGlobals mg) (a : PySem.W.nsIn K mainGlobals x = some (some (.int z t))) (e : z = n) : ∃ t, mg x = some (.int n t) := ⟨t, by rw [← e]; exact PySem.W.mg_of X G a⟩
theorem strOf' {K : PySem.W.Frag} {h : Heap} {mg : Str → Option Value} {x : Str} {z n : Str} {t : Nat} (X : K.In h) (G : h.Ns mainGlobals mg) (a : PySem.W.nsIn K mainGlobals x = some (some (.str z t))) (e : z = n) : ∃ t, mg x = some (.str n t) := ⟨t, by rw [← e]; exact PySem.W.mg_of X G a⟩
end G3

set_option Elab.async false
set_option maxRecDepth 100000
open PySem PySem.W PyProof.Rows
set_option maxHeartbeats 0 in
theorem PySem.Challenge.cw_staged_k00_whole_programs_holds : PySem.Challenge.rw_staged_k00_whole_programs.Holds := by
  w_on; o_law; k_head; (case hw => w_witness2)
  k_fill
  refine G3.walkG (l := PySem.Challenge.rw_staged_k00_whole_programs) rfl rfl rfl (fun w h Y => PySem.W.kIn_of Y) ?F
  case F =>
    intro w mg h KX G
    refine' ⟨[G3.tabP _ "is_name", G3.tabP _ "is_test", G3.tabP _ "is_expression", G3.tabP _ "is_all_early", G3.tabP _ "nodes_of", G3.tabP _ "is_program", G3.tabP _ "node_count"], ?gztabs, ?gzM, ?gzD⟩
    case gztabs =>
      refine' G3.allC (G3.tab_ok (x := "is_name") ?gzt0 ?gzu0 ?gzv0) (G3.allC (G3.tab_ok (x := "is_test") ?gzt1 ?gzu1 ?gzv1) (G3.allC (G3.tab_ok (x := "is_expression") ?gzt2 ?gzu2 ?gzv2) (G3.allC (G3.tab_ok (x := "is_all_early") ?gzt3 ?gzu3 ?gzv3) (G3.allC (G3.tab_ok (x := "nodes_of") ?gzt4 ?gzu4 ?gzv4) (G3.allC (G3.tab_ok (x := "is_program") ?gzt5 ?gzu5 ?gzv5) (G3.allC (G3.tab_ok (x := "node_count") ?gzt6 ?gzu6 ?gzv6) (G3.allN)))))))
      (case gzt0 => kernel_rfl)
      (case gzu0 => kernel_rfl)
      (case gzv0 => exact ⟨_, rfl⟩)
      (case gzt1 => kernel_rfl)
      (case gzu1 => kernel_rfl)
      (case gzv1 => exact ⟨_, rfl⟩)
      (case gzt2 => kernel_rfl)
      (case gzu2 => kernel_rfl)
      (case gzv2 => exact ⟨_, rfl⟩)
      (case gzt3 => kernel_rfl)
      (case gzu3 => kernel_rfl)
      (case gzv3 => exact ⟨_, rfl⟩)
      (case gzt4 => kernel_rfl)
      (case gzu4 => kernel_rfl)
      (case gzv4 => exact ⟨_, rfl⟩)
      (case gzt5 => kernel_rfl)
      (case gzu5 => kernel_rfl)
      (case gzv5 => exact ⟨_, rfl⟩)
      (case gzt6 => kernel_rfl)
      (case gzu6 => kernel_rfl)
      (case gzv6 => exact ⟨_, rfl⟩)
    case gzM =>
      refine' ⟨⟨(PySem.W.mg_none_of KX G ?gzb0), (PySem.W.mg_none_of KX G ?gzb1), (PySem.W.mg_none_of KX G ?gzb2), (PySem.W.mg_none_of KX G ?gzb3), (PySem.W.mg_none_of KX G ?gzb4), (PySem.W.mg_none_of KX G ?gzb5), (PySem.W.mg_none_of KX G ?gzb6), (PySem.W.mg_none_of KX G ?gzb7), (PySem.W.mg_none_of KX G ?gzb8), (PySem.W.mg_none_of KX G ?gzb9)⟩, (G3.intOf KX G ?gzn0 ?gzm0), (G3.intOf KX G ?gzn1 ?gzm1), (G3.intOf KX G ?gzn2 ?gzm2), (G3.intOf KX G ?gzn3 ?gzm3), (G3.intOf KX G ?gzn4 ?gzm4), (G3.intOf KX G ?gzn5 ?gzm5), (G3.intOf KX G ?gzn6 ?gzm6), (G3.intOf KX G ?gzn7 ?gzm7), (G3.intOf KX G ?gzn8 ?gzm8), (G3.strOf' KX G ?gzl1 ?gzl2), (G3.klOf KX G ?gzk1 ?gzk2 ?gzk3 ?gzk4 ?gzk5), (G3.klOf KX G ?gzj1 ?gzj2 ?gzj3 ?gzj4 ?gzj5)⟩
      (case gzb0 => k_is)
      (case gzb1 => k_is)
      (case gzb2 => k_is)
      (case gzb3 => k_is)
      (case gzb4 => k_is)
      (case gzb5 => k_is)
      (case gzb6 => k_is)
      (case gzb7 => k_is)
      (case gzb8 => k_is)
      (case gzb9 => k_is)
      (case gzn0 => k_is)
      (case gzm0 => rfl)
      (case gzn1 => k_is)
      (case gzm1 => rfl)
      (case gzn2 => k_is)
      (case gzm2 => rfl)
      (case gzn3 => k_is)
      (case gzm3 => rfl)
      (case gzn4 => k_is)
      (case gzm4 => rfl)
      (case gzn5 => k_is)
      (case gzm5 => rfl)
      (case gzn6 => k_is)
      (case gzm6 => rfl)
      (case gzn7 => k_is)
      (case gzm7 => rfl)
      (case gzn8 => k_is)
      (case gzm8 => rfl)
      (case gzl1 => k_is)
      (case gzl2 => rfl)
      (case gzk1 => k_is)
      (case gzk2 => k_is)
      (case gzk3 => rfl)
      (case gzk4 => decide)
      (case gzk5 => first | kernel_rfl | rfl)
      (case gzj1 => k_is)
      (case gzj2 => k_is)
      (case gzj3 => rfl)
      (case gzj4 => decide)
      (case gzj5 => first | kernel_rfl | rfl)
    case gzD =>
      refine' ⟨(G3.dfE KX G ?gza18 ?gzl18 ?gzc18 ?gzk18), (G3.dfT KX G ?gzh19 ?gzi19 ?gza19 ?gzl19 ?gzc19 ?gzk19), (G3.dfE KX G ?gza20 ?gzl20 ?gzc20 ?gzk20), (G3.dfE KX G ?gza21 ?gzl21 ?gzc21 ?gzk21), (G3.dfT KX G ?gzh22 ?gzi22 ?gza22 ?gzl22 ?gzc22 ?gzk22), (G3.dfT KX G ?gzh23 ?gzi23 ?gza23 ?gzl23 ?gzc23 ?gzk23), (G3.dfE KX G ?gza24 ?gzl24 ?gzc24 ?gzk24), (G3.dfT KX G ?gzh25 ?gzi25 ?gza25 ?gzl25 ?gzc25 ?gzk25), (G3.dfT KX G ?gzh26 ?gzi26 ?gza26 ?gzl26 ?gzc26 ?gzk26), (G3.dfE KX G ?gza27 ?gzl27 ?gzc27 ?gzk27), (G3.dfE KX G ?gza28 ?gzl28 ?gzc28 ?gzk28), (G3.dfT KX G ?gzh29 ?gzi29 ?gza29 ?gzl29 ?gzc29 ?gzk29), (G3.dfE KX G ?gza30 ?gzl30 ?gzc30 ?gzk30), (G3.dfE KX G ?gza31 ?gzl31 ?gzc31 ?gzk31), (G3.dfE KX G ?gza32 ?gzl32 ?gzc32 ?gzk32), (G3.dfE KX G ?gza33 ?gzl33 ?gzc33 ?gzk33), (G3.dfT KX G ?gzh34 ?gzi34 ?gza34 ?gzl34 ?gzc34 ?gzk34), (G3.dfE KX G ?gza35 ?gzl35 ?gzc35 ?gzk35), (G3.dfE KX G ?gza36 ?gzl36 ?gzc36 ?gzk36), (G3.dfE KX G ?gza38 ?gzl38 ?gzc38 ?gzk38), (G3.dfE KX G ?gza39 ?gzl39 ?gzc39 ?gzk39), (G3.dfE KX G ?gza40 ?gzl40 ?gzc40 ?gzk40), (G3.dfE KX G ?gza41 ?gzl41 ?gzc41 ?gzk41), (G3.dfE KX G ?gza42 ?gzl42 ?gzc42 ?gzk42), (G3.dfE KX G ?gza43 ?gzl43 ?gzc43 ?gzk43), (G3.dfE KX G ?gza44 ?gzl44 ?gzc44 ?gzk44), (G3.dfE KX G ?gza45 ?gzl45 ?gzc45 ?gzk45), (G3.dfE KX G ?gza46 ?gzl46 ?gzc46 ?gzk46), (G3.dfE KX G ?gza47 ?gzl47 ?gzc47 ?gzk47), (G3.dfE KX G ?gza48 ?gzl48 ?gzc48 ?gzk48), (G3.dfE KX G ?gza49 ?gzl49 ?gzc49 ?gzk49), (G3.dfE KX G ?gza50 ?gzl50 ?gzc50 ?gzk50), (G3.dfE KX G ?gza59 ?gzl59 ?gzc59 ?gzk59), (G3.dfE KX G ?gza60 ?gzl60 ?gzc60 ?gzk60), (G3.dfE KX G ?gza61 ?gzl61 ?gzc61 ?gzk61), (G3.dfE KX G ?gza62 ?gzl62 ?gzc62 ?gzk62), (G3.dfE KX G ?gza63 ?gzl63 ?gzc63 ?gzk63)⟩
      (case gza18 => k_is)
      (case gzl18 => k_is)
      (case gzc18 => k_is)
      (case gzk18 => k_is)
      (case gzh19 => kernel_rfl)
      (case gzi19 => exact List.Mem.head _)
      (case gza19 => k_is)
      (case gzl19 => k_is)
      (case gzc19 => k_is)
      (case gzk19 => k_is)
      (case gza20 => k_is)
      (case gzl20 => k_is)
      (case gzc20 => k_is)
      (case gzk20 => k_is)
      (case gza21 => k_is)
      (case gzl21 => k_is)
      (case gzc21 => k_is)
      (case gzk21 => k_is)
      (case gzh22 => kernel_rfl)
      (case gzi22 => exact List.Mem.tail _ (List.Mem.head _))
      (case gza22 => k_is)
      (case gzl22 => k_is)
      (case gzc22 => k_is)
      (case gzk22 => k_is)
      (case gzh23 => kernel_rfl)
      (case gzi23 => exact List.Mem.tail _ (List.Mem.tail _ (List.Mem.head _)))
      (case gza23 => k_is)
      (case gzl23 => k_is)
      (case gzc23 => k_is)
      (case gzk23 => k_is)
      (case gza24 => k_is)
      (case gzl24 => k_is)
      (case gzc24 => k_is)
      (case gzk24 => k_is)
      (case gzh25 => kernel_rfl)
      (case gzi25 => exact List.Mem.tail _ (List.Mem.tail _ (List.Mem.tail _ (List.Mem.head _))))
      (case gza25 => k_is)
      (case gzl25 => k_is)
      (case gzc25 => k_is)
      (case gzk25 => k_is)
      (case gzh26 => kernel_rfl)
      (case gzi26 => exact List.Mem.tail _ (List.Mem.tail _ (List.Mem.tail _ (List.Mem.tail _ (List.Mem.head _)))))
      (case gza26 => k_is)
      (case gzl26 => k_is)
      (case gzc26 => k_is)
      (case gzk26 => k_is)
      (case gza27 => k_is)
      (case gzl27 => k_is)
      (case gzc27 => k_is)
      (case gzk27 => k_is)
      (case gza28 => k_is)
      (case gzl28 => k_is)
      (case gzc28 => k_is)
      (case gzk28 => k_is)
      (case gzh29 => kernel_rfl)
      (case gzi29 => exact List.Mem.tail _ (List.Mem.tail _ (List.Mem.tail _ (List.Mem.tail _ (List.Mem.tail _ (List.Mem.head _))))))
      (case gza29 => k_is)
      (case gzl29 => k_is)
      (case gzc29 => k_is)
      (case gzk29 => k_is)
      (case gza30 => k_is)
      (case gzl30 => k_is)
      (case gzc30 => k_is)
      (case gzk30 => k_is)
      (case gza31 => k_is)
      (case gzl31 => k_is)
      (case gzc31 => k_is)
      (case gzk31 => k_is)
      (case gza32 => k_is)
      (case gzl32 => k_is)
      (case gzc32 => k_is)
      (case gzk32 => k_is)
      (case gza33 => k_is)
      (case gzl33 => k_is)
      (case gzc33 => k_is)
      (case gzk33 => k_is)
      (case gzh34 => kernel_rfl)
      (case gzi34 => exact List.Mem.tail _ (List.Mem.tail _ (List.Mem.tail _ (List.Mem.tail _ (List.Mem.tail _ (List.Mem.tail _ (List.Mem.head _)))))))
      (case gza34 => k_is)
      (case gzl34 => k_is)
      (case gzc34 => k_is)
      (case gzk34 => k_is)
      (case gza35 => k_is)
      (case gzl35 => k_is)
      (case gzc35 => k_is)
      (case gzk35 => k_is)
      (case gza36 => k_is)
      (case gzl36 => k_is)
      (case gzc36 => k_is)
      (case gzk36 => k_is)
      (case gza38 => k_is)
      (case gzl38 => k_is)
      (case gzc38 => k_is)
      (case gzk38 => k_is)
      (case gza39 => k_is)
      (case gzl39 => k_is)
      (case gzc39 => k_is)
      (case gzk39 => k_is)
      (case gza40 => k_is)
      (case gzl40 => k_is)
      (case gzc40 => k_is)
      (case gzk40 => k_is)
      (case gza41 => k_is)
      (case gzl41 => k_is)
      (case gzc41 => k_is)
      (case gzk41 => k_is)
      (case gza42 => k_is)
      (case gzl42 => k_is)
      (case gzc42 => k_is)
      (case gzk42 => k_is)
      (case gza43 => k_is)
      (case gzl43 => k_is)
      (case gzc43 => k_is)
      (case gzk43 => k_is)
      (case gza44 => k_is)
      (case gzl44 => k_is)
      (case gzc44 => k_is)
      (case gzk44 => k_is)
      (case gza45 => k_is)
      (case gzl45 => k_is)
      (case gzc45 => k_is)
      (case gzk45 => k_is)
      (case gza46 => k_is)
      (case gzl46 => k_is)
      (case gzc46 => k_is)
      (case gzk46 => k_is)
      (case gza47 => k_is)
      (case gzl47 => k_is)
      (case gzc47 => k_is)
      (case gzk47 => k_is)
      (case gza48 => k_is)
      (case gzl48 => k_is)
      (case gzc48 => k_is)
      (case gzk48 => k_is)
      (case gza49 => k_is)
      (case gzl49 => k_is)
      (case gzc49 => k_is)
      (case gzk49 => k_is)
      (case gza50 => k_is)
      (case gzl50 => k_is)
      (case gzc50 => k_is)
      (case gzk50 => k_is)
      (case gza59 => k_is)
      (case gzl59 => k_is)
      (case gzc59 => k_is)
      (case gzk59 => k_is)
      (case gza60 => k_is)
      (case gzl60 => k_is)
      (case gzc60 => k_is)
      (case gzk60 => k_is)
      (case gza61 => k_is)
      (case gzl61 => k_is)
      (case gzc61 => k_is)
      (case gzk61 => k_is)
      (case gza62 => k_is)
      (case gzl62 => k_is)
      (case gzc62 => k_is)
      (case gzk62 => k_is)
      (case gza63 => k_is)
      (case gzl63 => k_is)
      (case gzc63 => k_is)
      (case gzk63 => k_is)
