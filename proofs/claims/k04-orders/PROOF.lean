import PyProof.Rows.All
import Wide.All
import OpenK.AllK
import Wide.FinOn
import HandS.ForMost
import HandS.ForExc
import HandS.Lambda
import HandS.GenList
import HandS.AnyAll
import HandS.EndTab
import PyProof.TupleOfGen
import PyProof.CollectWalk
import HandS.Conv
import KE.SortData
import HandS.Evl
import HandS.Style
import HandS.TupAny
import HandS.Walk
import HandS.DictComp
import HandS.Defaults
import HandS.HeadHook4
import HandS.ExcCtx
import HandS.Small
import HandS.FStr
import KE.GoesMore
import HandS.More
import HandS.Head0
import HandS.Head1
import HandS.Head2
import HandS.HeadEnd
import HandS.HeadWalk
import PySem.Challenge.RW_millstack_k04_orders_of_jobs_that_are_du
set_option Elab.async false
set_option linter.all false
set_option maxRecDepth 100000
set_option maxHeartbeats 2000000
/-! Generator expressions that a built-in draws at once: the frame, the loop. -/
namespace Mi
open PySem PySem.Spec PyProof.Rows L2

structure GenOk (N : List Str) (sc scope : Scope) (own : List (Str × Nat)) : Prop where
  kind : scope.kind = .function
  co : scope.isCoroutine = false
  dot : scope.names.lookup (".0" : Str) = some NameKind.local
  uniq : ∀ y ∈ scope.names, scope.names.lookup y.1 = some y.2
  nocell : ∀ y ∈ scope.names, y.2 ≠ .cell
  ix : ∀ p ∈ own, N[p.2]? = some p.1
  free : ∀ y ∈ scope.names, y.2 = .free → sc.names.lookup y.1 = some .cell ∨ sc.names.lookup y.1 = some .free
  loc : ∀ y ∈ scope.names, y.2 = .local → y.1 ∈ own.map (·.1) ∨ y.1 ∉ N
def genOkB (N : List Str) (sc scope : Scope) (own : List (Str × Nat)) : Bool :=
  decide (scope.kind = .function) && !scope.isCoroutine && decide (scope.names.lookup (".0" : Str) = some NameKind.local) && scope.names.all (fun y => decide (scope.names.lookup y.1 = some y.2)) &&
    scope.names.all (fun y => !decide (y.2 = .cell)) && own.all (fun p => decide (N[p.2]? = some p.1)) &&
    scope.names.all (fun y => !decide (y.2 = .free) || decide (sc.names.lookup y.1 = some .cell) || decide (sc.names.lookup y.1 = some .free)) &&
    scope.names.all (fun y => !decide (y.2 = .local) || decide (y.1 ∈ own.map (·.1)) || !decide (y.1 ∈ N))
theorem genOk_by {N : List Str} {sc scope : Scope} {own : List (Str × Nat)} (h : genOkB N sc scope own = true) : GenOk N sc scope own := by
  unfold genOkB at h
  simp only [Bool.and_eq_true, Bool.or_eq_true, Bool.not_eq_true', decide_eq_true_eq, decide_eq_false_iff_not, List.all_eq_true] at h
  obtain ⟨⟨⟨⟨⟨⟨⟨h1, h2⟩, h3⟩, h4⟩, h5⟩, h6⟩, h7⟩, h8⟩ := h
  refine ⟨h1, h2, h3, h4, h5, h6, fun y hy e => ?_, fun y hy e => ?_⟩
  · rcases h7 y hy with (z | z) | z
    · exact absurd e z
    · exact .inl z
    · exact .inr z
  · rcases h8 y hy with (z | z) | z
    · exact absurd e z
    · exact .inl z
    · exact .inr z

/-- the context of the generator's frame, entered from the def's frames -/
abbrev genCx (X : Cx) (A : Around) (s : Shared) (H : Hp) (ce : Env) (fp : List Addr) : Cx :=
  { X with A := A.deeper ce, s_0 := s, H_0 := H, env := ce, outer := X.stack, stack := ce :: X.stack, ex := fp, fn := fun _ => false, calm := true, pn := [], xe := fun _ _ => False }

section
variable {X : Cx} {pins : List (Addr × Obj)} {σ : L2.St} {H : Hp} {s : Shared}
theorem gen_start {A : Around} {scope : Scope} {own : List (Str × Nat)} {fp : List Addr} {code : Value} {s5 : Shared} (I : Inv X pins σ H s) (hA : A.handled = none) (hF : A.frames = some X.stack)
    (ok : GenOk X.N X.env.scope scope own) (hN : X.N.Nodup) (hfp : ∀ b ∈ fp, FpOk X pins H b ∧ b < s.heap.objs.size) (kp : ∀ b o, s.heap.get? b = some o → s5.heap.get? b = some o)
    (hn : ∃ m, s5.heap.Ns s.heap.objs.size m) (hg : AllBare s5.gens) (ho : s5.os = s.os) :
    Inv (genCx X A s H (genEnv scope (cloFrom X.env.cells scope.names []) s.heap.objs.size code builtinsNs X.env) fp) [] (wipe σ (own.map (·.2))) H s5 := by
  have hasF : ∀ y ∈ scope.names, y.2 = .free → ∃ c, X.env.cells.lookup y.1 = some c := fun y hy e => (ok.free y hy e).elim (fun k => I.ok.has _ (.inl k)) fun k => I.ok.has _ (.inr k)
  generalize hce : genEnv scope (cloFrom X.env.cells scope.names []) s.heap.objs.size code builtinsNs X.env = ce
  have eL : ce.locals = s.heap.objs.size := by subst hce; rfl
  have eC : ce.cells = cloFrom X.env.cells scope.names [] := by subst hce; rfl
  have eS : ce.scope = scope := by subst hce; rfl
  have eF : ce.frame = some ce.locals := by subst hce; rfl
  have eG : ce.globals = mainGlobals := by subst hce; exact I.ok.glob
  have eB : ce.builtins = builtinsNs := by subst hce; rfl
  have up : ∀ {y c}, ce.cells.lookup y = some c → X.env.cells.lookup y = some c ∧ (y, NameKind.free) ∈ scope.names := fun {y c} e => by
    rw [eC] at e
    rcases cloFrom_mem (PySem.mem_of_lookup e) with hm | ⟨h1, h2⟩
    · cases hm
    · obtain ⟨c1, hc⟩ := hasF _ h1 rfl
      refine ⟨?_, h1⟩
      rw [h2, hc]
      rfl
  have dn : ∀ {y}, scope.names.lookup y = some .free → ∃ c, ce.cells.lookup y = some c := fun {y} hl => by
    rw [eC]
    exact mem_lookup (cloFrom_has (cells := X.env.cells) (acc := []) (PySem.mem_of_lookup hl))
  have cellLt : ∀ {y c}, X.env.cells.lookup y = some c → c < s.heap.objs.size := fun {y c} e => by
    obtain ⟨v, z⟩ := I.cell y c e
    exact z.lt
  have okG : (genCx X A s H ce fp).Ok := by
    refine ⟨I.ok.mod, ?_, eG, eB, ?_, fun y z c e1 e2 => I.ok.inj y z c (up e1).1 (up e2).1, fun y hy => ?_, fun y c z _ => Bool.noConfusion (show false = true from z), fun _ => hA, Around.frames_deeper hF, .inr ⟨rfl, eF⟩, fun b hb => ⟨?_, fun y c e z => ?_⟩, I.bs,
      Nat.le_trans I.ok.bsz I.sz, fun b o e hb => ?_, fun b hb z => ?_, I.stack, I.stkFree⟩
    · show ce.scope.kind = _
      rw [eS]
      exact ok.kind
    · show s.heap.objs.size ≤ ce.locals
      rw [eL]
      exact Nat.le_refl _
    · have hy : ce.scope.names.lookup y = some .cell ∨ ce.scope.names.lookup y = some .free := hy
      rw [eS] at hy
      rcases hy with hy | hy
      · exact absurd rfl (ok.nocell _ (PySem.mem_of_lookup hy))
      · exact dn hy
    · show b ≠ ce.locals
      rw [eL]
      exact Nat.ne_of_lt (hfp b hb).2
    · exact (hfp b hb).1.2.2.2.2.1 y c (up e).1 z
    · rcases (hfp b hb).1.2.2.2.1 with z | z
      · exact I.ok.noex b o e z
      · exact absurd (Nat.lt_of_lt_of_le (Heap.lt_size e) (Nat.le_trans I.ok.bsz z)) (Nat.lt_irrefl _)
    · rcases List.mem_cons.mp (I.stkSub b z) with z | z
      · exact (hfp b hb).1.2.1 z
      · exact (hfp b hb).1.2.2.1 z
  have tok : HOk X.prog X.w H s5.heap := I.hok.kept kp
  refine ⟨okG, ho, hg, Un.kept kp, ?_, fun y c e => ?_, ?_, fun y c e => I.freeC y c (up e).1, fun p hp => ?_, tok, ?_⟩
  · obtain ⟨m, hm⟩ := hn
    refine ⟨m, ?_, fun i y v e1 e2 e3 => ?_⟩
    · show s5.heap.Ns ce.locals m
      rw [eL]
      exact hm
    · obtain ⟨e2, hne⟩ := wipe_some e2
      have e3 : Vis ce.scope y := e3
      rw [eS] at e3
      have hfr : scope.names.lookup y = some .free := by
        rcases e3 with k | k | k
        · rcases ok.loc _ (PySem.mem_of_lookup k) rfl with q | q
          · obtain ⟨p, hp, hpy⟩ := List.mem_map.mp q
            have e4 := ok.ix p hp
            have : p.1 = y := hpy
            rw [this] at e4
            exact absurd (List.mem_map.mpr ⟨p, hp, nodup_ix hN e4 e1⟩) hne
          · exact absurd (List.mem_of_getElem? e1) q
        · exact absurd rfl (ok.nocell _ (PySem.mem_of_lookup k))
        · exact k
      have visX : Vis X.env.scope y := (ok.free _ (PySem.mem_of_lookup hfr) rfl).elim (fun k => .inr (.inl k)) fun k => .inr (.inr k)
      obtain ⟨mX, _, hl⟩ := I.loc
      obtain ⟨u, r, q⟩ := hl i y v e1 e2 visX
      obtain ⟨c, hc⟩ := dn hfr
      refine ⟨u, r, .inr ⟨.inr ?_, c, hc, ?_⟩⟩
      · show ce.scope.names.lookup y = some .free
        rw [eS]
        exact hfr
      · rcases q with ⟨k, _⟩ | ⟨_, c2, h2, z⟩
        · have k : X.env.scope.names.lookup y = some .local := k
          rcases ok.free _ (PySem.mem_of_lookup hfr) rfl with k2 | k2 <;> rw [show X.env.scope.names.lookup y = _ from k2] at k <;> cases k
        · rw [(up hc).1] at h2
          cases h2
          exact z.keeps kp
  · obtain ⟨v, z⟩ := I.cell y c (up e).1
    exact ⟨v, z.keeps kp⟩
  · show H ce.locals = none
    rw [eL]
    exact I.hok.fresh (Nat.le_refl _)
  · exact absurd (show p ∈ ([] : List (Addr × Obj)) ++ [] from hp) (by simp)
  · rw [wipe_length]
    exact I.len
end

/-! ### the drawer: what it holds, what it asks of an item, its end -/
structure Con (α : Type) where
  ad : List Addr
  CO : α → List (Addr × Obj) → Prop
  adr : ∀ a cs, CO a cs → cs.map (·.1) = ad
  nc : ∀ a cs, CO a cs → ∀ p ∈ cs, ∀ v, p.2.data ≠ .cell v
  one : ∀ a b cs, CO a cs → CO b cs → a = b
  take : α → V → Hp → (α → Hp → Prop) → Prop
  fin : α → Hp → Prop
/-- between two drawings: only what the drawer holds has changed -/
structure Wkn (ad : List Addr) (cs' : List (Addr × Obj)) (s s' : Shared) : Prop where
  os : s'.os = s.os
  bare : AllBare s'.gens
  keep : ∀ b o, b ∉ ad → s.heap.get? b = some o → s'.heap.get? b = some o
  has : ∀ p ∈ cs', s'.heap.get? p.1 = some p.2
def GYc {α : Type} (C : Con α) (X : Cx) (gp : List (Addr × Obj)) : Protocol := fun _ s₀ v s kap =>
  ∃ (a : α) (y : V) (σ : L2.St) (H : Hp) (cs : List (Addr × Obj)) (Nx : α → Hp → Prop), RelV y v ∧ C.CO a cs ∧ (∀ p ∈ cs, s₀.heap.get? p.1 = some p.2) ∧ Inv X (cs ++ gp) σ H s ∧ C.take a y H Nx ∧
    ∀ a' cs' s', Nx a' H → C.CO a' cs' → Wkn C.ad cs' s s' → kap (.send .none) s'
def GRc {α : Type} (C : Con α) (X : Cx) (gp : List (Addr × Obj)) : GenEnd := fun _ s₀ r s => r = .ok .next ∧
  ∃ (a : α) (σ : L2.St) (H : Hp) (cs : List (Addr × Obj)), C.CO a cs ∧ (∀ p ∈ cs, s₀.heap.get? p.1 = some p.2) ∧ Inv X (cs ++ gp) σ H s ∧ C.fin a H
/-- where the drawer's things and the generator's own object lie -/
structure Lies (X : Cx) (ad fp : List Addr) (gp : List (Addr × Obj)) : Prop where
  young : ∀ b ∈ ad, X.s_0.heap.objs.size ≤ b ∧ b ≠ X.env.locals ∧ (∀ x c, X.env.cells.lookup x = some c → c ≠ b) ∧ b ∉ fp ∧ ∀ p ∈ gp, p.1 ≠ b
  gfp : ∀ p ∈ gp, p.1 ∉ fp
  ex : X.ex = fp
  pn : X.pn = []
section
variable {α : Type} {C : Con α} {X : Cx} {gp cs cs' P : List (Addr × Obj)} {σ : L2.St} {H : Hp} {s s' : Shared} {fp : List Addr}
theorem Con.mem (C : Con α) {a : α} {cs : List (Addr × Obj)} (h : C.CO a cs) {p : Addr × Obj} (hp : p ∈ cs) : p.1 ∈ C.ad := by
  rw [← C.adr a cs h]
  exact List.mem_map.mpr ⟨p, hp, rfl⟩
theorem woken {a a' : α} (L : Lies X C.ad fp gp) (hP : ∀ p ∈ P, p.1 ∉ C.ad) (I : Inv X (cs ++ P) σ H s) (c : C.CO a cs) (c' : C.CO a' cs') (w : Wkn C.ad cs' s s') : Inv X (cs' ++ P) σ H s' := by
  have I0 : Inv X P σ H s := I.pins_of fun p hp => I.pin p (List.mem_append_right _ (List.mem_append_right _ hp))
  have hAd : ∀ b ∈ C.ad, H b = none ∧ b ∉ X.fs := fun b hb => by
    rw [← C.adr a cs c] at hb
    obtain ⟨p, hp, e⟩ := List.mem_map.mp hb
    have q := I.pin p (List.mem_append_right _ (List.mem_append_left _ hp))
    rw [← e]
    exact ⟨q.2.1, q.2.2.2.1⟩
  have nH : ∀ b u, H b = some u → b ∉ C.ad := fun b u e hb => by
    rw [(hAd b hb).1] at e
    cases e
  obtain ⟨hh, gg, dd, tt, oo⟩ := s'
  have eo : oo = s.os := w.os
  subst eo
  have J : Inv X P σ H { s with heap := hh, gens := gg, drawn := dd, toks := tt } := by
    refine I0.step (ch := C.ad) (fun b hb => ?_) (fun b o _ _ hc q _ => w.keep b o hc q) (fun b o _ _ hc q _ => ⟨o.slots, w.keep b o hc q⟩) (fun _ _ _ _ n => n) (fun b o hc q => ⟨o, w.keep b o hc q⟩)
      (fun _ _ q => q) (fun _ _ _ q => q) (fun b ps q => ⟨#[], by rw [q]; simp⟩) (fun m hm => ?_) (fun b u q => ?_) w.bare
    · obtain ⟨q1, q2, q3, _, _⟩ := L.young b hb
      refine ⟨.inr q1, q2, q3, fun p hp => ?_⟩
      rw [L.pn] at hp
      intro z
      rw [← z] at hb
      exact hP p hp hb
    · obtain ⟨ob, es, ep, ho, r⟩ := hm
      exact ⟨ob, es, ep, w.keep _ ob (fun z => (L.young _ z).2.1 rfl) ho, r⟩
    · refine (I0.hok b u q).stay (fun d v hd y => w.keep d v ?_ y) (fun _ y => y) fun _ _ y => y
      rcases hd with y | y
      · rw [y]
        exact nH b u q
      · exact nH d _ y
  refine J.pins_of fun p hp => ?_
  rcases List.mem_append.mp hp with hp | hp
  · have hb := C.mem c' hp
    exact ⟨w.has p hp, (hAd _ hb).1, (L.young _ hb).2.1, (hAd _ hb).2, C.nc a' cs' c' p hp⟩
  · exact J.pin p (List.mem_append_right _ hp)
end

/-- what a generator expression's turns keep: i drawn so far, m falls -/
def Turns {α : Type} (take : α → V → Hp → (α → Hp → Prop) → Prop) (fin : α → Hp → Prop) (J : It) (g : TG) (tt : TT) (te : TE) (σ0 : L2.St) (vs : List Nat) (W : Nat → Nat → α → Hp → Prop) : Prop := ∀ i m a H, W i m a H →
  (J.stop i H ∧ fin a H) ∨ (J.go i H ∧ ∃ Nx : α → Hp → Prop, (∀ a' H', Nx a' H' → ∃ m', m' < m ∧ W (i + 1) m' a' H') ∧ ∀ x H', J.yld i H x H' → g x σ0 H' fun σ2 H2 => wipe σ2 vs = σ0 ∧ tt σ2 H2 fun b H3 =>
    if b = true then te σ2 H3 fun y H4 => take a y H4 Nx else Nx a H3)

section
variable {α : Type} {C : Con α} {X : Cx} {gp : List (Addr × Obj)} {fp : List Addr} {B : Around} {elt tg iter : Expr} {ifs : List Expr} {scope : Scope} {pos : Pos} {it : Addr} {tn : Nat → Heap → Prop} {J : It} {g : TG} {tt : TT} {te : TE} {σ0 : L2.St} {vs : List Nat} {W : Nat → Nat → α → Hp → Prop}
theorem gen_loop (hc : X.calm = true) (hov : B.over (.compLoop (.GeneratorExp elt [⟨tg, iter, ifs, 0⟩] scope pos) 0 (.ref it) .none X.env) [] = X.A) (hxe : ∀ e s, ¬ X.xe e s) (hco : X.env.scope.isCoroutine = false)
    (T : Turn X.prog X.w X.K tg J fp it tn) (pg : PG X tg g) (pt : PTs X ifs tt) (pe : PE X elt te) (L : Lies X C.ad fp gp) (hlen : ∀ σ2 : L2.St, wipe σ2 vs = σ0 → σ2.length = σ0.length) (turn : Turns C.take C.fin J g tt te σ0 vs W) :
    ∀ (m n i : Nat) (a : α) (cs : List (Addr × Obj)) (s₀ s : Shared) (H : Hp), m < n → W i m a H → C.CO a cs → (∀ p ∈ cs, s₀.heap.get? p.1 = some p.2) → Inv X (cs ++ gp) σ0 H s → tn i s.heap → (∀ b ∈ fp, H b = none) →
      Seg (model X.prog X.w) B (GRc C X gp) (GYc C X gp) n s₀ (.compLoop (.GeneratorExp elt [⟨tg, iter, ifs, 0⟩] scope pos) 0 (.ref it) .none X.env)
        ((model X.prog X.w).den (.compLoop (.GeneratorExp elt [⟨tg, iter, ifs, 0⟩] scope pos) 0 (.ref it) .none X.env)) [] s := by
  have noE : ∀ {t : Sem PySem.Fin} {n : Nat} {s₀ : Shared} {c : Code} (x : Value) (s' : Shared), X.xe x s' → Seg (model X.prog X.w) B (GRc C X gp) (GYc C X gp) n s₀ c t [] s' := fun x s' h => absurd h (hxe x s')
  intro m
  induction m using Nat.strongRecOn with
  | ind m ih =>
    intro n i a cs s₀ s H hmn w co at0 I st nfp
    have stat : ∀ {σ' : L2.St} {H' : Hp} {s' : Shared}, Inv X (cs ++ gp) σ' H' s' → (∀ b ∈ fp, H' b = none) → ∀ b ∈ fp, FpOk X (cs ++ gp) H' b := fun {σ' H' s'} I' hn b hb => by
      have hx : b ∈ X.ex := by
        rw [L.ex]
        exact hb
      refine ⟨hn b hb, (I'.ok.exf b hx).1, I'.ok.exfs b hx, .inl hx, (I'.ok.exf b hx).2, fun p hp z => ?_⟩
      rw [L.pn] at hp
      rcases List.mem_append.mp (show p ∈ cs ++ gp from hp) with hp | hp
      · exact (L.young p.1 (C.mem co hp)).2.2.2.1 (by rw [z]; exact hb)
      · exact L.gfp p hp (by rw [z]; exact hb)
    show Seg _ B _ _ _ s₀ _ ((compTurn (.GeneratorExp elt [⟨tg, iter, ifs, 0⟩] scope pos) 0 (.ref it) .none X.env).onRaise (leaving X.env)) [] s
    rw [compTurn_gen, Sem.onRaise_eq_wrap]
    refine seg_bind_wrap (wpAny_standAt ?_)
    rcases turn i m a H w with ⟨stop, hf⟩ | ⟨go, Nx, hNx, step⟩
    · refine seg_bind_wrap ?_
      rw [hov]
      refine wpAny_mono (T.done X rfl rfl rfl hc i _ s σ0 H (fun _ _ => False) I (stat I nfp) st stop) (fun r s1 hr => ?_) fun _ _ z => z.elim
      obtain ⟨er, I1⟩ := hr
      subst er
      exact seg_end (.ok .next) ⟨rfl, a, σ0, H, cs, co, at0, I1, hf⟩
    · refine seg_bind_wrap ?_
      rw [hov]
      refine wpAny_mono (T.item X rfl rfl rfl hc i _ s σ0 H (fun _ _ => False) I (stat I nfp) st go) (fun r s1 hr => ?_) fun _ _ z => z.elim
      obtain ⟨u, er, h1⟩ := hr
      subst er
      refine seg_bind_wrap ?_
      rw [hov]
      refine wpAny_mono h1 (fun _ s2 h2 => ?_) fun _ _ z => z.elim
      obtain ⟨x, H2, I2, r2, y2, st2, n2⟩ := h2
      have I2p := I2.pinned (stat I2 n2) (T.obj _ _ st2)
      refine seg_bind_wrap ?_
      rw [hov]
      refine wpAny_mono (pg.run _ s2 σ0 H2 x u _ I2p r2 (step x H2 y2)) (fun _ s3 h3 => ?_) fun x s' z => noE x s' z
      obtain ⟨σ3, H3, I3, hw3, q3⟩ := h3
      refine seg_bind_wrap ?_
      rw [hov]
      refine wpAny_mono (pt.run _ s3 σ3 H3 _ I3 q3) (fun b s4 h4 => ?_) fun x s' z => noE x s' z
      obtain ⟨H4, I4, q4⟩ := h4
      have back : ∀ {s' : Shared} {H' : Hp} {cs1 : List (Addr × Obj)}, Inv X ((cs1 ++ gp) ++ pinsAt fp s2.heap) σ3 H' s' → Inv X (cs1 ++ gp) σ0 H' s' ∧ tn (i + 1) s'.heap ∧ ∀ b ∈ fp, H' b = none := fun {s' H' cs1} I' => by
        have pin' : ∀ b ∈ fp, ∀ o, s2.heap.get? b = some o → s'.heap.get? b = some o ∧ H' b = none := fun b hb o e =>
          let z := I'.pin (b, o) (List.mem_append_right _ (List.mem_append_right _ (mem_pinsAt hb e)))
          ⟨z.1, z.2.1⟩
        refine ⟨(I'.unpinned (pins := cs1 ++ gp)).weak (hlen σ3 hw3).symm fun j v e => ?_, T.keep _ _ _ st2 fun b hb o e => (pin' b hb o e).1, fun b hb => ?_⟩
        · rw [← hw3] at e
          exact (wipe_some e).1
        · obtain ⟨o, e, _⟩ := T.obj _ _ st2 b hb
          exact (pin' b hb o e).2
      cases b with
      | false =>
        simp only [Bool.false_eq_true, if_false] at q4 ⊢
        obtain ⟨m', hm', w'⟩ := hNx a H4 q4
        obtain ⟨I5, st5, n5⟩ := back I4
        exact seg_again rfl (ih m' hm' n (i + 1) a cs s₀ s4 H4 (Nat.lt_trans hm' hmn) w' co at0 I5 st5 n5)
      | true =>
        simp only [if_true] at q4 ⊢
        have hy : ∀ v, yieldOut X.env v = yieldValue v := fun v => by simp only [yieldOut, hco, Bool.false_eq_true, if_false]
        simp only [hy]
        rw [Sem.bind_eq_wrap', Sem.bind_eq_wrap', Sem.wrap_wrap, Sem.wrap_wrap]
        refine seg_wrap ?_
        rw [hov]
        refine wpAny_mono (pe.run _ s4 σ3 H4 _ I4 q4) (fun v s5 h5 => ?_) fun x s' z => noE x s' z
        obtain ⟨y, H5, I5, r5, q5⟩ := h5
        obtain ⟨n', rfl⟩ : ∃ n', n = n' + 1 := ⟨n - 1, by omega⟩
        refine seg_at (seg_yield rfl rfl rfl ⟨a, y, σ3, H5, cs, Nx, r5, co, at0, I5.unpinned, q5, fun a' cs' s' nx co' wk => ?_⟩)
        obtain ⟨m', hm', w'⟩ := hNx a' H5 nx
        have I6 : Inv X (cs' ++ (gp ++ pinsAt fp s2.heap)) σ3 H5 s' := by
          refine woken L (fun p hp z => ?_) (by rw [← List.append_assoc]; exact I5) co co' wk
          rcases List.mem_append.mp hp with hp | hp
          · exact (L.young _ z).2.2.2.2 p hp rfl
          · exact (L.young _ z).2.2.2.1 (of_pinsAt hp).1
        rw [← List.append_assoc] at I6
        obtain ⟨I7, st7, n7⟩ := back I6
        exact seg_again rfl (ih m' hm' n' (i + 1) a' cs' s' s' H5 (by omega) w' co' wk.has I7 st7 n7)
end

/-! ### the generator begins -/
section
variable {α : Type} {C : Con α} {X : Cx} {gp : List (Addr × Obj)} {fp : List Addr} {B : Around} {elt tg iter : Expr} {ifs : List Expr} {scope : Scope} {pos : Pos} {it : Addr} {tn : Nat → Heap → Prop} {J : It} {g : TG} {tt : TT} {te : TE} {σ0 : L2.St} {vs : List Nat} {W : Nat → Nat → α → Hp → Prop}
theorem gen_begin (hc : X.calm = true) (hov : B.over (.compLoop (.GeneratorExp elt [⟨tg, iter, ifs, 0⟩] scope pos) 0 (.ref it) .none X.env) [] = X.A) (hxe : ∀ e s, ¬ X.xe e s) (hco : X.env.scope.isCoroutine = false)
    (T : Turn X.prog X.w X.K tg J fp it tn) (pg : PG X tg g) (pt : PTs X ifs tt) (pe : PE X elt te) (L : Lies X C.ad fp gp) (hlen : ∀ σ2 : L2.St, wipe σ2 vs = σ0 → σ2.length = σ0.length) (turn : Turns C.take C.fin J g tt te σ0 vs W)
    {m n : Nat} {a : α} {cs : List (Addr × Obj)} {s : Shared} {H : Hp} (hmn : m < n) (w : W 0 m a H) (co : C.CO a cs) (I : Inv X (cs ++ gp) σ0 H s) (st : tn 0 s.heap) (nfp : ∀ b ∈ fp, H b = none) :
    Seg (model X.prog X.w) B (GRc C X gp) (GYc C X gp) n s (.compStart (.GeneratorExp elt [⟨tg, iter, ifs, 0⟩] scope pos) 0 (.ref it) .none X.env)
      ((model X.prog X.w).den (.compStart (.GeneratorExp elt [⟨tg, iter, ifs, 0⟩] scope pos) 0 (.ref it) .none X.env)) [] s := by
  have at0 : ∀ p ∈ cs, s.heap.get? p.1 = some p.2 := fun p hp => (I.pin p (List.mem_append_right _ (List.mem_append_left _ hp))).1
  have loop := gen_loop hc hov hxe hco T pg pt pe L hlen turn m n 0 a cs s s H hmn w co at0 I st nfp
  show Seg _ B _ _ _ s _ ((compStart (.GeneratorExp elt [⟨tg, iter, ifs, 0⟩] scope pos) 0 (.ref it) .none X.env).onRaise (leaving X.env)) [] s
  unfold compStart
  rw [Sem.onRaise_eq_wrap]
  show Seg _ B _ _ _ s _ ((ask >>= _).wrap _ _ _ _) [] s
  refine seg_bind_wrap (wpAny_askSetting ?_)
  split
  · exact seg_again rfl loop
  · first
      | exact seg_bind_wrap (wpAny_rule (seg_bind_wrap (wpAny_standAt (seg_bind_wrap (T.self _ 0 s _ _ st (seg_again rfl loop))))))
      | (refine seg_bind_wrap (wpAny_rule ?_); show Seg _ B _ _ _ s _ ((standAt iter.pos >>= _).wrap _ _ _ _) [] s; exact seg_bind_wrap (wpAny_standAt (seg_bind_wrap (T.self _ 0 s _ _ st (seg_again rfl loop)))))

/-- suspended, or not begun: any drawer that keeps to its own may draw -/
def Susp {α : Type} (C : Con α) (X : Cx) (gp : List (Addr × Obj)) (Ac : Around) (gi n : Nat) (Nn : α → Prop) (s : Shared) : Prop :=
  ∃ (gs : GenState) (a0 : α) (cs0 : List (Addr × Obj)) (σ : L2.St) (H : Hp), s.gens[gi]? = some gs ∧ Inv X (cs0 ++ gp) σ H s ∧ C.CO a0 cs0 ∧
    ∀ a' cs' s', Nn a' → C.CO a' cs' → Wkn C.ad cs' s s' → (match n with | 0 => False | k + 1 => gs.Goes (model X.prog X.w) Ac.in1 (GRc C X gp) (GYc C X gp) k (.send .none) s')
/-- the generator's own object among its pins -/
def GenIn (gp : List (Addr × Obj)) (ga : Addr) (gi : Nat) : Prop := ∃ (o : Obj) (nm qn : Value), (ga, o) ∈ gp ∧ o.cls = .type "generator" ∧ o.data = .fields #[.int gi 0, nm, qn] ∧ o.slots = #[]
end
section
variable {α : Type} {C : Con α} {X : Cx} {gp : List (Addr × Obj)} {fp : List Addr} {Ac : Around} {ga : Addr} {gi n : Nat} {Nn : α → Prop} {s s' : Shared} {a : α} {cs : List (Addr × Obj)} {Q : Option Value → Shared → Prop} {E : Value → Shared → Prop}
theorem inv_gens {pins : List (Addr × Obj)} {σ : L2.St} {H : Hp} {h' : Heap} {gg : Array GenState} (I : Inv X pins σ H s) (hb : AllBare gg) (k : ∀ b o, s.heap.get? b = some o → h'.get? b = some o) : Inv X pins σ H { s with heap := h', gens := gg } := by
  refine I.step (ch := []) (fun b hb => absurd hb (by simp)) (fun b o _ _ _ q _ => k b o q) (fun b o _ _ _ q _ => ⟨o.slots, k b o q⟩) (fun _ _ _ _ n => n) (fun b o _ q => ⟨o, k b o q⟩)
    (fun _ _ q => q) (fun _ _ _ q => q) (fun b ps q => ⟨#[], by rw [q]; simp⟩) (fun m hm => ?_) (I.hok.kept k) hb
  obtain ⟨ob, es, ep, ho, r⟩ := hm
  exact ⟨ob, es, ep, k _ ob ho, r⟩
theorem same_objs {l1 l2 : List (Addr × Obj)} {h : Heap} (e : l1.map (·.1) = l2.map (·.1)) (h1 : ∀ p ∈ l1, h.get? p.1 = some p.2) (h2 : ∀ p ∈ l2, h.get? p.1 = some p.2) : l1 = l2 := by
  induction l1 generalizing l2 with
  | nil => cases l2 with
    | nil => rfl
    | cons p r => cases e
  | cons p r ih => cases l2 with
    | nil => cases e
    | cons q t =>
      rw [List.map_cons, List.map_cons] at e
      injection e with e1 e2
      have a1 := h1 p List.mem_cons_self
      have a2 := h2 q List.mem_cons_self
      rw [e1, a2] at a1
      have e3 : p = q := Prod.ext e1 (Option.some.inj a1).symm
      rw [e3, ih e2 (fun x hx => h1 x (List.mem_cons_of_mem _ hx)) fun x hx => h2 x (List.mem_cons_of_mem _ hx)]
theorem genIn_at {pins : List (Addr × Obj)} {σ : L2.St} {H : Hp} (G : GenIn gp ga gi) (I : Inv X (pins ++ gp) σ H s) : s.heap.IsGen ga gi := by
  obtain ⟨o, nm, qn, ho, r⟩ := G
  exact ⟨o, nm, qn, (I.pin (ga, o) (List.mem_append_right _ (List.mem_append_right _ ho))).1, r⟩
theorem next_susp (hh : Ac.handled = none) (hd : Ac.depth < recursionLimit) (L : Lies X C.ad fp gp) (hgp : ∀ p ∈ gp, p.1 ∉ C.ad) (G : GenIn gp ga gi) (S : Susp C X gp Ac gi n Nn s) (hN : Nn a) (co : C.CO a cs) (wk : Wkn C.ad cs s s') (hgen : s'.gens = s.gens)
    (hY : ∀ v s2 y σ H Nx n', n = n' + 1 → RelV y v → Inv X (cs ++ gp) σ H s2 → C.take a y H Nx → Susp C X gp Ac gi n' (fun a' => Nx a' H) s2 → Q (some v) s2)
    (hD : ∀ s2 σ H, Inv X (cs ++ gp) σ H s2 → C.fin a H → Q none s2) : wpAny (model X.prog X.w) Ac (pyNext (.ref ga)) Q E s' := by
  obtain ⟨gs, a0, cs0, σ, H, hgs, I, c0, go⟩ := S
  have I' := woken L hgp I c0 co wk
  have hgs' : s'.gens[gi]? = some gs := by
    rw [hgen]
    exact hgs
  have hlt : gi + 1 ≤ s'.gens.size := (Array.getElem?_eq_some_iff.mp hgs').1
  have bareR : AllBare (s'.setGen gi .running).gens := allBare_setGen wk.bare rfl
  have hgo := go a cs (s'.setGen gi .running) hN co ⟨wk.os, bareR, wk.keep, wk.has⟩
  cases n with
  | zero => exact False.elim hgo
  | succ k =>
    have eqs : ∀ {a1 : α} {cs1 : List (Addr × Obj)}, C.CO a1 cs1 → (∀ p ∈ cs1, s'.heap.get? p.1 = some p.2) → cs1 = cs ∧ a1 = a := fun {a1 cs1} c1 h1 => by
      have e : cs1 = cs := same_objs ((C.adr _ _ c1).trans (C.adr _ _ co).symm) h1 wk.has
      subst e
      exact ⟨rfl, C.one _ _ _ c1 co⟩
    refine GenW.wpAny_gsz (n := gi + 1) hlt (wpAny_pyNext_genexpQ (A := Ac) (P := fun _ s₀ s₁ => ∃ (a : α) (σ : L2.St) (H : Hp) (cs : List (Addr × Obj)), C.CO a cs ∧ (∀ p ∈ cs, s₀.heap.get? p.1 = some p.2) ∧ Inv X (cs ++ gp) σ H s₁ ∧ C.fin a H)
      (Q := fun r s2 => gi + 1 ≤ s2.gens.size → Q r s2) (E := fun e s2 => gi + 1 ≤ s2.gens.size → E e s2) hh I'.nolimit hd (genIn_at G I') hgs' hgo (fun v s1 gs' hb hv hsz => ?_) (fun s1 hp h' hk hsz => ?_))
    · obtain ⟨a1, y, σ1, H1, cs1, Nx, ry, c1, at1, I1, tk, kap⟩ := hv
      obtain ⟨e1, e2⟩ := eqs c1 at1
      subst e1 e2
      have hsz1 : gi < s1.gens.size := by
        have q : (s1.setGen gi gs').gens.size = s1.gens.size := GenW.setGen_size _ _ _
        have hsz' : gi + 1 ≤ (s1.setGen gi gs').gens.size := hsz
        omega
      have I2 : Inv X (cs1 ++ gp) σ1 H1 (s1.setGen gi gs') := inv_gens I1 (allBare_setGen I1.bare hb) fun _ _ e => e
      refine hY v _ y σ1 H1 Nx k rfl ry I2 tk ⟨gs', a1, cs1, σ1, H1, setGen_at hsz1, I2, c1, fun a' cs' s3 nx co' wk' => ?_⟩
      exact kap a' cs' s3 nx co' ⟨wk'.os, wk'.bare, wk'.keep, wk'.has⟩
    · obtain ⟨a1, σ1, H1, cs1, c1, at1, I1, fn⟩ := hp
      obtain ⟨e1, e2⟩ := eqs c1 at1
      subst e1 e2
      have J := inv_gens (h' := h') (gg := (s1.setGen gi .finished).gens) I1 (allBare_setGen I1.bare rfl) hk
      exact hD _ σ1 H1 J fn
end
end Mi

set_option Elab.async false
set_option linter.all false
set_option maxRecDepth 100000
set_option maxHeartbeats 2000000
namespace Mi
open PySem PySem.Spec PyProof.Rows L2
/-- a generator just made over what J tells, in the state s6; not begun -/
def Fresh (X : Cx) (pins : List (Addr × Obj)) (σ : L2.St) (elt tg iter : Expr) (ifs : List Expr) (scope : Scope) (pos : Pos) (J : It) (H2 : Hp) (ga : Addr) (s6 : Shared) : Prop :=
  ∃ (s4 : Shared) (it : Addr) (fp : List Addr) (tn : Nat → Heap → Prop) (code : Value) (gi : Nat), Inv X pins σ H2 s4 ∧ Turn X.prog X.w X.K tg J fp it tn ∧ tn 0 s4.heap ∧ (∀ b ∈ fp, FpOk X pins H2 b ∧ b < s4.heap.objs.size) ∧
    s6.gens[gi]? = some (.fresh (.compStart (.GeneratorExp elt [⟨tg, iter, ifs, 0⟩] scope pos) 0 (.ref it) .none (genEnv scope (cloFrom X.env.cells scope.names []) s4.heap.objs.size code builtinsNs X.env))) ∧
    s6.heap.IsGen ga gi ∧ s4.heap.objs.size < ga ∧ ga < s6.heap.objs.size ∧ s6.os = s4.os ∧ AllBare s6.gens ∧ (∀ b o, s4.heap.get? b = some o → s6.heap.get? b = some o) ∧ ∃ m, s6.heap.Ns s4.heap.objs.size m
section
variable {X : Cx} {pins : List (Addr × Obj)} {σ : L2.St} {H : Hp} {s : Shared}
theorem gen_made {c P : Addr} {elt tg iter : Expr} {ifs : List Expr} {scope : Scope} {gpos : Pos} {own : List (Str × Nat)} {wi : TI} {k : Nat} {Q' : Value → Shared → Prop} {R : It → Hp → Prop} (hr : Room k X.A) (TB : LamX.TabB X.base X.mg c P) (hcode : X.env.code = .ref c)
    (ok : GenOk X.N X.env.scope scope own) (hi : PI X tg iter wi) (hs : ∀ v, genFold iter X.env v = pure v) (I : Inv X pins σ H s) (h : wi σ H fun J H1 => GxR.TabG H1 P ∧ R J H1)
    (hQ : ∀ J H1 H2 ga s6, R J H1 → GxR.Tabbed P H1 H2 → Fresh X pins σ elt tg iter ifs scope gpos J H2 ga s6 → Q' (.ref ga) s6) :
    wpAny (model X.prog X.w) X.A (eval (.GeneratorExp elt [⟨tg, iter, ifs, 0⟩] scope gpos) X.env) Q' X.xe s := by
  have hasF : ∀ y ∈ scope.names, y.2 = .free → ∃ c, X.env.cells.lookup y.1 = some c := fun y hy e => (ok.free y hy e).elim (fun k => I.ok.has _ (.inl k)) fun k => I.ok.has _ (.inr k)
  refine wpAny_GeneratorExp_make ok.co (closure_ok hasF) ok.nocell ok.dot ok.kind (by have := hr.dp; omega) ?_ hs
  refine thn (hi.run pins s σ H _ I h) fun xv s1 h1 => thn h1 fun itv s2 h2 => ?_
  obtain ⟨it, fp, tn, J, H1, e, I2, T, st2, f2, ⟨ps, hP, ht⟩, q⟩ := h2
  subst e
  have lim2 : s2.heap.NoLimit := I2.nolimit
  have hPs : s2.heap.get? P = some { cls := .none, data := .fields ps } := I2.hok P _ hP
  have cd : PySem.W.CodeHd s2.heap c P := TB.code.keeps I2.bk
  refine ⟨lim2, ?_⟩
  -- behind the code
  have cont : ∀ (code : Value) (s3 : Shared) (H2 : Hp), Inv X pins σ H2 s3 → GxR.Tabbed P H1 H2 → (∀ b ∈ fp, ∀ o, s2.heap.get? b = some o → s3.heap.get? b = some o) → (∀ b ∈ fp, H2 b = none) → wpAny (model X.prog X.w) X.A (builtinsFor X.env.globals X.env.builtins) (fun bi s₄ =>
        ∀ h', h'.Ns s₄.heap.objs.size (fun y => if y = ".0" then some (.ref it) else none) → Heap.SameBut s₄.heap.objs.size (s₄.heap.push { cls := .type "frame", data := .dict #[] }) h' →
          Q' (.ref h'.objs.size) { s₄ with
            gens := s₄.gens.push (.fresh (.compStart (.GeneratorExp elt [⟨tg, iter, ifs, 0⟩] scope gpos) 0 (.ref it) .none (genEnv scope (cloFrom X.env.cells scope.names []) s₄.heap.objs.size code bi X.env))),
            toks := s₄.toks + 1 + 1 + 1,
            heap := h'.push { cls := .type "generator", data := .fields #[.int s₄.gens.size 0, .str "<genexpr>" (s₄.toks + 1), .str (X.env.qual ++ "<genexpr>") (s₄.toks + 1 + 1)] } }) X.xe s3 := by
    intro code s3 H2 I3 hT k3 n3
    obtain ⟨bm, ob, e1, e2, e3, e4, e5, e6, e7, e8⟩ := TB.bm
    refine wpAny_builtinsFor (m := X.mg) (by rw [I3.ok.glob]; exact I3.mod.glob.keeps I3.bk) e1 e2 (I3.bk _ _ e5) e6 e7 e8 ?_
    intro h' hns hsb
    have kp : ∀ b o, s3.heap.get? b = some o → h'.get? b = some o := fun b o e => hsb.extBut b o (Nat.ne_of_lt (Heap.lt_size e)) (Heap.get?_push_of_some _ e)
    have hsz : h'.objs.size = s3.heap.objs.size + 1 := by
      rw [hsb.1, Heap.size_push]
    have st3 : tn 0 s3.heap := T.keep _ _ _ st2 k3
    have f3 : ∀ b ∈ fp, FpOk X pins H2 b ∧ b < s3.heap.objs.size := fun b hb => by
      obtain ⟨o, e, _⟩ := T.obj _ _ st3 b hb
      exact ⟨⟨n3 b hb, (f2 b hb).2⟩, Heap.lt_size e⟩
    refine hQ J H1 H2 _ _ q hT ⟨s3, it, fp, tn, code, s3.gens.size, I3, T, st3, f3, ?_, ?_, ?_, ?_, rfl, I3.bare.push rfl, fun b o e => Heap.get?_push_of_some _ (kp b o e), _, hns.keeps fun b o e => Heap.get?_push_of_some _ e⟩
    · exact Array.getElem?_push_size ..
    · exact ⟨_, _, _, Heap.get?_push_size _ rfl, rfl, rfl, rfl⟩
    · rw [hsz]
      exact Nat.lt_succ_self _
    · show h'.objs.size < (h'.push _).objs.size
      rw [Heap.size_push]
      exact Nat.lt_succ_self _
  have nP : ∀ b ∈ fp, b ≠ P := fun b hb z => by
    have e := (f2 b hb).1
    rw [z, hP] at e
    cases e
  cases hf : codeAmong gpos ps.toList with
  | none =>
    refine wpAny_genexprCodeX hcode (cd.code hPs ht) (cd.tab hPs) hf fun c' h' tk hx hge hlt hco' _ htab' _ => ?_
    obtain ⟨o1, vs1, f1, tf, fl, tg1, inF, tx, tt1, op, _, _, _, _, _, _, _, _, _, htr, _⟩ := hco'
    have J3 := GxR.inv_tab (more := #[rawInt gpos.line, rawInt gpos.col, .ref c']) (h' := h') (g' := s2.gens) (d' := s2.drawn) (t' := tk) I2 hP (fun b o hb e => hx b o hb e) htab'.2 I2.bare
    exact cont _ _ _ J3 ⟨⟨_, upd_same, htr⟩, fun b hb => upd_ne hb⟩ (fun b hb o e => hx b o (nP b hb) e) fun b hb => by
      rw [upd_ne (nP b hb)]
      exact (f2 b hb).1
  | some cv =>
    refine wpAny_genexprCode_hit hcode (cd.code hPs ht) hf ?_
    exact cont cv s2 H1 I2 ⟨⟨ps, hP, ht⟩, fun _ _ => rfl⟩ (fun _ _ _ e => e) fun b hb => (f2 b hb).1

/-- a drawer that has just begun draws from it -/
theorem fresh_susp {α : Type} {C : Con α} {elt tg iter : Expr} {ifs : List Expr} {scope : Scope} {gpos : Pos} {own : List (Str × Nat)} {J : It} {H2 : Hp} {ga : Addr} {s6 s7 : Shared} {g : TG} {tt : TT} {te : TE} {k : Nat} {Ac : Around} {W : Nat → Nat → α → Hp → Prop} {m0 : Nat} {a0 : α} {cs : List (Addr × Obj)}
    (F : Fresh X pins σ elt tg iter ifs scope gpos J H2 ga s6) (hrA : Room (k + 1) Ac) (hF : Ac.frames = some X.stack) (ok : GenOk X.N X.env.scope scope own) (hN : X.N.Nodup)
    (hg : ∀ (A : Around) (s : Shared) (H : Hp) (cl : List (Str × Addr)) (L : Addr) (code : Value) (fp : List Addr), PG (genCx X A s H (genEnv scope cl L code builtinsNs X.env) fp) tg g)
    (ht : ∀ (A : Around) (s : Shared) (H : Hp) (cl : List (Str × Addr)) (L : Addr) (code : Value) (fp : List Addr), Room k (A.deeper (genEnv scope cl L code builtinsNs X.env)) → PTs (genCx X A s H (genEnv scope cl L code builtinsNs X.env) fp) ifs tt)
    (he : ∀ (A : Around) (s : Shared) (H : Hp) (cl : List (Str × Addr)) (L : Addr) (code : Value) (fp : List Addr), Room k (A.deeper (genEnv scope cl L code builtinsNs X.env)) → PE (genCx X A s H (genEnv scope cl L code builtinsNs X.env) fp) elt te)
    (os : s7.os = s6.os) (gens : s7.gens = s6.gens) (kp : ∀ b o, s6.heap.get? b = some o → s7.heap.get? b = some o) (hC : ∀ b ∈ C.ad, s6.heap.objs.size ≤ b) (co : C.CO a0 cs) (has : ∀ p ∈ cs, s7.heap.get? p.1 = some p.2)
    (w : W 0 m0 a0 H2) (turn : Turns C.take C.fin J g tt te (wipe σ (own.map (·.2))) (own.map (·.2)) W) :
    ∃ (Xg : Cx) (gp : List (Addr × Obj)) (fp : List Addr) (gi : Nat), Xg.prog = X.prog ∧ Xg.w = X.w ∧ Xg.K = X.K ∧ Lies Xg C.ad fp gp ∧ (∀ p ∈ gp, p.1 ∉ C.ad) ∧ GenIn gp ga gi ∧ Susp C Xg gp Ac gi (m0 + 2) (fun a => a = a0) s7 ∧
      (∀ (pg : List (Addr × Obj)) (σ' : L2.St) (H' : Hp) (s' : Shared), Inv Xg pg σ' H' s' → Inv X pins σ H' s') := by
  obtain ⟨s4, it, fp, tn, code, gi, I4, T, st4, f4, hgs, hig, hga1, hga2, os6, b6, k6, m, hns⟩ := F
  obtain ⟨og, nm, qn, ho, hcl, hdt, hsl⟩ := hig
  generalize hce : genEnv scope (cloFrom X.env.cells scope.names []) s4.heap.objs.size code builtinsNs X.env = ce at hgs
  have eL : ce.locals = s4.heap.objs.size := by subst hce; rfl
  have eC : ce.cells = cloFrom X.env.cells scope.names [] := by subst hce; rfl
  have k7 : ∀ b o, s4.heap.get? b = some o → s7.heap.get? b = some o := fun b o e => kp b o (k6 b o e)
  have hdeep : ∀ {acc : Value}, (Ac.in1).over (.compStart (.GeneratorExp elt [⟨tg, iter, ifs, 0⟩] scope gpos) 0 (.ref it) acc ce) [] = (Ac.in1).deeper ce := fun {acc} => rfl
  have rD : Room k ((Ac.in1).deeper ce) := ⟨hrA.hd, by have := hrA.dp; show Ac.depth + 1 + 3 * k + 5 < _; omega, by have := hrA.un; show Ac.units + 1 + 3 + 16 * k + 200 < _; omega⟩
  have I7 : Inv (genCx X Ac.in1 s4 H2 ce fp) [] (wipe σ (own.map (·.2))) H2 s7 := by
    have z := gen_start (A := Ac.in1) (code := code) (s5 := s7) I4 (show Ac.in1.handled = none from hrA.hd) (show Ac.in1.frames = some X.stack from hF) ok hN f4 k7 ⟨m, hns.keeps kp⟩ (by rw [gens]; exact b6) (os.trans os6)
    rw [hce] at z
    exact z
  have szAd : ∀ b ∈ C.ad, s4.heap.objs.size < b := fun b hb => Nat.lt_of_lt_of_le (Nat.lt_trans hga1 hga2) (hC b hb)
  have cellLt : ∀ {x c}, ce.cells.lookup x = some c → c < s4.heap.objs.size := fun {x c} e => by
    obtain ⟨v, z⟩ : ∃ v, s4.heap.IsCell c v := by
      rw [eC] at e
      rcases cloFrom_mem (PySem.mem_of_lookup e) with hm | ⟨h1, h2⟩
      · cases hm
      · obtain ⟨c1, hc⟩ : ∃ c, X.env.cells.lookup x = some c := (ok.free _ h1 rfl).elim (fun k => I4.ok.has _ (.inl k)) fun k => I4.ok.has _ (.inr k)
        rw [h2, hc]
        exact I4.cell x c1 hc
    exact z.lt
  have L : Lies (genCx X Ac.in1 s4 H2 ce fp) C.ad fp [(ga, og)] := by
    refine ⟨fun b hb => ⟨Nat.le_of_lt (szAd b hb), ?_, fun x c e z => ?_, fun hm => ?_, fun p hp => ?_⟩, fun p hp hm => ?_, rfl, rfl⟩
    · show b ≠ ce.locals
      rw [eL]
      exact Nat.ne_of_gt (szAd b hb)
    · have h1 := cellLt (x := x) (c := c) e
      rw [z] at h1
      exact Nat.lt_asymm h1 (szAd b hb)
    · exact Nat.lt_asymm (f4 b hm).2 (szAd b hb)
    · rw [List.mem_singleton.mp hp]
      exact Nat.ne_of_lt (Nat.lt_of_lt_of_le hga2 (hC b hb))
    · rw [List.mem_singleton.mp hp] at hm
      exact Nat.lt_asymm (f4 ga hm).2 hga1
  have hgp : ∀ p ∈ [(ga, og)], p.1 ∉ C.ad := fun p hp hm => by
    rw [List.mem_singleton.mp hp] at hm
    exact absurd (Nat.lt_of_lt_of_le hga2 (hC _ hm)) (Nat.lt_irrefl _)
  have far : ∀ b, s4.heap.objs.size < b → H2 b = none ∧ b ≠ ce.locals ∧ b ∉ (genCx X Ac.in1 s4 H2 ce fp).fs := fun b hb => by
    refine ⟨I4.hok.fresh (Nat.le_of_lt hb), by rw [eL]; exact Nat.ne_of_gt hb, fun z => ?_⟩
    rcases List.mem_cons.mp (I4.stkSub b z) with e | z
    · have h1 := I4.lt
      rw [← e] at h1
      exact Nat.lt_asymm h1 hb
    · exact I4.nofs (Nat.le_of_lt hb) z
  have I8 : Inv (genCx X Ac.in1 s4 H2 ce fp) (cs ++ [(ga, og)]) (wipe σ (own.map (·.2))) H2 s7 := by
    refine I7.pins_of fun p hp => ?_
    rcases List.mem_append.mp hp with hp | hp
    · obtain ⟨q1, q2, q3⟩ := far p.1 (szAd _ (C.mem co hp))
      exact ⟨has p hp, q1, q2, q3, C.nc _ _ co p hp⟩
    · rw [List.mem_singleton.mp hp]
      obtain ⟨q1, q2, q3⟩ := far ga hga1
      refine ⟨kp _ _ ho, q1, q2, q3, fun v z => ?_⟩
      have z2 : og.data = .cell v := z
      rw [hdt] at z2
      cases z2
  have st7 : tn 0 s7.heap := T.keep _ _ _ st4 fun b _ o e => k7 b o e
  refine ⟨genCx X Ac.in1 s4 H2 ce fp, [(ga, og)], fp, gi, rfl, rfl, rfl, L, hgp, ⟨og, nm, qn, List.mem_singleton.mpr rfl, hcl, hdt, hsl⟩, ⟨_, a0, cs, _, H2, by rw [gens]; exact hgs, I8, co, fun a' cs' s' ea co' wk => ?_⟩, fun pg σ' H' s' I' => ?_⟩
  · subst ea
    have I9 := woken L hgp I8 co co' wk
    have stW : tn 0 s'.heap := T.keep _ _ _ st7 fun b hb o e => wk.keep b o (fun z => (L.young b z).2.2.2.1 hb) e
    refine ⟨rfl, ?_⟩
    have pg1 : PG (genCx X Ac.in1 s4 H2 ce fp) tg g := by
      have z := hg Ac.in1 s4 H2 (cloFrom X.env.cells scope.names []) s4.heap.objs.size code fp
      rw [hce] at z
      exact z
    have pt1 : PTs (genCx X Ac.in1 s4 H2 ce fp) ifs tt := by
      have z := ht Ac.in1 s4 H2 (cloFrom X.env.cells scope.names []) s4.heap.objs.size code fp
      rw [hce] at z
      exact z rD
    have pe1 : PE (genCx X Ac.in1 s4 H2 ce fp) elt te := by
      have z := he Ac.in1 s4 H2 (cloFrom X.env.cells scope.names []) s4.heap.objs.size code fp
      rw [hce] at z
      exact z rD
    exact gen_begin (X := genCx X Ac.in1 s4 H2 ce fp) (C := C) rfl (hdeep (acc := .none)) (fun _ _ z => z) (by show ce.scope.isCoroutine = false; rw [← hce]; exact ok.co) T pg1 pt1 pe1 L (fun σ2 e => by rw [← e, wipe_length]) turn (Nat.lt_succ_self m0) w co' I9 stW fun b hb => (f4 b hb).1.1
  · exact I4.call' (ch := fp) I'.os I'.base I'.hok I'.bare fun b hb => ⟨(f4 b hb).1.2.2.2.1, (f4 b hb).1.2.1, (f4 b hb).1.2.2.2.2.1, (f4 b hb).1.2.2.2.2.2⟩
end
end Mi

set_option Elab.async false
set_option linter.all false
set_option maxRecDepth 100000
set_option maxHeartbeats 2000000
namespace Mi
open PySem PySem.Spec PyProof.Rows L2
/-! ### any, all -/
def conB (isAny : Bool) (Qv : Bool → Hp → Prop) : Con Unit where
  ad := []
  CO := fun _ cs => cs = []
  adr := fun _ cs h => by
    rw [h]
    rfl
  nc := fun _ cs h p hp => by
    rw [h] at hp
    cases hp
  one := fun _ _ _ _ _ => rfl
  take := fun _ y H N => ∃ b : Bool, y = .bl b ∧ (if b = isAny then Qv b H else N () H)
  fin := fun _ H => Qv (!isAny) H
section
variable {X : Cx} {gp : List (Addr × Obj)} {fp : List Addr} {A : Around} {ga : Addr} {gi : Nat} {R : Result → Shared → Prop} {Qv : Bool → Hp → Prop}
theorem Wkn.refl {s : Shared} (h : AllBare s.gens) : Wkn [] [] s s := ⟨rfl, h, fun _ _ _ e => e, fun p hp => by cases hp⟩
theorem susp_bare {α : Type} {C : Con α} {X : Cx} {Ac : Around} {n : Nat} {Nn : α → Prop} {s : Shared} (S : Susp C X gp Ac gi n Nn s) : AllBare s.gens := by
  obtain ⟨_, _, _, _, _, _, I, _⟩ := S
  exact I.bare
theorem loop_any (hh : A.handled = none) (hd : A.depth < recursionLimit) (L : Lies X (conB true Qv).ad fp gp) (G : GenIn gp ga gi) (hR : ∀ b σ H s', Inv X gp σ H s' → Qv b H → R (.ok (.ret (.bool b))) s') :
    ∀ (n : Nat) (s : Shared) (Nn : Unit → Prop), Susp (conB true Qv) X gp A.in1 gi n Nn s → Nn () → codeAny (model X.prog X.w) A (.builtin "any.loop" ⟨[.ref ga], []⟩) R s := by
  intro n
  induction n with
  | zero =>
    intro s Nn S hN
    obtain ⟨gs, a0, cs0, σ, H, hgs, I, c0, go⟩ := S
    exact (show False from go () [] s hN rfl (Wkn.refl I.bare)).elim
  | succ k ih =>
    intro s Nn S hN
    refine codeAny_builtin F.entry_any_loop ?_
    rw [Around.under_plainId F.plain_any_loop _]
    show wpAny _ A.in1 (pyNext (.ref ga) >>= _) _ _ s
    refine wpAny_bind (next_susp (Ac := A.in1) (a := ()) (cs := []) hh hd L (fun p hp z => by cases z) G S hN rfl (Wkn.refl (susp_bare S)) rfl (fun v s2 y σ H Nx n' en ry I tk S2 => ?_) fun s2 σ H I fn => ?_)
    · obtain rfl : k = n' := by omega
      obtain ⟨b, rfl, q⟩ := tk
      obtain rfl : v = Value.bool b := ry
      refine wpAny_bind (wpAny_holding (wpAny_truthy_bool ?_))
      refine wpAny_bind (wpAny_letGo ?_)
      cases b with
      | false =>
        simp only [Bool.false_eq_true, if_false] at q ⊢
        exact wpAny_pure ⟨plainId_quiet F.plain_any_loop _, ih s2 _ S2 q⟩
      | true =>
        simp only [if_true] at q ⊢
        exact wpAny_bind (wpAny_rule (wpAny_pure (hR true σ H s2 I q)))
    · exact wpAny_bind (wpAny_rule (wpAny_pure (hR false σ H s2 I fn)))
theorem loop_all (hh : A.handled = none) (hd : A.depth < recursionLimit) (L : Lies X (conB false Qv).ad fp gp) (G : GenIn gp ga gi) (hR : ∀ b σ H s', Inv X gp σ H s' → Qv b H → R (.ok (.ret (.bool b))) s') :
    ∀ (n : Nat) (s : Shared) (Nn : Unit → Prop), Susp (conB false Qv) X gp A.in1 gi n Nn s → Nn () → codeAny (model X.prog X.w) A (.builtin "all.loop" ⟨[.ref ga], []⟩) R s := by
  intro n
  induction n with
  | zero =>
    intro s Nn S hN
    obtain ⟨gs, a0, cs0, σ, H, hgs, I, c0, go⟩ := S
    exact (show False from go () [] s hN rfl (Wkn.refl I.bare)).elim
  | succ k ih =>
    intro s Nn S hN
    refine codeAny_builtin F.entry_all_loop ?_
    rw [Around.under_plainId F.plain_all_loop _]
    show wpAny _ A.in1 (pyNext (.ref ga) >>= _) _ _ s
    refine wpAny_bind (next_susp (Ac := A.in1) (a := ()) (cs := []) hh hd L (fun p hp z => by cases z) G S hN rfl (Wkn.refl (susp_bare S)) rfl (fun v s2 y σ H Nx n' en ry I tk S2 => ?_) fun s2 σ H I fn => ?_)
    · obtain rfl : k = n' := by omega
      obtain ⟨b, rfl, q⟩ := tk
      obtain rfl : v = Value.bool b := ry
      refine wpAny_bind (wpAny_holding (wpAny_truthy_bool ?_))
      refine wpAny_bind (wpAny_letGo ?_)
      cases b with
      | true =>
        simp only [Bool.true_eq_false, if_false, if_true] at q ⊢
        exact wpAny_pure ⟨plainId_quiet F.plain_all_loop _, ih s2 _ S2 q⟩
      | false =>
        simp only [Bool.false_eq_true, if_false, if_true] at q ⊢
        exact wpAny_bind (wpAny_rule (wpAny_pure (hR false σ H s2 I q)))
    · exact wpAny_bind (wpAny_rule (wpAny_pure (hR true σ H s2 I fn)))

/-! ### sum -/
def sumO (i : Int) (t : Tok) (c : Nat) : Obj := { cls := .type "list", dict := none, data := .seq #[.int i t] c, slots := #[] }
def conS (S : Addr) (Qi : Int → Hp → Prop) : Con Int where
  ad := [S]
  CO := fun i cs => ∃ t c, cs = [(S, sumO i t c)]
  adr := fun _ cs ⟨t, c, h⟩ => by
    rw [h]
    rfl
  nc := fun _ cs ⟨t, c, h⟩ p hp v z => by
    rw [h] at hp
    rw [List.mem_singleton.mp hp] at z
    cases z
  one := fun a b cs ⟨t, c, h⟩ ⟨t', c', h'⟩ => by
    rw [h] at h'
    injection h' with h1 _
    injection h1 with _ h2
    injection h2 with _ _ h3
    injection h3 with h4 _
    have h5 := congrArg Array.toList h4
    injection h5 with h6 _
    injection h6
  take := fun a y H N => ∃ i : Int, y = .int i ∧ (-(2 ^ 63) ≤ i ∧ i < 2 ^ 63 ∧ -(2 ^ 63) ≤ a + i ∧ a + i < 2 ^ 63) ∧ N (a + i) H
  fin := fun a H => Qi a H
theorem loop_sum {S : Addr} {Qi : Int → Hp → Prop} (hh : A.handled = none) (hd : A.depth < recursionLimit) (L : Lies X (conS S Qi).ad fp gp) (hgp : ∀ p ∈ gp, p.1 ∉ (conS S Qi).ad) (G : GenIn gp ga gi)
    (hR : ∀ i t c σ H s', Inv X ((S, sumO i t c) :: gp) σ H s' → Qi i H → R (.ok (.ret (.int i t))) s') :
    ∀ (n : Nat) (s s' : Shared) (Nn : Int → Prop) (i : Int) (t : Tok) (c : Nat), Susp (conS S Qi) X gp A.in1 gi n Nn s → Nn i → Wkn [S] [(S, sumO i t c)] s s' → s'.gens = s.gens →
      codeAny (model X.prog X.w) A (.builtin "sum.loop" ⟨[.ref ga, .ref S, rawInt 0, rawInt 0], []⟩) R s' := by
  intro n
  induction n with
  | zero =>
    intro s s' Nn i t c Su hN wk hgen
    obtain ⟨gs, a0, cs0, σ, H, hgs, I, c0, go⟩ := Su
    exact (show False from go i _ s' hN ⟨t, c, rfl⟩ wk).elim
  | succ k ih =>
    intro s s' Nn i t c Su hN wk hgen
    have hS : s'.heap.get? S = some (sumO i t c) := wk.has (S, sumO i t c) (List.mem_singleton.mpr rfl)
    refine codeAny_builtin F.entry_sum_loop ?_
    rw [Around.under_plainId F.plain_sum_loop _]
    show wpAny _ A.in1 (seqItems? (.ref S) >>= _) _ _ s'
    refine wpAny_bind (wpAny_seqItems hS rfl ?_)
    show wpAny _ A.in1 (tryCatch (pyNext (.ref ga)) _ >>= _) _ _ s'
    refine wpAny_bind (wpAny_tryCatch (next_susp (Ac := A.in1) (a := i) hh hd L hgp G Su hN ⟨t, c, rfl⟩ wk hgen (fun v s2 y σ H Nx n' en ry I tk S2 => ?_) fun s2 σ H I fn => ?_))
    · obtain rfl : k = n' := by omega
      obtain ⟨j, rfl, ⟨f1, f2, f3, f4⟩, q⟩ := tk
      obtain ⟨u, rfl⟩ := ry
      have hS2 : s2.heap.get? S = some (sumO i t c) := (I.pin (S, sumO i t c) (List.mem_append_right _ (List.mem_append_left _ (List.mem_singleton.mpr rfl)))).1
      have hc : ((decide (-(2 ^ 63) ≤ j) && decide (j < 2 ^ 63)) && (decide (-(2 ^ 63) ≤ i + j) && decide (i + j < 2 ^ 63))) = true := by
        simp only [Bool.and_eq_true, decide_eq_true_eq]
        exact ⟨⟨f1, f2⟩, f3, f4⟩
      show wpAny _ A.in1 (if (_ : Bool) = true then (mkInt (i + j) >>= _) else _) _ _ _
      split
      · refine wpAny_bind (wpAny_mkInt ?_)
        show wpAny _ A.in1 (updateSeq S (fun _ => #[.int (i + j) s2.toks]) >>= _) _ _ _
        refine wpAny_bind ?_
        refine wpAny_updateSeq hS2 rfl (wpAny_pure ⟨plainId_quiet F.plain_sum_loop _, ?_⟩)
        refine ih s2 _ _ (i + j) s2.toks c S2 q ⟨rfl, I.bare, fun b o hb e => ?_, fun p hp => ?_⟩ rfl
        · exact (Heap.get?_update_other _ _ (fun z : S = b => hb (by rw [z]; exact List.mem_singleton.mpr rfl))).trans e
        · rw [List.mem_singleton.mp hp]
          exact Heap.get?_update_self (Obj.mapSeq fun _ => #[Value.int (i + j) s2.toks]) hS2 rfl
      · rename_i hneg
        exact absurd hc hneg
    · exact wpAny_pure (hR i t c σ H s2 I fn)

/-! ### a list of all -/
def unV : Value → Option V
  | .none => some .non
  | .bool b => some (.bl b)
  | .int i _ => some (.int i)
  | .str x _ => some (.str x)
  | .bytes b _ => some (.byt b)
  | .float b _ => some (.flt b)
  | .ref a => some (.ref a)
  | .type n => some (.ty n)
  | _ => none
theorem unV_of {x : V} {u : Value} (h : L2.RelV x u) : unV u = some x := by
  cases x with
  | non =>
    have e : u = Value.none := h
    rw [e]
    rfl
  | bl b =>
    have e : u = Value.bool b := h
    rw [e]
    rfl
  | int i =>
    obtain ⟨t, e⟩ := (show ∃ t, u = Value.int i t from h)
    rw [e]
    rfl
  | str x =>
    obtain ⟨t, e⟩ := (show ∃ t, u = Value.str x t from h)
    rw [e]
    rfl
  | byt b =>
    obtain ⟨t, e⟩ := (show ∃ t, u = Value.bytes b t from h)
    rw [e]
    rfl
  | flt b =>
    obtain ⟨t, e⟩ := (show ∃ t, u = Value.float b t from h)
    rw [e]
    rfl
  | ref a =>
    have e : u = Value.ref a := h
    rw [e]
    rfl
  | ty n =>
    have e : u = Value.type n := h
    rw [e]
    rfl
theorem relV_one {x y : V} {u : Value} (h1 : L2.RelV x u) (h2 : L2.RelV y u) : x = y := Option.some.inj ((unV_of h1).symm.trans (unV_of h2))
theorem vals_one : ∀ {xs ys : List V} {us : List Value}, Vals xs us → Vals ys us → xs = ys
  | _, _, _, .nil, .nil => rfl
  | _, _, _, .cons r t, .cons r' t' => by rw [relV_one r r', vals_one t t']
def conL (S : Addr) (Ql : List V → Hp → Prop) : Con (List V) where
  ad := [S]
  CO := fun ys cs => ∃ acc c, Vals ys acc.toList ∧ cs = [(S, lstObj acc c)]
  adr := fun _ cs ⟨t, c, _, h⟩ => by
    rw [h]
    rfl
  nc := fun _ cs ⟨t, c, _, h⟩ p hp v z => by
    rw [h] at hp
    rw [List.mem_singleton.mp hp] at z
    cases z
  one := fun a b cs ⟨t, c, r, h⟩ ⟨t', c', r', h'⟩ => by
    rw [h] at h'
    injection h' with h1 _
    injection h1 with _ h2
    injection h2 with _ _ h3
    injection h3 with h4 _
    rw [h4] at r
    exact vals_one r r'
  take := fun ys y H N => ys.length < sizeLine ∧ N (ys ++ [y]) H
  fin := fun ys H => Ql ys H
theorem loop_ext {S : Addr} {Ql : List V → Hp → Prop} {res : Value} (hh : A.handled = none) (hd : A.depth < recursionLimit) (L : Lies X (conL S Ql).ad fp gp) (hgp : ∀ p ∈ gp, p.1 ∉ (conL S Ql).ad) (G : GenIn gp ga gi)
    (hR : ∀ ys acc c σ H s', ys.length ≤ sizeLine → Vals ys acc.toList → Inv X ((S, lstObj acc c) :: gp) σ H s' → Ql ys H → R (.ok (.ret res)) s') :
    ∀ (n : Nat) (s s' : Shared) (Nn : List V → Prop) (ys : List V) (acc : Array Value) (c : Nat), Susp (conL S Ql) X gp A.in1 gi n Nn s → Nn ys → ys.length ≤ sizeLine → Vals ys acc.toList → Wkn [S] [(S, lstObj acc c)] s s' → s'.gens = s.gens →
      codeAny (model X.prog X.w) A (.builtin "list.extend.loop" ⟨[.ref S, .ref ga, res], []⟩) R s' := by
  intro n
  induction n with
  | zero =>
    intro s s' Nn ys acc c Su hN hyz rv wk hgen
    obtain ⟨gs, a0, cs0, σ, H, hgs, I, c0, go⟩ := Su
    exact (show False from go ys _ s' hN ⟨acc, c, rv, rfl⟩ wk).elim
  | succ k ih =>
    intro s s' Nn ys acc c Su hN hyz rv wk hgen
    refine codeAny_builtin F.entry_extend_loop ?_
    rw [Around.under_plainId F.plain_extend_loop _]
    show wpAny _ A.in1 (pyNext (.ref ga) >>= _) _ _ s'
    refine wpAny_bind (next_susp (Ac := A.in1) (a := ys) hh hd L hgp G Su hN ⟨acc, c, rv, rfl⟩ wk hgen (fun v s2 y σ H Nx n' en ry I tk S2 => ?_) fun s2 σ H I fn => ?_)
    · obtain rfl : k = n' := by omega
      obtain ⟨hz, q⟩ := tk
      have hS2 : s2.heap.get? S = some (lstObj acc c) := (I.pin (S, lstObj acc c) (List.mem_append_right _ (List.mem_append_left _ (List.mem_singleton.mpr rfl)))).1
      have hsz : acc.size < sizeLine := by
        have e := rv.length
        have e2 : acc.toList.length = acc.size := by simp
        omega
      show wpAny _ A.in1 (updateSeq S (·.push v) >>= _) _ _ _
      refine wpAny_bind ?_
      refine wpAny_updateSeq hS2 rfl (wpAny_pure ⟨plainId_quiet F.plain_extend_loop _, ?_⟩) (Nat.le_of_lt hsz) (by show (acc.push v).size ≤ sizeLine + 1; rw [Array.size_push]; omega)
      refine ih s2 _ _ (ys ++ [y]) (acc.push v) (c + 1) S2 q (by rw [List.length_append, List.length_singleton]; exact hz) (by rw [Array.toList_push]; exact rv.append (.cons ry .nil)) ⟨rfl, I.bare, fun b o hb e => ?_, fun p hp => ?_⟩ rfl
      · exact (Heap.get?_update_other _ _ (fun z : S = b => hb (by rw [z]; exact List.mem_singleton.mpr rfl))).trans e
      · rw [List.mem_singleton.mp hp]
        have e := Heap.get?_update_self (Obj.mapSeq (·.push v)) hS2 rfl
        rw [show Obj.mapSeq (·.push v) (lstObj acc c) = lstObj (acc.push v) (c + 1) from by simp [Obj.mapSeq]] at e
        exact e
    · exact wpAny_pure (hR ys acc c σ H s2 hyz rv I fn)
end
end Mi

set_option Elab.async false
set_option linter.all false
set_option maxRecDepth 100000
set_option maxHeartbeats 2000000
namespace Mi
open PySem PySem.Spec PyProof.Rows L2
open AutoSeq1 (wpAny_loadPart')
/-- the parts of a generator expression, as rules over its frame -/
structure GenP (X : Cx) (k : Nat) (elt tg : Expr) (ifs : List Expr) (scope : Scope) (own : List (Str × Nat)) (g : TG) (tt : TT) (te : TE) : Prop where
  ok : GenOk X.N X.env.scope scope own
  nd : X.N.Nodup
  pg : ∀ (A : Around) (s : Shared) (H : Hp) (cl : List (Str × Addr)) (L : Addr) (code : Value) (fp : List Addr), PG (genCx X A s H (genEnv scope cl L code builtinsNs X.env) fp) tg g
  pt : ∀ (A : Around) (s : Shared) (H : Hp) (cl : List (Str × Addr)) (L : Addr) (code : Value) (fp : List Addr), Room k (A.deeper (genEnv scope cl L code builtinsNs X.env)) → PTs (genCx X A s H (genEnv scope cl L code builtinsNs X.env) fp) ifs tt
  pe : ∀ (A : Around) (s : Shared) (H : Hp) (cl : List (Str × Addr)) (L : Addr) (code : Value) (fp : List Addr), Room k (A.deeper (genEnv scope cl L code builtinsNs X.env)) → PE (genCx X A s H (genEnv scope cl L code builtinsNs X.env) fp) elt te
/-- the reading of a generator expression that is drawn at once -/
def tGen {α : Type} (P : Addr) (wi : TI) (g : TG) (tt : TT) (te : TE) (vs : List Nat) (a0 : α) (take : VK → α → V → Hp → (α → Hp → Prop) → Prop) (fin : VK → α → Hp → Prop) : TE := fun σ H Q =>
  wi σ H fun J H1 => GxR.TabG H1 P ∧ ∀ H2, GxR.Tabbed P H1 H2 → ∃ W : Nat → Nat → α → Hp → Prop, (∃ m, W 0 m a0 H2) ∧ Turns (take Q) (fin Q) J g tt te (wipe σ vs) vs W
section
variable {X : Cx} {pins : List (Addr × Obj)} {σ : L2.St} {s6 : Shared} {elt tg iter : Expr} {ifs : List Expr} {scope : Scope} {gpos : Pos} {own : List (Str × Nat)} {J : It} {H2 : Hp} {ga : Addr} {g : TG} {tt : TT} {te : TE} {k : Nat} {A : Around} {E : Value → Shared → Prop}
theorem fresh_gen (Fr : Fresh X pins σ elt tg iter ifs scope gpos J H2 ga s6) : ∃ gi, s6.heap.IsGen ga gi := by
  obtain ⟨_, _, _, _, _, gi, _, _, _, _, _, h, _⟩ := Fr
  exact ⟨gi, h⟩
theorem fresh_lt (Fr : Fresh X pins σ elt tg iter ifs scope gpos J H2 ga s6) : ga < s6.heap.objs.size := by
  obtain ⟨_, _, _, _, _, gi, _, _, _, _, _, _, _, h, _⟩ := Fr
  exact h
theorem draw_any {Qv : Bool → Hp → Prop} (Fr : Fresh X pins σ elt tg iter ifs scope gpos J H2 ga s6) (hr : Room (k + 2) A) (hF : A.frames = some X.stack) (GP : GenP X k elt tg ifs scope own g tt te) {W : Nat → Nat → Unit → Hp → Prop} {m : Nat} (w : W 0 m () H2)
    (turn : Turns (conB true Qv).take (conB true Qv).fin J g tt te (wipe σ (own.map (·.2))) (own.map (·.2)) W) :
    wpAny (model X.prog X.w) A (call (.builtin "any") [.ref ga]) (fun u s' => ∃ b H', u = .bool b ∧ Inv X pins σ H' s' ∧ Qv b H') E s6 := by
  refine call_function_tree F.kind_any F.plain_any F.entry_any (F.args_any1 _) ?_
  unfold Builtin.«any»
  refine wpAny_bind (m := oneArg "any" _) (wpAny_pure ?_)
  obtain ⟨gi, hg⟩ := fresh_gen Fr
  refine wpAny_bind (wpAny_pyIter_gen hg ?_)
  obtain ⟨Xg, gp, fp, gi', e1, e2, e3, L, hgp, G, Su, back⟩ := fresh_susp (C := conB true Qv) (s7 := s6) Fr hr.in1 hF GP.ok GP.nd GP.pg GP.pt GP.pe rfl rfl (fun _ _ e => e) (fun b hb => by cases hb) (a0 := ()) (cs := []) rfl (fun p hp => by cases hp) w turn
  rw [← e1, ← e2]
  exact wpAny_pure ⟨plainId_quiet F.plain_any_loop _, loop_any hr.hd hr.depth L G (fun b σ' H' s' I q => ⟨b, H', rfl, back _ _ _ _ I, q⟩) _ _ _ Su rfl⟩
theorem draw_all {Qv : Bool → Hp → Prop} (Fr : Fresh X pins σ elt tg iter ifs scope gpos J H2 ga s6) (hr : Room (k + 2) A) (hF : A.frames = some X.stack) (GP : GenP X k elt tg ifs scope own g tt te) {W : Nat → Nat → Unit → Hp → Prop} {m : Nat} (w : W 0 m () H2)
    (turn : Turns (conB false Qv).take (conB false Qv).fin J g tt te (wipe σ (own.map (·.2))) (own.map (·.2)) W) :
    wpAny (model X.prog X.w) A (call (.builtin "all") [.ref ga]) (fun u s' => ∃ b H', u = .bool b ∧ Inv X pins σ H' s' ∧ Qv b H') E s6 := by
  refine call_function_tree F.kind_all F.plain_all F.entry_all (F.args_all1 _) ?_
  unfold Builtin.«all»
  refine wpAny_bind (m := oneArg "all" _) (wpAny_pure ?_)
  obtain ⟨gi, hg⟩ := fresh_gen Fr
  refine wpAny_bind (wpAny_pyIter_gen hg ?_)
  obtain ⟨Xg, gp, fp, gi', e1, e2, e3, L, hgp, G, Su, back⟩ := fresh_susp (C := conB false Qv) (s7 := s6) Fr hr.in1 hF GP.ok GP.nd GP.pg GP.pt GP.pe rfl rfl (fun _ _ e => e) (fun b hb => by cases hb) (a0 := ()) (cs := []) rfl (fun p hp => by cases hp) w turn
  rw [← e1, ← e2]
  exact wpAny_pure ⟨plainId_quiet F.plain_all_loop _, loop_all hr.hd hr.depth L G (fun b σ' H' s' I q => ⟨b, H', rfl, back _ _ _ _ I, q⟩) _ _ _ Su rfl⟩
theorem draw_sum {Qi : Int → Hp → Prop} (Fr : Fresh X pins σ elt tg iter ifs scope gpos J H2 ga s6) (hr : Room (k + 2) A) (hF : A.frames = some X.stack) (GP : GenP X k elt tg ifs scope own g tt te) {W : Nat → Nat → Int → Hp → Prop} {m : Nat} (w : W 0 m 0 H2)
    (turn : Turns (conS 0 Qi).take (conS 0 Qi).fin J g tt te (wipe σ (own.map (·.2))) (own.map (·.2)) W) :
    wpAny (model X.prog X.w) A (call (.builtin "sum") [.ref ga]) (fun u s' => ∃ i t H', u = .int i t ∧ Inv X pins σ H' s' ∧ Qi i H') E s6 := by
  refine call_function_tree F.kind_sum F.plain_sum F.entry_sum (F.args_sum1 _) ?_
  unfold Builtin.«sum»
  simp only [List.length_cons, List.length_nil]
  rw [if_neg (by decide)]
  refine wpAny_bind (wpAny_of_eq (show Builtin.Builtins.bindParams "sum" ["start"] 0 { } = pure [none] from rfl) ?_)
  obtain ⟨gi, hg⟩ := fresh_gen Fr
  refine wpAny_bind (wpAny_pyIter_gen hg ?_)
  refine wpAny_bind (wpAny_mkInt ?_)
  refine wpAny_bind (wpAny_pure ?_)
  simp only [List.forIn_cons, List.forIn_nil]
  refine wpAny_bind (wpAny_bind (wpAny_bind (wpAny_isInstance (T := "int") (b := false) (typeIs_int _ _ _) PySem.sub_int_str ?_)))
  simp only [Bool.false_eq_true, if_false]
  refine wpAny_pure (wpAny_bind (wpAny_bind (wpAny_isInstance (T := "int") (b := false) (typeIs_int _ _ _) PySem.sub_int_bytes ?_)))
  simp only [Bool.false_eq_true, if_false]
  refine wpAny_pure (wpAny_bind (wpAny_bind (wpAny_isInstance (T := "int") (b := false) (typeIs_int _ _ _) PySem.sub_int_bytearray ?_)))
  simp only [Bool.false_eq_true, if_false]
  refine wpAny_pure (wpAny_pure ?_)
  refine wpAny_bind (wpAny_newObj_type ?_)
  obtain ⟨Xg, gp, fp, gi', e1, e2, e3, L, hgp, G, Su, back⟩ := fresh_susp (C := conS s6.heap.objs.size Qi) (s7 := { s6 with heap := s6.heap.push { cls := .type "list", data := .seq [Value.int 0 s6.toks].toArray }, toks := s6.toks + 1 }) Fr hr.in1 hF GP.ok GP.nd GP.pg GP.pt GP.pe rfl rfl
    (fun b o e => Heap.get?_push_of_some _ e) (fun b hb => by rw [List.mem_singleton.mp hb]; exact Nat.le_refl _) (a0 := 0) (cs := [(s6.heap.objs.size, sumO 0 s6.toks 0)]) ⟨_, _, rfl⟩ (fun p hp => by rw [List.mem_singleton.mp hp]; exact Heap.get?_push_size _ rfl) w turn
  rw [← e1, ← e2]
  refine wpAny_pure ⟨plainId_quiet F.plain_sum_loop _, loop_sum (S := s6.heap.objs.size) hr.hd hr.depth L hgp G (fun i t c σ' H' s' I q => ⟨i, t, H', rfl, back _ _ _ _ I, q⟩) _ _ _ _ 0 s6.toks 0 Su rfl ⟨rfl, susp_bare Su, fun b o _ e => e, fun p hp => ?_⟩ rfl⟩
  rw [List.mem_singleton.mp hp]
  exact Heap.get?_push_size _ rfl
theorem draw_list {Ql : List V → Hp → Prop} (Fr : Fresh X pins σ elt tg iter ifs scope gpos J H2 ga s6) (hr : Room (k + 2) A) (hF : A.frames = some X.stack) (GP : GenP X k elt tg ifs scope own g tt te) {W : Nat → Nat → List V → Hp → Prop} {m : Nat} (w : W 0 m [] H2)
    (turn : Turns (conL 0 Ql).take (conL 0 Ql).fin J g tt te (wipe σ (own.map (·.2))) (own.map (·.2)) W) :
    wpAny (model X.prog X.w) A (collect (.ref ga)) (fun us s' => ∃ ys H', ys.length ≤ sizeLine ∧ Vals ys us ∧ Inv X pins σ H' s' ∧ Ql ys H') E s6 := by
  obtain ⟨gi, hg⟩ := fresh_gen Fr
  have hlt := fresh_lt Fr
  have hSI : s6.heap.objs.size ≠ ga := Nat.ne_of_gt hlt
  unfold collect
  refine wpAny_bind (wpAny_runValue (codeAny_builtin F.entry_proto_collect ?_))
  rw [Around.under_plainId F.plain_proto_collect _]
  show wpAny _ A.in1 (newList [] >>= fun l => again (.builtin "list.__iadd__" ⟨[l, .ref ga], []⟩)) _ _ s6
  refine wpAny_bind (wpAny_newObj_type ?_)
  refine wpAny_pure ⟨plainId_quiet F.plain_list_iadd _, codeAny_builtin F.entry_list_iadd ?_⟩
  rw [Around.under_plainId F.plain_list_iadd _]
  have hg1 : (s6.heap.push { cls := .type "list", data := .seq ([] : List Value).toArray }).IsGen ga gi := hg.keeps fun b o e => Heap.get?_push_of_some _ e
  have tyG : ({ s6 with heap := s6.heap.push { cls := .type "list", data := .seq ([] : List Value).toArray } } : Shared).TypeIs (.ref ga) "generator" := hg1.typeIs
  show wpAny _ A.in1 (Builtin.List.listExtendWith (.ref s6.heap.objs.size) (.ref ga) (.ref s6.heap.objs.size)) _ _ _
  unfold Builtin.List.listExtendWith
  refine wpAny_bind (wpAny_typeOf tyG ?_)
  have n1 : Builtin.List.listSameRef (.ref s6.heap.objs.size) (.ref ga) = false := by simp [Builtin.List.listSameRef, hSI]
  have n2 : (Value.type "generator" == Value.type "list") = false := by decide
  have n3 : (Value.type "generator" == Value.type "tuple") = false := by decide
  simp only [n1, n2, n3, Bool.or_false, Bool.false_eq_true, if_false]
  refine wpAny_bind (wpAny_pyIter_gen (s := { s6 with heap := _ }) hg1 ?_)
  refine wpAny_bind (wpAny_holding ?_)
  unfold Builtin.List.listLengthHint
  refine wpAny_bind (wpAny_specialOf tyG F.gen_no_len ?_)
  show wpAny _ A.in1 (specialOf (Value.ref ga) (Str.ofString "__length_hint__") >>= _) _ _ _
  refine wpAny_bind (wpAny_specialOf tyG F.gen_no_hint ?_)
  refine wpAny_pure ?_
  show wpAny _ A.in1 (rule "list.extend.makes-room" >>= fun _ => Builtin.List.listTouch (.ref s6.heap.objs.size) >>= fun _ =>
    again (.builtin "list.extend.loop" ⟨[.ref s6.heap.objs.size, .ref ga, .ref s6.heap.objs.size], []⟩)) _ _ _
  refine wpAny_bind (wpAny_rule ?_)
  have hS1 : (s6.heap.push { cls := .type "list", data := .seq ([] : List Value).toArray }).get? s6.heap.objs.size = some { cls := .type "list", data := .seq ([] : List Value).toArray } := Heap.get?_push_size _ rfl
  refine wpAny_bind ?_
  show wpAny _ A.in1 (updateSeq s6.heap.objs.size (·.push .none) >>= fun _ => updateSeq s6.heap.objs.size (·.pop)) _ _ _
  refine wpAny_bind (wpAny_updateSeq hS1 rfl ?_)
  have hS2 := Heap.get?_update_self (Obj.mapSeq (·.push Value.none)) hS1 rfl
  refine wpAny_updateSeq (hz := by seq_fits) hS2 rfl ?_
  have hS3 := Heap.get?_update_self (Obj.mapSeq (·.pop)) hS2 rfl
  have oth : ∀ b o, s6.heap.get? b = some o → (((s6.heap.push { cls := .type "list", data := .seq ([] : List Value).toArray }).update s6.heap.objs.size (Obj.mapSeq (·.push Value.none))).update s6.heap.objs.size (Obj.mapSeq (·.pop))).get? b = some o :=
    fun b o e => (Heap.get?_update_other _ _ (Ne.symm (Nat.ne_of_lt (Heap.lt_size e)))).trans ((Heap.get?_update_other _ _ (Ne.symm (Nat.ne_of_lt (Heap.lt_size e)))).trans (Heap.get?_push_of_some _ e))
  generalize hh7 : ((s6.heap.push { cls := .type "list", data := .seq ([] : List Value).toArray }).update s6.heap.objs.size (Obj.mapSeq (·.push Value.none))).update s6.heap.objs.size (Obj.mapSeq (·.pop)) = h7 at oth hS3 ⊢
  have hS4 : h7.get? s6.heap.objs.size = some (lstObj #[] 2) := hS3
  refine wpAny_pure ⟨plainId_quiet F.plain_extend_loop _, ?_⟩
  show codeAny _ _ _ _ ({ s6 with heap := h7 } : Shared)
  obtain ⟨Xg, gp, fp, gi', e1, e2, e3, L, hgp, G, Su, back⟩ := fresh_susp (C := conL s6.heap.objs.size Ql) (s7 := { s6 with heap := h7 }) Fr hr.in1 hF GP.ok GP.nd GP.pg GP.pt GP.pe rfl rfl
    oth (fun b hb => by rw [List.mem_singleton.mp hb]; exact Nat.le_refl _) (a0 := []) (cs := [(s6.heap.objs.size, lstObj #[] 2)]) ⟨#[], 2, .nil, rfl⟩ (fun p hp => by rw [List.mem_singleton.mp hp]; exact hS4) w turn
  rw [← e1, ← e2]
  refine loop_ext (S := s6.heap.objs.size) (res := .ref s6.heap.objs.size) hr.hd hr.depth L hgp G (fun ys acc c σ' H' s' hz rv I q => ?_) _ _ _ _ [] #[] 2 Su rfl (Nat.zero_le _) .nil ⟨rfl, susp_bare Su, fun b o _ e => e, fun p hp => ?_⟩ rfl
  · have hS' : s'.heap.get? s6.heap.objs.size = some (lstObj acc c) := (I.pin (s6.heap.objs.size, lstObj acc c) (List.mem_append_right _ List.mem_cons_self)).1
    show wpAny _ A (load s6.heap.objs.size >>= _) _ _ s'
    refine wpAny_bind (wpAny_load hS' ?_)
    exact wpAny_pure ⟨ys, H', hz, rv, back _ _ _ _ I, q⟩
  · rw [List.mem_singleton.mp hp]
    exact hS4
end
end Mi

set_option Elab.async false
set_option linter.all false
set_option maxRecDepth 100000
set_option maxHeartbeats 2000000
namespace Mi
open PySem PySem.Spec PyProof.Rows L2
open AutoSeq1 (wpAny_loadPart')
/-! ### the calls as rules -/
theorem boot_tuple1 : bootBuiltins "tuple" = some (.type "tuple") := by decide +kernel
theorem boot_all1 : bootBuiltins "all" = some (.builtin "all") := by decide +kernel
def takeB (isAny : Bool) : VK → Unit → V → Hp → (Unit → Hp → Prop) → Prop := fun Q _ y H N => ∃ b : Bool, y = .bl b ∧ (if b = isAny then Q (.bl b) H else N () H)
def finB (isAny : Bool) : VK → Unit → Hp → Prop := fun Q _ H => Q (.bl (!isAny)) H
def takeS : VK → Int → V → Hp → (Int → Hp → Prop) → Prop := fun _ a y H N => ∃ i : Int, y = .int i ∧ (-(2 ^ 63) ≤ i ∧ i < 2 ^ 63 ∧ -(2 ^ 63) ≤ a + i ∧ a + i < 2 ^ 63) ∧ N (a + i) H
def finS : VK → Int → Hp → Prop := fun Q a H => Q (.int a) H
def takeL : VK → List V → V → Hp → (List V → Hp → Prop) → Prop := fun _ ys y H N => ys.length < sizeLine ∧ N (ys ++ [y]) H
def finT : VK → List V → Hp → Prop := fun Q ys H => ∀ p, H p = none → Q (.ref p) (upd H p (.tup ys))
section
variable {X : Cx} {elt tg iter : Expr} {ifs : List Expr} {scope : Scope} {gpos p pos : Pos} {own : List (Str × Nat)} {g : TG} {tt : TT} {te : TE} {wi : TI} {k : Nat} {c P : Addr} {nm : Str}
/-- what every call over a generator expression asks -/
structure GenC (X : Cx) (k : Nat) (c P : Addr) (elt tg iter : Expr) (ifs : List Expr) (scope : Scope) (own : List (Str × Nat)) (wi : TI) (g : TG) (tt : TT) (te : TE) : Prop where
  hr : Room (k + 5) X.A
  tb : LamX.TabB X.base X.mg c P
  code : X.env.code = .ref c
  pi : PI X tg iter wi
  fold : ∀ v, genFold iter X.env v = pure v
  p : GenP X k elt tg ifs scope own g tt te
theorem starG (he : starEach [.GeneratorExp elt [⟨tg, iter, ifs, 0⟩] scope gpos] X.env = (false, eval (.GeneratorExp elt [⟨tg, iter, ifs, 0⟩] scope gpos) X.env) :: starEach [] X.env) {pins : List (Addr × Obj)} {σ : L2.St} {H : Hp} {s : Shared} {Q' : List Value → Shared → Prop} {α : Type} {a0 : α} {take : VK → α → V → Hp → (α → Hp → Prop) → Prop} {fin : VK → α → Hp → Prop} {Q : VK}
    (G : GenC X k c P elt tg iter ifs scope own wi g tt te) (I : Inv X pins σ H s) (h : tGen P wi g tt te (own.map (·.2)) a0 take fin σ H Q)
    (hQ : ∀ J H2 ga s6 (W : Nat → Nat → α → Hp → Prop) m, Fresh X pins σ elt tg iter ifs scope gpos J H2 ga s6 → W 0 m a0 H2 → Turns (take Q) (fin Q) J g tt te (wipe σ (own.map (·.2))) (own.map (·.2)) W → Q' [.ref ga] s6) :
    wpAny (model X.prog X.w) X.A (spliced (backTo pos (starEach [.GeneratorExp elt [⟨tg, iter, ifs, 0⟩] scope gpos] X.env))) Q' X.xe s := by
  rw [he]
  show wpAny _ _ (spliced ((false, eval (.GeneratorExp elt [⟨tg, iter, ifs, 0⟩] scope gpos) X.env) :: backTo pos (starEach [] X.env))) _ _ s
  refine Calls.spliced_cons (gen_made (R := fun J H1 => ∀ H2, GxR.Tabbed P H1 H2 → ∃ W : Nat → Nat → α → Hp → Prop, (∃ m, W 0 m a0 H2) ∧ Turns (take Q) (fin Q) J g tt te (wipe σ (own.map fun q : Str × Nat => q.2)) (own.map fun q : Str × Nat => q.2) W) G.hr G.tb G.code G.p.ok G.pi G.fold I h fun J H1 H2 ga s6 hR hT Fr => ?_)
  obtain ⟨W, ⟨m, w⟩, turn⟩ := hR H2 hT
  exact Calls.spliced_nil (hQ J H2 ga s6 W m Fr w turn)
theorem fresh_frames {pins : List (Addr × Obj)} {σ : L2.St} {J : It} {H2 : Hp} {ga : Addr} {s6 : Shared} (Fr : Fresh X pins σ elt tg iter ifs scope gpos J H2 ga s6) : X.A.frames = some X.stack := by
  obtain ⟨_, _, _, _, _, _, I, _⟩ := Fr
  exact I.ok.frames
theorem pe_anyG (G : GenC X k c P elt tg iter ifs scope own wi g tt te) (hg : Gl X "any") (hm : X.mg "any" = none) (he : starEach [.GeneratorExp elt [⟨tg, iter, ifs, 0⟩] scope gpos] X.env = (false, eval (.GeneratorExp elt [⟨tg, iter, ifs, 0⟩] scope gpos) X.env) :: starEach [] X.env := by rfl) :
    PE X (.Call (.Name "any" p) [.GeneratorExp elt [⟨tg, iter, ifs, 0⟩] scope gpos] [] pos) (tGen P wi g tt te (own.map (·.2)) () (takeB true) (finB true)) := by
  refine ⟨fun pins s σ H Q I h => ?_⟩
  refine wpAny_Call_Name_kw (ld_blt I hg hm boot_any ?_)
  refine PyProof.Rows.callWith_builtin1 (starG he G I h fun J H2 ga s6 W m Fr w turn => ?_) he (by rfl)
  refine thn (draw_any (Qv := fun b H => Q (.bl b) H) Fr (G.hr.mono (by omega)) (fresh_frames Fr) G.p w turn) fun u s' ⟨b, H', eu, I', q⟩ => ?_
  exact ⟨.bl b, H', I', eu, q⟩
theorem pe_allG (G : GenC X k c P elt tg iter ifs scope own wi g tt te) (hg : Gl X "all") (hm : X.mg "all" = none) (he : starEach [.GeneratorExp elt [⟨tg, iter, ifs, 0⟩] scope gpos] X.env = (false, eval (.GeneratorExp elt [⟨tg, iter, ifs, 0⟩] scope gpos) X.env) :: starEach [] X.env := by rfl) :
    PE X (.Call (.Name "all" p) [.GeneratorExp elt [⟨tg, iter, ifs, 0⟩] scope gpos] [] pos) (tGen P wi g tt te (own.map (·.2)) () (takeB false) (finB false)) := by
  refine ⟨fun pins s σ H Q I h => ?_⟩
  refine wpAny_Call_Name_kw (ld_blt I hg hm boot_all1 ?_)
  refine PyProof.Rows.callWith_builtin1 (starG he G I h fun J H2 ga s6 W m Fr w turn => ?_) he (by rfl)
  refine thn (draw_all (Qv := fun b H => Q (.bl b) H) Fr (G.hr.mono (by omega)) (fresh_frames Fr) G.p w turn) fun u s' ⟨b, H', eu, I', q⟩ => ?_
  exact ⟨.bl b, H', I', eu, q⟩
theorem pe_sumG (G : GenC X k c P elt tg iter ifs scope own wi g tt te) (hg : Gl X "sum") (hm : X.mg "sum" = none) (he : starEach [.GeneratorExp elt [⟨tg, iter, ifs, 0⟩] scope gpos] X.env = (false, eval (.GeneratorExp elt [⟨tg, iter, ifs, 0⟩] scope gpos) X.env) :: starEach [] X.env := by rfl) :
    PE X (.Call (.Name "sum" p) [.GeneratorExp elt [⟨tg, iter, ifs, 0⟩] scope gpos] [] pos) (tGen P wi g tt te (own.map (·.2)) 0 takeS finS) := by
  refine ⟨fun pins s σ H Q I h => ?_⟩
  refine wpAny_Call_Name_kw (ld_blt I hg hm boot_sum ?_)
  refine PyProof.Rows.callWith_builtin1 (starG he G I h fun J H2 ga s6 W m Fr w turn => ?_) he (by rfl)
  refine thn (draw_sum (Qi := fun i H => Q (.int i) H) Fr (G.hr.mono (by omega)) (fresh_frames Fr) G.p w turn) fun u s' ⟨i, t, H', eu, I', q⟩ => ?_
  exact ⟨.int i, H', I', ⟨t, eu⟩, q⟩
theorem in1_frames {A : Around} {l : List Env} (h : A.frames = some l) : A.in1.frames = some l := h
theorem draw_tuple {pins : List (Addr × Obj)} {σ : L2.St} {J : It} {H2 : Hp} {ga : Addr} {s6 : Shared} {A : Around} {E : Value → Shared → Prop} {Ql : List V → Hp → Prop} (Fr : Fresh X pins σ elt tg iter ifs scope gpos J H2 ga s6) (hr : Room (k + 5) A) (hF : A.frames = some X.stack)
    (GP : GenP X k elt tg ifs scope own g tt te) {W : Nat → Nat → List V → Hp → Prop} {m : Nat} (w : W 0 m [] H2) (turn : Turns (conL 0 Ql).take (conL 0 Ql).fin J g tt te (wipe σ (own.map (·.2))) (own.map (·.2)) W) :
    wpAny (model X.prog X.w) A (call (.type "tuple") [.ref ga]) (fun u s' => ∃ ys p H', u = .ref p ∧ H' p = none ∧ Inv X pins σ (upd H' p (.tup ys)) s' ∧ Ql ys H') E s6 := by
  obtain ⟨gi, hgen⟩ := fresh_gen Fr
  have hTI : s6.TypeIs (.ref ga) "generator" := hgen.typeIs
  have r1 : Room (k + 4) A.in1 := hr.in1
  have r2 : Room (k + 3) A.in1.in1 := r1.in1
  refine callType_codes (Q₁ := fun obj s₁ => s₁.TypeIs obj "tuple" ∧ ∃ ys p H', obj = .ref p ∧ H' p = none ∧ Inv X pins σ (upd H' p (.tup ys)) s₁ ∧ Ql ys H') F.called_tuple (F.typeCall_tuple_1 _) F.entry_object_init ?_ fun obj s₁ h₁ => ?_
  · refine codeAny_of_tree ?_
    show wpAny _ A.in1.in1 (do checkBuiltinCall "tuple.__new__" ⟨[.type "tuple", .ref ga], []⟩; again (.builtin "tuple.__new__" ⟨[.type "tuple", .ref ga], []⟩)) _ _ s6
    refine wpAny_bind (wpAny_of_eq (F.newCall_tuple_1 _) (wpAny_pure ⟨plainId_quiet F.plain_tuple_new _, codeAny_builtin F.entry_tuple_new ?_⟩))
    rw [Around.under_plainId F.plain_tuple_new _]
    have hsub := sub_tuple_self
    have hinit := init_tuple_lookup
    have hmh := madeHere_tuple
    have hcol : ∀ {Q' : List Value → Shared → Prop} {E' : Value → Shared → Prop}, (∀ us s' ys H', ys.length ≤ sizeLine → Vals ys us → Inv X pins σ H' s' → Ql ys H' → Q' us s') → wpAny (model X.prog X.w) A.in1.in1 (collect (.ref ga)) Q' E' s6 := fun hq =>
      thn (draw_list Fr (r2.mono (by omega)) hF GP w turn) fun us s' ⟨ys, H', hz, rv, I', q⟩ => hq us s' ys H' hz rv I' q
    wp_walk using wpAny_typeOf hTI, hcol
    intro us s' ys H' hz rv I' q
    show wpAny _ _ (Builtin.Tuple.tupleExact us.toArray >>= fun v => ret v) _ _ _
    unfold Builtin.Tuple.tupleExact
    have el := rv.length
    refine wpAny_bind (wpAny_newObj_type ?_ (by show us.toArray.size ≤ sizeLine; simp only [List.size_toArray]; omega))
    refine wpAny_pure ?_
    refine ⟨⟨_, Heap.get?_push_size _ rfl, rfl⟩, ys, s'.heap.objs.size, H', rfl, I'.hok.fresh (Nat.le_refl _), I'.laid (t' := s'.toks) (fun b u e => Heap.get?_push_of_some _ e) (Nat.le_refl _) ?_, q⟩
    exact ⟨hz, us, rv, ⟨_, Heap.get?_push_size _ rfl, rfl, _, rfl⟩⟩
  · obtain ⟨ht, ys, p, H', rfl, h2, h3, h4⟩ := h₁
    exact ⟨ht, F.args_object_init_2 _ _, object_init_meets F.called_tuple.init.lookup F.called_tuple.made (by decide) X.prog X.w A.in1 _ s₁ ⟨ht, rfl, ys, p, H', rfl, h2, h3, h4⟩⟩
theorem pe_tupG (G : GenC X k c P elt tg iter ifs scope own wi g tt te) (hg : Gl X "tuple") (hm : X.mg "tuple" = none) (he : starEach [.GeneratorExp elt [⟨tg, iter, ifs, 0⟩] scope gpos] X.env = (false, eval (.GeneratorExp elt [⟨tg, iter, ifs, 0⟩] scope gpos) X.env) :: starEach [] X.env := by rfl) :
    PE X (.Call (.Name "tuple" p) [.GeneratorExp elt [⟨tg, iter, ifs, 0⟩] scope gpos] [] pos) (tGen P wi g tt te (own.map (·.2)) [] takeL finT) := by
  refine ⟨fun pins s σ H Q I h => ?_⟩
  refine wpAny_Call_Name_kw (ld_blt I hg hm boot_tuple1 ?_)
  refine PyProof.Rows.callWith_type1 (starG he G I h fun J H2 ga s6 W m Fr w turn => ?_) he rfl
  refine thn (draw_tuple (Ql := finT Q) Fr G.hr (fresh_frames Fr) G.p w turn) fun u s' ⟨ys, p, H', eu, hp, I', q⟩ => ?_
  exact ⟨.ref p, _, I', eu, q p hp⟩
end
end Mi

set_option Elab.async false
set_option linter.all false
set_option maxRecDepth 100000
set_option maxHeartbeats 2000000
namespace Mi
open PySem PySem.Spec PyProof.Rows L2
/-! ### sorted -/
def scalD : PyData → Bool
  | .none => true
  | .bool _ => true
  | .int _ => true
  | .str _ => true
  | _ => false
def flatD : PyData → Bool
  | .tuple xs => xs.all scalD
  | d => scalD d
theorem reads_scal {h : Heap} {v : Value} {d : PyData} {as : List Addr} (r : Reads h v d as) (hs : scalD d = true) : as = [] := by
  cases r <;> first | rfl | cases hs
theorem readsAll_scal {h : Heap} : ∀ {vs : List Value} {ds : List PyData} {as : List Addr}, ReadsAll h vs ds as → ds.all scalD = true → as = []
  | _, _, _, .nil, _ => rfl
  | _, _, _, .cons r t, hs => by
    rw [List.all_cons, Bool.and_eq_true] at hs
    rw [reads_scal r hs.1, readsAll_scal t hs.2]
    rfl
theorem reads_flat {h : Heap} {v : Value} {d : PyData} {as : List Addr} (r : Reads h v d as) (hs : flatD d = true) : as = [] := by
  cases r with
  | tuple h1 h2 h3 h4 => exact readsAll_scal h4 hs
  | none => rfl
  | bool b => rfl
  | int i t => rfl
  | str x t => rfl
  | list h1 h2 h3 h4 => cases hs
  | dict h1 h2 h3 h4 h5 => cases hs
theorem depthAll_scal : ∀ {ds : List PyData}, ds.all scalD = true → PyData.depthAll ds = 0
  | [], _ => rfl
  | d :: ds, hs => by
    rw [List.all_cons, Bool.and_eq_true] at hs
    have h2 := depthAll_scal hs.2
    cases d <;> first | (simp [PyData.depthAll, PyData.depth, h2]; done) | (exact absurd hs.1 (by simp [scalD]))
theorem depth_flat {d : PyData} (hs : flatD d = true) : d.depth ≤ 1 := by
  cases d with
  | tuple xs =>
    have h := depthAll_scal (show xs.all scalD = true from hs)
    simp [PyData.depth, h]
  | list xs => cases hs
  | dict xs => cases hs
  | _ => simp [PyData.depth]
/-- what a sort's items are known by -/
structure SortP (K : PySem.W.Frag) (H : Hp) (ys : List V) (ps : List (V × PyData)) : Prop where
  e : ys = ps.map (·.1)
  d : ∀ q ∈ ps, Dp K H q.1 q.2
  f : ∀ q ∈ ps, flatD q.2 = true
  al : PySem.W.AllAlike (ps.map (·.2))
  so : PySem.W.Sortable (ps.map (·.2))
def sortedV (ps : List (V × PyData)) : List V := (ps.mergeSort (PySem.W.dataLe false fun q => q.2)).map (·.1)
theorem each_pairs {X : Cx} {pins : List (Addr × Obj)} {σ : L2.St} {H : Hp} {s : Shared} (I : Inv X pins σ H s) : ∀ {ps : List (V × PyData)} {us : List Value}, Vals (ps.map (·.1)) us → (∀ q ∈ ps, Dp X.K H q.1 q.2) → (∀ q ∈ ps, flatD q.2 = true) →
    PySem.W.EachIs (fun (u : Value) (q : V × PyData) => L2.RelV q.1 u) us ps ∧ PySem.W.EachIs (fun (u : Value) (q : V × PyData) => Reads s.heap u q.2 []) us ps
  | [], _, .nil, _, _ => ⟨.nil, .nil⟩
  | q :: ps, _, .cons r t, hd, hf => by
    obtain ⟨h1, h2⟩ := each_pairs I t (fun x hx => hd x (List.mem_cons_of_mem _ hx)) fun x hx => hf x (List.mem_cons_of_mem _ hx)
    obtain ⟨as, ra⟩ := Dp.reads I q.2 q.1 _ (hd q List.mem_cons_self) r
    rw [reads_flat ra (hf q List.mem_cons_self)] at ra
    exact ⟨.cons r h1, .cons ra h2⟩
theorem vals_each : ∀ {ps : List (V × PyData)} {us : List Value}, PySem.W.EachIs (fun (u : Value) (q : V × PyData) => L2.RelV q.1 u) us ps → Vals (ps.map (·.1)) us
  | _, _, .nil => .nil
  | _, _, .cons r t => .cons r (vals_each t)
section
variable {X : Cx} {pins : List (Addr × Obj)} {σ : L2.St} {H : Hp} {s : Shared} {A : Around} {E : Value → Shared → Prop}
theorem sort_tail {us : List Value} {ys : List V} {ps : List (V × PyData)} {Q : VK} {P : Flow → Shared → Prop} (hu : A.units + 64 < cLine) (I : Inv X pins σ H s) (rv : Vals ys us) (hz : ys.length ≤ sizeLine) (S : SortP X.K H ys ps)
    (q : ∀ p, H p = none → Q (.ref p) (upd H p (.lst (sortedV ps)))) (hP : ∀ u s', EP X pins σ Q u s' → P (.ret u) s') :
    wpAny (model X.prog X.w) A (newList us >>= fun l => holding [l] (call (.builtin "list.sort") [l] []) >>= fun _ => ret l) (fun fin s' => ∃ f, fin = .done f ∧ P f s') E s := by
  have rv' : Vals (ps.map (·.1)) us := by
    rw [← S.e]
    exact rv
  obtain ⟨e1, e2⟩ := each_pairs I rv' S.d S.f
  have hl : us.length = ps.length := e1.length
  have hl2 : ps.length ≤ sizeLine := by
    have h := hz
    rw [S.e, List.length_map] at h
    exact h
  refine wpAny_bind (wpAny_newList ?_ (by rw [hl]; exact hl2))
  have hoL : (s.heap.push (seqObj "list" us.toArray 0)).get? s.heap.objs.size = some (seqObj "list" us.toArray 0) := Heap.get?_push_size _ rfl
  have kp : ∀ b o, s.heap.get? b = some o → (s.heap.push (seqObj "list" us.toArray 0)).get? b = some o := fun b o e => Heap.get?_push_of_some _ e
  show wpAny _ _ _ _ _ { s with heap := s.heap.push (seqObj "list" us.toArray 0) }
  refine wpAny_bind (wpAny_holding ?_)
  refine PySem.W.list_sort_data (s := { s with heap := s.heap.push (seqObj "list" us.toArray 0) }) (enc := fun z : V × PyData => z.2) hoL e1 (e2.mono fun u z r => ⟨[], PyProof.Rows.Reads.keeps kp r, by simp⟩) S.al S.so hl2 (fun b hb => ?_) fun out ho eo => ?_
  · have := depth_flat (S.f b hb)
    omega
  · obtain ⟨n', hn'⟩ := PyProof.Rows.sortedHeap_at (vs := us) (out := out.toArray) hoL
    have hv : Vals (sortedV ps) out := vals_each eo
    have hlen : (sortedV ps).length ≤ sizeLine := by
      rw [hv.length, ho]
      exact hl2
    refine wpAny_pure ⟨_, rfl, hP _ _ ⟨.ref s.heap.objs.size, upd H s.heap.objs.size (.lst (sortedV ps)), I.laid (t' := s.toks) (fun b u e => ?_) (Nat.le_refl _) ⟨hlen, out, n', hv, hn'⟩, rfl, q _ (I.hok.fresh (Nat.le_refl _))⟩⟩
    have hb : b < s.heap.objs.size := Heap.lt_size e
    rw [PyProof.Rows.sortedHeap_old (Nat.ne_of_lt hb) (by rw [size_push']; exact Nat.lt_succ_of_lt hb)]
    exact Heap.get?_push_of_some _ e
end
def finSort (K : PySem.W.Frag) : VK → List V → Hp → Prop := fun Q ys H => ∃ ps, SortP K H ys ps ∧ ∀ p, H p = none → Q (.ref p) (upd H p (.lst (sortedV ps)))
theorem boot_sorted1 : bootBuiltins "sorted" = some (.builtin "sorted") := by decide +kernel
section
variable {X : Cx} {elt tg iter : Expr} {ifs : List Expr} {scope : Scope} {gpos p pos : Pos} {own : List (Str × Nat)} {g : TG} {tt : TT} {te : TE} {wi : TI} {k : Nat} {c P : Addr}
theorem pe_sortedG (G : GenC X k c P elt tg iter ifs scope own wi g tt te) (hg : Gl X "sorted") (hm : X.mg "sorted" = none) (he : starEach [.GeneratorExp elt [⟨tg, iter, ifs, 0⟩] scope gpos] X.env = (false, eval (.GeneratorExp elt [⟨tg, iter, ifs, 0⟩] scope gpos) X.env) :: starEach [] X.env := by rfl) :
    PE X (.Call (.Name "sorted" p) [.GeneratorExp elt [⟨tg, iter, ifs, 0⟩] scope gpos] [] pos) (tGen P wi g tt te (own.map (·.2)) [] takeL (finSort X.K)) := by
  refine ⟨fun pins s σ H Q I h => ?_⟩
  refine wpAny_Call_Name_kw (ld_blt I hg hm boot_sorted1 ?_)
  refine PyProof.Rows.callWith_builtin1 (starG he G I h fun J H2 ga s6 W m Fr w turn => ?_) he (by rfl)
  refine Calls.call_function_entry PyProof.Rows.kind_sorted PyProof.Rows.plain_sorted PyProof.Rows.entry_sorted (PyProof.Rows.args_sorted1 _) ?_
  unfold Builtin.«sorted»
  refine wpAny_bind (m := checkCount "sorted" 1 1 _) (wpAny_pure ?_)
  refine wpAny_bind (thn (draw_list (Ql := finSort X.K Q) Fr (G.hr.in1.mono (by omega)) (fresh_frames Fr) G.p w turn) fun us s' ⟨ys, H', hz, rv, I', ps, S, q⟩ => ?_)
  have hu : X.A.in1.units + 64 < cLine := G.hr.in1.units
  exact thn (sort_tail (P := fun f s' => ∃ v, f = .ret v ∧ EP X pins σ Q v s') hu I' rv hz S q fun u s' h => ⟨u, rfl, h⟩) fun fin s' ⟨f, e, v, e2, h⟩ => ⟨v, by rw [e, e2], h⟩
end
end Mi

set_option Elab.async false
set_option linter.all false
set_option maxRecDepth 100000
set_option maxHeartbeats 2000000
namespace Mi
open PySem PySem.Spec PyProof.Rows L2 LamX
/-! ### tracked anew, tracked no more -/
def rm (H : Hp) (f : Addr) : Hp := fun b => if b = f then none else H b
theorem rm_same {H : Hp} {f : Addr} : rm H f f = none := if_pos rfl
theorem rm_ne {H : Hp} {f b : Addr} (h : b ≠ f) : rm H f b = H b := if_neg h
section
variable {X : Cx} {pins : List (Addr × Obj)} {σ : L2.St} {H : Hp} {s : Shared} {f : Addr} {φ : Heap → Prop}
theorem forget (I : Inv X pins σ H s) (hf : H f = some (.ext φ)) : Inv X pins σ (rm H f) s := by
  have nf : ∀ b u, H b = some u → (∀ ψ, u ≠ .ext ψ) → b ≠ f := fun b u e n z => by
    rw [z, hf] at e
    exact n φ (Option.some.inj e).symm
  refine I.step (h' := s.heap) (g' := s.gens) (d' := s.drawn) (t' := s.toks) (ch := []) (fun b hb => absurd hb (by simp)) (fun b o _ _ _ q _ => q) (fun b o _ _ _ q _ => ⟨o.slots, q⟩) (fun b o _ _ n => ?_) (fun b o _ q => ⟨o, q⟩)
    (fun b xs q => ?_) (fun b o u q => ?_) (fun b ps q => ⟨#[], ?_⟩) (fun m hm => hm) (fun b u q => ?_) I.bare
  · unfold rm
    split
    · rfl
    · exact n
  · rw [rm_ne (nf b _ q fun _ z => by cases z)]
    exact q
  · rw [rm_ne (nf b _ q fun _ z => by cases z)]
    exact q
  · rw [rm_ne (nf b _ q fun _ z => by cases z), q]
    simp
  · by_cases hb : b = f
    · rw [hb, rm_same] at q
      cases q
    · rw [rm_ne hb] at q
      exact (I.hok b u q).stay (fun _ _ _ y => y) (fun d y => by rw [rm_ne (nf d _ y fun _ z => by cases z)]; exact y) fun d xs y => by rw [rm_ne (nf d _ y fun _ z => by cases z)]; exact y
theorem adopt {o : Obj} (I : Inv X pins σ H s) (hn : H f = none) (hy : (f ∈ X.ex ∨ X.s_0.heap.objs.size ≤ f) ∧ f ≠ X.env.locals ∧ (∀ x c, X.env.cells.lookup x = some c → c ≠ f) ∧ ∀ p ∈ X.pn ++ pins, p.1 ≠ f)
    (ho : s.heap.get? f = some o) (hφ : φ s.heap) (st : ∀ h1 h2 : Heap, φ h1 → (∀ o, h1.get? f = some o → h2.get? f = some o) → φ h2) : Inv X pins σ (upd H f (.ext φ)) s := by
  have nf : ∀ b u, H b = some u → b ≠ f := fun b u e => ne_of_none e hn
  refine I.step (h' := s.heap) (g' := s.gens) (d' := s.drawn) (t' := s.toks) (ch := [f]) (fun b hb => by rw [List.mem_singleton.mp hb]; exact hy) (fun b o _ _ _ q _ => q) (fun b o _ _ _ q _ => ⟨o.slots, q⟩) (fun b o hb _ n => ?_) (fun b o _ q => ⟨o, q⟩)
    (fun b xs q => ?_) (fun b o u q => ?_) (fun b ps q => ⟨#[], ?_⟩) (fun m hm => hm) (fun b u q => ?_) I.bare
  · rw [upd_ne fun z => hb (List.mem_singleton.mpr z)]
    exact n
  · rw [upd_ne (nf b _ q)]
    exact q
  · rw [upd_ne (nf b _ q)]
    exact q
  · rw [upd_ne (nf b _ q), q]
    simp
  · by_cases hb : b = f
    · rw [hb, upd_same] at q
      cases q
      rw [hb]
      exact ⟨hφ, ⟨o, ho⟩, st⟩
    · rw [upd_ne hb] at q
      exact (I.hok b u q).stay (fun _ _ _ y => y) (fun d y => by rw [upd_ne (nf d _ y)]; exact y) fun d xs y => by rw [upd_ne (nf d _ y)]; exact y
end
/-! ### a lambda as a value -/
def LamO (f : Addr) (q : Str) (params : Arguments) (body : Expr) (scope : Scope) (cl : List (Str × Addr)) (pm : Value) (c' : Addr) (ctv : Value) : HO := .ext fun h => h.get? f = some (PySem.W.kla_obj "<lambda>" q params body scope cl pm c' ctv)
/-- one lambda: its text, its reading (from the exception's wish), where its code stands -/
structure LamD where
  params : Arguments
  body : Expr
  scope : Scope
  t : XK → TE
structure LamOk (X : Cx) (k : Nat) (D : LamD) : Prop where
  L : LamS X.env.scope D.scope
  bind : ∀ (q : Str) (cl : List (Str × Addr)) (pm cv ctv : Value), bindArgs (PySem.W.kla_fn "<lambda>" q D.params D.body D.scope cl pm cv ctv) ⟨[], []⟩ = pure []
  body : ∀ (A : Around) (outer : List Env) (s : Shared) (H : Hp) (E : XK) (f c' : Addr), Room k (A.deeper (lamEnv X D.scope s.heap.objs.size f c')) → PE (lamCx X A outer s H E D.scope f c') D.body (D.t E)
/-- at f stands that lambda, made by X's def -/
def LamIs (X : Cx) (D : LamD) (f : Addr) (H : Hp) : Prop := ∃ (c' : Addr) (pm ctv : Value), H f = some (LamO f (X.env.qual ++ "<lambda>") D.params D.body D.scope (cloFrom X.env.cells D.scope.names []) pm c' ctv) ∧ H c' = some (CodeO c' (X.env.qual ++ "<lambda>"))
/-- a lambda's making: x = lambda: .. -/
def tMkLam (X : Cx) (T : List (Addr × Str)) (P : Addr) (D : LamD) : TE := fun _ H Q => Tabs T H ∧ ∀ f H1, ExtN H H1 → (∀ b o, b ≠ P → H b = some o → H1 b = some o) → Tabs T H1 → H f = none → LamIs X D f H1 → Q (.ref f) H1
section
variable {X : Cx} {T : List (Addr × Str)} {c P : Addr} {D : LamD} {pos : Pos} {k : Nat}
theorem codeO_young {X : Cx} {pins : List (Addr × Obj)} {σ : L2.St} {H : Hp} {s : Shared} (I : Inv X pins σ H s) {f : Addr} (hf : s.heap.objs.size ≤ f) : (f ∈ X.ex ∨ X.s_0.heap.objs.size ≤ f) ∧ f ≠ X.env.locals ∧ (∀ x c, X.env.cells.lookup x = some c → c ≠ f) ∧ ∀ p ∈ X.pn ++ pins, p.1 ≠ f := by
  obtain ⟨_, h1, _, h2, h3, h4⟩ := I.fpOk (H' := H) hf (I.hok.fresh hf)
  exact ⟨h2, h1, h3, h4⟩
theorem pe_lam (TB : TabB X.base X.mg c P) (hcode : X.env.code = .ref c) (hm : (P, X.env.qual ++ "<lambda>") ∈ T) (hu : ∀ p ∈ T, p.1 = P → p.2 = X.env.qual ++ "<lambda>") (hdef : defaultsOf D.params X.env = ([], [])) (O : LamOk X k D) :
    PE X (.Lambda D.params D.body D.scope pos) (tMkLam X T P D) := by
  refine ⟨fun pins s σ H Q I h => ?_⟩
  obtain ⟨hT, h⟩ := h
  obtain ⟨ps, hP, ht, ha⟩ := hT _ hm
  have hfree := O.L.has I.ok
  refine PySem.W.kla_eval hdef ?_
  have bP : s.heap.BuiltinsAt X.mg P := TB.bm.keeps I.bk
  have hPs : s.heap.get? P = some { cls := .none, data := .fields ps } := I.hok P _ hP
  -- the end, from what stands behind the making
  have fin : ∀ (H1 : Hp) (s1 : Shared) (c' : Addr) (pm ctv : Value) (f : Addr), Inv X pins σ H1 s1 → ExtN H H1 → (∀ b o, b ≠ P → H b = some o → H1 b = some o) → Tabs T H1 → s.heap.objs.size ≤ f → H1 f = none → s1.heap.get? f = some (PySem.W.kla_obj "<lambda>" (X.env.qual ++ "<lambda>") D.params D.body D.scope (cloFrom X.env.cells D.scope.names []) pm c' ctv) →
      H1 c' = some (CodeO c' (X.env.qual ++ "<lambda>")) → EP X pins σ Q (.ref f) s1 := fun H1 s1 c' pm ctv f I1 eN eK T1 hf hn ho hco => by
    have e1 : ∀ b o, H1 b = some o → upd H1 f (LamO f (X.env.qual ++ "<lambda>") D.params D.body D.scope (cloFrom X.env.cells D.scope.names []) pm c' ctv) b = some o := fun b o e => by
      rw [upd_ne (ne_of_none e hn)]
      exact e
    refine ⟨.ref f, _, adopt I1 hn (codeO_young I hf) ho ho (fun h1 h2 a st => st _ a), rfl, h f _ (eN.trans (.of e1)) (fun b o hb e => e1 b o (eK b o hb e)) (T1.ext e1) (I.hok.fresh hf) ⟨c', pm, ctv, upd_same, e1 _ _ hco⟩⟩
  cases hc : codeAmong pos ps.toList with
  | none =>
    refine PySem.W.kla_makeFunction (mg := X.mg) (c := c) (P := P) (ps := ps) (closure_ok hfree) I.ok.glob (I.mod.glob.keeps I.bk) hcode (TB.code.keeps I.bk) hPs ht hc TB.gP bP fun c' ctv h' tk hx hge hlt hrec htb => ?_
    obtain ⟨c2, oc, vs, t, e2, hoc, hd, hv⟩ := hrec
    cases e2
    have hsz : s.heap.objs.size ≤ h'.objs.size := Nat.le_trans hge (Nat.le_of_lt hlt)
    have nC : H c' = none := I.hok.fresh hge
    have J := inv_table (t' := tk) (more := #[rawInt pos.line, rawInt pos.col, .ref c']) (h' := h'.push (PySem.W.kla_obj "<lambda>" (X.env.qual ++ "<lambda>") D.params D.body D.scope (cloFrom X.env.cells D.scope.names []) ((X.mg "__name__").getD .none) c' ctv)) I hP
      (fun b o hb e => Heap.get?_push_of_some _ (hx b o hb e)) (Heap.get?_push_of_some _ htb) hge ⟨oc, vs, t, Heap.get?_push_of_some _ hoc, hd, hv⟩
    have eN : ExtN H (upd (upd H P (.tbl (ps ++ #[rawInt pos.line, rawInt pos.col, .ref c']))) c' (CodeO c' (X.env.qual ++ "<lambda>"))) := fun b o e n => by
      rw [upd_ne (ne_of_none e nC), upd_ne (fun z => n ps (Option.some.inj (e.symm.trans (by rw [z]; exact hP))))]
      exact e
    have eL : (ps ++ #[rawInt pos.line, rawInt pos.col, .ref c']).toList = ps.toList ++ [rawInt pos.line, rawInt pos.col, .ref c'] := by simp
    refine fin _ _ c' _ ctv h'.objs.size J eN (fun b o hb e => by rw [upd_ne (ne_of_none e nC), upd_ne hb]; exact e) (fun p hp => ?_) hsz ?_ (Heap.get?_push_size _ rfl) upd_same
    · by_cases hb : p.1 = P
      · rw [hu p hp hb, hb]
        refine ⟨_, by rw [upd_ne (ne_of_none hP nC), upd_same], by rw [eL]; exact PySem.TriplesOk_snoc _ _ _ _ ht, fun p' cv hcv => ?_⟩
        rw [eL] at hcv
        rcases among_app _ ht hcv with z | z
        · obtain ⟨c0, q1, q2⟩ := ha p' cv z
          exact ⟨c0, q1, eN _ _ q2 codeO_ne⟩
        · exact ⟨c', z, upd_same⟩
      · obtain ⟨ps', a1, a2, a3⟩ := hT p hp
        refine ⟨ps', by rw [upd_ne (ne_of_none a1 nC), upd_ne hb]; exact a1, a2, fun p' cv hcv => ?_⟩
        obtain ⟨c0, q1, q2⟩ := a3 p' cv hcv
        exact ⟨c0, q1, eN _ _ q2 codeO_ne⟩
    · have m1 : h'.objs.size ≠ c' := Nat.ne_of_gt hlt
      have m2 : h'.objs.size ≠ P := Nat.ne_of_gt (Nat.lt_of_lt_of_le (Heap.lt_size hPs) hsz)
      rw [upd_ne m1, upd_ne m2]
      exact I.hok.fresh hsz
  | some cv =>
    obtain ⟨c', e, hco⟩ := ha pos cv hc
    subst e
    refine PySem.W.kla_makeFunctionHit (mg := X.mg) (c := c) (P := P) (ps := ps) (closure_ok hfree) I.ok.glob (I.mod.glob.keeps I.bk) hcode (TB.code.keeps I.bk) hPs ht hc bP fun ctv h' tk hx hsz => ?_
    have J : Inv X pins σ H { s with heap := h'.push (PySem.W.kla_obj "<lambda>" (X.env.qual ++ "<lambda>") D.params D.body D.scope (cloFrom X.env.cells D.scope.names []) ((X.mg "__name__").getD .none) c' ctv), toks := tk } := I.kept fun b o e => Heap.get?_push_of_some _ (hx b o e)
    exact fin H _ c' _ ctv h'.objs.size J (ExtN.refl H) (fun _ _ _ e => e) hT hsz (I.hok.fresh hsz) (Heap.get?_push_size _ rfl) hco
end
end Mi

set_option Elab.async false
set_option linter.all false
set_option maxRecDepth 100000
set_option maxHeartbeats 2000000
namespace Mi
open PySem PySem.Spec PyProof.Rows L2 LamX
/-! ### a comprehension whose parts may lean on what the def knows -/
section
variable {X : Cx}
theorem lcI {elt tg iter : Expr} {ifs : List Expr} {scope : Scope} {own : List (Str × Nat)} {pos : Pos} {wi : TI} {g : TG} {tt : L2.St → TT} {te : TE} (hc : X.calm = true) (hN : X.N.Nodup) (hi : PI X tg iter wi) (ok : BlkOk X.N X.env.scope scope own)
    (hg : ∀ (s : Shared) (H : Hp) (C : Addr) (cl : List (Str × Addr)) (fp : List Addr), PG (X.blk s H scope (compEnvC scope cl C X.env) fp) tg g)
    (ht : ∀ (s : Shared) (H : Hp) (C : Addr) (cl : List (Str × Addr)) (fp : List Addr) (pins : List (Addr × Obj)) (σ : L2.St), Inv X pins σ H s → (∀ b ∈ fp, FpOk X pins H b) → PTs (X.blk s H scope (compEnvC scope cl C X.env) fp) ifs (tt σ))
    (he : ∀ (s : Shared) (H : Hp) (C : Addr) (cl : List (Str × Addr)) (fp : List Addr), PE (X.blk s H scope (compEnvC scope cl C X.env) fp) elt te) (hs : ∀ x, foldedSetIterable iter X.env x = pure x := by intro _; rfl) :
    PE X (.ListComp elt [⟨tg, iter, ifs, 0⟩] scope pos) (fun σ H Q => tLc wi g (tt σ) te (own.map (·.2)) σ H Q) := by
  refine ⟨fun pins s σ H Q I h => ?_⟩
  rw [eval_ListComp]
  have hasF : ∀ y ∈ scope.names, y.2 = .free → ∃ c, X.env.cells.lookup y.1 = some c := fun y hy e => (ok.free y hy e).elim (fun k => I.ok.has _ (.inl k)) fun k => I.ok.has _ (.inr k)
  refine wpAny_comprehension_free (use := none) rfl hs (closure_ok hasF) ok.kind (fun y hy e => by rw [ok.uniq y hy, e]) (thn (hi.run pins s σ H _ I h) fun xv s1 hx => thn hx fun itv s2 h2 => ?_)
  obtain ⟨it, fp, tn, J, H2, rfl, I2, T, st2, f2, q⟩ := h2
  refine wpAny_newObj_type (newEnv_comp ?_) (by show 0 ≤ sizeLine; decide)
  have newD : H2 s2.heap.objs.size = none := I2.hok.fresh (Nat.le_refl _)
  obtain ⟨W, ⟨m0, w0⟩, turn⟩ := q s2.heap.objs.size newD
  generalize hD : s2.heap.objs.size = D at newD w0 turn ⊢
  obtain ⟨s3, hs3⟩ : ∃ s3 : Shared, s3 = { s2 with heap := s2.heap.push { cls := .type "list", data := .seq ([] : List Value).toArray } } := ⟨_, rfl⟩
  obtain ⟨H3, hH3⟩ : ∃ H3 : Hp, H3 = upd H2 D (.lst []) := ⟨_, rfl⟩
  rw [← hH3] at w0
  rw [← hs3]
  have heap3 : s3.heap = s2.heap.push { cls := .type "list", data := .seq ([] : List Value).toArray } := by rw [hs3]
  have I3 : Inv X pins σ H3 s3 := by
    rw [hs3, hH3]
    refine I2.laid (t' := s2.toks) (fun b o e => Heap.get?_push_of_some _ e) (Nat.le_of_eq hD) ⟨Nat.zero_le _, [], 0, .nil, ?_⟩
    rw [← hD]
    exact Heap.get?_push_size _ rfl
  have f3 : ∀ b ∈ fp, FpOk X pins H3 b ∧ b < s3.heap.objs.size := fun b hb => by
    obtain ⟨o, e, _⟩ := T.obj _ _ st2 b hb
    have hlt := Heap.lt_size e
    refine ⟨⟨?_, (f2 b hb).2⟩, by rw [heap3, Heap.size_push]; exact Nat.lt_succ_of_lt hlt⟩
    rw [hH3, upd_ne (by rw [← hD]; exact Nat.ne_of_lt hlt)]
    exact (f2 b hb).1
  have st3 : tn 0 s3.heap := T.keep _ _ _ st2 fun b _ o e => by rw [heap3]; exact Heap.get?_push_of_some _ e
  have I4 := block_start I3 ok hN f3
  have pg := hg s3 H3 s3.heap.objs.size (cellsFrom (s3.heap.objs.size + 1) scope.names (cloFrom X.env.cells scope.names [])) fp
  have pt := ht s3 H3 s3.heap.objs.size (cellsFrom (s3.heap.objs.size + 1) scope.names (cloFrom X.env.cells scope.names [])) fp pins σ I3 fun b hb => (f3 b hb).1
  have pe := he s3 H3 s3.heap.objs.size (cellsFrom (s3.heap.objs.size + 1) scope.names (cloFrom X.env.cells scope.names [])) fp
  show codeAny _ _ (.compStart (.ListComp elt [⟨tg, iter, ifs, 0⟩] scope pos) 0 (.ref it) (.ref D) (compEnvC scope (cellsFrom (s3.heap.objs.size + 1) scope.names (cloFrom X.env.cells scope.names [])) s3.heap.objs.size X.env))
    (compPost (model X.prog X.w) X.A X.xe none (EP X pins σ Q) (.ref D) s3.heap.objs.size) { s3 with heap := pushCells (s3.heap.push { cls := .type "dict", data := .dict #[] }) scope.names }
  have n3 : ∀ b ∈ fp, H3 b = none := fun b hb => (f3 b hb).1.1
  generalize hce : compEnvC scope (cellsFrom (s3.heap.objs.size + 1) scope.names (cloFrom X.env.cells scope.names [])) s3.heap.objs.size X.env = ce at I4 pg pt pe ⊢
  have cL : ce.locals = s3.heap.objs.size := by subst hce; rfl
  obtain ⟨s4, hs4⟩ : ∃ s4 : Shared, s4 = { s3 with heap := pushCells (s3.heap.push { cls := .type "dict", data := .dict #[] }) scope.names } := ⟨_, rfl⟩
  rw [← hs4] at I4 ⊢
  have st4 : tn 0 s4.heap := T.keep _ _ _ st3 fun b _ o e => by rw [hs4]; exact pushCells_keeps _ _ _ _ (Heap.get?_push_of_some _ e)
  have own4 : ∀ {σ' : L2.St} {H' : Hp} {s' : Shared}, Inv (X.blk s3 H3 scope ce fp) [] σ' H' s' → (∀ b ∈ fp, H' b = none) → ∀ b ∈ fp, FpOk (X.blk s3 H3 scope ce fp) [] H' b := fun {σ' H' s'} I' hn b hb =>
    ⟨hn b hb, (I'.ok.exf b hb).1, I'.ok.exfs b hb, .inl hb, (I'.ok.exf b hb).2, fun p hp => absurd (show p ∈ ([] : List (Addr × Obj)) ++ [] from hp) (by simp)⟩
  have loop : codeAny (model X.prog X.w) X.A (.compLoop (.ListComp elt [⟨tg, iter, ifs, 0⟩] scope pos) 0 (.ref it) (.ref D) ce) (compPost (model X.prog X.w) X.A X.xe none (EP X pins σ Q) (.ref D) s3.heap.objs.size) s4 := by
    refine compLoop_any (fun n s' => ∃ i H', Inv (X.blk s3 H3 scope ce fp) [] (wipe σ (own.map (·.2))) H' s' ∧ tn i s'.heap ∧ (∀ b ∈ fp, H' b = none) ∧ W i n H') ?_ m0 ⟨0, H3, I4, st4, n3, w0⟩
    rintro n s5 ⟨i, H5, I5, st5, n5, w5⟩
    rcases turn i n H5 w5 with ⟨stop, qq⟩ | ⟨go, Nx, hNx, step⟩
    · refine thnF (T.done (X.blk s3 H3 scope ce fp) rfl rfl rfl hc i [] s5 _ H5 (fun _ _ => False) I5 (own4 I5 n5) st5 stop) fun r s6 ⟨hr, I6⟩ => ?_
      subst hr
      have I7 : Inv X pins σ H5 s6 := I3.call' (ch := fp) I6.os I6.base I6.hok I6.bare fun b hb => ⟨(f3 b hb).1.2.2.2.1, (f3 b hb).1.2.1, (f3 b hb).1.2.2.2.2.1, (f3 b hb).1.2.2.2.2.2⟩
      have nC : H5 s3.heap.objs.size = none := by
        have z : H5 ce.locals = none := I6.free
        rw [cL] at z
        exact z
      obtain ⟨m, hn, _⟩ := I6.loc
      have hn : s6.heap.Ns ce.locals m := hn
      rw [cL] at hn
      obtain ⟨z0, z1, z2, z3, z4, z5⟩ := I3.fpOk (Nat.le_refl _) nC
      exact ⟨m, hn, fun h6 sb => ⟨.ref D, H5, I7.turned (t' := s6.toks) (fun b o hb e => (sb.2 b hb).trans e) z0 z1 z3 z4 z5, rfl, qq⟩⟩
    · refine thnF (T.item (X.blk s3 H3 scope ce fp) rfl rfl rfl hc i [] s5 _ H5 (fun _ _ => False) I5 (own4 I5 n5) st5 go) fun r s6 ⟨u, hr, h6⟩ => ?_
      subst hr
      refine thnF h6 fun _ s7 ⟨x, H7, I7, r7, y7, st7, n7⟩ => ?_
      refine thnF (pg.run _ s7 _ H7 x u _ (I7.pinned (own4 I7 n7) (T.obj _ _ st7)) r7 (step x H7 y7)) fun _ s8 ⟨σ8, H8, I8, hw8, q8⟩ => ?_
      refine thnF (pt.run _ s8 σ8 H8 _ I8 q8) fun b s9 ⟨H9, I9, q9⟩ => ?_
      have fin : ∀ {s' : Shared} {H' : Hp}, Inv (X.blk s3 H3 scope ce fp) ([] ++ pinsAt fp s7.heap) σ8 H' s' → Nx H' → ∃ m, m < n ∧ ∃ i H', Inv (X.blk s3 H3 scope ce fp) [] (wipe σ (own.map (·.2))) H' s' ∧ tn i s'.heap ∧ (∀ b ∈ fp, H' b = none) ∧ W i m H' := fun {s' H'} I' nx => by
        obtain ⟨m', hm, w'⟩ := hNx H' nx
        have pin' : ∀ b ∈ fp, ∀ o, s7.heap.get? b = some o → s'.heap.get? b = some o ∧ H' b = none := fun b hb o e =>
          let z := I'.pin (b, o) (List.mem_append_right _ (List.mem_append_right _ (mem_pinsAt hb e)))
          ⟨z.1, z.2.1⟩
        refine ⟨m', hm, i + 1, H', (I'.unpinned (pins := [])).weak (by rw [← hw8, wipe_length]) (fun j v e => ?_), T.keep _ _ _ st7 fun b hb o e => (pin' b hb o e).1, fun b hb => ?_, w'⟩
        · rw [← hw8] at e
          exact (wipe_some e).1
        · obtain ⟨o, e, _⟩ := T.obj _ _ st7 b hb
          exact (pin' b hb o e).2
      cases b with
      | false =>
        simp only [Bool.false_eq_true, if_false] at q9 ⊢
        exact fin I9 q9
      | true =>
        simp only [if_true] at q9 ⊢
        refine thnF (pe.run _ s9 σ8 H9 _ I9 q9) fun z s10 ⟨yv, H10, I10, r10, acc, hD10, hz10, nx⟩ => ?_
        exact app_ok (X := X.blk s3 H3 scope ce fp) I10 hD10 hz10 r10 fun s11 I11 => fin I11 nx
  exact codeAny_compStart_list loop (T.self X.A 0 _ _ _ st4 loop)
/-- f(x) in the comprehension, x a lambda that the def made: told once -/
def tTold (X : Cx) (k i : Nat) (σ0 : L2.St) (TT : (XK → Hp → VK → Prop) → Hp → VK → Prop) : TE := fun σ H Q => ∃ (f : Addr) (D : LamD) (φ : Heap → Prop), σ[i]? = some (some (.ref f)) ∧ LamOk X k D ∧ LamIs X D f H ∧ H f = some (.ext φ) ∧ TT (fun E H' Q' => D.t E σ0 H' Q') (rm H f) (fun v H' => Q v (upd H' f (.ext φ)))
theorem pe_toldV {s3 : Shared} {H3 : Hp} {scope : Scope} {ce : Env} {fp : List Addr} {pins3 : List (Addr × Obj)} {σ3 : L2.St} (I3 : Inv X pins3 σ3 H3 s3) (f3 : ∀ b ∈ fp, FpOk X pins3 H3 b)
    {TT : (XK → Hp → VK → Prop) → Hp → VK → Prop} {x a fv : Str} {g : Addr} {k i : Nat} {pg : Arguments} {bg : List Stmt} {sg : Scope} {dV kV doc pm cdv ct oc : Value} {an od : Option Addr} {osl : Array (Option Value)} {Ng : List Str} {p pf pos : Pos}
    (hg : Gl (X.blk s3 H3 scope ce fp) x) (hm : X.mg x = some (.ref g)) (hk : PySem.W.keepIn X.K (.ref g) = true)
    (lk : X.K.lookup g = some ⟨oc, od, .func (PySem.W.fnOf x x pg bg sg dV kV doc pm an cdv ct), osl⟩) (hcg : PySem.W.codeIn X.K cdv x = true) (hb : L2.Binds X.K (PySem.W.fnOf x x pg bg sg dV kV doc pm an cdv ct) [a] []) (Sg : FnScope Ng [a] sg) (hNg : Ng[0]? = some a) (hva : Vis sg a)
    (hG : GivesTo (X.blk s3 H3 scope ce fp) Ng x sg g cdv bg a (X.env.qual ++ "<lambda>") TT) (hr : Room (k + 2) X.A) (hpf : PE (X.blk s3 H3 scope ce fp) (.Name fv pf) (tVar i))
    (hdb : (x == ("__debug__" : Str)) = false := by decide) (hd : (a == ("__debug__" : Str)) = false := by decide) (hcd : (a == ("__classdict__" : Str)) = false := by decide)
    (hst : starEach [.Name fv pf] (X.blk s3 H3 scope ce fp).env = (false, eval (.Name fv pf) (X.blk s3 H3 scope ce fp).env) :: starEach [] (X.blk s3 H3 scope ce fp).env := by rfl) (hpl : (backTo pos (starEach [] (X.blk s3 H3 scope ce fp).env)).any (·.1) = false := by rfl) :
    PE (X.blk s3 H3 scope ce fp) (.Call (.Name x p) [.Name fv pf] [] pos) (tTold X k i σ3 TT) := by
  refine ⟨fun pins s σ H Q I h => ?_⟩
  obtain ⟨f, D, φ, hs, O, ⟨c', pmL, ctv, hf, hco⟩, hφ, hTT⟩ := h
  refine wpAny_Call_Name_kw (ld_glob I hg hm ?_ hdb)
  refine PySem.W.callWith_K (h₀ := X.base) I.ok.mod.kin hk ?_ hst hpl
  rw [hst]
  show wpAny _ _ (spliced ((false, eval (.Name fv pf) (X.blk s3 H3 scope ce fp).env) :: backTo pos (starEach [] (X.blk s3 H3 scope ce fp).env))) _ _ s
  refine Calls.spliced_cons (thn (hpf.run pins s σ H (fun v H1 => v = .ref f ∧ H1 = H) I ⟨.ref f, hs, rfl, rfl⟩) fun u s1 ⟨v, H1, I1, r1, ev, eH⟩ => ?_)
  subst ev eH
  obtain rfl : u = Value.ref f := r1
  refine Calls.spliced_nil ⟨I1.kIn, ?_⟩
  obtain ⟨hlam, _, _⟩ := I1.hok f _ hf
  have J := forget I1 hf
  have IX0 : Inv X pins3 σ3 H1 s1 := I3.call' (ch := fp) I1.os I1.base I1.hok I1.bare fun b hb => ⟨(f3 b hb).2.2.2.1, (f3 b hb).2.1, (f3 b hb).2.2.2.2.1, (f3 b hb).2.2.2.2.2⟩
  have IX := forget IX0 hf
  have hfr : f ∉ frs X.stack := fun z => by
    have e := IX0.stkFree f z
    rw [hf] at e
    cases e
  have hfr2 : f ∉ frs (X.blk s3 H3 scope ce fp).stack := fun z => by
    have e := I1.stkFree f z
    rw [hf] at e
    cases e
  have hne : c' ≠ f := fun z => by
    obtain ⟨⟨oc1, vs1, t1, q1, q2, q3⟩, _, _⟩ := I1.hok c' _ hco
    rw [z] at q1
    have q4 := hlam
    rw [q1] at q4
    rw [Option.some.inj q4] at q2
    cases q2
  have hco2 : rm H1 f c' = some (CodeO c' (X.env.qual ++ "<lambda>")) := by
    rw [rm_ne hne]
    exact hco
  have rc : codeAny (model X.prog X.w) X.A (.call (.ref g) ⟨[.ref f], []⟩) (CR C8.CX0 X.stack X.prog X.w (rm H1 f) s1 (fun v H' => Q v (upd H' f (.ext φ))) C8.E0) s1 := by
    refine run_ofS (N := Ng) (ps := [a]) (us := [.ref f]) (vs := [.ref f]) lk hcg Sg hr IX.env0 (hb s1 [.ref f] I1.kIn rfl) (.cons rfl .nil) rfl fun hr' => ?_
    obtain ⟨t', ht', hq'⟩ := hG f c' s1 (rm H1 f) (fun v H' => Q v (upd H' f (.ext φ))) (fun E H' Q' => D.t E σ3 H' Q') (fun W pn xe E p1 p2 tk hW => pe_act (i := 0) IX O.L hlam rm_same hfr (O.bind _ _ _ _ _) tk hW hr' (fun A outer s H hr2 => O.body A outer s H E f c' hr2) hNg hva hd hcd) hco2 hTT
    exact ⟨t', ht'.nox, hq'⟩
  refine wpAny_call (codeAny_mono rc fun r s2 hq => ?_)
  cases r with
  | error e => exact (show False from hq).elim
  | ok fl =>
    cases fl with
    | ret u =>
      obtain ⟨v, H', os, bare, un, hok, r, q⟩ := hq
      obtain ⟨hp, ⟨ob, hob⟩, st⟩ := I1.hok f _ hφ
      have hkeep : ∀ o, s1.heap.get? f = some o → s2.heap.get? f = some o := fun o e => un.keep f o e rm_same hfr2 (by simp)
      have hn' : H' f = none := un.free f ob hob rm_same (by simp)
      have cv : ∀ b, b ≠ f → H1 b = none → rm H1 f b = none := fun b hb e => by
        rw [rm_ne hb]
        exact e
      have nef : ∀ b, H1 b = none → b ≠ f := fun b e z => by
        rw [z, hφ] at e
        cases e
      refine I1.after ⟨v, upd H' f (.ext φ), os, bare, ?UN, fun b u e => ?_, r, q⟩
      case UN =>
        have kd : ∀ b u, H1 b = some u → (∀ ψ, u ≠ .ext ψ) → b ≠ f := fun b u e n z => by
          rw [z, hφ] at e
          exact n φ (Option.some.inj e).symm
        refine ⟨fun b o e n hb hx => un.keep b o e (cv b (nef b n) n) hb hx, fun b o e n hb hx => un.slot b o e (cv b (nef b n) n) hb hx, fun b o e n hx => ?_, un.there, fun b xs e => ?_, fun b o u e => ?_, fun b ps e => ?_⟩
        · rw [upd_ne (nef b n)]
          exact un.free b o e (cv b (nef b n) n) hx
        · have hb := kd b _ e fun _ z => nomatch z
          rw [upd_ne hb]
          exact un.tups b xs (by rw [rm_ne hb]; exact e)
        · have hb := kd b _ e fun _ z => nomatch z
          rw [upd_ne hb]
          exact un.frzs b o u (by rw [rm_ne hb]; exact e)
        · have hb := kd b _ e fun _ z => nomatch z
          rw [upd_ne hb]
          exact un.tbls b ps (by rw [rm_ne hb]; exact e)
      · by_cases hb : b = f
        · rw [hb, upd_same] at e
          cases e
          rw [hb]
          exact ⟨st _ _ hp hkeep, ⟨ob, hkeep _ hob⟩, st⟩
        · rw [upd_ne hb] at e
          exact (hok b u e).stay (fun _ _ _ y => y) (fun d y => by rw [upd_ne (ne_of_none y hn')]; exact y) fun d xs y => by rw [upd_ne (ne_of_none y hn')]; exact y
    | next => exact False.elim hq
    | brk => exact False.elim hq
    | cont => exact False.elim hq
end
end Mi

set_option Elab.async false
set_option linter.all false
set_option maxRecDepth 100000
set_option maxHeartbeats 2000000
namespace Mi
open PySem PySem.Spec PyProof.Rows L2
/-- the table of the law's own code -/
class Lw where
  L : Addr
/-- what stood in the heap stands as before; tables may have grown, but for the law's -/
structure Mv [Lw] (H H' : Hp) : Prop where
  x : LamX.ExtN H H'
  t : ∀ P, GxR.TabG H P → GxR.TabG H' P
  l : ∀ ps, H Lw.L = some (.tbl ps) → H' Lw.L = some (.tbl ps)
  k : ∀ b, H' b = none → H b = none
section
variable [Lw] {K : PySem.W.Frag} {H H' H1 H2 : Hp} {a b p d : Addr} {xs : List V} {u o : HO}
theorem Mv.refl (H : Hp) : Mv H H := ⟨LamX.ExtN.refl H, fun _ h => h, fun _ h => h, fun _ h => h⟩
theorem Mv.trans (m : Mv H H1) (n : Mv H1 H2) : Mv H H2 := ⟨m.x.trans n.x, fun P h => n.t P (m.t P h), fun ps h => n.l ps (m.l ps h), fun b h => m.k b (n.k b h)⟩
theorem Mv.ext (e : ∀ b o, H b = some o → H' b = some o) : Mv H H' := ⟨LamX.ExtN.of e, fun P ⟨ps, h1, h2⟩ => ⟨ps, e _ _ h1, h2⟩, fun ps h => e _ _ h, fun b h => by
  cases z : H b with
  | none => rfl
  | some u =>
    rw [e b u z] at h
    cases h⟩
theorem Mv.new (hp : H p = none) : Mv H (upd H p o) := .ext fun b u e => by
  rw [upd_ne (ne_of_none e hp)]
  exact e
/-- a thing that H does not know may change -/
theorem Mv.put (m : Mv H H') (hp : H p = none) : Mv H (upd H' p o) := by
  refine ⟨fun b u e n => ?_, fun P h => ?_, fun ps h => ?_, fun b h => ?_⟩
  · rw [upd_ne (ne_of_none e hp)]
    exact m.x b u e n
  · obtain ⟨ps, h1, h2⟩ := m.t P h
    obtain ⟨_, h3, _⟩ := h
    exact ⟨ps, by rw [upd_ne (ne_of_none h3 hp)]; exact h1, h2⟩
  · rw [upd_ne (ne_of_none h hp)]
    exact m.l ps h
  · by_cases z : b = p
    · rw [z]
      exact hp
    · rw [upd_ne z] at h
      exact m.k b h
theorem Mv.at (m : Mv H H') (h : H a = some u) (n : ∀ ps, u ≠ .tbl ps) : H' a = some u := m.x a u h n
theorem Mv.free (m : Mv H H') (h : H' p = none) : H p = none := m.k p h
theorem Mv.rd (m : Mv H H') (n : ∀ ps, u ≠ .tbl ps) (h : Rd H a u) : Rd H' a u := by
  rcases h with h | ⟨o, h⟩
  · exact .inl (m.x a u h n)
  · exact .inr ⟨o, m.x a _ h fun _ z => nomatch z⟩
theorem Mv.sqL (m : Mv H H') (h : SqL K H a xs) : SqL K H' a xs := by
  rcases h with h | h
  · exact .inl (m.rd (fun _ z => nomatch z) h)
  · exact .inr h
theorem Mv.sqT (m : Mv H H') (h : SqT K H a xs) : SqT K H' a xs := by
  rcases h with h | h
  · exact .inl (m.rd (fun _ z => nomatch z) h)
  · exact .inr h
theorem Mv.lst (m : Mv H H') (h : H a = some (.lst xs)) : H' a = some (.lst xs) := m.x _ _ h fun _ z => nomatch z
theorem Mv.tup (m : Mv H H') (h : H a = some (.tup xs)) : H' a = some (.tup xs) := m.x _ _ h fun _ z => nomatch z
theorem Mv.dK {kvs : List (Key × V)} (m : Mv H H') (h : H a = some (.dK kvs)) : H' a = some (.dK kvs) := m.x _ _ h fun _ z => nomatch z
theorem Mv.dT {kvs : List (List Key × V)} (m : Mv H H') (h : H a = some (.dT kvs)) : H' a = some (.dT kvs) := m.x _ _ h fun _ z => nomatch z
theorem Mv.ins {C dx : Addr} {fs : List (Str × V)} (m : Mv H H') (h : H a = some (.ins C dx fs)) : H' a = some (.ins C dx fs) := m.x _ _ h fun _ z => nomatch z
theorem Mv.exx {φ : Heap → Prop} (m : Mv H H') (h : H a = some (.ext φ)) : H' a = some (.ext φ) := m.x _ _ h fun _ z => nomatch z
theorem Mv.frz {o : Obj} (m : Mv H H') (h : H a = some (.frz o u)) : H' a = some (.frz o u) := m.x _ _ h fun _ z => nomatch z
mutual
theorem dp_ext {K : PySem.W.Frag} {H H' : Hp} (hl : ∀ a xs, SqL K H a xs → SqL K H' a xs) (ht : ∀ a xs, SqT K H a xs → SqT K H' a xs) : ∀ (d : PyData) (v : V), Dp K H v d → Dp K H' v d
  | .none, _, h => by cases h; exact .non
  | .bool b, _, h => by cases h; exact .bl b
  | .int i, _, h => by cases h; exact .int i
  | .str x, _, h => by cases h; exact .str x
  | .list ds, _, h => by
    cases h with
    | lst hs ha => exact .lst (hl _ _ hs) (dp_extAll hl ht ds _ ha)
  | .tuple ds, _, h => by
    cases h with
    | tup hs ha => exact .tup (ht _ _ hs) (dp_extAll hl ht ds _ ha)
  | .dict _, _, h => by cases h
theorem dp_extAll {K : PySem.W.Frag} {H H' : Hp} (hl : ∀ a xs, SqL K H a xs → SqL K H' a xs) (ht : ∀ a xs, SqT K H a xs → SqT K H' a xs) : ∀ (ds : List PyData) (vs : List V), DpAll K H vs ds → DpAll K H' vs ds
  | [], _, h => by cases h; exact .nil
  | d :: ds, _, h => by
    cases h with
    | cons h1 h2 => exact .cons (dp_ext hl ht d _ h1) (dp_extAll hl ht ds _ h2)
end
theorem Mv.dp {v : V} {e : PyData} (m : Mv H H') (h : Dp K H v e) : Dp K H' v e := dp_ext (fun _ _ => m.sqL) (fun _ _ => m.sqT) _ _ h
theorem Mv.dpAll {vs : List V} {es : List PyData} (m : Mv H H') (h : DpAll K H vs es) : DpAll K H' vs es := dp_extAll (fun _ _ => m.sqL) (fun _ _ => m.sqT) _ _ h
end
/-! ### a dict that is locked while it is walked -/
structure Lk (d : Addr) (kvs : List (Key × V)) (H H' : Hp) : Prop where
  h : H d = some (.dK kvs)
  e : ∃ od, H' = upd H d (.frz od (.dK kvs))
section
variable [Lw] {K : PySem.W.Frag} {H H' H1 H2 : Hp} {a b p d : Addr} {xs : List V} {u o : HO} {kvs : List (Key × V)}
theorem Lk.ne (m : Lk d kvs H H') (h : H a = some u) (n : ∀ k, u ≠ .dK k) : H' a = some u := by
  obtain ⟨od, rfl⟩ := m.e
  rw [upd_ne fun z => n kvs (Option.some.inj (h.symm.trans (by rw [z]; exact m.h)))]
  exact h
theorem Lk.rd (m : Lk d kvs H H') (h : Rd H a u) : Rd H' a u := by
  obtain ⟨od, rfl⟩ := m.e
  by_cases z : a = d
  · subst z
    rcases h with h | ⟨o, h⟩
    · rw [m.h] at h
      cases h
      exact .inr ⟨od, upd_same⟩
    · rw [m.h] at h
      cases h
  · rcases h with h | ⟨o, h⟩
    · exact .inl (by rw [upd_ne z]; exact h)
    · exact .inr ⟨o, by rw [upd_ne z]; exact h⟩
theorem Lk.sqL (m : Lk d kvs H H') (h : SqL K H a xs) : SqL K H' a xs := by
  rcases h with h | h
  · exact .inl (m.rd h)
  · exact .inr h
theorem Lk.sqT (m : Lk d kvs H H') (h : SqT K H a xs) : SqT K H' a xs := by
  rcases h with h | h
  · exact .inl (m.rd h)
  · exact .inr h
theorem Lk.lst (m : Lk d kvs H H') (h : H a = some (.lst xs)) : H' a = some (.lst xs) := m.ne h fun _ z => nomatch z
theorem Lk.tup (m : Lk d kvs H H') (h : H a = some (.tup xs)) : H' a = some (.tup xs) := m.ne h fun _ z => nomatch z
theorem Lk.ins {C dx : Addr} {fs : List (Str × V)} (m : Lk d kvs H H') (h : H a = some (.ins C dx fs)) : H' a = some (.ins C dx fs) := m.ne h fun _ z => nomatch z
theorem Lk.exx {φ : Heap → Prop} (m : Lk d kvs H H') (h : H a = some (.ext φ)) : H' a = some (.ext φ) := m.ne h fun _ z => nomatch z
theorem Lk.dp {v : V} {e : PyData} (m : Lk d kvs H H') (h : Dp K H v e) : Dp K H' v e := dp_ext (fun _ _ => m.sqL) (fun _ _ => m.sqT) _ _ h
theorem Lk.dpAll {vs : List V} {es : List PyData} (m : Lk d kvs H H') (h : DpAll K H vs es) : DpAll K H' vs es := dp_extAll (fun _ _ => m.sqL) (fun _ _ => m.sqT) _ _ h
theorem Lk.tab {P : Addr} (m : Lk d kvs H H') (h : GxR.TabG H P) : GxR.TabG H' P := by
  obtain ⟨ps, h1, h2⟩ := h
  exact ⟨ps, m.ne h1 (fun _ z => nomatch z), h2⟩
/-- unlocked again -/
theorem Lk.back (m : Lk d kvs H H1) (n : Mv H1 H2) : Mv H (upd H2 d (.dK kvs)) := by
  obtain ⟨od, rfl⟩ := m.e
  have c : ∀ b o, H b = some o → b ≠ d → upd H d (.frz od (.dK kvs)) b = some o := fun b o e z => by
    rw [upd_ne z]
    exact e
  refine ⟨fun b u e nt => ?_, fun P h => ?_, fun ps h => ?_, fun b h => ?_⟩
  · by_cases z : b = d
    · subst z
      rw [m.h] at e
      cases e
      exact upd_same
    · rw [upd_ne z]
      exact n.x b u (c b u e z) nt
  · obtain ⟨ps, h1, h2⟩ := h
    have z : P ≠ d := fun z => by
      rw [z, m.h] at h1
      cases h1
    obtain ⟨ps', h3, h4⟩ := n.t P ⟨ps, c P _ h1 z, h2⟩
    exact ⟨ps', by rw [upd_ne z]; exact h3, h4⟩
  · have z : (Lw.L : Addr) ≠ d := fun z => by
      rw [z, m.h] at h
      cases h
    rw [upd_ne z]
    exact n.l ps (c _ _ h z)
  · by_cases z : b = d
    · rw [z, upd_same] at h
      cases h
    · rw [upd_ne z] at h
      have q := n.k b h
      rw [upd_ne z] at q
      exact q
end
end Mi

set_option Elab.async false
set_option linter.all false
set_option maxRecDepth 100000
set_option maxHeartbeats 2000000
namespace Mi
open PySem PySem.Spec PyProof.Rows L2
/-! ### the steps of a reading -/
section
variable {K : PySem.W.Frag} {σ : L2.St} {H : Hp} {Q : VK} {ta tb tc te : TE} {t u : TS} {r : R2} {nx bk ct : L2.St → Hp → Prop} {rt : VK} {i j : Nat} {v x y : V} {c c' : TT} {QB : Bool → Hp → Prop} {QL : List V → Hp → Prop} {tA tA' : TA}
theorem s_seq (h : t ⟨u ⟨nx, rt, bk, ct⟩, rt, bk, ct⟩ σ H) : tSeq t u ⟨nx, rt, bk, ct⟩ σ H := h
theorem s_next (h : nx σ H) : tNext ⟨nx, rt, bk, ct⟩ σ H := h
theorem s_break (h : bk σ H) : tBreak ⟨nx, rt, bk, ct⟩ σ H := h
theorem s_cont (h : ct σ H) : tCont ⟨nx, rt, bk, ct⟩ σ H := h
theorem s_asg {g : TG} (h : te σ H fun x H1 => g x σ H1 nx) : tAsg te g ⟨nx, rt, bk, ct⟩ σ H := h
theorem s_gN {N : L2.St → Hp → Prop} (h : N (σ.set i (some v)) H) : gName i v σ H N := h
theorem s_drop (h : te σ H fun _ H1 => nx σ H1) : tDrop te ⟨nx, rt, bk, ct⟩ σ H := h
theorem s_ret (h : te σ H rt) : tRet te ⟨nx, rt, bk, ct⟩ σ H := h
theorem s_retN (h : rt .non H) : tRetN ⟨nx, rt, bk, ct⟩ σ H := h
theorem s_ifS (h : c σ H fun b H1 => if b = true then t ⟨nx, rt, bk, ct⟩ σ H1 else u ⟨nx, rt, bk, ct⟩ σ H1) : tIfS c t u ⟨nx, rt, bk, ct⟩ σ H := h
theorem s_par (h : tA σ H fun vs H1 => ∃ v w, vs = [v, w] ∧ nx ((σ.set i (some v)).set j (some w)) H1) : tPar i j tA ⟨nx, rt, bk, ct⟩ σ H := h
theorem s_par2 {w : V} {P : V → V → Prop} (h : P v w) : ∃ v' w', [v, w] = [v', w'] ∧ P v' w' := ⟨v, w, rfl, h⟩
theorem s_par3 {l : Nat} (h : tA σ H fun vs H1 => ∃ u v w, vs = [u, v, w] ∧ nx (((σ.set i (some u)).set j (some v)).set l (some w)) H1) : tPar3 i j l tA ⟨nx, rt, bk, ct⟩ σ H := h
theorem s_par33 {w : V} {P : V → V → V → Prop} (h : P x v w) : ∃ u' v' w', [x, v, w] = [u', v', w'] ∧ P u' v' w' := ⟨x, v, w, rfl, h⟩
theorem s_aug {ti : TIp} (h1 : σ[i]? = some (some x)) (h : te σ H fun y H1 => ti x y H1 fun z H2 => nx (σ.set i (some z)) H2) : tAug i te ti ⟨nx, rt, bk, ct⟩ σ H := ⟨x, h1, h⟩
theorem s_var (h1 : σ[i]? = some (some v)) (h : Q v H) : tVar i σ H Q := ⟨v, h1, h⟩
theorem s_c (h : Q v H) : tC v σ H Q := h
theorem s_op (h : ta σ H fun x H1 => tb σ H1 fun y H2 => r x y H2 Q) : tOp r ta tb σ H Q := h
theorem s_un {q : V → Hp → VK → Prop} (h : ta σ H fun x H1 => q x H1 Q) : tUn q ta σ H Q := h
theorem s_cb {q : List V → Hp → VK → Prop} (h : tA σ H fun vs H1 => q vs H1 Q) : tCB q tA σ H Q := h
theorem s_nil (h : QL [] H) : tNil σ H QL := h
theorem s_cons (h : ta σ H fun x H1 => tA σ H1 fun xs H2 => QL (x :: xs) H2) : tCons ta tA σ H QL := h
theorem s_test (h : te σ H fun x H' => ∃ k, x = .bl k ∧ QB k H') : tTest te σ H QB := h
theorem s_B (h : te σ H fun x H1 => ∃ c, x = .bl c ∧ QB c H1) : tB te σ H QB := h
theorem s_exbl {P : Bool → Prop} {b : Bool} (h : P b) : ∃ k, V.bl b = .bl k ∧ P k := ⟨b, rfl, h⟩
theorem s_and (h : c σ H fun b H1 => if b = true then c' σ H1 QB else QB false H1) : tAnd c c' σ H QB := h
theorem s_or (h : c σ H fun b H1 => if b = true then QB true H1 else c' σ H1 QB) : tOr c c' σ H QB := h
theorem s_not (h : c σ H fun b H1 => QB (!b) H1) : tNot c σ H QB := h
theorem s_andV (h : ta σ H fun x H1 => ∃ c, x = .bl c ∧ if c = true then tb σ H1 Q else Q (.bl false) H1) : tAndV ta tb σ H Q := h
theorem s_orV (h : ta σ H fun x H1 => ∃ c, x = .bl c ∧ if c = true then Q (.bl true) H1 else tb σ H1 Q) : tOrV ta tb σ H Q := h
theorem s_notV (h : ta σ H fun x H1 => ∃ c, x = .bl c ∧ Q (.bl (!c)) H1) : tNotV ta σ H Q := h
theorem s_ifE (h : c σ H fun b H1 => if b = true then ta σ H1 Q else tb σ H1 Q) : tIf c ta tb σ H Q := h
theorem s_isN (h : ta σ H fun x H1 => Q (.bl (decide (x = .non))) H1) : tIsN ta σ H Q := h
theorem s_chain {r r' : R2} (h : ta σ H fun x H1 => tb σ H1 fun y H2 => r x y H2 fun z H3 => ∃ k, z = .bl k ∧ (if k = true then tc σ H3 fun w' H4 => r' y w' H4 Q else Q (.bl false) H3)) : tChain r r' ta tb tc σ H Q := h
theorem s_call {sp : Sp} {dvs : List V} {E : XK} (h : tA σ H fun vs H1 => sp (vs ++ dvs) H1 Q E) : tCall sp dvs E tA σ H Q := h
theorem s_sl {q : V → Option Int → Option Int → Hp → VK → Prop} {tl th : TO} (h : te σ H fun x H1 => tl σ H1 fun l H2 => th σ H2 fun u H3 => q x l u H3 Q) : tSl q te tl th σ H Q := h
theorem s_noP {QO : Option Int → Hp → Prop} (h : QO none H) : tNoPart σ H QO := h
theorem s_part {QO : Option Int → Hp → Prop} (h : te σ H fun x H1 => ∃ i, x = .int i ∧ QO (some i) H1) : tPart te σ H QO := h
theorem s_exint {P : Int → Prop} {k : Int} (h : P k) : ∃ i, V.int k = .int i ∧ P i := ⟨k, rfl, h⟩
theorem s_bm {T : String} {q : V → List V → Hp → VK → Prop} (h : te σ H fun x H1 => tyV K T x H1 ∧ tA σ H1 fun xs H2 => q x xs H2 Q) : tBM K T q te tA σ H Q := h
theorem s_bm0 {T : String} {q : V → List V → Hp → VK → Prop} (h : te σ H fun x H1 => tyV K T x H1 ∧ q x [] H1 Q) : tBM0 K T q te σ H Q := h
theorem s_fld {a C dx : Addr} {fs : List (Str × V)} {f : Str} (h1 : H a = some (.ins C dx fs)) (h2 : Cls K C) (h3 : NoAttr K C f) (h4 : fs.lookup f = some v) (h : Q v H) : ∃ a' C dx fs v, V.ref a = .ref a' ∧ H a' = some (.ins C dx fs) ∧ Cls K C ∧ NoAttr K C f ∧ fs.lookup f = some v ∧ Q v H := ⟨a, C, dx, fs, v, rfl, h1, h2, h3, h4, h⟩
theorem s_fldE {f : Str} (h : ta σ H fun x H1 => ∃ a C dx fs v, x = .ref a ∧ H1 a = some (.ins C dx fs) ∧ Cls K C ∧ NoAttr K C f ∧ fs.lookup f = some v ∧ Q v H1) : tFld K ta f σ H Q := h
theorem s_gTup {t : TGs} {n : Nat} {a : Addr} {xs : List V} {N : L2.St → Hp → Prop} (h1 : SqT K H a xs) (h2 : xs.length = n) (h : t xs σ H N) : gTup K n t (.ref a) σ H N := ⟨a, xs, rfl, h1, h2, h⟩
theorem s_gCons {t : TG} {u : TGs} {r : List V} {N : L2.St → Hp → Prop} (h : t v σ H fun σ' H' => u r σ' H' N) : gCons t u (v :: r) σ H N := ⟨v, r, rfl, h⟩
theorem s_gNil {N : L2.St → Hp → Prop} (h : N σ H) : gNil [] σ H N := ⟨rfl, h⟩
-- by values
theorem s_I0 {g : Int → Int → V} {a b : Int} (h : Q (g a b) H) : rI0 g (.int a) (.int b) H Q := ⟨a, b, rfl, rfl, h⟩
theorem s_I {C : Int → Int → Prop} {g : Int → Int → V} {a b : Int} (hc : C a b) (h : Q (g a b) H) : rI C g (.int a) (.int b) H Q := ⟨a, b, rfl, rfl, hc, h⟩
theorem s_U {g : Int → V} {a : Int} (h : Q (g a) H) : rU g (.int a) H Q := ⟨a, rfl, h⟩
theorem s_Eq (hs : scal x y = true) (h : Q (.bl (decide (x = y))) H) : rEq x y H Q := ⟨hs, h⟩
theorem s_Ne (hs : scal x y = true) (h : Q (.bl (!decide (x = y))) H) : rNe x y H Q := ⟨hs, h⟩
theorem s_ixL {p : Addr} {xs : List V} {k : Int} (h1 : SqL K H p xs) (h2 : atI xs k = some v) (h : Q v H) : rIxL K (.ref p) (.int k) H Q := ⟨p, xs, k, v, rfl, rfl, h1, h2, h⟩
theorem s_ixT {p : Addr} {xs : List V} {k : Int} (h1 : SqT K H p xs) (h2 : atI xs k = some v) (h : Q v H) : rIxT K (.ref p) (.int k) H Q := ⟨p, xs, k, v, rfl, rfl, h1, h2, h⟩
theorem s_lenL {p : Addr} {xs : List V} (h1 : SqL K H p xs) (h : Q (.int (xs.length : Nat)) H) : rLen K [.ref p] H Q := ⟨.ref p, xs.length, rfl, .inl ⟨_, h1, rfl⟩, h⟩
end
section
variable [Lw] {σ : L2.St} {H : Hp} {Q : VK} {xs : List V} {o : HO} {tA : TA}
theorem s_new (h : ∀ p H1, H p = none → Mv H H1 → H1 p = some o → Q (.ref p) H1) : ∀ p, H p = none → Q (.ref p) (upd H p o) := fun p hp => h p _ hp (.new hp) upd_same
theorem s_mk (hz : xs.length ≤ sizeLine) (h : ∀ p H1, H p = none → Mv H H1 → H1 p = some o → Q (.ref p) H1) : xs.length ≤ sizeLine ∧ ∀ p, H p = none → Q (.ref p) (upd H p o) := ⟨hz, s_new h⟩
theorem s_mk0 {A : Prop} (hz : xs.length ≤ sizeLine) (h : A) : xs.length ≤ sizeLine ∧ A := ⟨hz, h⟩
theorem s_all {A : Addr → Prop} (h : ∀ p, H p = none → A p) : ∀ p, H p = none → A p := h
theorem gen_upd {H H1 : Hp} {p : Addr} {o : HO} (hg : upd H p o = H1) (hn : H p = none) : Mv H H1 ∧ H1 p = some o := by
  subst hg
  exact ⟨.new hn, upd_same⟩
theorem s_tup {t : TA} (h : t σ H fun xs H1 => xs.length ≤ sizeLine ∧ ∀ p, H1 p = none → Q (.ref p) (upd H1 p (.tup xs))) : tTup t σ H Q := h
theorem s_lst {t : TA} (h : t σ H fun xs H1 => xs.length ≤ sizeLine ∧ ∀ p, H1 p = none → Q (.ref p) (upd H1 p (.lst xs))) : tLst t σ H Q := h
end
theorem ifT {c : Bool} {A B : Prop} (hc : c = true) (h : A) : if c = true then A else B := by
  rw [if_pos hc]
  exact h
theorem ifF {c : Bool} {A B : Prop} (hc : c = false) (h : B) : if c = true then A else B := by
  rw [hc, if_neg Bool.false_ne_true]
  exact h
/-- a def's rule, its code object known -/
theorem FunD.okC {P : Program} {w : World} {K : PySem.W.Frag} {mg : Str → Option Value} {base : Heap} {x qual : Str} {params : Arguments} {body : List Stmt} {scope : Scope} {dvs : List V} {kws : List (Str × V)} {fd : FuncData} {p : Str × Option Str} {CX : CXT} {N ps : List Str} {k : Nat} {sp : Sp}
    (F : FunD K x qual params body scope dvs kws (He.fAd K p) fd) (S : FnScope N ps scope) (len : ∀ vs H Q E, sp vs H Q E → vs.length = ps.length)
    (hbody : ∀ (A : Around) (outer : List Env) (s : Shared) (H : Hp) (vs : List V) (Q : VK) (E : XK), Room k (A.deeper (envOfC qual scope s.heap.objs.size (He.fAd K p) (.ref (He.codeOf K p)))) → sp vs H Q E →
      ∃ t, PSs (cxOf CX P w K mg base N qual scope (He.fAd K p) (.ref (He.codeOf K p)) A outer s H E) body t ∧ t { nx := fun _ H' => Q .non H', rt := Q } (L2.start N vs) H) : FnOk P w K mg base CX (k + 1) (He.fAd K p) fd ps sp := by
  obtain ⟨oc, od, dV, kV, doc, pm, an, cdv, ct, osl, rfl, lk, hcd, _, _⟩ := F.ex
  obtain ⟨c, rfl⟩ := He.codeIn_ref hcd
  have e : He.codeOf K p = c := He.codeOf_eq lk rfl
  rw [e] at hbody
  exact fn_of lk hcd S len fun A outer s H vs Q E hr hsp => hbody A outer s H vs Q E hr hsp
end Mi

set_option Elab.async false
set_option linter.all false
set_option maxRecDepth 100000
set_option maxHeartbeats 2000000
namespace Mi
open PySem PySem.Spec PyProof.Rows L2
/-! ### what the head tells, by names -/
structure Sy (fa : List He.Fa) (fn : List He.DefD) (tf : List He.Defn) (K : PySem.W.Frag) (mg : Str → Option Value) (base : Heap) : Prop where
  f : ∀ x ∈ fa, x.ok K = true
  d : ∀ x ∈ fn, ∃ fd, FunD K x.name x.qual x.params x.body x.scope (x.dvs K) (x.kws K) (He.fAd K x.at_) fd
  X : ∃ h : Heap, K.In h ∧ h.Ns mainGlobals mg
  tb : ∀ p ∈ tf, LamX.TabB base mg (He.cT K p).1 (He.cT K p).2
def hasF (q : He.Fa → Bool) (fa : List He.Fa) : Bool := fa.any q
theorem hasF_mem {q : He.Fa → Bool} {fa : List He.Fa} (h : hasF q fa = true) : ∃ x ∈ fa, q x = true := by
  obtain ⟨x, h1, h2⟩ := List.any_eq_true.mp h
  exact ⟨x, h1, h2⟩
def qGlo (x : Str) : He.Fa → Bool | .glo y => decide (y = x) | _ => false
def qFree (x : Str) : He.Fa → Bool | .free y => decide (y = x) | _ => false
def qInt (x : Str) (i : Int) : He.Fa → Bool | .int y j => decide (y = x) && decide (j = i) | _ => false
def qCls (x : Str) : He.Fa → Bool | .cls y => decide (y = x) | _ => false
def qNoat (x f : Str) : He.Fa → Bool | .noat y g => decide (y = x) && decide (g = f) | _ => false
def qMeth (x f : Str) : He.Fa → Bool | .meth y g => decide (y = x) && decide (g = f) | _ => false
def qMkr (x : Str) : He.Fa → Bool | .mkr y => decide (y = x) | _ => false
def qExc (x : Str) : He.Fa → Bool | .exc y => decide (y = x) | _ => false
def qExm (x z : Str) (b : Bool) : He.Fa → Bool | .exm y u c => decide (y = x) && (decide (u = z) && decide (c = b)) | _ => false
def qKeep (x : Str) : He.Fa → Bool | .keep y => decide (y = x) | _ => false
section
variable {fa : List He.Fa} {fn : List He.DefD} {tf : List He.Defn} {K : PySem.W.Frag} {mg : Str → Option Value} {base : Heap}
theorem Sy.glo (T : Sy fa fn tf K mg base) (x : Str) (hm : hasF (qGlo x) fa = true := by decide +kernel) : mg x = some (.ref (He.ga K x)) := by
  obtain ⟨f, h1, h2⟩ := hasF_mem hm
  obtain ⟨h, a, b⟩ := T.X
  cases f <;> first | (cases h2; done) | (cases (of_decide_eq_true h2 : _ = x); exact He.glo_ok a b (T.f _ h1))
theorem Sy.free (T : Sy fa fn tf K mg base) (x : Str) (hm : hasF (qFree x) fa = true := by decide +kernel) : mg x = none := by
  obtain ⟨f, h1, h2⟩ := hasF_mem hm
  obtain ⟨h, a, b⟩ := T.X
  cases f <;> first | (cases h2; done) | (cases (of_decide_eq_true h2 : _ = x); exact He.free_ok a b (T.f _ h1))
theorem Sy.int (T : Sy fa fn tf K mg base) (x : Str) (i : Int) (hm : hasF (qInt x i) fa = true := by decide +kernel) : ∃ t, mg x = some (.int i t) := by
  obtain ⟨f, h1, h2⟩ := hasF_mem hm
  obtain ⟨h, a, b⟩ := T.X
  cases f <;> first | (cases h2; done) | (obtain ⟨e1, e2⟩ := He.ba h2; cases (of_decide_eq_true e1 : _ = x); cases (of_decide_eq_true e2 : _ = i); exact He.int_ok a b (T.f _ h1))
theorem Sy.cls (T : Sy fa fn tf K mg base) (x : Str) (hm : hasF (qCls x) fa = true := by decide +kernel) : Cls K (He.ga K x) := by
  obtain ⟨f, h1, h2⟩ := hasF_mem hm
  cases f <;> first | (cases h2; done) | (cases (of_decide_eq_true h2 : _ = x); exact He.cls_ok (T.f _ h1))
theorem Sy.noat (T : Sy fa fn tf K mg base) (x f : Str) (hm : hasF (qNoat x f) fa = true := by decide +kernel) : NoAttr K (He.ga K x) f := by
  obtain ⟨f', h1, h2⟩ := hasF_mem hm
  cases f' <;> first | (cases h2; done) | (obtain ⟨e1, e2⟩ := He.ba h2; cases (of_decide_eq_true e1 : _ = x); cases (of_decide_eq_true e2 : _ = f); exact He.noat_ok (T.f _ h1))
theorem Sy.meth (T : Sy fa fn tf K mg base) (x m : Str) (hm : hasF (qMeth x m) fa = true := by decide +kernel) : Meth K (He.ga K x) m (He.ma K (He.ga K x) m) := by
  obtain ⟨f', h1, h2⟩ := hasF_mem hm
  cases f' <;> first | (cases h2; done) | (obtain ⟨e1, e2⟩ := He.ba h2; cases (of_decide_eq_true e1 : _ = x); cases (of_decide_eq_true e2 : _ = m); exact He.meth_ok (T.f _ h1))
theorem Sy.mkr (T : Sy fa fn tf K mg base) (x : Str) (hm : hasF (qMkr x) fa = true := by decide +kernel) : Mk K (He.ga K x) (He.ma K (He.ga K x) "__init__") := by
  obtain ⟨f, h1, h2⟩ := hasF_mem hm
  cases f <;> first | (cases h2; done) | (cases (of_decide_eq_true h2 : _ = x); exact He.mkr_ok (T.f _ h1))
theorem Sy.exc (T : Sy fa fn tf K mg base) (x : Str) (hm : hasF (qExc x) fa = true := by decide +kernel) : PySem.W.excIn K (He.ga K x) He.veBase "ValueError.__new__" = true ∧ PySem.W.keepIn K (.ref (He.ga K x)) = true ∧ PySem.W.subIn K (.ref (He.ga K x)) (.type "BaseException") = some true ∧ PySem.W.typeIn K (.ref (He.ga K x)) = some (.type "type") := by
  obtain ⟨f, h1, h2⟩ := hasF_mem hm
  cases f <;> first | (cases h2; done) | (cases (of_decide_eq_true h2 : _ = x); exact He.exc_ok (T.f _ h1))
theorem Sy.excX (T : Sy fa fn tf K mg base) (x : Str) (hm : hasF (qExc x) fa = true := by decide +kernel) : PySem.W.excIn K (He.ga K x) He.veBase "ValueError.__new__" = true := (T.exc x hm).1
theorem Sy.excK (T : Sy fa fn tf K mg base) (x : Str) (hm : hasF (qExc x) fa = true := by decide +kernel) : PySem.W.keepIn K (.ref (He.ga K x)) = true := (T.exc x hm).2.1
theorem Sy.excB (T : Sy fa fn tf K mg base) (x : Str) (hm : hasF (qExc x) fa = true := by decide +kernel) : PySem.W.subIn K (.ref (He.ga K x)) (.type "BaseException") = some true := (T.exc x hm).2.2.1
theorem Sy.excT (T : Sy fa fn tf K mg base) (x : Str) (hm : hasF (qExc x) fa = true := by decide +kernel) : PySem.W.typeIn K (.ref (He.ga K x)) = some (.type "type") := (T.exc x hm).2.2.2
theorem Sy.exm (T : Sy fa fn tf K mg base) (x y : Str) (b : Bool) (hm : hasF (qExm x y b) fa = true := by decide +kernel) : PySem.W.exmOne K (.ref (He.ga K x)) (.ref (He.ga K y)) = some b := by
  obtain ⟨f, h1, h2⟩ := hasF_mem hm
  cases f <;> first | (cases h2; done) | (obtain ⟨e1, e2⟩ := He.ba h2; obtain ⟨e3, e4⟩ := He.ba e2; cases (of_decide_eq_true e1 : _ = x); cases (of_decide_eq_true e3 : _ = y); cases (of_decide_eq_true e4 : _ = b); exact He.exm_ok (T.f _ h1))
theorem Sy.tabB (T : Sy fa fn tf K mg base) (p : He.Defn) (hm : decide (p ∈ tf) = true := by decide +kernel) : LamX.TabB base mg (He.cT K p).1 (He.cT K p).2 := T.tb p (of_decide_eq_true hm)
end
/-! ### calls of known defs -/
structure Cal (P : Program) (w : World) (K : PySem.W.Frag) (mg : Str → Option Value) (base : Heap) (CX : CXT) (k : Nat) (x : Str) (f : Addr) (fd : FuncData) (ps : List Str) (sp : Sp) : Prop where
  ok : FnOk P w K mg base CX k f fd ps sp
  m : mg x = some (.ref f)
  kp : PySem.W.keepIn K (.ref f) = true
  b : Binds K fd ps []
section
variable {X : Cx} {CX : CXT} {k : Nat} {f : Addr} {fd : FuncData} {ps : List Str} {sp : Sp} {E : XK} {x : Str} {p pos : Pos} {e : Expr} {es : List Expr} {t : TA}
theorem pe_cal (C : Cal X.prog X.w X.K X.mg X.base CX k x f fd ps sp) (hr : Room k X.A) (hg : Gl X x) (hx : Passes CX X E) (ha : PA X (e :: es) t) (hdb : (x == ("__debug__" : Str)) = false := by decide) (he : starEach (e :: es) X.env = (false, eval e X.env) :: starEach es X.env := by rfl) (hpl : (backTo pos (starEach es X.env)).any (·.1) = false := by rfl) :
    PE X (.Call (.Name x p) (e :: es) [] pos) (tCall sp [] E t) := pe_call C.ok hr hg C.m C.kp C.b .nil hx ha hdb he hpl
theorem pe_cal0 (C : Cal X.prog X.w X.K X.mg X.base CX k x f fd ps sp) (hr : Room k X.A) (hg : Gl X x) (hx : Passes CX X E) (hdb : (x == ("__debug__" : Str)) = false := by decide) :
    PE X (.Call (.Name x p) [] [] pos) (tCall sp [] E tNil) := pe_call0 C.ok hr hg C.m C.kp C.b .nil hx hdb
end
theorem Room.u1 {k : Nat} {A : Around} (r : Room k A) : A.units + 1 < cLine := by have := r.un; omega
theorem boot_max' : bootBuiltins "max" = some (.builtin "max") := by decide +kernel
theorem boot_min' : bootBuiltins "min" = some (.builtin "min") := by decide +kernel
/-- a method's statement -/
def clsBody : Stmt → List Stmt
  | .ClassDef _ _ _ b .. => b
  | _ => []
end Mi

set_option Elab.async false
set_option linter.all false
set_option maxRecDepth 100000
set_option maxHeartbeats 2000000
namespace Mi
open PySem PySem.Spec PyProof.Rows L2
/-! ### what is walked: a known row of values -/
abbrev Ov (J : It) (xs : List V) (G : Hp → Prop) : Prop := Walk J xs.length G (YAt xs)
def rangeL (lo : Int) (n : Nat) : List V := (List.range n).map fun i => .int (lo + (i : Nat))
theorem rangeL_length {lo : Int} {n : Nat} : (rangeL lo n).length = n := by simp [rangeL]
theorem rangeL_at {lo : Int} {n i : Nat} (h : i < n) : (rangeL lo n)[i]? = some (.int (lo + (i : Nat))) := by simp [rangeL, h]
theorem rangeL_get {lo : Int} {n i : Nat} {y : V} (h : (rangeL lo n)[i]? = some y) : i < n ∧ y = .int (lo + (i : Nat)) := by
  have hi : i < n := by
    have := (List.getElem?_eq_some_iff.mp h).1
    rw [rangeL_length] at this
    exact this
  rw [rangeL_at hi] at h
  exact ⟨hi, (Option.some.inj h).symm⟩
theorem ov_range {lo : Int} {n : Nat} : Ov (Itr lo n) (rangeL lo n) (fun _ => True) :=
  ⟨fun i _ hi _ => by rw [rangeL_length] at hi; exact hi, fun _ _ => by rw [rangeL_length]; exact Nat.le_refl _, fun i H x H' hi _ y => by
    rw [rangeL_length] at hi
    obtain ⟨h1, h2⟩ := y
    exact ⟨h1, by rw [rangeL_at hi, h2]⟩⟩
theorem ov_keys {d : Addr} {o : Obj} {kvs : List (Key × V)} : Ov (Itk d o kvs) (kvs.map fun kv => kV kv.1) (fun H => H d = some (.frz o (.dK kvs))) :=
  ⟨fun i _ hi q => ⟨q, by simpa using hi⟩, fun _ q => ⟨q, by simp⟩, fun i H x H' hi _ y => by
    obtain ⟨h1, k, v, h2, h3⟩ := y
    exact ⟨h1, by rw [List.getElem?_map, h2, h3]; rfl⟩⟩
def PiL (K : PySem.W.Frag) (x : V) (H : Hp) (R : It → Hp → Prop) : Prop := ∃ a, x = .ref a ∧ (∃ xs, SqL K H a xs) ∧ R (Itl K a) H
def PiT (K : PySem.W.Frag) (x : V) (H : Hp) (R : It → Hp → Prop) : Prop := ∃ a, x = .ref a ∧ (∃ xs, SqT K H a xs) ∧ R (Itt K a) H
def PiR1 (vs : List V) (H : Hp) (R : It → Hp → Prop) : Prop := ∃ j : Int, vs = [.int j] ∧ -(2 ^ 62) ≤ j ∧ j < 2 ^ 62 ∧ R (Itr 0 j.toNat) H
def PiR2 (vs : List V) (H : Hp) (R : It → Hp → Prop) : Prop := ∃ i j : Int, vs = [.int i, .int j] ∧ (-(2 ^ 62) ≤ i ∧ i < 2 ^ 62 ∧ -(2 ^ 62) ≤ j ∧ j < 2 ^ 62) ∧ R (Itr i (j - i).toNat) H
def PiK (x : V) (H : Hp) (R : It → Hp → Prop) : Prop := ∃ d o, x = .ref d ∧ ((∃ kvs, H d = some (.frz o (.dK kvs)) ∧ R (Itk d o kvs) H) ∨ ∃ kvs, H d = some (.frz o (.dT kvs)) ∧ R (Itkt d o kvs) H)
/-- what a for asks behind its iterator; a comprehension; a generator -/
def ForE (J : It) (g : TG) (tb : TS) (D : Ends) (σ : L2.St) (H1 : Hp) : Prop := ∃ W : Nat → Nat → L2.St → Hp → Prop, (∃ m, W 0 m σ H1) ∧ ∀ i m σ H, W i m σ H →
  (J.stop i H ∧ D.nx σ H) ∨ (J.go i H ∧ ∃ N : L2.St → Hp → Prop, (∀ σ' H', N σ' H' → ∃ m', m' < m ∧ W (i + 1) m' σ' H') ∧ ∀ x H', J.yld i H x H' → g x σ H' fun σ2 H2 => tb { D with nx := N, ct := N, bk := D.nx } σ2 H2)
def LcE (J : It) (g : TG) (tt : TT) (te : TE) (vs : List Nat) (σ : L2.St) (H1 : Hp) (Q : VK) : Prop := ∀ D, H1 D = none → ∃ W : Nat → Nat → Hp → Prop, (∃ m, W 0 m (upd H1 D (.lst []))) ∧ ∀ i m H, W i m H →
  (J.stop i H ∧ Q (.ref D) H) ∨ (J.go i H ∧ ∃ Nx : Hp → Prop, (∀ H', Nx H' → ∃ m', m' < m ∧ W (i + 1) m' H') ∧ ∀ x H', J.yld i H x H' → g x (wipe σ vs) H' fun σ2 H2 => wipe σ2 vs = wipe σ vs ∧ tt σ2 H2 fun b H3 =>
    if b = true then te σ2 H3 fun y H4 => ∃ acc, H4 D = some (.lst acc) ∧ acc.length < sizeLine ∧ Nx (upd H4 D (.lst (acc ++ [y]))) else Nx H3)
def DcE (J : It) (g : TG) (tt : TT) (tk tv : TE) (vs : List Nat) (σ : L2.St) (H1 : Hp) (Q : VK) : Prop := ∀ D, H1 D = none → ∃ W : Nat → Nat → Hp → Prop, (∃ m, W 0 m (upd H1 D (.dK []))) ∧ ∀ i m H, W i m H →
  (J.stop i H ∧ Q (.ref D) H) ∨ (J.go i H ∧ ∃ Nx : Hp → Prop, (∀ H', Nx H' → ∃ m', m' < m ∧ W (i + 1) m' H') ∧ ∀ x H', J.yld i H x H' → g x (wipe σ vs) H' fun σ2 H2 => wipe σ2 vs = wipe σ vs ∧ tt σ2 H2 fun b H3 =>
    if b = true then tk σ2 H3 fun y H4 => tv σ2 H4 fun z H5 => ∃ kvs k, y = kV k ∧ H5 D = some (.dK kvs) ∧ kvs.length < sizeLine ∧ Nx (upd H5 D (.dK (putK kvs k z))) else Nx H3)
def GnE {α : Type} (P : Addr) (J : It) (g : TG) (tt : TT) (te : TE) (vs : List Nat) (a0 : α) (take : VK → α → V → Hp → (α → Hp → Prop) → Prop) (fin : VK → α → Hp → Prop) (σ : L2.St) (H1 : Hp) (Q : VK) : Prop :=
  GxR.TabG H1 P ∧ ∀ H2, GxR.Tabbed P H1 H2 → ∃ W : Nat → Nat → α → Hp → Prop, (∃ m, W 0 m a0 H2) ∧ Turns (take Q) (fin Q) J g tt te (wipe σ vs) vs W
section
variable {K : PySem.W.Frag} {σ : L2.St} {H : Hp} {te tk tv : TE} {tA : TA} {R : It → Hp → Prop} {a d : Addr} {xs : List V} {wi : TI} {g : TG} {tt : TT} {tb : TS} {nx bk ct : L2.St → Hp → Prop} {rt Q : VK} {vs : List Nat}
theorem s_iL (h : te σ H fun x H1 => PiL K x H1 R) : iList K te σ H R := h
theorem s_iT (h : te σ H fun x H1 => PiT K x H1 R) : iTup K te σ H R := h
theorem s_iR1 (h : tA σ H fun vs H1 => PiR1 vs H1 R) : iRng1 tA σ H R := h
theorem s_iR2 (h : tA σ H fun vs H1 => PiR2 vs H1 R) : iRng2 tA σ H R := h
theorem s_iK (h : te σ H fun x H1 => PiK x H1 R) : iKeys te σ H R := h
theorem s_iL2 (h1 : SqL K H a xs) (h : ∀ J, Ov J xs (fun H => SqL K H a xs) → R J H) : PiL K (.ref a) H R := ⟨a, rfl, ⟨xs, h1⟩, h _ walk_list⟩
theorem s_iT2 (h1 : SqT K H a xs) (h : ∀ J, Ov J xs (fun H => SqT K H a xs) → R J H) : PiT K (.ref a) H R := ⟨a, rfl, ⟨xs, h1⟩, h _ walk_tup⟩
theorem s_iR12 {j : Int} (h1 : -(2 ^ 62) ≤ j ∧ j < 2 ^ 62) (h : ∀ J, Ov J (rangeL 0 j.toNat) (fun _ => True) → R J H) : PiR1 [.int j] H R := ⟨j, rfl, h1.1, h1.2, h _ ov_range⟩
theorem s_iR22 {i j : Int} (h1 : -(2 ^ 62) ≤ i ∧ i < 2 ^ 62 ∧ -(2 ^ 62) ≤ j ∧ j < 2 ^ 62) (h : ∀ J, Ov J (rangeL i (j - i).toNat) (fun _ => True) → R J H) : PiR2 [.int i, .int j] H R := ⟨i, j, rfl, h1, h _ ov_range⟩
theorem s_iK2 {o : Obj} {kvs : List (Key × V)} (h1 : H d = some (.frz o (.dK kvs))) (h : ∀ J, Ov J (kvs.map fun kv => kV kv.1) (fun H => H d = some (.frz o (.dK kvs))) → R J H) : PiK (.ref d) H R := ⟨d, o, rfl, .inl ⟨kvs, h1, h _ ov_keys⟩⟩
theorem s_for (h : wi σ H fun J H1 => ForE J g tb ⟨nx, rt, bk, ct⟩ σ H1) : tFor wi g tb ⟨nx, rt, bk, ct⟩ σ H := h
theorem s_lc (h : wi σ H fun J H1 => LcE J g tt te vs σ H1 Q) : tLc wi g tt te vs σ H Q := h
theorem s_dc (h : wi σ H fun J H1 => DcE J g tt tk tv vs σ H1 Q) : tDc wi g tt tk tv vs σ H Q := h
theorem s_gn {α : Type} {P : Addr} {a0 : α} {take : VK → α → V → Hp → (α → Hp → Prop) → Prop} {fin : VK → α → Hp → Prop} (h : wi σ H fun J H1 => GnE P J g tt te vs a0 take fin σ H1 Q) : tGen P wi g tt te vs a0 take fin σ H Q := h
theorem s_yes {QB : Bool → Hp → Prop} (h : QB true H) : tYes σ H QB := h
theorem s_lockK {kvs : List (Key × V)} (hd : H d = some (.dK kvs)) (h : ∀ od H1, Lk d kvs H H1 → H1 d = some (.frz od (.dK kvs)) → tb ⟨fun σ' H' => H' d = some (.frz od (.dK kvs)) ∧ nx σ' (upd H' d (.dK kvs)), fun v H' => H' d = some (.frz od (.dK kvs)) ∧ rt v (upd H' d (.dK kvs)), fun σ' H' => H' d = some (.frz od (.dK kvs)) ∧ bk σ' (upd H' d (.dK kvs)), fun σ' H' => H' d = some (.frz od (.dK kvs)) ∧ ct σ' (upd H' d (.dK kvs))⟩ σ H1) :
    tLock tb ⟨nx, rt, bk, ct⟩ σ H := ⟨d, _, hd, True.intro, fun od => h od _ ⟨hd, od, rfl⟩ upd_same⟩
theorem s_lockE {kvs : List (Key × V)} (hd : H d = some (.dK kvs)) (h : ∀ od H1, Lk d kvs H H1 → H1 d = some (.frz od (.dK kvs)) → te σ H1 fun v H' => H' d = some (.frz od (.dK kvs)) ∧ Q v (upd H' d (.dK kvs))) :
    tLockE te σ H Q := ⟨d, _, hd, True.intro, fun od => h od _ ⟨hd, od, rfl⟩ upd_same⟩
end
/-! ### the loops by an invariant -/
section
variable [Lw] {J : It} {xs : List V} {G : Hp → Prop} {g : TG} {tt : TT} {te tk tv : TE} {tb : TS} {nx bk ct : L2.St → Hp → Prop} {rt Q : VK} {vs : List Nat} {σ : L2.St} {B H1 : Hp} {n : Nat} {Y : Nat → Hp → V → Hp → Prop}
theorem forW (w : Walk J n G Y) (mB : Mv B H1) (hG : ∀ H', Mv B H' → G H') (Pv : Nat → L2.St → Hp → Prop) (h0 : Pv 0 σ H1)
    (hs : ∀ i y σ' H' H'', i < n → Mv B H' → Pv i σ' H' → Y i H' y H'' → g y σ' H'' fun σ2 H2 => tb ⟨fun σ3 H3 => Mv B H3 ∧ Pv (i + 1) σ3 H3, rt, nx, fun σ3 H3 => Mv B H3 ∧ Pv (i + 1) σ3 H3⟩ σ2 H2) (hd : ∀ σ' H', Mv B H' → Pv n σ' H' → nx σ' H') :
    ForE J g tb ⟨nx, rt, bk, ct⟩ σ H1 :=
  for_it (D := ⟨nx, rt, bk, ct⟩) w (fun i σ' H' => Mv B H' ∧ Pv i σ' H') ⟨mB, h0⟩ (fun _ _ H' _ p => hG H' p.1) (fun i x σ' H' H'' hi p y => hs i x σ' H' H'' hi p.1 p.2 y) fun σ' H' p => hd σ' H' p.1 p.2
theorem forE (w : Ov J xs G) (mB : Mv B H1) (hG : ∀ H', Mv B H' → G H') (Pv : Nat → L2.St → Hp → Prop) (h0 : Pv 0 σ H1)
    (hs : ∀ i y σ' H', xs[i]? = some y → Mv B H' → Pv i σ' H' → g y σ' H' fun σ2 H2 => tb ⟨fun σ3 H3 => Mv B H3 ∧ Pv (i + 1) σ3 H3, rt, nx, fun σ3 H3 => Mv B H3 ∧ Pv (i + 1) σ3 H3⟩ σ2 H2) (hd : ∀ σ' H', Mv B H' → Pv xs.length σ' H' → nx σ' H') :
    ForE J g tb ⟨nx, rt, bk, ct⟩ σ H1 :=
  forW w mB hG Pv h0 (fun i y σ' H' H'' hi m p ⟨e1, e2⟩ => by rw [e1]; exact hs i y σ' H' e2 m p) hd
/-- all but lists (and what tables hold) is kept -/
structure Nl (H H' : Hp) : Prop where
  k : ∀ b o, H b = some o → (∀ l, o ≠ .lst l) → H' b = some o
def NxL (D : Addr) (H1 : Hp) (Pv : Nat → List V → Hp → Prop) (i : Nat) (H5 : Hp) : Prop := ∃ acc, H5 D = some (.lst acc) ∧ Mv H1 H5 ∧ Pv i acc H5
def LcP (D : Addr) (H1 : Hp) (Pv : Nat → List V → Hp → Prop) (i : Nat) (z : V) (H4 : Hp) : Prop := ∃ acc, H4 D = some (.lst acc) ∧ acc.length < sizeLine ∧ NxL D H1 Pv i (upd H4 D (.lst (acc ++ [z])))
theorem nl_upd {D : Addr} {H4 : Hp} {acc l : List V} (h : H4 D = some (.lst acc)) : Nl H4 (upd H4 D (.lst l)) := ⟨fun b o e n => by
  rw [upd_ne fun z => n acc (Option.some.inj (e.symm.trans (by rw [z]; exact h)))]
  exact e⟩
theorem lcP {D : Addr} {H4 : Hp} {Pv : Nat → List V → Hp → Prop} {i : Nat} {z : V} {acc : List V} (hD : H1 D = none) (h1 : H4 D = some (.lst acc)) (h2 : acc.length < sizeLine) (m : Mv H1 H4) (h : ∀ H5, Mv H1 H5 → Nl H4 H5 → Pv i (acc ++ [z]) H5) : LcP D H1 Pv i z H4 :=
  ⟨acc, h1, h2, _, upd_same, m.put hD, h _ (m.put hD) (nl_upd h1)⟩
theorem lcE (w : Ov J xs G) (hG : ∀ H', Mv H1 H' → G H') (h : ∀ D, H1 D = none → ∃ Pv : Nat → List V → Hp → Prop, (∀ H', Mv H1 H' → Pv 0 [] H') ∧
    (∀ i y acc H', xs[i]? = some y → Mv H1 H' → H' D = some (.lst acc) → Pv i acc H' → g y (wipe σ vs) H' fun σ2 H2 => wipe σ2 vs = wipe σ vs ∧ tt σ2 H2 fun b H3 =>
      if b = true then te σ2 H3 (LcP D H1 Pv (i + 1)) else NxL D H1 Pv (i + 1) H3) ∧
    (∀ acc H', Mv H1 H' → H' D = some (.lst acc) → Pv xs.length acc H' → Q (.ref D) H')) : LcE J g tt te vs σ H1 Q := by
  intro D hD
  obtain ⟨Pv, h0, hs, hd⟩ := h D hD
  exact lc_it w (NxL D H1 Pv) ⟨[], upd_same, .new hD, h0 _ (.new hD)⟩ (fun i H' _ ⟨acc, _, m, _⟩ => hG H' m) (fun i x H' H'' hi ⟨acc, e, m, p⟩ ⟨e1, e2⟩ => by
    rw [e1]
    exact hs i x acc H' e2 m e p) fun H' ⟨acc, e, m, p⟩ => hd acc H' m e p
def NxD (D : Addr) (H1 : Hp) (Pv : Nat → List (Key × V) → Hp → Prop) (i : Nat) (H5 : Hp) : Prop := ∃ acc, H5 D = some (.dK acc) ∧ Mv H1 H5 ∧ Pv i acc H5
def DcP (D : Addr) (H1 : Hp) (Pv : Nat → List (Key × V) → Hp → Prop) (i : Nat) (y z : V) (H5 : Hp) : Prop := ∃ kvs k, y = kV k ∧ H5 D = some (.dK kvs) ∧ kvs.length < sizeLine ∧ NxD D H1 Pv i (upd H5 D (.dK (putK kvs k z)))
/-- all but dicts is kept -/
structure Nd (H H' : Hp) : Prop where
  k : ∀ b o, H b = some o → (∀ l, o ≠ .dK l) → H' b = some o
theorem nd_upd {D : Addr} {H4 : Hp} {acc l : List (Key × V)} (h : H4 D = some (.dK acc)) : Nd H4 (upd H4 D (.dK l)) := ⟨fun b o e n => by
  rw [upd_ne fun z => n acc (Option.some.inj (e.symm.trans (by rw [z]; exact h)))]
  exact e⟩
theorem dcP {D : Addr} {H4 : Hp} {Pv : Nat → List (Key × V) → Hp → Prop} {i : Nat} {k : Key} {z : V} {acc : List (Key × V)} (hD : H1 D = none) (h1 : H4 D = some (.dK acc)) (h2 : acc.length < sizeLine) (m : Mv H1 H4) (h : ∀ H5, Mv H1 H5 → Nd H4 H5 → Pv i (putK acc k z) H5) : DcP D H1 Pv i (kV k) z H4 :=
  ⟨acc, k, rfl, h1, h2, _, upd_same, m.put hD, h _ (m.put hD) (nd_upd h1)⟩
theorem dcE (w : Ov J xs G) (hG : ∀ H', Mv H1 H' → G H') (h : ∀ D, H1 D = none → ∃ Pv : Nat → List (Key × V) → Hp → Prop, (∀ H', Mv H1 H' → Pv 0 [] H') ∧
    (∀ i y acc H', xs[i]? = some y → Mv H1 H' → H' D = some (.dK acc) → Pv i acc H' → g y (wipe σ vs) H' fun σ2 H2 => wipe σ2 vs = wipe σ vs ∧ tt σ2 H2 fun b H3 =>
      if b = true then tk σ2 H3 fun y H4 => tv σ2 H4 (DcP D H1 Pv (i + 1) y) else NxD D H1 Pv (i + 1) H3) ∧
    (∀ acc H', Mv H1 H' → H' D = some (.dK acc) → Pv xs.length acc H' → Q (.ref D) H')) : DcE J g tt tk tv vs σ H1 Q := by
  intro D hD
  obtain ⟨Pv, h0, hs, hd⟩ := h D hD
  refine ⟨fun i m H' => m = xs.length - i ∧ i ≤ xs.length ∧ NxD D H1 Pv i H', ⟨xs.length, by simp, Nat.zero_le _, [], upd_same, .new hD, h0 _ (.new hD)⟩, ?_⟩
  rintro i m H' ⟨rfl, hi, acc, e, mv, p⟩
  by_cases hlt : i < xs.length
  · refine .inr ⟨w.goes i H' hlt (hG H' mv), NxD D H1 Pv (i + 1), fun H'' p' => ⟨xs.length - (i + 1), by omega, rfl, hlt, p'⟩, fun x H'' y => ?_⟩
    obtain ⟨e1, e2⟩ := w.yields i H' x H'' hlt (hG H' mv) y
    rw [e1]
    exact hs i x acc H' e2 mv e p
  · have q : i = xs.length := by omega
    subst q
    exact .inl ⟨w.stops H' (hG H' mv), hd acc H' mv e p⟩
theorem mv_tabbed {P : Addr} {H2 : Hp} (hP : P ≠ Lw.L) (h : GxR.Tabbed P H1 H2) (ht : GxR.TabG H1 P) : Mv H1 H2 := by
  obtain ⟨h1, h2⟩ := h
  refine ⟨fun b o e n => ?_, fun P' q => ?_, fun ps q => ?_, fun b q => ?_⟩
  · obtain ⟨ps, t1, _⟩ := ht
    rw [h2 b fun z => n ps (Option.some.inj (e.symm.trans (by rw [z]; exact t1)))]
    exact e
  · by_cases z : P' = P
    · rw [z]
      exact h1
    · obtain ⟨ps, q1, q2⟩ := q
      exact ⟨ps, by rw [h2 P' z]; exact q1, q2⟩
  · rw [h2 _ (Ne.symm hP)]
    exact q
  · by_cases z : b = P
    · obtain ⟨ps, t1, _⟩ := h1
      rw [z, t1] at q
      cases q
    · rw [h2 b z] at q
      exact q
theorem gnE {α : Type} {P : Addr} {a0 : α} {take : VK → α → V → Hp → (α → Hp → Prop) → Prop} {fin : VK → α → Hp → Prop} (w : Ov J xs G) (hG : ∀ H', Mv H1 H' → G H') (hP : P ≠ Lw.L) (ht : GxR.TabG H1 P) (h : ∃ Pv : Nat → α → Hp → Prop, (∀ H', Mv H1 H' → Pv 0 a0 H') ∧
    (∀ i y a H', xs[i]? = some y → Mv H1 H' → Pv i a H' → g y (wipe σ vs) H' fun σ2 H2 => wipe σ2 vs = wipe σ vs ∧ tt σ2 H2 fun b H3 =>
      if b = true then te σ2 H3 fun z H4 => take Q a z H4 (fun a' H5 => Mv H1 H5 ∧ Pv (i + 1) a' H5) else Mv H1 H3 ∧ Pv (i + 1) a H3) ∧
    (∀ a H', Mv H1 H' → Pv xs.length a H' → fin Q a H')) : GnE P J g tt te vs a0 take fin σ H1 Q := by
  refine ⟨ht, fun H2 hT => ?_⟩
  obtain ⟨Pv, h0, hs, hd⟩ := h
  have m2 := mv_tabbed hP hT ht
  refine ⟨fun i m a H' => m = xs.length - i ∧ i ≤ xs.length ∧ Mv H1 H' ∧ Pv i a H', ⟨xs.length, by simp, Nat.zero_le _, m2, h0 H2 m2⟩, ?_⟩
  rintro i m a H' ⟨rfl, hi, mv, p⟩
  by_cases hlt : i < xs.length
  · refine .inr ⟨w.goes i H' hlt (hG H' mv), fun a' H5 => Mv H1 H5 ∧ Pv (i + 1) a' H5, fun a' H'' p' => ⟨xs.length - (i + 1), by omega, rfl, hlt, p'⟩, fun x H'' y => ?_⟩
    obtain ⟨e1, e2⟩ := w.yields i H' x H'' hlt (hG H' mv) y
    rw [e1]
    exact hs i x a H' e2 mv p
  · have q : i = xs.length := by omega
    subst q
    exact .inl ⟨w.stops H' (hG H' mv), hd a H' mv p⟩
def WhW (B : Hp) (Pv : Nat → L2.St → Hp → Prop) (m : Nat) (σ' : L2.St) (H' : Hp) : Prop := Mv B H' ∧ Pv m σ' H'
def WhP (tb : TS) (B : Hp) (Pv : Nat → L2.St → Hp → Prop) (rt : VK) (nx : L2.St → Hp → Prop) (m : Nat) (σ' : L2.St) (H2 : Hp) : Prop := ∃ N : L2.St → Hp → Prop, (∀ σ3 H3, N σ3 H3 → ∃ m', m' < m ∧ WhW B Pv m' σ3 H3) ∧ tb ⟨N, rt, nx, N⟩ σ' H2
theorem whP {Pv : Nat → L2.St → Hp → Prop} {m : Nat} {H2 : Hp} (h : tb ⟨fun σ3 H3 => Mv B H3 ∧ ∃ m', m' < m ∧ Pv m' σ3 H3, rt, nx, fun σ3 H3 => Mv B H3 ∧ ∃ m', m' < m ∧ Pv m' σ3 H3⟩ σ H2) : WhP tb B Pv rt nx m σ H2 :=
  ⟨_, fun σ3 H3 ⟨a, m', b, c⟩ => ⟨m', b, a, c⟩, h⟩
theorem whileE {c : TT} (B : Hp) (mB : Mv B H1) (Pv : Nat → L2.St → Hp → Prop) (h0 : ∃ m, Pv m σ H1) (hs : ∀ m σ' H', Mv B H' → Pv m σ' H' → c σ' H' fun b H2 => if b = true then WhP tb B Pv rt nx m σ' H2 else nx σ' H2) :
    tWhile c tb ⟨nx, rt, bk, ct⟩ σ H1 := by
  obtain ⟨m, h0⟩ := h0
  exact ⟨WhW B Pv, ⟨m, mB, h0⟩, fun m σ' H' ⟨mv, p⟩ => hs m σ' H' mv p⟩
end
section
variable [Lw] {H H' H1 H2 : Hp} {a : Addr} {xs : List V} {K : PySem.W.Frag}
theorem Nl.tup (m : Nl H H') (h : H a = some (.tup xs)) : H' a = some (.tup xs) := m.k _ _ h fun _ z => nomatch z
theorem Nl.dK {kvs : List (Key × V)} (m : Nl H H') (h : H a = some (.dK kvs)) : H' a = some (.dK kvs) := m.k _ _ h fun _ z => nomatch z
theorem Nl.exx {φ : Heap → Prop} (m : Nl H H') (h : H a = some (.ext φ)) : H' a = some (.ext φ) := m.k _ _ h fun _ z => nomatch z
theorem Nl.ins {C dx : Addr} {fs : List (Str × V)} (m : Nl H H') (h : H a = some (.ins C dx fs)) : H' a = some (.ins C dx fs) := m.k _ _ h fun _ z => nomatch z
theorem Nl.sqT (m : Nl H H') (h : SqT K H a xs) : SqT K H' a xs := by
  rcases h with (h | ⟨o, h⟩) | h
  · exact .inl (.inl (m.tup h))
  · exact .inl (.inr ⟨o, m.k _ _ h fun _ z => nomatch z⟩)
  · exact .inr h
theorem Nd.lst (m : Nd H H') (h : H a = some (.lst xs)) : H' a = some (.lst xs) := m.k _ _ h fun _ z => nomatch z
theorem Nd.tup (m : Nd H H') (h : H a = some (.tup xs)) : H' a = some (.tup xs) := m.k _ _ h fun _ z => nomatch z
theorem Nd.exx {φ : Heap → Prop} (m : Nd H H') (h : H a = some (.ext φ)) : H' a = some (.ext φ) := m.k _ _ h fun _ z => nomatch z
theorem Nd.ins {C dx : Addr} {fs : List (Str × V)} (m : Nd H H') (h : H a = some (.ins C dx fs)) : H' a = some (.ins C dx fs) := m.k _ _ h fun _ z => nomatch z
theorem Nd.sqT (m : Nd H H') (h : SqT K H a xs) : SqT K H' a xs := by
  rcases h with (h | ⟨o, h⟩) | h
  · exact .inl (.inl (m.tup h))
  · exact .inl (.inr ⟨o, m.k _ _ h fun _ z => nomatch z⟩)
  · exact .inr h
theorem Nd.sqL (m : Nd H H') (h : SqL K H a xs) : SqL K H' a xs := by
  rcases h with (h | ⟨o, h⟩) | h
  · exact .inl (.inl (m.lst h))
  · exact .inl (.inr ⟨o, m.k _ _ h fun _ z => nomatch z⟩)
  · exact .inr h
mutual
def noL : PyData → Bool
  | .list _ => false
  | .tuple ds => noLs ds
  | _ => true
def noLs : List PyData → Bool
  | [] => true
  | d :: ds => noL d && noLs ds
end
mutual
theorem nl_dp (m : Nl H H') : ∀ (d : PyData) (v : V), noL d = true → Dp K H v d → Dp K H' v d
  | .none, _, _, h => by cases h; exact .non
  | .bool b, _, _, h => by cases h; exact .bl b
  | .int i, _, _, h => by cases h; exact .int i
  | .str x, _, _, h => by cases h; exact .str x
  | .list ds, _, hn, h => by cases hn
  | .tuple ds, _, hn, h => by
    cases h with
    | tup hs ha => exact .tup (m.sqT hs) (nl_dps m ds _ hn ha)
  | .dict _, _, _, h => by cases h
theorem nl_dps (m : Nl H H') : ∀ (ds : List PyData) (vs : List V), noLs ds = true → DpAll K H vs ds → DpAll K H' vs ds
  | [], _, _, h => by cases h; exact .nil
  | d :: ds, _, hn, h => by
    have hn := Bool.and_eq_true_iff.mp (show (noL d && noLs ds) = true from hn)
    cases h with
    | cons h1 h2 => exact .cons (nl_dp m d _ hn.1 h1) (nl_dps m ds _ hn.2 h2)
end
theorem dpAll_append : ∀ {xs ys : List V} {ds es : List PyData}, DpAll K H xs ds → DpAll K H ys es → DpAll K H (xs ++ ys) (ds ++ es)
  | _, _, _, _, .nil, h => h
  | _, _, _, _, .cons a t, h => .cons a (dpAll_append t h)
theorem dpAll_length : ∀ {xs : List V} {ds : List PyData}, DpAll K H xs ds → xs.length = ds.length
  | _, _, .nil => rfl
  | _, _, .cons _ t => congrArg Nat.succ (dpAll_length t)
theorem dpAll_get : ∀ {xs : List V} {ds : List PyData}, DpAll K H xs ds → ∀ {i : Nat} {x : V}, xs[i]? = some x → ∃ d, ds[i]? = some d ∧ Dp K H x d
  | _, _, .nil, i, x, h => by simp at h
  | _, _, .cons (d := d) a t, 0, x, h => ⟨d, rfl, by cases h; exact a⟩
  | _, _, .cons a t, i + 1, x, h => by
    rw [List.getElem?_cons_succ] at h
    rw [List.getElem?_cons_succ]
    exact dpAll_get t h
theorem dpAll_strs : ∀ {l : List Str}, DpAll K H (l.map V.str) (l.map PyData.str)
  | [] => .nil
  | x :: l => .cons (.str x) dpAll_strs
theorem dpAll_ints : ∀ {l : List Int}, DpAll K H (l.map V.int) (l.map PyData.int)
  | [] => .nil
  | x :: l => .cons (.int x) dpAll_ints
theorem dp_strs_inv : ∀ {l : List Str} {xs : List V}, DpAll K H xs (l.map PyData.str) → xs = l.map V.str
  | [], _, .nil => rfl
  | x :: l, _, .cons a t => by
    cases a
    rw [dp_strs_inv t]
    rfl
theorem dp_tup_strs {a : V} {l : List Str} (h : Dp K H a (.tuple (l.map PyData.str))) : ∃ p, a = .ref p ∧ SqT K H p (l.map V.str) := by
  cases h with
  | tup hs ha =>
    rw [dp_strs_inv ha] at hs
    exact ⟨_, rfl, hs⟩
theorem Mv.dget {d : Addr} {y : V} {r : Option V} (m : Mv H H') (h : DGet H d y r) : DGet H' d y r := by
  rcases h with ⟨kvs, k, h, e1, e2⟩ | ⟨kvs, k, b, h, e1, h2, e2⟩
  · exact .inl ⟨kvs, k, m.rd (fun _ z => nomatch z) h, e1, e2⟩
  · exact .inr ⟨kvs, k, b, m.rd (fun _ z => nomatch z) h, e1, m.tup h2, e2⟩
theorem Lk.dget {d d' : Addr} {kvs : List (Key × V)} {y : V} {r : Option V} (m : Lk d' kvs H H') (h : DGet H d y r) : DGet H' d y r := by
  rcases h with ⟨kvs, k, h, e1, e2⟩ | ⟨kvs, k, b, h, e1, h2, e2⟩
  · exact .inl ⟨kvs, k, m.rd h, e1, e2⟩
  · exact .inr ⟨kvs, k, b, m.rd h, e1, m.tup h2, e2⟩
theorem Nl.dget {d : Addr} {y : V} {r : Option V} (m : Nl H H') (h : DGet H d y r) : DGet H' d y r := by
  rcases h with ⟨kvs, k, (h | ⟨o, h⟩), e1, e2⟩ | ⟨kvs, k, b, (h | ⟨o, h⟩), e1, h2, e2⟩
  · exact .inl ⟨kvs, k, .inl (m.k _ _ h fun _ z => nomatch z), e1, e2⟩
  · exact .inl ⟨kvs, k, .inr ⟨o, m.k _ _ h fun _ z => nomatch z⟩, e1, e2⟩
  · exact .inr ⟨kvs, k, b, .inl (m.k _ _ h fun _ z => nomatch z), e1, m.tup h2, e2⟩
  · exact .inr ⟨kvs, k, b, .inr ⟨o, m.k _ _ h fun _ z => nomatch z⟩, e1, m.tup h2, e2⟩
theorem s_slL {lo hi : Option Int} {Q : VK} (h1 : SqL K H a xs) (h : ∀ p, H p = none → Q (.ref p) (upd H p (.lst (cutV xs lo hi)))) : rSlL K (.ref a) lo hi H Q := ⟨a, xs, rfl, h1, h⟩
theorem s_eqD {x y : V} {d e : PyData} {Q : VK} (h1 : Dp K H x d) (h2 : Dp K H y e) (h3 : SeqAt.shaped d = true) (h4 : SeqAt.shaped e = true) (h : Q (.bl (PyData.eqv d e)) H) : rEqD K x y H Q := ⟨d, e, h1, h2, h3, h4, h⟩
theorem s_neD {x y : V} {d e : PyData} {Q : VK} (h1 : Dp K H x d) (h2 : Dp K H y e) (h3 : SeqAt.shaped d = true) (h4 : SeqAt.shaped e = true) (h : Q (.bl (!PyData.eqv d e)) H) : rNeD K x y H Q := ⟨d, e, h1, h2, h3, h4, h⟩
theorem s_wipe {σ1 σ2 : L2.St} {vs : List Nat} {A : Prop} (h1 : wipe σ2 vs = wipe σ1 vs) (h : A) : wipe σ2 vs = wipe σ1 vs ∧ A := ⟨h1, h⟩
theorem s_sFld {ta tv : TE} {f : Str} {σ : L2.St} {nx bk ct : L2.St → Hp → Prop} {rt : VK} (h : tv σ H fun y H1 => ta σ H1 fun x H2 => ∃ a C dx fs, x = .ref a ∧ H2 a = some (.ins C dx fs) ∧ Cls K C ∧ NoAttr K C f ∧ fs.length < 1000 ∧ nx σ (upd H2 a (.ins C dx (putF f y fs)))) : sFld K ta tv f ⟨nx, rt, bk, ct⟩ σ H := h
theorem s_sFld2 {C dx : Addr} {fs : List (Str × V)} {f : Str} {y : V} {N : Hp → Prop} (h1 : H a = some (.ins C dx fs)) (h2 : Cls K C) (h3 : NoAttr K C f) (h4 : fs.length < 1000) (h : N (upd H a (.ins C dx (putF f y fs)))) : ∃ a' C dx fs, V.ref a = .ref a' ∧ H a' = some (.ins C dx fs) ∧ Cls K C ∧ NoAttr K C f ∧ fs.length < 1000 ∧ N (upd H a' (.ins C dx (putF f y fs))) := ⟨a, C, dx, fs, rfl, h1, h2, h3, h4, h⟩
theorem passF {P : Program} {w : World} {X : Cx} : Passes (CX P w) X (fun _ _ _ => False) := fun _ _ _ _ _ _ _ ⟨_, _, _, _, _, _, _, _, _, _, _, _, h⟩ => h.elim
theorem s_mm {a b : Int} {P : Int → Int → Prop} (h : P a b) : ∃ i j, [V.int a, V.int b] = [V.int i, V.int j] ∧ P i j := ⟨a, b, rfl, h⟩
theorem s_ab {a : Int} {P : Int → Prop} (h : P a) : ∃ i, [V.int a] = [V.int i] ∧ P i := ⟨a, rfl, h⟩
theorem s_in1 {a : Int} {P : Int → Prop} {R : Prop} (h : P a) : (∃ i, [V.int a] = [V.int i] ∧ P i) ∨ R := .inl ⟨a, rfl, h⟩
theorem s_in2 {b : Bool} {P : Bool → Prop} {R : Prop} (h : P b) : R ∨ ∃ k, [V.bl b] = [V.bl k] ∧ P k := .inr ⟨b, rfl, h⟩
theorem s_lsL {p : Addr} {ys : List V} {P : List V → Prop} (h1 : SqL K H p ys) (h : P ys) : ∃ p' ys', [V.ref p] = [V.ref p'] ∧ (SqL K H p' ys' ∨ SqT K H p' ys') ∧ P ys' := ⟨p, ys, rfl, .inl h1, h⟩
theorem s_lsT {p : Addr} {ys : List V} {P : List V → Prop} (h1 : SqT K H p ys) (h : P ys) : ∃ p' ys', [V.ref p] = [V.ref p'] ∧ (SqL K H p' ys' ∨ SqT K H p' ys') ∧ P ys' := ⟨p, ys, rfl, .inr h1, h⟩
theorem s_tyL {p : Addr} {ys : List V} {A : Prop} (h1 : SqL K H p ys) (h : A) : tyV K "list" (.ref p) H ∧ A := ⟨.inl ⟨rfl, _, h1⟩, h⟩
theorem s_dgetE {td ty : TE} {σ : L2.St} {Q : VK} (h : td σ H fun x H1 => ty σ H1 fun y H2 => ∃ a v, x = .ref a ∧ DGet H2 a y (some v) ∧ Q v H2) : tDGet td ty σ H Q := h
theorem s_dget {Q : VK} {d : Addr} {y v : V} (h1 : DGet H d y (some v)) (h : Q v H) : ∃ a v, V.ref d = .ref a ∧ DGet H a y (some v) ∧ Q v H := ⟨d, v, rfl, h1, h⟩
end
theorem s_ifTT {A B : Prop} (h : A) : if true = true then A else B := h
theorem s_ifFF {A B : Prop} (h : B) : if false = true then A else B := h
theorem ite_dec {p : Prop} {_ : Decidable p} {A B : Prop} (h1 : p → A) (h2 : ¬ p → B) : if decide p = true then A else B := by
  by_cases h : p
  · rw [decide_eq_true h, if_pos rfl]
    exact h1 h
  · rw [decide_eq_false h, if_neg Bool.false_ne_true]
    exact h2 h
theorem ite_ndec {p : Prop} {_ : Decidable p} {A B : Prop} (h1 : ¬ p → A) (h2 : p → B) : if (!decide p) = true then A else B := by
  by_cases h : p
  · rw [decide_eq_true h]
    exact h2 h
  · rw [decide_eq_false h]
    exact h1 h
theorem map_get {α : Type} {f : α → V} {l : List α} {i : Nat} {y : V} (h : (l.map f)[i]? = some y) : ∃ x, l[i]? = some x ∧ y = f x := by
  rw [List.getElem?_map] at h
  cases e : l[i]? with
  | none =>
    rw [e] at h
    cases h
  | some x =>
    rw [e] at h
    exact ⟨x, rfl, (Option.some.inj h).symm⟩
theorem drop_get {α : Type} {l : List α} {i : Nat} {x : α} (h : l[i]? = some x) : l.drop i = x :: l.drop (i + 1) := by
  obtain ⟨hi, e⟩ := List.getElem?_eq_some_iff.mp h
  rw [List.drop_eq_getElem_cons hi, e]
theorem get_mem {α : Type} {l : List α} {i : Nat} {x : α} (h : l[i]? = some x) : x ∈ l := List.mem_of_getElem? h
end Mi

set_option Elab.async false
set_option linter.all false
set_option maxRecDepth 100000
set_option maxHeartbeats 2000000
namespace Mi
open PySem PySem.Spec PyProof.Rows L2
open AutoSeq1 (wpAny_loadPart')
/-! ### enumerate(tuple) -/
theorem meets_enumerate_newT (l : Addr) (items : Array Value) :
    Meets (Builtin.«enumerate.__new__» ⟨[.type "enumerate", .ref l], []⟩) (fun _ R s => s.heap.IsTuple l items ∧
      R (.ok (.ret (.ref (s.heap.push { cls := .type "tuple_iterator", data := .fields #[.ref l, .int 0 0] }).objs.size)))
        { s with heap := (s.heap.push { cls := .type "tuple_iterator", data := .fields #[.ref l, .int 0 0] }).push { cls := .type "enumerate", data := .fields #[.none, .bool false, .ref s.heap.objs.size, rawInt 0, .none, .none] } }) :=
  .of_wp fun prog w A R s h => by
    obtain ⟨hp, g, d, tk, os⟩ := s
    obtain ⟨hL, h⟩ := h
    have hsub := sub_enumerate
    obtain ⟨o, hl, hc, hd⟩ := id hL
    wp_walk using wpAny_loadPart' hl
    refine wpAny_stack_any fun st => wpAny_pure ?_
    split
    · rename_i c _ _ _ _ _
      cases (c == Value.type "enumerate")
      · wp_walk using wpAny_loadPart' hl, wpAny_pyIter_tuple hL
        exact ⟨_, rfl, h⟩
      · wp_walk using wpAny_loadPart' hl, wpAny_pyIter_tuple hL
        exact ⟨_, rfl, h⟩
    · wp_walk using wpAny_loadPart' hl, wpAny_pyIter_tuple hL
      exact ⟨_, rfl, h⟩
section
variable {prog : Program} {w : World} {A : Around} {E : Value → Shared → Prop} {s : Shared}
theorem call_enumerate_tuple {l : Addr} {items : Array Value} {Q : Value → Shared → Prop} (hL : s.heap.IsTuple l items)
    (h : ∀ h', IsEnum h' (s.heap.objs.size + 1) s.heap.objs.size 0 .none → h'.IsTupleIter s.heap.objs.size l 0 → h'.objs.size = s.heap.objs.size + 2 →
      (∀ b o, s.heap.get? b = some o → h'.get? b = some o) → Q (.ref (s.heap.objs.size + 1)) { s with heap := h' }) :
    wpAny (model prog w) A (call (.type "enumerate") [.ref l]) Q E s := by
  refine callType_new F.called_enumerate (by decide) (F.typeCall_enumerate_1 _) (F.newCall_enumerate_1 _) (fun obj => F.args_object_init_2 obj _) F.entry_enumerate_new
    (meets_enumerate_newT l items) ⟨hL, ?_⟩
  have hz : (s.heap.push { cls := .type "tuple_iterator", data := .fields #[.ref l, .int 0 0] }).objs.size = s.heap.objs.size + 1 := Heap.size_push ..
  show _ ∧ _
  rw [hz]
  have he : IsEnum ((s.heap.push { cls := .type "tuple_iterator", data := .fields #[.ref l, .int 0 0] }).push
      { cls := .type "enumerate", data := .fields #[.none, .bool false, .ref s.heap.objs.size, rawInt 0, .none, .none] }) (s.heap.objs.size + 1) s.heap.objs.size 0 .none := by
    have := Heap.get?_push_size (s.heap.push { cls := .type "tuple_iterator", data := .fields #[.ref l, .int 0 0] })
      (o := { cls := .type "enumerate", data := .fields #[.none, .bool false, .ref s.heap.objs.size, rawInt 0, .none, .none] }) rfl
    rw [hz] at this; exact this
  refine ⟨⟨_, he, rfl⟩, h _ he ⟨_, Heap.get?_push_of_some _ (Heap.get?_push_size _ rfl), rfl, rfl⟩ (by rw [Heap.size_push, hz]) fun b o x => Heap.get?_push_of_some _ (Heap.get?_push_of_some _ x)⟩
end
/-- the tuple at a, each item in a new pair -/
def IteT (K : PySem.W.Frag) (a : Addr) : It :=
  ⟨fun i H => ∃ (xs : List V) (x : V), SqT K H a xs ∧ xs[i]? = some x, fun i H v H' => ∃ T x, v = .ref T ∧ H T = none ∧ H' = upd H T (.tup [.int (i : Nat), x]) ∧ ∀ xs, SqT K H a xs → xs[i]? = some x, fun i H => ∃ xs : List V, SqT K H a xs ∧ xs.length ≤ i⟩
theorem turn_enumT {P : Program} {w : World} {K : PySem.W.Frag} {elts : List Expr} {kk : Nat} {tpos : Pos} (a e it : Addr) :
    Turn P w K (.Tuple elts kk tpos) (IteT K a) [e, it] e (fun i h => (∃ old, IsEnum h e it ((i : Nat) : Int) old) ∧ h.IsTupleIter it a i ∧ e ≠ it) where
  mem := by simp
  obj := fun i h st b hb => by
    obtain ⟨⟨old, he⟩, ⟨o, ho, hc, hd⟩, _⟩ := st
    have e' : b = e ∨ b = it := by simpa using hb
    rcases e' with z | z
    · rw [z]; exact ⟨_, he, fun v q => nomatch q⟩
    · rw [z]; exact ⟨o, ho, fun v q => by rw [hd] at q; cases q⟩
  keep := fun i h h' st k => let ⟨⟨old, he⟩, hi, hne⟩ := st; ⟨⟨old, k e (by simp) _ he⟩, hi.at fun o q => k it (by simp) o q, hne⟩
  item := by
    intro X hP hw hK hc i pins s σ H E I hf st hg
    subst hP hw hK
    obtain ⟨⟨old, he⟩, hit, hne⟩ := st
    obtain ⟨xs, x, hq, hx⟩ := hg
    obtain ⟨its, rv, p, hz⟩ := I.tuple hq
    have p : s.heap.IsTuple a its.toArray := p
    have hel : e < s.heap.objs.size := Heap.lt_size he
    have hil : it < s.heap.objs.size := by obtain ⟨_, q, _⟩ := hit; exact Heap.lt_size q
    have hlen := rv.length
    have hi : i < its.toArray.size := by
      have := (List.getElem?_eq_some_iff.mp hx).1
      simp; omega
    have ha : a ≠ it := fun z => by
      obtain ⟨o, q1, q2, _⟩ := p
      obtain ⟨o2, q3, q4, _⟩ := hit
      rw [z, q3] at q1
      cases q1
      rw [q2] at q4
      exact absurd (Value.type.inj q4) (by decide)
    have hae : e ≠ a := fun z => by
      obtain ⟨o, q1, q2, _⟩ := p
      have he2 := he
      unfold IsEnum at he2
      rw [← z, he2] at q1
      cases q1
      exact absurd (Value.type.inj q2) (by decide)
    refine wpAny_pyNext_enum_itemD (Draws.tuple (A := X.A.in1) (I.ok.hd hc) it a ha its.toArray) he ⟨hit, p⟩ hi hne (by simp [hne, hae]) fun u h' tk hu ho hit' hT hsz hk => ?_
    have hit' := hit'.1
    obtain ⟨u', hu', ru⟩ := rv.get hx
    have eu : u' = u := by
      have z : its.toArray[i]? = some u := hu
      rw [List.getElem?_toArray] at z
      rw [z] at hu'
      exact (Option.some.inj hu').symm
    rw [eu] at ru
    refine ⟨_, rfl, wpAny_letOwnedTupleGo_enum (s := { s with heap := h', toks := tk + 1 }) ho fun h'' he' sb => ?_⟩
    have hT2 : h''.get? s.heap.objs.size = some { cls := .type "tuple", data := .seq #[.int i tk, u] } := (sb.2 _ (Nat.ne_of_gt hel)).trans hT
    have new : ObjOk X.prog X.w (upd H s.heap.objs.size (.tup [.int (i : Nat), x])) h'' s.heap.objs.size (.tup [.int (i : Nat), x]) :=
      ⟨by show 2 ≤ sizeLine; decide, [.int i tk, u], .cons ⟨_, rfl⟩ (.cons ru .nil), ⟨_, hT2, rfl, _, rfl⟩⟩
    have I1 : Inv X pins σ (upd H s.heap.objs.size (.tup [.int (i : Nat), x])) { s with heap := h'', toks := tk + 1 } :=
      I.turnedNew (ch := [e, it]) (fun b ob hb q => (sb.2 b (fun z => hb (by simp [z]))).trans (hk b ob (fun z => hb (by simp [z])) (fun z => hb (by simp [z])) q)) hf (Nat.le_refl _) new
    refine ⟨.ref s.heap.objs.size, _, I1, rfl, ⟨_, x, rfl, I.hok.fresh (Nat.le_refl _), rfl, fun ys hy => by rw [I.tuple_inj hy hq]; exact hx⟩, ⟨⟨u, ?_⟩, hit'.at fun o q => (sb.2 it (Ne.symm hne)).trans q, hne⟩, fun b hb => ?_⟩
    · have e1 : ((i + 1 : Nat) : Int) = (i : Int) + 1 := by omega
      rw [e1]; exact he'
    · have hb' : b < s.heap.objs.size := by
        have e' : b = e ∨ b = it := by simpa using hb
        rcases e' with z | z
        · rw [z]; exact hel
        · rw [z]; exact hil
      rw [upd_ne (Nat.ne_of_lt hb')]
      exact (hf b hb).1
  done := by
    intro X hP hw hK hc i pins s σ H E I hf st hg
    subst hP hw hK
    obtain ⟨⟨old, he⟩, hit, hne⟩ := st
    obtain ⟨xs, hq, hx⟩ := hg
    obtain ⟨its, rv, p, hz⟩ := I.tuple hq
    have p : s.heap.IsTuple a its.toArray := p
    obtain ⟨f0, f1, f2, f3, f4, f5⟩ := hf it (by simp)
    have hl := rv.length
    have hT : s.TypeIs (.ref e) "enumerate" := ⟨_, he, rfl⟩
    unfold pyNext
    refine wpAny_bind (wpAny_attempt (wpAny_callSpecial?_slot (name := Str.ofString "__next__") hT F.slot_enumerate_next
      (wpAny_call_entry F.slot_enumerate_next hT F.entry_enumerate_next ?_ (F.args_enumerate_next_1 _))))
    show wpAny _ _ (field (.ref e) 2 >>= _) _ _ _
    refine wpAny_bind (wpAny_field he rfl (x := .ref it) rfl ?_)
    refine wpAny_bind (wpAny_nextOf_tuple_end (I.ok.hd hc) hit p (by simp; omega) fun h' x he' hx' => ?_)
    obtain ⟨o, ho, hc'⟩ := hx'
    refine wpAny_bind (wpAny_isInstance (T := "StopIteration") (b := true) ⟨o, ho, hc'⟩ isSubtype_stop ?_)
    exact wpAny_pure ⟨rfl, I.turned (t' := s.toks) (fun b o hb q => he' b o hb q) f0 f1 f3 f4 f5⟩
  self := fun A i s Q E st h => let ⟨⟨_, he⟩, _⟩ := st; wpAny_pyIter_enum he h
def iEnumT (K : PySem.W.Frag) (ta : TA) : TI := fun σ H R => ta σ H fun vs H1 => ∃ a xs, vs = [.ref a] ∧ SqT K H1 a xs ∧ R (IteT K a) H1
theorem pi_enumT {X : Cx} {e : Expr} {ta : TA} {p pos tpos : Pos} {elts : List Expr} {kk : Nat} (hg : Gl X "enumerate") (hm : X.mg "enumerate" = none) (ha : PA X [e] ta) (hs : starEach [e] X.env = [(false, eval e X.env)] := by rfl) :
    PI X (.Tuple elts kk tpos) (.Call (.Name "enumerate" p) [e] [] pos) (iEnumT X.K ta) := by
  refine ⟨fun pins s σ H R I h => ?_⟩
  refine Call_ (ld_blt I hg hm boot_enumerate (PyProof.Rows.callWith_type1 (thn (ha.run pos pins s σ H _ I h) fun us s1 ⟨vs, H1, I1, r1, q1⟩ => ?_) hs rfl))
  obtain ⟨a, xs, ex, hq, q⟩ := q1
  subst ex
  cases r1 with
  | cons r rr =>
    cases rr
    cases r
    obtain ⟨its, rv, p', hz⟩ := I1.tuple hq
    refine call_enumerate_tuple (show s1.heap.IsTuple a its.toArray from p') fun h' he hit hsz hk => wpAny_pyIter_enum he ?_
    have I2 : Inv X pins σ H1 { s1 with heap := h' } := I1.kept (t' := s1.toks) hk
    refine ⟨s1.heap.objs.size + 1, [s1.heap.objs.size + 1, s1.heap.objs.size], _, _, H1, rfl, I2, turn_enumT a (s1.heap.objs.size + 1) s1.heap.objs.size, ⟨⟨.none, he⟩, hit, Nat.succ_ne_self _⟩, fun b hb => ?_, q⟩
    have e' : b = s1.heap.objs.size + 1 ∨ b = s1.heap.objs.size := by simpa using hb
    have hle : s1.heap.objs.size ≤ b := by
      rcases e' with z | z
      · rw [z]; exact Nat.le_succ _
      · rw [z]; exact Nat.le_refl _
    exact I1.fpOk hle (I1.hok.fresh hle)
section
variable {K : PySem.W.Frag} {σ : L2.St} {H : Hp} {tA : TA} {R : It → Hp → Prop} {a : Addr} {xs : List V}
def PiE (K : PySem.W.Frag) (vs : List V) (H : Hp) (R : It → Hp → Prop) : Prop := ∃ a xs, vs = [.ref a] ∧ SqT K H a xs ∧ R (IteT K a) H
theorem walk_enumT : Walk (IteT K a) xs.length (fun H => SqT K H a xs) (YPair (fun i => some (.int (i : Nat))) (fun i => xs[i]?)) := by
  refine ⟨fun i _ hi q => ⟨xs, xs[i], q, by simp [hi]⟩, fun _ q => ⟨xs, q, Nat.le_refl _⟩, fun i H v H' _ q y => ?_⟩
  obtain ⟨T, x, h1, h2, h3, h4⟩ := y
  exact ⟨T, .int (i : Nat), x, h1, h2, h3, rfl, h4 xs q⟩
theorem s_iE (h : tA σ H fun vs H1 => PiE K vs H1 R) : iEnumT K tA σ H R := h
theorem s_iE2 (h1 : SqT K H a xs) (h : ∀ J, Walk J xs.length (fun H => SqT K H a xs) (YPair (fun i => some (.int (i : Nat))) (fun i => xs[i]?)) → R J H) : PiE K [.ref a] H R := ⟨a, xs, rfl, h1, h _ walk_enumT⟩
end
end Mi

set_option Elab.async false
set_option linter.all false
set_option maxRecDepth 100000
set_option maxHeartbeats 2000000
namespace Mi
open PySem PySem.Spec PyProof.Rows L2
def txOk (x : Str) : Bool := PyData.strOk x
theorem lay_all : ∀ {ds : List PyData}, (∀ d ∈ ds, d.canLay0 = true) → PyData.canLayAll0 ds = true
  | [], _ => rfl
  | d :: ds, h => by
    show (d.canLay0 && PyData.canLayAll0 ds) = true
    rw [h d List.mem_cons_self, lay_all fun x hx => h x (List.mem_cons_of_mem _ hx)]
    rfl
theorem depth_all {k : Nat} : ∀ {ds : List PyData}, (∀ d ∈ ds, d.depth ≤ k) → PyData.depthAll ds ≤ k
  | [], _ => Nat.zero_le _
  | d :: ds, h => by
    show max d.depth (PyData.depthAll ds) ≤ k
    have h1 := h d List.mem_cons_self
    have h2 := depth_all (ds := ds) fun x hx => h x (List.mem_cons_of_mem _ hx)
    omega
structure Sh (k : Nat) (d : PyData) : Prop where
  l : d.canLay0 = true
  d : d.depth ≤ k
theorem Sh.shaped {k : Nat} {d : PyData} (h : Sh k d) (hk : k ≤ 64) : SeqAt.shaped d = true := by
  unfold SeqAt.shaped
  rw [h.l, Bool.true_and, decide_eq_true_eq]
  exact Nat.le_trans h.d hk
theorem Sh.int {i : Int} : Sh 0 (.int i) := ⟨rfl, Nat.le_refl _⟩
theorem Sh.str {x : Str} (h : txOk x = true) : Sh 0 (.str x) := ⟨h, Nat.le_refl _⟩
theorem Sh.tup {k : Nat} {ds : List PyData} (h : ∀ d ∈ ds, Sh k d) : Sh (k + 1) (.tuple ds) := ⟨lay_all fun d hd => (h d hd).l, Nat.succ_le_succ (depth_all fun d hd => (h d hd).d)⟩
theorem Sh.lst {k : Nat} {ds : List PyData} (h : ∀ d ∈ ds, Sh k d) : Sh (k + 1) (.list ds) := ⟨lay_all fun d hd => (h d hd).l, Nat.succ_le_succ (depth_all fun d hd => (h d hd).d)⟩
theorem Sh.mono {j k : Nat} {d : PyData} (h : Sh j d) (hk : j ≤ k) : Sh k d := ⟨h.l, Nat.le_trans h.d hk⟩
theorem sh_strs {l : List Str} (h : ∀ x ∈ l, txOk x = true) : ∀ d ∈ l.map PyData.str, Sh 0 d := fun d hd => by
  obtain ⟨x, hx, rfl⟩ := List.mem_map.mp hd
  exact Sh.str (h x hx)
theorem Sh.refl {k : Nat} {d : PyData} (h : Sh k d) : PyData.eqv d d = true := SeqAt.eqv_refl d h.l
theorem noLs_all : ∀ {ds : List PyData}, (∀ d ∈ ds, noL d = true) → noLs ds = true
  | [], _ => rfl
  | d :: ds, h => by
    show (noL d && noLs ds) = true
    rw [h d List.mem_cons_self, noLs_all fun x hx => h x (List.mem_cons_of_mem _ hx)]
    rfl
theorem noL_strs {l : List Str} : noL (.tuple (l.map PyData.str)) = true := noLs_all fun d hd => by
  obtain ⟨x, hx, rfl⟩ := List.mem_map.mp hd
  rfl
section
variable [Lw] {K : PySem.W.Frag} {H : Hp} {Q : VK} {a b : Addr} {xs ys : List V}
theorem s_catA (h1 : SqT K H a xs) (h2 : SqT K H b ys) (hz : xs.length + ys.length ≤ sizeLine) (h : ∀ p H1, Mv H H1 → SqT K H1 p (xs ++ ys) → Q (.ref p) H1) : rCatA K (.ref a) (.ref b) H Q := by
  refine ⟨a, b, xs, ys, rfl, rfl, h1, h2, hz, fun e => ?_, fun _ e => ?_, fun _ _ p hp => ?_⟩
  · subst e
    exact h b H (.refl H) h2
  · subst e
    exact h a H (.refl H) (by rw [List.append_nil]; exact h1)
  · exact h p _ (.new hp) (SqT.of upd_same)
theorem cutV_whole {lo hi : Option Int} (h : HT.sIx xs.length 0 lo = 0 ∧ HT.sIx xs.length xs.length hi = xs.length) : cutV xs lo hi = xs := by
  unfold cutV
  rw [h.1, h.2, List.drop_zero, Nat.sub_zero, List.take_length]
theorem s_slA {lo hi : Option Int} (h1 : SqT K H a xs) (h : ∀ p H1, Mv H H1 → SqT K H1 p (cutV xs lo hi) → Q (.ref p) H1) : rSlA K (.ref a) lo hi H Q := by
  refine ⟨a, xs, rfl, h1, fun e => ?_, fun _ p hp => ?_⟩
  · exact h a H (.refl H) (by rw [cutV_whole e]; exact h1)
  · exact h p _ (.new hp) (SqT.of upd_same)
theorem s_tupOfL {p : Addr} {ys : List V} (h1 : SqL K H p ys) (h : ∀ l, H l = none → Q (.ref l) (upd H l (.tup ys))) : ∃ p' ys', [V.ref p] = [V.ref p'] ∧ ((SqL K H p' ys' ∧ ∀ l, H l = none → Q (.ref l) (upd H l (.tup ys'))) ∨ (SqT K H p' ys' ∧ Q (.ref p') H)) := ⟨p, ys, rfl, .inl ⟨h1, h⟩⟩
theorem s_tupOfT {p : Addr} {ys : List V} (h1 : SqT K H p ys) (h : Q (.ref p) H) : ∃ p' ys', [V.ref p] = [V.ref p'] ∧ ((SqL K H p' ys' ∧ ∀ l, H l = none → Q (.ref l) (upd H l (.tup ys'))) ∨ (SqT K H p' ys' ∧ Q (.ref p') H)) := ⟨p, ys, rfl, .inr ⟨h1, h⟩⟩
theorem s_ext2 {x y : List V} (h1 : H a = some (.lst x)) (h2 : H b = some (.lst y)) (hz : x.length + y.length ≤ sizeLine) (h : Q (.ref a) (upd H a (.lst (x ++ y)))) : rExt2 (.ref a) (.ref b) H Q := ⟨a, b, x, y, rfl, rfl, h1, h2, hz, h⟩
theorem s_cat {x y : List V} (h1 : H a = some (.lst x)) (h2 : H b = some (.lst y)) (hz : x.length + y.length ≤ sizeLine) (h : ∀ p, H p = none → Q (.ref p) (upd H p (.lst (x ++ y)))) : rCat (.ref a) (.ref b) H Q := ⟨a, b, x, y, rfl, rfl, h1, h2, hz, h⟩
theorem mv_free_ne {H H' : Hp} {p q : Addr} {u : HO} (m : Mv H H') (hp : H p = none) (hq : H q = some u) : q ≠ p := ne_of_none hq hp
end
/-! ### orders of names -/
def permsF : Nat → List Str → List (List Str)
  | 0, _ => [[]]
  | n + 1, ns => if ns = [] then [[]] else (List.range ns.length).flatMap fun i => (permsF n (ns.eraseIdx i)).map (ns.getD i Str.empty :: ·)
theorem permsF_nil {n : Nat} : permsF n [] = [[]] := by
  cases n with
  | zero => rfl
  | succ n => rw [permsF, if_pos rfl]
theorem permsF_succ {n : Nat} {ns : List Str} (h : ns ≠ []) : permsF (n + 1) ns = (List.range ns.length).flatMap fun i => (permsF n (ns.eraseIdx i)).map (ns.getD i Str.empty :: ·) := by
  rw [permsF, if_neg h]
theorem permsF_le : ∀ {n : Nat} {ns : List Str}, ns.length ≤ n → n ≤ 5 → (permsF n ns).length ≤ 5 ^ n
  | 0, _, _, _ => Nat.le_refl _
  | n + 1, ns, h, h5 => by
    by_cases e : ns = []
    · rw [e, permsF_nil]
      exact Nat.one_le_pow _ _ (by decide)
    rw [permsF_succ e, List.length_flatMap]
    have key : ∀ l : List Nat, (∀ i ∈ l, i < ns.length) → (l.map fun i => ((permsF n (ns.eraseIdx i)).map (ns.getD i Str.empty :: ·)).length).sum ≤ l.length * 5 ^ n := by
      intro l
      induction l with
      | nil => intro _; simp
      | cons i l ih =>
        intro hl
        have h1 := ih fun j hj => hl j (List.mem_cons_of_mem _ hj)
        have h2 : (permsF n (ns.eraseIdx i)).length ≤ 5 ^ n := permsF_le (by rw [List.length_eraseIdx_of_lt (hl i List.mem_cons_self)]; omega) (by omega)
        rw [List.map_cons, List.sum_cons, List.length_map, List.length_cons, Nat.add_mul]
        omega
    have h3 := key (List.range ns.length) fun i hi => List.mem_range.mp hi
    rw [List.length_range] at h3
    have h4 : ns.length * 5 ^ n ≤ 5 * 5 ^ n := Nat.mul_le_mul_right _ (by omega)
    rw [Nat.pow_succ, Nat.mul_comm (5 ^ n) 5]
    exact Nat.le_trans h3 h4
theorem permsF_mem : ∀ {n : Nat} {ns o : List Str}, o ∈ permsF n ns → ∀ x ∈ o, x ∈ ns
  | 0, _, o, h, x, hx => by
    rw [permsF, List.mem_singleton] at h
    rw [h] at hx
    cases hx
  | n + 1, ns, o, h, x, hx => by
    by_cases e : ns = []
    · rw [e, permsF_nil, List.mem_singleton] at h
      rw [h] at hx
      cases hx
    rw [permsF_succ e, List.mem_flatMap] at h
    obtain ⟨i, hi, h⟩ := h
    obtain ⟨o', h', rfl⟩ := List.mem_map.mp h
    rcases List.mem_cons.mp hx with rfl | hx
    · have hi := List.mem_range.mp hi
      rw [List.getD_eq_getElem?_getD, List.getElem?_eq_getElem hi]
      exact List.getElem_mem hi
    · exact List.mem_of_mem_eraseIdx (permsF_mem h' x hx)
theorem permsF_len : ∀ {n : Nat} {ns o : List Str}, o ∈ permsF n ns → o.length ≤ n
  | 0, _, o, h => by
    rw [permsF, List.mem_singleton] at h
    rw [h]
    exact Nat.le_refl _
  | n + 1, ns, o, h => by
    by_cases e : ns = []
    · rw [e, permsF_nil, List.mem_singleton] at h
      rw [h]
      exact Nat.zero_le _
    rw [permsF_succ e, List.mem_flatMap] at h
    obtain ⟨i, hi, h⟩ := h
    obtain ⟨o', h', rfl⟩ := List.mem_map.mp h
    exact Nat.succ_le_succ (permsF_len h')
theorem take_more {α : Type} {l : List α} {i : Nat} {x : α} (h : l[i]? = some x) : l.take (i + 1) = l.take i ++ [x] := by
  obtain ⟨hi, e⟩ := List.getElem?_eq_some_iff.mp h
  rw [List.take_succ_eq_append_getElem hi, e]
theorem noLs_ords {l : List (List Str)} {n : Str} : noLs (l.map fun o => .tuple ((n :: o).map .str)) = true := noLs_all fun d hd => by
  obtain ⟨x, hx, rfl⟩ := List.mem_map.mp hd
  exact noL_strs
theorem noLs_ords' {l : List (List Str)} : noLs (l.map fun o => .tuple (o.map .str)) = true := noLs_all fun d hd => by
  obtain ⟨x, hx, rfl⟩ := List.mem_map.mp hd
  exact noL_strs
theorem nl_all [Lw] {H H' : Hp} {K : PySem.W.Frag} (m : Nl H H') {ds : List PyData} {vs : List V} (hn : noLs ds = true) (h : DpAll K H vs ds) : DpAll K H' vs ds := nl_dps m ds vs hn h
theorem pow5 {m : Nat} (h : m ≤ 4) : 5 ^ m ≤ 625 := Nat.pow_le_pow_right (by decide) h
theorem permsF_pos : ∀ {n : Nat} {ns : List Str}, ns.length ≤ n → ∃ o, o ∈ permsF n ns
  | 0, _, _ => ⟨[], by rw [permsF]; exact List.mem_singleton.mpr rfl⟩
  | n + 1, ns, h => by
    by_cases e : ns = []
    · exact ⟨[], by rw [e, permsF_nil]; exact List.mem_singleton.mpr rfl⟩
    have hp := List.length_pos_iff.mpr e
    obtain ⟨o, ho⟩ := permsF_pos (n := n) (ns := ns.eraseIdx 0) (by rw [List.length_eraseIdx_of_lt hp]; omega)
    rw [permsF_succ e]
    exact ⟨_, List.mem_flatMap.mpr ⟨0, List.mem_range.mpr hp, List.mem_map.mpr ⟨o, ho, rfl⟩⟩⟩
theorem nodup_inj : ∀ {ns : List Str}, ns.Nodup → ∀ {i j : Nat} {n : Str}, ns[i]? = some n → ns[j]? = some n → i = j
  | [], _, i, j, n, h, _ => by simp at h
  | x :: ns, hn, 0, 0, n, _, _ => rfl
  | x :: ns, hn, 0, j + 1, n, h1, h2 => by
    cases h1
    exact absurd (get_mem (show ns[j]? = some x from h2)) (List.nodup_cons.mp hn).1
  | x :: ns, hn, i + 1, 0, n, h1, h2 => by
    cases h2
    exact absurd (get_mem (show ns[i]? = some x from h1)) (List.nodup_cons.mp hn).1
  | x :: ns, hn, i + 1, j + 1, n, h1, h2 => congrArg Nat.succ (nodup_inj (List.nodup_cons.mp hn).2 h1 h2)
abbrev ordD (o : List Str) : PyData := .tuple (o.map .str)
theorem sh_ord {n : Nat} {ns : List Str} (h : ∀ x ∈ ns, txOk x = true) : ∀ d ∈ (permsF n ns).map ordD, Sh 1 d := fun d hd => by
  obtain ⟨o, ho, rfl⟩ := List.mem_map.mp hd
  exact Sh.tup (sh_strs fun x hx => h x (permsF_mem ho x hx))
theorem erase_cut {ns : List Str} {i : Nat} (hi : i < ns.length) : cutV (ns.map V.str) none (some (i : Int)) ++ cutV (ns.map V.str) (some ((i : Int) + 1)) none = (ns.eraseIdx i).map V.str := by
  unfold cutV
  have e1 : ((i : Int) + 1) = ((i + 1 : Nat) : Int) := by omega
  rw [e1, HT.sIx_none, HT.sIx_none, HT.sIx_nat, HT.sIx_nat, List.length_map, List.drop_zero, Nat.sub_zero, Nat.min_eq_left (by omega), Nat.min_eq_left (by omega), List.eraseIdx_eq_take_drop_succ, List.map_append, List.map_take, List.map_drop]
  congr 1
  rw [List.take_of_length_le (by simp)]
end Mi

set_option Elab.async false
set_option linter.all false
set_option maxRecDepth 100000
set_option maxHeartbeats 2000000
namespace Mi
open PySem PySem.Spec PyProof.Rows L2
/-! ### the rules with the written part named -/
def rLenK (K : PySem.W.Frag) : List V → Hp → VK → Prop := fun xs H Q => ∃ p ys, xs = [.ref p] ∧ (SqL K H p ys ∨ SqT K H p ys) ∧ Q (.int ys.length) H
def rListK (K : PySem.W.Frag) : List V → Hp → VK → Prop := fun xs H Q => ∃ p ys, xs = [.ref p] ∧ (SqL K H p ys ∨ SqT K H p ys) ∧ ∀ l, H l = none → Q (.ref l) (upd H l (.lst ys))
def rTupK (K : PySem.W.Frag) : List V → Hp → VK → Prop := fun xs H Q => ∃ p ys, xs = [.ref p] ∧ ((SqL K H p ys ∧ ∀ l, H l = none → Q (.ref l) (upd H l (.tup ys))) ∨ (SqT K H p ys ∧ Q (.ref p) H))
section
variable {X : Cx} {K : PySem.W.Frag}
theorem op_catAK (h : X.K = K) : OpR X (binaryOp .Add) (rCatA K) := by subst h; exact op_catA
theorem op_eqDK (h : X.K = K) (hu : X.A.units + 64 < cLine) : OpR X (compareOp .Eq) (rEqD K) := by subst h; exact op_eqD hu
theorem op_neDK (h : X.K = K) (hu : X.A.units + 64 < cLine) : OpR X (compareOp .NotEq) (rNeD K) := by subst h; exact op_neD hu
theorem ix_listK (h : X.K = K) : IxR X (rIxL K) := by subst h; exact ix_list
theorem ix_tupK (h : X.K = K) : IxR X (rIxT K) := by subst h; exact ix_tup
theorem sl_listK (h : X.K = K) : SlR X (rSlL K) := by subst h; exact sl_list
theorem sl_tupAK (h : X.K = K) : SlR X (rSlA K) := by subst h; exact sl_tupA
theorem pe_fldK {e : Expr} {f : Str} {pos : Pos} {ta : TE} (h : X.K = K) (he : PE X e ta) (hb : attributeBase e f X.env (eval e X.env) = eval e X.env) : PE X (.Attribute e f pos) (tFld K ta f) := by subst h; exact pe_fld he hb
theorem pi_listK {tg l : Expr} {tl : TE} (h : X.K = K) (hl : PE X l tl) : PI X tg l (iList K tl) := by subst h; exact pi_list hl
theorem pi_tupK {tg l : Expr} {tl : TE} (h : X.K = K) (hl : PE X l tl) : PI X tg l (iTup K tl) := by subst h; exact pi_tup hl
theorem pg_tupK {es : List Expr} {k : Nat} {t : TGs} {n : Nat} {pos : Pos} (hK : X.K = K) (hc : X.calm = true) (h : PGs X es t) (hn : (assignEach es X.env).length = n := by rfl) (hst : (assignEach es X.env).findIdx? (·.1) = none := by rfl) : PG X (.Tuple es k pos) (gTup K n t) := by subst hK; exact pg_tup hc h hn hst
theorem pi_enumTK {e : Expr} {ta : TA} {p pos tpos : Pos} {elts : List Expr} {kk : Nat} (h : X.K = K) (hg : Gl X "enumerate") (hm : X.mg "enumerate" = none) (ha : PA X [e] ta) (hs : starEach [e] X.env = [(false, eval e X.env)] := by rfl) :
    PI X (.Tuple elts kk tpos) (.Call (.Name "enumerate" p) [e] [] pos) (iEnumT K ta) := by subst h; exact pi_enumT hg hm ha hs
theorem call_lenK (h : X.K = K) : CallR X (.builtin "len") (rLenK K) := by subst h; exact call_len_seq
theorem call_listK (h : X.K = K) : CallR X (.type "list") (rListK K) := by subst h; exact call_list_of
theorem call_tupleK (h : X.K = K) : CallR X (.type "tuple") (rTupK K) := by subst h; exact call_tuple_of
theorem cr_maxK (h : X.K = K) (hc : X.calm = true) : CallR X (.builtin "max") (rMax K) := by subst h; exact cr_max hc
theorem cr_minK (h : X.K = K) (hc : X.calm = true) : CallR X (.builtin "min") (rMin K) := by subst h; exact cr_min hc
theorem cr_sumK (h : X.K = K) (hc : X.calm = true) : CallR X (.builtin "sum") (rSum K) := by subst h; exact cr_sum hc
theorem mt_indexK (h : X.K = K) : MtR X "list.index" (rIndex K) := by subst h; exact mt_index
theorem pe_revLK {e : Expr} {te : TE} {k : Nat} {p1 p2 p3 pos : Pos} (h : X.K = K) (he : PE X e te) : PE X (.Subscript e (.Slice none none (some (.UnaryOp .USub (.Constant (.int 1) k p1) p2)) p3) pos) (tRevL K te) := by subst h; exact pe_revL he
end
section
variable {K : PySem.W.Frag} {σ : L2.St} {H : Hp} {Q : VK} {p : Addr} {ys : List V} {te : TE}
theorem s_lenKL (h1 : SqL K H p ys) (h : Q (.int ys.length) H) : rLenK K [.ref p] H Q := ⟨p, ys, rfl, .inl h1, h⟩
theorem s_lenKT (h1 : SqT K H p ys) (h : Q (.int ys.length) H) : rLenK K [.ref p] H Q := ⟨p, ys, rfl, .inr h1, h⟩
theorem s_listKL (h1 : SqL K H p ys) (h : ∀ l, H l = none → Q (.ref l) (upd H l (.lst ys))) : rListK K [.ref p] H Q := ⟨p, ys, rfl, .inl h1, h⟩
theorem s_listKT (h1 : SqT K H p ys) (h : ∀ l, H l = none → Q (.ref l) (upd H l (.lst ys))) : rListK K [.ref p] H Q := ⟨p, ys, rfl, .inr h1, h⟩
theorem s_tupKL (h1 : SqL K H p ys) (h : ∀ l, H l = none → Q (.ref l) (upd H l (.tup ys))) : rTupK K [.ref p] H Q := ⟨p, ys, rfl, .inl ⟨h1, h⟩⟩
theorem s_tupKT (h1 : SqT K H p ys) (h : Q (.ref p) H) : rTupK K [.ref p] H Q := ⟨p, ys, rfl, .inr ⟨h1, h⟩⟩
theorem s_revE (h : te σ H fun x H1 => ∃ a xs, x = .ref a ∧ SqL K H1 a xs ∧ ∀ p, H1 p = none → Q (.ref p) (upd H1 p (.lst xs.reverse))) : tRevL K te σ H Q := h
theorem s_rev {R : Addr → List V → Prop} (h1 : SqL K H p ys) (h : R p ys) : ∃ a xs, V.ref p = .ref a ∧ SqL K H a xs ∧ R a xs := ⟨p, ys, rfl, h1, h⟩
end
end Mi

set_option Elab.async false
set_option linter.all false
set_option maxRecDepth 100000
set_option maxHeartbeats 2000000
namespace Mi
open PySem PySem.Spec PyProof.Rows L2
/-! ### texts in order -/
def leS (x y : Str) : Bool := decide (x.cps.toList ≤ y.cps.toList)
theorem leS_trans (a b c : Str) (h1 : leS a b = true) (h2 : leS b c = true) : leS a c = true := decide_eq_true (List.le_trans (of_decide_eq_true h1) (of_decide_eq_true h2))
theorem leS_total (a b : Str) : (leS a b || leS b a) = true := by
  rcases List.le_total a.cps.toList b.cps.toList with h | h
  · rw [leS, decide_eq_true h]; rfl
  · rw [show leS b a = true from decide_eq_true h, Bool.or_true]
theorem str_ext {a b : Str} (h : a.cps.toList = b.cps.toList) : a = b := by
  cases a with
  | mk a => cases b with
    | mk b =>
      have : a = b := Array.toList_inj.mp h
      rw [this]
theorem leS_anti {a b : Str} (h1 : leS a b = true) (h2 : leS b a = true) : a = b := str_ext (List.le_antisymm (of_decide_eq_true h1) (of_decide_eq_true h2))
theorem uniq_leS {l1 l2 : List Str} (hp : l1.Perm l2) (h1 : l1.Pairwise fun a b => leS a b = true) (h2 : l2.Pairwise fun a b => leS a b = true) : l1 = l2 :=
  List.Perm.eq_of_pairwise (fun a b _ _ x y => leS_anti x y) h1 h2 hp
theorem ltCps_eq : ∀ a b : List Nat, ltCps a b = decide (a < b)
  | [], [] => by simp [ltCps]
  | [], _ :: _ => by simp [ltCps]
  | _ :: _, [] => by simp [ltCps]
  | a :: r, b :: t => by
    rw [ltCps, ltCps_eq r t]
    by_cases h : a < b
    · simp [h, List.cons_lt_cons_iff]
    · by_cases e : a = b
      · simp [e, List.cons_lt_cons_iff]
      · simp [h, e, List.cons_lt_cons_iff]
theorem rising_pairwise : ∀ (l : List Str) (p : Str), risingS p l = true → (p :: l).Pairwise fun a b => leS a b = true
  | [], p, _ => List.pairwise_singleton _ _
  | x :: r, p, h => by
    have h := Bool.and_eq_true_iff.mp (show (!ltCps x.cps.toList p.cps.toList && risingS x r) = true from h)
    have ih := rising_pairwise r x h.2
    have hpx : leS p x = true := by
      have z := h.1
      rw [ltCps_eq, Bool.not_eq_true', decide_eq_false_iff_not] at z
      exact decide_eq_true (List.not_lt.mp z)
    refine List.pairwise_cons.mpr ⟨fun y hy => ?_, ih⟩
    rcases List.mem_cons.mp hy with rfl | hy
    · exact hpx
    · exact leS_trans _ _ _ hpx ((List.pairwise_cons.mp ih).1 y hy)
theorem sortedS_pairwise {l : List Str} (h : sortedS l = true) : l.Pairwise fun a b => leS a b = true := by
  cases l with
  | nil => exact List.Pairwise.nil
  | cons x r => exact rising_pairwise r x h
theorem sortedV_strs {ns ns' : List Str} (hp : ns'.Perm ns) (hs : ns.Pairwise fun a b => leS a b = true) : sortedV (ns'.map fun x => (V.str x, PyData.str x)) = ns.map V.str := by
  unfold sortedV
  rw [← List.map_mergeSort (r := leS) (fun a _ b _ => ?_), List.map_map]
  · rw [uniq_leS (l1 := ns'.mergeSort leS) (l2 := ns) ((List.mergeSort_perm _ _).trans hp) (List.pairwise_mergeSort leS_trans leS_total _) hs]
    rfl
  · show leS a b = PySem.W.dataLe false (fun q : V × PyData => q.2) (V.str a, PyData.str a) (V.str b, PyData.str b)
    rw [PySem.W.dataLe_eq]
    show leS a b = !PySem.W.dataLt (.str b) (.str a)
    rw [PySem.W.dataLt_str, PySem.W.not_lt_str]
    rfl
theorem sortP_strs {K : PySem.W.Frag} {H : Hp} {ns : List Str} : SortP K H (ns.map V.str) (ns.map fun x => (V.str x, PyData.str x)) := by
  refine ⟨by rw [List.map_map]; rfl, fun q hq => ?_, fun q hq => ?_, ?_, .inr fun d hd => ?_⟩
  · obtain ⟨x, _, rfl⟩ := List.mem_map.mp hq
    exact .str x
  · obtain ⟨x, _, rfl⟩ := List.mem_map.mp hq
    rfl
  · rw [List.map_map]
    intro d hd d' hd'
    obtain ⟨x, _, rfl⟩ := List.mem_map.mp hd
    obtain ⟨y, _, rfl⟩ := List.mem_map.mp hd'
    rfl
  · rw [List.map_map] at hd
    obtain ⟨x, _, rfl⟩ := List.mem_map.mp hd
    exact ⟨fun z => (nomatch z), fun xs z => nomatch z⟩
end Mi

set_option Elab.async false
set_option linter.all false
set_option maxRecDepth 100000
set_option maxHeartbeats 2000000
namespace Mi
open PySem PySem.Spec PyProof.Rows L2
/-! ### told otherwise -/
def Plain : HO → Prop
  | .lst _ => True
  | .ext _ => True
  | _ => False
section
variable {X : Cx} {pins : List (Addr × Obj)} {σ : L2.St} {H : Hp} {s : Shared} {p : Addr}
theorem recast {o o' : HO} (I : Inv X pins σ H s) (hp : H p = some o) (n1 : Plain o) (n2 : Plain o') (ok : ObjOk X.prog X.w (upd H p o') s.heap p o') : Inv X pins σ (upd H p o') s := by
  have nf : ∀ b u, H b = some u → ¬ Plain u → b ≠ p := fun b u e n z => by
    rw [z, hp] at e
    rw [← Option.some.inj e] at n
    exact n n1
  refine I.step (h' := s.heap) (g' := s.gens) (d' := s.drawn) (t' := s.toks) (ch := []) (fun b hb => absurd hb (by simp)) (fun b o _ _ _ q _ => q) (fun b o _ _ _ q _ => ⟨o.slots, q⟩) (fun b u _ _ n => ?_) (fun b o _ q => ⟨o, q⟩)
    (fun b xs q => ?_) (fun b o u q => ?_) (fun b ps q => ⟨#[], ?_⟩) (fun m hm => hm) (fun b u q => ?_) I.bare
  · by_cases z : b = p
    · rw [z, hp] at n
      cases n
    · rw [upd_ne z]
      exact n
  · rw [upd_ne (nf b _ q fun z => z)]
    exact q
  · rw [upd_ne (nf b _ q fun z => z)]
    exact q
  · rw [upd_ne (nf b _ q fun z => z), q]
    simp
  · by_cases hb : b = p
    · rw [hb, upd_same] at q
      cases q
      rw [hb]
      exact ok
    · rw [upd_ne hb] at q
      exact (I.hok b u q).stay (fun _ _ _ y => y) (fun d y => by rw [upd_ne (nf d _ y fun z => z)]; exact y) fun d xs y => by rw [upd_ne (nf d _ y fun z => z)]; exact y
end
/-! ### the law's dice: a list of three ints, whatever they are -/
abbrev DiceO (p : Addr) : HO := .ext fun h => ∃ (its : List Value) (x y z : Int) (n : Nat), Vals [.int x, .int y, .int z] its ∧ h.get? p = some { cls := .type "list", data := .seq its.toArray n }
theorem upd_back {H : Hp} {p : Addr} {o : HO} (h : H p = some o) : upd H p o = H := by
  funext b
  by_cases z : b = p
  · rw [z, upd_same, h]
  · rw [upd_ne z]
section
variable {X : Cx} {pins : List (Addr × Obj)} {σ : L2.St} {H : Hp} {s : Shared} {p : Addr}
theorem dice_open (I : Inv X pins σ H s) (hp : H p = some (DiceO p)) : ∃ x y z, Inv X pins σ (upd H p (.lst [.int x, .int y, .int z])) s := by
  obtain ⟨⟨its, x, y, z, n, rv, ho⟩, _, _⟩ := I.hok p _ hp
  exact ⟨x, y, z, recast I hp True.intro True.intro ⟨by show 3 ≤ sizeLine; decide, its, n, rv, ho⟩⟩
theorem dice_shut {x y z : Int} (I : Inv X pins σ H s) (hp : H p = some (.lst [.int x, .int y, .int z])) : Inv X pins σ (upd H p (DiceO p)) s := by
  obtain ⟨_, its, n, rv, ho⟩ := I.hok p _ hp
  exact recast I hp True.intro True.intro ⟨⟨its, x, y, z, n, rv, ho⟩, ⟨_, ho⟩, fun h1 h2 ⟨its, x, y, z, n, rv, h⟩ k => ⟨its, x, y, z, n, rv, k _ h⟩⟩
end
def spDice [Lw] : Sp := fun vs H Q _ => ∃ c : Int, vs = [.int c] ∧ ∀ (p : Addr) (x y z : Int) (H' : Hp), H p = none → Mv H H' → H' p = some (.lst [.int x, .int y, .int z]) → Q (.ref p) H'
def spRoll : Sp := fun vs H Q _ => ∃ (p : Addr) (n x y z : Int), vs = [.ref p, .int n] ∧ H p = some (.lst [.int x, .int y, .int z]) ∧ 0 < n ∧ n ≤ 100000000 ∧ ∀ k x' y' z' : Int, 0 ≤ k → k < n → Q (.int k) (upd H p (.lst [.int x', .int y', .int z']))
def tSeal (t : TE) : TE := fun σ H Q => t σ H fun v H1 => ∃ p x y z, v = .ref p ∧ H1 p = some (.lst [.int x, .int y, .int z]) ∧ Q v (upd H1 p (DiceO p))
def tRoll (t : TA) : TE := fun σ H Q => t σ H fun vs H1 => ∃ (p : Addr) (n : Int), vs = [.ref p, .int n] ∧ H1 p = some (DiceO p) ∧ (0 < n ∧ n ≤ 100000000) ∧ ∀ k : Int, 0 ≤ k → k < n → Q (.int k) H1
section
variable {X : Cx} {k : Nat} {f : Addr} {fd : FuncData} {ps : List Str} {x : Str} {p pos : Pos} {e : Expr} {es : List Expr} {t : TA} {te : TE}
theorem pe_seal (h : PE X e te) : PE X e (tSeal te) := by
  refine ⟨fun pins s σ H Q I hw => thn (h.run pins s σ H _ I hw) fun u s1 ⟨v, H1, I1, r1, p, x, y, z, e1, e2, q⟩ => ?_⟩
  exact ⟨v, _, dice_shut I1 e2, r1, q⟩
theorem pe_roll (C : Cal X.prog X.w X.K X.mg X.base CX0 k x f fd ps spRoll) (hr : Room k X.A) (hg : Gl X x) (ha : PA X (e :: es) t) (hdb : (x == ("__debug__" : Str)) = false := by decide) (he : starEach (e :: es) X.env = (false, eval e X.env) :: starEach es X.env := by rfl) (hpl : (backTo pos (starEach es X.env)).any (·.1) = false := by rfl) :
    PE X (.Call (.Name x p) (e :: es) [] pos) (tRoll t) := by
  refine ⟨fun pins s σ H Q I h => ?_⟩
  refine wpAny_Call_Name_kw (ld_glob I hg C.m ?_ hdb)
  refine PySem.W.callWith_K (h₀ := X.base) I.ok.mod.kin C.kp (thn (ha.run pos pins s σ H _ I h) fun us s1 hh => ?_) he hpl
  obtain ⟨vs, H1, I1, r1, p, n, rfl, hp, h0, q⟩ := hh
  refine ⟨I1.kIn, ?_⟩
  obtain ⟨x, y, z, J⟩ := dice_open I1 hp
  refine thn (run_fn (Q := fun v H' => ∃ k x' y' z' : Int, v = .int k ∧ 0 ≤ k ∧ k < n ∧ H' = upd (upd H1 p (.lst [.int x, .int y, .int z])) p (.lst [.int x', .int y', .int z'])) (E := fun _ _ _ => False) C.ok hr C.b .nil pass0 J r1 ?_) fun u s' ⟨v, H', J', rv, k, x', y', z', ev, k0, k1, eH⟩ => ?_
  · exact ⟨p, n, x, y, z, rfl, upd_same, h0.1, h0.2, fun k x' y' z' k0 k1 => ⟨k, x', y', z', rfl, k0, k1, rfl⟩⟩
  · rw [eH, upd_upd] at J'
    have J2 := dice_shut J' upd_same
    rw [upd_upd, upd_back hp] at J2
    rw [ev] at rv
    exact ⟨.int k, H1, J2, rv, q k k0 k1⟩
end
section
variable {σ : L2.St} {H : Hp} {Q : VK} {tA : TA} {te : TE} {v : V}
theorem s_seal (h : te σ H fun v H1 => ∃ p x y z, v = .ref p ∧ H1 p = some (.lst [.int x, .int y, .int z]) ∧ Q v (upd H1 p (DiceO p))) : tSeal te σ H Q := h
theorem s_rollE (h : tA σ H fun vs H1 => ∃ (p : Addr) (n : Int), vs = [.ref p, .int n] ∧ H1 p = some (DiceO p) ∧ (0 < n ∧ n ≤ 100000000) ∧ ∀ k : Int, 0 ≤ k → k < n → Q (.int k) H1) : tRoll tA σ H Q := h
theorem s_roll {p : Addr} {n : Int} {R : Int → Prop} (h1 : H p = some (DiceO p)) (h2 : 0 < n ∧ n ≤ 100000000) (h : ∀ k : Int, 0 ≤ k → k < n → R k) : ∃ (p' : Addr) (n' : Int), [V.ref p, V.int n] = [.ref p', .int n'] ∧ H p' = some (DiceO p') ∧ (0 < n' ∧ n' ≤ 100000000) ∧ ∀ k : Int, 0 ≤ k → k < n' → R k := ⟨p, n, rfl, h1, h2, h⟩
theorem s_gSub {to ti : TE} {t : TSet} {N : L2.St → Hp → Prop} (h : to σ H fun o H1 => ti σ H1 fun i H2 => t o i v H2 fun H3 => N σ H3) : gSub to ti t v σ H N := h
theorem s_setL {p : Addr} {xs : List V} {k : Int} {j : Nat} {N : Hp → Prop} (h1 : H p = some (.lst xs)) (h2 : ixN xs.length k = some j) (h : N (upd H p (.lst (xs.set j v)))) : rSetL (.ref p) (.int k) v H N := ⟨p, xs, k, j, rfl, rfl, h1, h2, h⟩
end
end Mi

set_option Elab.async false
set_option linter.all false
set_option maxRecDepth 100000
set_option maxHeartbeats 2000000
namespace Mi
open PySem PySem.Spec PyProof.Rows L2
/-! ### rows of keys -/
theorem putK_new {κ : Type} [DecidableEq κ] {kvs : List (κ × V)} {k : κ} {v : V} (h : ∀ q ∈ kvs, q.1 ≠ k) : putK kvs k v = kvs ++ [(k, v)] := by
  unfold putK
  rw [if_neg]
  intro z
  obtain ⟨q, h1, h2⟩ := List.any_eq_true.mp z
  exact h q h1 (of_decide_eq_true h2)
theorem paired_get {α β : Type} {R : α → β → Prop} : ∀ {xs : List α} {ys : List β}, xs.length = ys.length → (∀ (i : Nat) (x : α) (y : β), xs[i]? = some x → ys[i]? = some y → R x y) → Paired R xs ys
  | [], [], _, _ => .nil
  | [], _ :: _, h, _ => by simp at h
  | _ :: _, [], h, _ => by simp at h
  | x :: xs, y :: ys, h, hr => .cons (hr 0 x y rfl rfl) (paired_get (by simpa using h) fun i a b e1 e2 => hr (i + 1) a b e1 e2)
theorem valV_get {kvs : List (Key × V)} (h : (kvs.map (·.1)).Nodup) : ∀ {i : Nat} {q : Key × V}, kvs[i]? = some q → valV kvs q.1 = some q.2 := by
  induction kvs with
  | nil => intro i q e; simp at e
  | cons p r ih =>
    intro i q e
    rw [List.map_cons, List.nodup_cons] at h
    cases i with
    | zero =>
      cases e
      exact valV_pos rfl
    | succ i =>
      rw [List.getElem?_cons_succ] at e
      have hne : p.1 ≠ q.1 := fun z => h.1 (z ▸ List.mem_map.mpr ⟨q, get_mem e, rfl⟩)
      have := ih h.2 e
      unfold valV at this ⊢
      rw [List.find?_cons_of_neg (by simpa using hne)]
      exact this
theorem lookup_get {α : Type} {kvs : List (Str × α)} (h : (kvs.map (·.1)).Nodup) : ∀ {i : Nat} {q : Str × α}, kvs[i]? = some q → kvs.lookup q.1 = some q.2 := by
  induction kvs with
  | nil => intro i q e; simp at e
  | cons p r ih =>
    intro i q e
    rw [List.map_cons, List.nodup_cons] at h
    obtain ⟨k, v⟩ := p
    cases i with
    | zero =>
      cases e
      simp [List.lookup]
    | succ i =>
      rw [List.getElem?_cons_succ] at e
      have hne : q.1 ≠ k := fun z => h.1 (z ▸ List.mem_map.mpr ⟨q, get_mem e, rfl⟩)
      have hb : (q.1 == k) = false := by simpa using hne
      rw [List.lookup_cons, hb]
      exact ih h.2 e
def rDictPK (K : PySem.W.Frag) : List V → Hp → VK → Prop := fun xs H Q => ∃ (a : Addr) (ps : List Addr) (kvs : List (Key × V)), xs = [.ref a] ∧ SqL K H a (ps.map V.ref) ∧ Paired (fun p kv => SqT K H p [kV kv.1, kv.2]) ps kvs ∧ ∀ p, H p = none → Q (.ref p) (upd H p (.dK (mergeK [] kvs)))
def rSortedDK : List V → Hp → VK → Prop := fun xs H Q => ∃ (a : Addr) (kvs : List (Key × V)) (ks : List Str), xs = [.ref a] ∧ Rd H a (.dK kvs) ∧ kvs.map (·.1) = ks.map Sum.inr ∧ ks.length < 64 ∧ ∀ ys p, ys.Perm ks → sortedS ys = true → H p = none → Q (.ref p) (upd H p (.lst (ys.map V.str)))
theorem call_dictPK {X : Cx} {K : PySem.W.Frag} (h : X.K = K) (hc : X.calm = true) : CallR X (.type "dict") (rDictPK K) := by subst h; exact call_dictP hc
theorem call_sortedDK {X : Cx} (hc : X.calm = true) : CallR X (.builtin "sorted") rSortedDK := call_sortedD hc
section
variable [Lw] {K : PySem.W.Frag} {H : Hp} {Q : VK}
theorem s_dictP {a : Addr} {ps : List Addr} {kvs : List (Key × V)} (h1 : SqL K H a (ps.map V.ref)) (h2 : Paired (fun p kv => SqT K H p [kV kv.1, kv.2]) ps kvs) (h3 : (kvs.map (·.1)).Nodup) (h : ∀ p, H p = none → Q (.ref p) (upd H p (.dK kvs))) :
    rDictPK K [V.ref a] H Q := by
  have e : ∀ (l acc : List (Key × V)), ((acc ++ l).map (·.1)).Nodup → mergeK acc l = acc ++ l := by
    intro l
    induction l with
    | nil => intro acc _; rw [List.append_nil]; rfl
    | cons q l ih =>
      intro acc hn
      show mergeK (putK acc q.1 q.2) l = _
      have hn2 := hn
      rw [List.map_append, List.map_cons] at hn2
      have hd := (List.nodup_append.mp hn2).2.2
      rw [putK_new fun r hr z => hd r.1 (List.mem_map.mpr ⟨r, hr, rfl⟩) q.1 List.mem_cons_self z]
      rw [ih (acc ++ [(q.1, q.2)]) (by rw [List.append_assoc]; exact hn), List.append_assoc]
      rfl
  refine ⟨a, ps, kvs, rfl, h1, h2, fun p hp => ?_⟩
  rw [e kvs [] h3]
  exact h p hp
theorem s_sortedD {a : Addr} {kvs : List (Key × V)} {ks : List Str} (h1 : Rd H a (.dK kvs)) (h2 : kvs.map (·.1) = ks.map Sum.inr) (h3 : ks.length < 64) (h4 : ks.Pairwise fun a b => leS a b = true) (h : ∀ p, H p = none → Q (.ref p) (upd H p (.lst (ks.map V.str)))) :
    rSortedDK [V.ref a] H Q := by
  refine ⟨a, kvs, ks, rfl, h1, h2, h3, fun ys p hp hs hn => ?_⟩
  rw [uniq_leS hp (sortedS_pairwise hs) h4]
  exact h p hn
theorem s_maxI {a : Addr} {ns : List Int} {M : Int} (h1 : SqL K H a (ns.map V.int)) (h2 : M ∈ ns) (h3 : ∀ y ∈ ns, y ≤ M) (h : Q (.int M) H) : rMax K [.ref a] H Q := by
  refine ⟨a, ns, rfl, h1, List.length_pos_of_mem h2, fun m hm hall => ?_⟩
  have : m = M := Int.le_antisymm (h3 m hm) (hall M h2)
  rw [this]
  exact h
theorem s_indexI {a : Addr} {ns : List Int} {M : Int} {j : Nat} (h1 : SqL K H a (ns.map V.int)) (h2 : ns[j]? = some M) (h3 : ∀ (m : Nat) (z : Int), m < j → ns[m]? = some z → z < M) (h : Q (.int (j : Nat)) H) : rIndex K (.ref a) [.int M] H Q := by
  refine ⟨a, ns.map V.int, .int M, j, .int M, rfl, rfl, h1, rfl, ?_, by rw [List.getElem?_map, h2]; rfl, ?_, fun m z' hm hz => ?_, h⟩
  · rw [List.all_eq_true]
    intro x hx
    obtain ⟨i, _, rfl⟩ := List.mem_map.mp hx
    rfl
  · simp [eqV]
  · obtain ⟨i, hi, rfl⟩ := map_get hz
    have := h3 m i hm hi
    simp [eqV]
    omega
end
end Mi

set_option Elab.async false
set_option linter.all false
set_option maxRecDepth 100000
set_option maxHeartbeats 2000000
namespace K4
open PySem PySem.Spec PyProof.Rows L2 Mi
local macro_rules | `(tactic| walk_at "look") => `(tactic| first
  | with_reducible assumption
  | (with_reducible exact upd_same)
  | ((with_reducible apply SqL.of); first | with_reducible assumption | with_reducible exact upd_same)
  | ((with_reducible apply SqT.of); with_reducible assumption)
  | ((with_reducible apply Mv.sqL); (case' m => with_reducible assumption); walk_at "look")
  | ((with_reducible apply Mv.sqT); (case' m => with_reducible assumption); walk_at "look")
  | ((with_reducible apply Mv.lst); (case' m => with_reducible assumption); walk_at "look")
  | ((with_reducible apply Mv.tup); (case' m => with_reducible assumption); walk_at "look")
  | ((with_reducible apply Mv.ins); (case' m => with_reducible assumption); walk_at "look")
  | ((with_reducible apply Mv.dK); (case' m => with_reducible assumption); walk_at "look")
  | ((with_reducible apply Mv.exx); (case' m => with_reducible assumption); walk_at "look")
  | ((with_reducible apply Mv.dp); (case' m => with_reducible assumption); walk_at "look")
  | ((with_reducible apply Mv.dget); (case' m => with_reducible assumption); walk_at "look")
  | ((with_reducible apply Lk.dget); (case' m => with_reducible assumption); walk_at "look")
  | ((with_reducible apply Nl.dget); (case' m => with_reducible assumption); walk_at "look")
  | ((with_reducible apply Mv.frz); (case' m => with_reducible assumption); walk_at "look")
  | ((with_reducible apply Nl.sqT); (case' m => with_reducible assumption); walk_at "look")
  | ((with_reducible apply Nl.tup); (case' m => with_reducible assumption); walk_at "look")
  | ((with_reducible apply Nl.ins); (case' m => with_reducible assumption); walk_at "look")
  | ((with_reducible apply Nl.exx); (case' m => with_reducible assumption); walk_at "look")
  | ((with_reducible apply Nd.sqL); (case' m => with_reducible assumption); walk_at "look")
  | ((with_reducible apply Nd.sqT); (case' m => with_reducible assumption); walk_at "look")
  | ((with_reducible apply Nd.lst); (case' m => with_reducible assumption); walk_at "look")
  | ((with_reducible apply Nd.tup); (case' m => with_reducible assumption); walk_at "look")
  | ((with_reducible apply Nd.ins); (case' m => with_reducible assumption); walk_at "look")
  | ((with_reducible apply Nd.exx); (case' m => with_reducible assumption); walk_at "look")
  | ((with_reducible apply Lk.sqL); (case' m => with_reducible assumption); walk_at "look")
  | ((with_reducible apply Lk.sqT); (case' m => with_reducible assumption); walk_at "look")
  | ((with_reducible apply Lk.lst); (case' m => with_reducible assumption); walk_at "look")
  | ((with_reducible apply Lk.tup); (case' m => with_reducible assumption); walk_at "look")
  | ((with_reducible apply Lk.ins); (case' m => with_reducible assumption); walk_at "look")
  | ((with_reducible apply Lk.exx); (case' m => with_reducible assumption); walk_at "look")
  | ((with_reducible apply Lk.dp); (case' m => with_reducible assumption); walk_at "look"))
local macro_rules | `(tactic| walk_at "s") => `(tactic| first
  | with_reducible apply s_seq
  | with_reducible apply s_gCons
  | with_reducible apply s_gNil
  | ((with_reducible apply s_gTup); (case' h1 => walk_at "look"); (case' h2 => exact rfl))
  | with_reducible apply s_asg
  | with_reducible apply s_dgetE
  | ((with_reducible apply s_dget); (case' h1 => walk_at "look"))
  | ((with_reducible apply s_I); (case' hc => first | exact ⟨by omega, by omega⟩ | exact .inl ⟨by omega, by omega⟩ | exact .inr ⟨by omega, by omega⟩ | (show (_ : Int) < _; omega) | (show (_ : Int) ≠ _; omega)))
  | with_reducible apply s_mm
  | with_reducible apply s_makeE
  | ((with_reducible apply s_lenKL); (case' h1 => walk_at "look"))
  | ((with_reducible apply s_lenKT); (case' h1 => walk_at "look"))
  | ((with_reducible apply s_listKL); (case' h1 => walk_at "look"))
  | ((with_reducible apply s_listKT); (case' h1 => walk_at "look"))
  | ((with_reducible apply s_tupKL); (case' h1 => walk_at "look"))
  | ((with_reducible apply s_tupKT); (case' h1 => walk_at "look"))
  | with_reducible apply s_revE
  | ((with_reducible apply s_rev); (case' h1 => walk_at "look"))
  | with_reducible apply s_iE
  | ((with_reducible apply s_iE2); (case' h1 => walk_at "look"); intro J w)
  | ((with_reducible apply s_catA); (case' h1 => walk_at "look"); (case' h2 => walk_at "look"); (case' hz => (first | decide | (simp; done) | (simp; omega))); intro p H1 mv hp)
  | ((with_reducible apply s_slA); (case' h1 => walk_at "look"); intro p H1 mv hp)
  | ((with_reducible apply s_tupOfL); (case' h1 => walk_at "look"))
  | ((with_reducible apply s_tupOfT); (case' h1 => walk_at "look"))
  | with_reducible apply s_sFld
  | ((with_reducible apply s_sFld2); (case' h1 => walk_at "look"); (case' h2 => assumption); (case' h3 => assumption); (case' h4 => exact of_decide_eq_true rfl); (try rw [upd_upd]))
  | with_reducible apply s_seal
  | ((with_reducible apply s_wipe); (case' h1 => exact rfl))
  | ((with_reducible apply s_slL); (case' h1 => walk_at "look"))
  | with_reducible apply s_ifTT
  | with_reducible apply s_ifFF
  | with_reducible apply s_rollE
  | ((with_reducible apply s_roll); (case' h1 => walk_at "look"); (case' h2 => exact ⟨by omega, by omega⟩); intro k k0 k1)
  | with_reducible apply s_gSub
  | ((with_reducible apply s_setL); (case' h1 => walk_at "look"); (case' h2 => exact rfl))
  | with_reducible apply s_ab
  | with_reducible apply s_in1
  | with_reducible apply s_in2
  | ((with_reducible apply s_lsL); (case' h1 => walk_at "look"))
  | ((with_reducible apply s_lsT); (case' h1 => walk_at "look"))
  | ((with_reducible apply s_tyL); (case' h1 => walk_at "look"))
  | with_reducible apply s_for
  | with_reducible apply s_lc
  | with_reducible apply s_dc
  | with_reducible apply s_gn
  | with_reducible apply s_yes
  | with_reducible apply s_iL
  | with_reducible apply s_iT
  | with_reducible apply s_iR1
  | with_reducible apply s_iR2
  | with_reducible apply s_iK
  | ((with_reducible apply s_iL2); (case' h1 => walk_at "look"); intro J w)
  | ((with_reducible apply s_iT2); (case' h1 => walk_at "look"); intro J w)
  | ((with_reducible apply s_iR12); (case' h1 => omega); intro J w)
  | ((with_reducible apply s_iR22); (case' h1 => omega); intro J w)
  | ((with_reducible apply s_iK2); (case' h1 => walk_at "look"); intro J w)
  | with_reducible apply s_gN
  | ((with_reducible apply s_var); (case' h1 => exact rfl))
  | with_reducible apply s_c
  | with_reducible apply s_op
  | with_reducible apply s_cons
  | with_reducible apply s_nil
  | with_reducible apply s_ret
  | with_reducible apply s_ifS
  | with_reducible apply s_test
  | with_reducible apply s_B
  | with_reducible apply s_exbl
  | with_reducible apply s_exint
  | with_reducible apply s_I0
  | ((with_reducible apply s_Eq); (case' hs => exact rfl))
  | ((with_reducible apply s_Ne); (case' hs => exact rfl))
  | with_reducible apply s_un
  | with_reducible apply s_U
  | with_reducible apply s_cb
  | with_reducible apply s_call
  | with_reducible apply s_next
  | with_reducible apply s_drop
  | with_reducible apply s_break
  | with_reducible apply s_cont
  | with_reducible apply s_retN
  | with_reducible apply s_par
  | with_reducible apply s_par2
  | with_reducible apply s_par3
  | with_reducible apply s_par33
  | ((with_reducible apply s_aug); (case' h1 => exact rfl))
  | with_reducible apply s_and
  | with_reducible apply s_or
  | with_reducible apply s_not
  | with_reducible apply s_andV
  | with_reducible apply s_orV
  | with_reducible apply s_notV
  | with_reducible apply s_ifE
  | with_reducible apply s_isN
  | with_reducible apply s_chain
  | with_reducible apply s_sl
  | with_reducible apply s_noP
  | with_reducible apply s_part
  | with_reducible apply s_bm
  | with_reducible apply s_bm0
  | with_reducible apply s_tup
  | with_reducible apply s_lst
  | with_reducible apply s_fldE
  | ((with_reducible apply s_fld); (case' h1 => walk_at "look"); (case' h2 => assumption); (case' h3 => assumption); (case' h4 => exact rfl))
  | ((with_reducible apply s_ixL); (case' h1 => walk_at "look"); (case' h2 => exact rfl))
  | ((with_reducible apply s_ixT); (case' h1 => walk_at "look"); (case' h2 => exact rfl))
  | ((with_reducible apply s_lenL); (case' h1 => walk_at "look"))
  | ((with_reducible apply s_mk0); (case' hz => first | decide | (simp only [List.length_cons, List.length_nil]; decide)))
  | ((with_reducible refine s_all fun p hn => ?_); generalize hg : upd _ _ _ = H1; obtain ⟨mv, hp⟩ := gen_upd hg hn; clear hg))
local macro_rules | `(tactic| walk_at "mv") => `(tactic| first
  | with_reducible assumption
  | exact Mv.refl _
  | (refine Mv.trans ?_ (by with_reducible assumption); walk_at "mv"))
local macro_rules | `(tactic| walk_at "ss") => `(tactic| repeat walk_at "s")
local macro_rules | `(tactic| walk_at "k0") => `(tactic| try dsimp only [L2.cxOf, Cx.nox, Cx.wish, Cx.blk, genCx])

def topS (i : Nat) : Stmt := PySem.Challenge.pw_millstack_k04_orders_of_jobs_that_are_du.main.body.getD i (.Pass ⟨0, 0, 0, 0⟩)
def clsS (i j : Nat) : Stmt := (clsBody (topS i)).getD j (.Pass ⟨0, 0, 0, 0⟩)
abbrev s_Job___init__ : Stmt := clsS 6 0
abbrev n_Job___init__ : List Str := ["self", "name", "owner", "pounds", "first", "due"]
theorem sc_Job___init__ : FnScope n_Job___init__ ["self", "name", "owner", "pounds", "first", "due"] (defScope s_Job___init__) := ⟨rfl, rfl, rfl, by decide +kernel, rfl, by decide +kernel, by decide +kernel⟩

abbrev s_bread_price : Stmt := topS 11
abbrev n_bread_price : List Str := ["pence", "cost", "loaves"]
theorem sc_bread_price : FnScope n_bread_price ["pence", "cost", "loaves"] (defScope s_bread_price) := ⟨rfl, rfl, rfl, by decide +kernel, rfl, by decide +kernel, by decide +kernel⟩

abbrev s_in_time : Stmt := topS 8
abbrev n_in_time : List Str := ["jobs", "names", "pounds", "found", "ground", "name"]
theorem sc_in_time : FnScope n_in_time ["jobs", "names", "pounds"] (defScope s_in_time) := ⟨rfl, rfl, rfl, by decide +kernel, rfl, by decide +kernel, by decide +kernel⟩

abbrev s_orders_of : Stmt := topS 9
abbrev n_orders_of : List Str := ["names", "found", "place", "name", "rest"]
theorem sc_orders_of : FnScope n_orders_of ["names"] (defScope s_orders_of) := ⟨rfl, rfl, rfl, by decide +kernel, rfl, by decide +kernel, by decide +kernel⟩

abbrev s_best_order : Stmt := topS 7
abbrev n_best_order : List Str := ["jobs", "pounds", "best", "names", "found", "job"]
theorem sc_best_order : FnScope n_best_order ["jobs", "pounds"] (defScope s_best_order) := ⟨rfl, rfl, rfl, by decide +kernel, rfl, by decide +kernel, by decide +kernel⟩

abbrev s__law_dice : Stmt := topS 13
abbrev n__law_dice : List Str := ["cell"]
theorem sc__law_dice : FnScope n__law_dice ["cell"] (defScope s__law_dice) := ⟨rfl, rfl, rfl, by decide +kernel, rfl, by decide +kernel, by decide +kernel⟩

abbrev s__law_roll : Stmt := topS 14
abbrev n__law_roll : List Str := ["dice", "many", "found"]
theorem sc__law_roll : FnScope n__law_roll ["dice", "many"] (defScope s__law_roll) := ⟨rfl, rfl, rfl, by decide +kernel, rfl, by decide +kernel, by decide +kernel⟩

abbrev s__law_rounds : Stmt := topS 15
abbrev n__law_rounds : List Str := ["script", "most", "cells", "cell"]
theorem sc__law_rounds : FnScope n__law_rounds ["script", "most"] (defScope s__law_rounds) := ⟨rfl, rfl, rfl, by decide +kernel, rfl, by decide +kernel, by decide +kernel⟩

abbrev s__law_orders : Stmt := topS 17
abbrev n__law_orders : List Str := ["names", "found", "name", "one", "rest"]
theorem sc__law_orders : FnScope n__law_orders ["names"] (defScope s__law_orders) := ⟨rfl, rfl, rfl, by decide +kernel, rfl, by decide +kernel, by decide +kernel⟩

abbrev s__law_worth : Stmt := topS 18
abbrev n__law_worth : List Str := ["jobs", "names", "pounds", "day", "room", "found", "name", "left", "part"]
theorem sc__law_worth : FnScope n__law_worth ["jobs", "names", "pounds"] (defScope s__law_worth) := ⟨rfl, rfl, rfl, by decide +kernel, rfl, by decide +kernel, by decide +kernel⟩

/-! ### what the head tells -/
def fa4 : List He.Fa := [.glo "MillError", .glo "WorkError", .glo "BookError", .glo "Job", .glo "best_order", .glo "in_time", .glo "orders_of", .glo "bread_price", .glo "_law_dice", .glo "_law_roll", .glo "_law_rounds", .glo "_law_told", .glo "_law_orders", .glo "_law_worth", .glo "law",
  .free "range", .free "len", .free "abs", .free "min", .free "max", .free "int", .free "str", .free "list", .free "tuple", .free "dict", .free "sorted", .free "enumerate", .int "MOST_JOBS" 8,
  .cls "Job", .noat "Job" "name", .noat "Job" "owner", .noat "Job" "pounds", .noat "Job" "first", .noat "Job" "due", .mkr "Job", .exc "WorkError", .exc "BookError", .exm "WorkError" "MillError" true, .exm "BookError" "MillError" true, .keep "_law_told"]
def dF (x : Str) (st : Stmt) : He.DefD := ⟨(x, none), x, x, defArgs st, defBody st, defScope st, [], []⟩
def dM (C m q : Str) (st : Stmt) : He.DefD := ⟨(C, some m), m, q, defArgs st, defBody st, defScope st, [], []⟩
abbrev s_told : Stmt := topS 16
abbrev s_law : Stmt := topS 19
def fn4 : List He.DefD := [dF "best_order" s_best_order, dF "in_time" s_in_time, dF "orders_of" s_orders_of, dF "bread_price" s_bread_price, dF "_law_dice" s__law_dice, dF "_law_roll" s__law_roll, dF "_law_rounds" s__law_rounds, dF "_law_told" s_told, dF "_law_orders" s__law_orders,
  dF "_law_worth" s__law_worth, dF "law" s_law, dM "Job" "__init__" "Job.__init__" s_Job___init__]
def tf4 : List He.Defn := [("best_order", none), ("law", none)]
abbrev FnP (K : PySem.W.Frag) (x : Str) (st : Stmt) (f : Addr) (fd : FuncData) : Prop := FunD K x x (defArgs st) (defBody st) (defScope st) [] [] f fd
/-! ### the mathematics -/
/-- pounds of jobs done in time, by the program's way -/
def inT (pd : Str → Int × Int) (p : Int) : List Str → Int → Int → Int
  | [], _, f => f
  | n :: ns, g, f => inT pd p ns (g + (pd n).1) (if (g + (pd n).1 - 1) / p ≤ (pd n).2 then f + (pd n).1 else f)
/-- a job as it stands -/
def JobAt (C : Addr) (H : Hp) (v : V) (n o : Str) (q first due : Int) : Prop := ∃ a dx, v = .ref a ∧ H a = some (.ins C dx [("name", .str n), ("owner", .str o), ("pounds", .int q), ("first", .int first), ("due", .int due)])
section
variable [Lw] {P : Program} {w : World} {K : PySem.W.Frag} {mg : Str → Option Value} {base : Heap} {f : Addr} {fd : FuncData} 
theorem JobAt.mv {C : Addr} {H H' : Hp} {v : V} {n o : Str} {q r d : Int} (m : Mv H H') (h : JobAt C H v n o q r d) : JobAt C H' v n o q r d := by
  obtain ⟨a, dx, e, h⟩ := h
  exact ⟨a, dx, e, m.ins h⟩
def spInTime (K : PySem.W.Frag) (C : Addr) : Sp := fun vs H Q _ => ∃ (d t : Addr) (p : Int) (ns : List Str) (pd : Str → Int × Int), vs = [.ref d, .ref t, .int p] ∧ 0 < p ∧ p < 1000 ∧ SqT K H t (ns.map V.str) ∧
  (∀ n ∈ ns, ∃ v o r, DGet H d (.str n) (some v) ∧ JobAt C H v n o (pd n).1 r (pd n).2) ∧ ∀ H', Mv H H' → Q (.int (inT pd p ns 0 0)) H'
theorem ok_in_time (T : Sy fa4 fn4 tf4 K mg base) (F : FnP K "in_time" s_in_time f fd) : FnOk P w K mg base CX0 1 f fd ["jobs", "names", "pounds"] (spInTime K (He.ga K "Job")) := by
  refine F.ok sc_in_time (fun vs H Q E h => ?_) (fun cdv A outer s H vs Q E hr h => ⟨_, PSs.nox (pss_cons (ps_asg (pe_tup (pa_cons pe_int (pa_cons pe_int pa_nil))) (pg_tupK (K := K) (n := 2) rfl rfl (pgs_cons (pg_name (i := 3) sc_in_time.nd rfl (.inl rfl)) (pgs_cons (pg_name (i := 4) sc_in_time.nd rfl (.inl rfl)) pgs_nil)))) (pss_cons (ps_for PassesOwn.never rfl (pi_tupK (K := K) rfl (pv 1)) (pg_name (i := 5) sc_in_time.nd rfl (.inl rfl)) (pss_cons (ps_aug (i := 4) sc_in_time.nd rfl (.inl rfl) (pe_fldK (K := K) rfl (pe_dget (Room.u1 hr) (pv 0) (pv 5) (fun _ _ => rfl)) rfl) iop_add) (pss_one (ps_if (pt_cmpR op_le (pe_op op_fdiv (pe_op op_sub (pv 4) pe_int) (pv 2)) (pe_fldK (K := K) rfl (pe_dget (Room.u1 hr) (pv 0) (pv 5) (fun _ _ => rfl)) rfl) (nomark _)) (pss_one (ps_aug (i := 3) sc_in_time.nd rfl (.inl rfl) (pe_fldK (K := K) rfl (pe_dget (Room.u1 hr) (pv 0) (pv 5) (fun _ _ => rfl)) rfl) iop_add)) pss_nil)))) (pss_one (ps_ret (pv 3))))), ?_⟩)
  · obtain ⟨_, _, _, _, _, rfl, _⟩ := h
    rfl
  · obtain ⟨d, t, p, ns, pd, rfl, h0, h1, ht, hd, q⟩ := h
    have cJ := T.cls "Job"
    have nA := T.noat "Job" "pounds"
    have nB := T.noat "Job" "due"
    walk_at "k0"
    walk_at "ss"
    rename_i J w
    refine forE w (by assumption) (fun H' m => m.sqT ht) (fun i σ' H' => ∃ f g x, σ' = [some (.ref d), some (.ref t), some (.int p), some (.int f), some (.int g), x] ∧ inT pd p (ns.drop i) g f = inT pd p ns 0 0) ⟨0, 0, none, rfl, rfl⟩ (fun i y σ' H' hy m hP => ?_) (fun σ' H' m hP => ?_)
    · obtain ⟨f, g, x, rfl, e⟩ := hP
      obtain ⟨n, hn, rfl⟩ := map_get hy
      obtain ⟨v, o, r, hg, a, dx, rfl, ha⟩ := hd n (get_mem hn)
      rw [drop_get hn] at e
      walk_at "ss"
      refine ite_dec (fun hc => ?_) (fun hc => ?_)
      · rw [inT, if_pos hc] at e
        walk_at "ss"
        exact ⟨m, _, _, _, rfl, e⟩
      · rw [inT, if_neg hc] at e
        walk_at "ss"
        exact ⟨m, _, _, _, rfl, e⟩
    · obtain ⟨f, g, x, rfl, e⟩ := hP
      rw [List.length_map, List.drop_length, inT] at e
      walk_at "ss"
      rw [e]
      exact q _ m
/-! ### what an order does, day by day -/
/-- the law's way, by what the program's way tells -/
theorem day_of {g p day room : Int} (hp : 0 < p) (h1 : day * p + (p - room) = g) (h2 : 0 ≤ room) (h3 : room < p) : (g - 1) / p = day := by
  have e : g - 1 = (p - room - 1) + day * p := by omega
  rw [e, Int.add_mul_ediv_right _ _ (by omega), Int.ediv_eq_zero_of_lt (by omega) (by omega)]
  omega
def spWorth (K : PySem.W.Frag) : Sp := fun vs H Q _ => ∃ (d t : Addr) (p : Int) (ns : List Str) (pd : Str → Int × Int), vs = [.ref d, .ref t, .int p] ∧ 0 < p ∧ p < 1000 ∧ SqT K H t (ns.map V.str) ∧
  (∀ n ∈ ns, ∃ a, DGet H d (.str n) (some (.ref a)) ∧ H a = some (.tup [.int (pd n).1, .int (pd n).2]) ∧ 0 < (pd n).1 ∧ (pd n).1 < 1000) ∧ ∀ H', Mv H H' → Q (.int (inT pd p ns 0 0)) H'
theorem ok_worth (T : Sy fa4 fn4 tf4 K mg base) (F : FnP K "_law_worth" s__law_worth f fd) : FnOk P w K mg base CX0 1 f fd ["jobs", "names", "pounds"] (spWorth K) := by
  refine F.ok sc__law_worth (fun vs H Q E h => ?_) (fun cdv A outer s H vs Q E hr h => ⟨_, PSs.nox (pss_cons (ps_par3 (i := 3) (j := 4) (l := 5) (by rfl) sc__law_worth.nd rfl rfl rfl (by decide) (by decide) (by decide) rfl rfl rfl (pa_cons pe_int (pa_cons (pv 2) (pa_cons pe_int pa_nil))) (by rfl)) (pss_cons (ps_for PassesOwn.never rfl (pi_tupK (K := K) rfl (pv 1)) (pg_name (i := 6) sc__law_worth.nd rfl (.inl rfl)) (pss_cons (ps_set (i := 7) sc__law_worth.nd rfl (.inl rfl) (pe_ix (ix_tupK (K := K) rfl) (pe_dget (Room.u1 hr) (pv 0) (pv 6) (fun _ _ => rfl)) pe_int (fun _ _ => rfl))) (pss_cons (ps_while PassesOwn.never (pt_cmpR op_gt (pv 7) pe_int (nomark _)) (pss_cons (ps_if (pt_cmpR op_eq (pv 4) pe_int (nomark _)) (pss_one (ps_par (i := 3) (j := 4) (by rfl) sc__law_worth.nd rfl rfl (by decide) rfl rfl (pa_cons (pe_op op_add (pv 3) pe_int) (pa_cons (pv 2) pa_nil)) (by rfl))) pss_nil) (pss_cons (ps_set (i := 8) sc__law_worth.nd rfl (.inl rfl) (pe_callB (call_min2 rfl) rfl (T.free "min") boot_min (pa_cons (pv 7) (pa_cons (pv 4) pa_nil)))) (pss_one (ps_par (i := 7) (j := 4) (by rfl) sc__law_worth.nd rfl rfl (by decide) rfl rfl (pa_cons (pe_op op_sub (pv 7) (pv 8)) (pa_cons (pe_op op_sub (pv 4) (pv 8)) pa_nil)) (by rfl)))))) (pss_one (ps_set (i := 5) sc__law_worth.nd rfl (.inl rfl) (pe_op op_add (pv 5) (pe_op op_mul (pe_ix (ix_tupK (K := K) rfl) (pe_dget (Room.u1 hr) (pv 0) (pv 6) (fun _ _ => rfl)) pe_int (fun _ _ => rfl)) (pe_callTy call_int1 rfl (T.free "int") boot_int (pa_cons (pe_cmpR op_le (pv 3) (pe_ix (ix_tupK (K := K) rfl) (pe_dget (Room.u1 hr) (pv 0) (pv 6) (fun _ _ => rfl)) pe_int (fun _ _ => rfl)) (nomark _)) pa_nil))))))))) (pss_one (ps_ret (pv 5))))), ?_⟩)
  · obtain ⟨_, _, _, _, _, rfl, _⟩ := h
    rfl
  · obtain ⟨d, t, p, ns, pd, rfl, h0, h1, ht, hd, q⟩ := h
    walk_at "k0"
    walk_at "ss"
    rename_i J w
    refine forE (B := H) w (by walk_at "mv") (fun H' m => m.sqT ht) (fun i σ' H' => ∃ f g day room x y z, σ' = [some (.ref d), some (.ref t), some (.int p), some (.int day), some (.int room), some (.int f), x, y, z] ∧ inT pd p (ns.drop i) g f = inT pd p ns 0 0 ∧ day * p + (p - room) = g ∧ 0 ≤ room ∧ room ≤ p) ⟨0, 0, 0, p, none, none, none, rfl, rfl, by omega, by omega, by omega⟩ (fun i y σ' H' hy m hP => ?_) (fun σ' H' m hP => ?_)
    · obtain ⟨f, g, day, room, x, x1, x2, rfl, e, hg, hr0, hr1⟩ := hP
      obtain ⟨n, hn, rfl⟩ := map_get hy
      obtain ⟨a, hg, ha, hp0, hp1⟩ := hd n (get_mem hn)
      rw [drop_get hn] at e
      walk_at "ss"
      refine whileE (B := H) (by assumption) (fun m σ3 H3 => ∃ day room left x, σ3 = [some (.ref d), some (.ref t), some (.int p), some (.int day), some (.int room), some (.int f), some (.str n), some (.int left), x] ∧ day * p + (p - room) = g + (pd n).1 - left ∧ 0 ≤ room ∧ room ≤ p ∧ 0 ≤ left ∧ (left = 0 → room < p) ∧
        m = 2 * left.toNat + (if room = 0 then 1 else 0)) ⟨_, day, room, (pd n).1, _, rfl, by omega, by omega, by omega, by omega, by omega, rfl⟩ fun m σ3 H3 mv hP => ?_
      obtain ⟨day, room, left, x, rfl, e1, e2, e3, e4, e5, rfl⟩ := hP
      walk_at "ss"
      refine ite_dec (fun hc => ?_) (fun hc => ?_)
      · refine whP ?_
        walk_at "ss"
        refine ite_dec (fun hr => ?_) (fun hr => ?_)
        · have hr : room = 0 := V.int.inj hr
          subst hr
          walk_at "ss"
          refine ⟨mv, _, ?_, _, _, _, _, rfl, ?_, ?_, ?_, ?_, ?_, rfl⟩
          · split <;> split <;> omega
          · have z : (day + 1) * p = day * p + p := by rw [Int.add_mul]; omega
            split <;> omega
          · split <;> omega
          · split <;> omega
          · split <;> omega
          · split <;> omega
        · have hr : ¬ room = 0 := fun z => hr (by rw [z])
          walk_at "ss"
          refine ⟨mv, _, ?_, _, _, _, _, rfl, ?_, ?_, ?_, ?_, ?_, rfl⟩
          · split <;> split <;> omega
          · split <;> omega
          · split <;> omega
          · split <;> omega
          · split <;> omega
          · split <;> omega
      · have z : left = 0 := by omega
        subst z
        have hday := day_of h0 e1 e2 (e5 rfl)
        walk_at "ss"
        refine ⟨mv, _, _, day, room, _, _, _, rfl, ?_, e1, e2, by omega⟩
        rw [inT] at e
        have z : g + (pd n).1 - 0 = g + (pd n).1 := by omega
        rw [z] at hday ⊢
        rw [hday] at e
        rw [← e]
        congr 1
        by_cases hc : day ≤ (pd n).2
        · rw [if_pos hc, if_pos (decide_eq_true hc)]
          omega
        · rw [if_neg hc, if_neg (by rw [decide_eq_false hc]; exact Bool.false_ne_true)]
          omega
    · obtain ⟨f, g, day, room, x, x1, x2, rfl, e, hg, hr0, hr1⟩ := hP
      rw [List.length_map, List.drop_length, inT] at e
      walk_at "ss"
      rw [e]
      exact q _ m
end
end K4

set_option Elab.async false
set_option linter.all false
set_option maxRecDepth 100000
set_option maxHeartbeats 2000000
namespace K4
open PySem PySem.Spec PyProof.Rows L2 Mi
local macro_rules | `(tactic| walk_at "look") => `(tactic| first
  | with_reducible assumption
  | (with_reducible exact upd_same)
  | ((with_reducible apply SqL.of); first | with_reducible assumption | with_reducible exact upd_same)
  | ((with_reducible apply SqT.of); with_reducible assumption)
  | ((with_reducible apply Mv.sqL); (case' m => with_reducible assumption); walk_at "look")
  | ((with_reducible apply Mv.sqT); (case' m => with_reducible assumption); walk_at "look")
  | ((with_reducible apply Mv.lst); (case' m => with_reducible assumption); walk_at "look")
  | ((with_reducible apply Mv.tup); (case' m => with_reducible assumption); walk_at "look")
  | ((with_reducible apply Mv.ins); (case' m => with_reducible assumption); walk_at "look")
  | ((with_reducible apply Mv.dK); (case' m => with_reducible assumption); walk_at "look")
  | ((with_reducible apply Mv.exx); (case' m => with_reducible assumption); walk_at "look")
  | ((with_reducible apply Mv.dp); (case' m => with_reducible assumption); walk_at "look")
  | ((with_reducible apply Mv.dget); (case' m => with_reducible assumption); walk_at "look")
  | ((with_reducible apply Lk.dget); (case' m => with_reducible assumption); walk_at "look")
  | ((with_reducible apply Nl.dget); (case' m => with_reducible assumption); walk_at "look")
  | ((with_reducible apply Mv.frz); (case' m => with_reducible assumption); walk_at "look")
  | ((with_reducible apply Nl.sqT); (case' m => with_reducible assumption); walk_at "look")
  | ((with_reducible apply Nl.tup); (case' m => with_reducible assumption); walk_at "look")
  | ((with_reducible apply Nl.ins); (case' m => with_reducible assumption); walk_at "look")
  | ((with_reducible apply Nl.exx); (case' m => with_reducible assumption); walk_at "look")
  | ((with_reducible apply Nd.sqL); (case' m => with_reducible assumption); walk_at "look")
  | ((with_reducible apply Nd.sqT); (case' m => with_reducible assumption); walk_at "look")
  | ((with_reducible apply Nd.lst); (case' m => with_reducible assumption); walk_at "look")
  | ((with_reducible apply Nd.tup); (case' m => with_reducible assumption); walk_at "look")
  | ((with_reducible apply Nd.ins); (case' m => with_reducible assumption); walk_at "look")
  | ((with_reducible apply Nd.exx); (case' m => with_reducible assumption); walk_at "look")
  | ((with_reducible apply Lk.sqL); (case' m => with_reducible assumption); walk_at "look")
  | ((with_reducible apply Lk.sqT); (case' m => with_reducible assumption); walk_at "look")
  | ((with_reducible apply Lk.lst); (case' m => with_reducible assumption); walk_at "look")
  | ((with_reducible apply Lk.tup); (case' m => with_reducible assumption); walk_at "look")
  | ((with_reducible apply Lk.ins); (case' m => with_reducible assumption); walk_at "look")
  | ((with_reducible apply Lk.exx); (case' m => with_reducible assumption); walk_at "look")
  | ((with_reducible apply Lk.dp); (case' m => with_reducible assumption); walk_at "look"))
local macro_rules | `(tactic| walk_at "s") => `(tactic| first
  | with_reducible apply s_seq
  | with_reducible apply s_gCons
  | with_reducible apply s_gNil
  | ((with_reducible apply s_gTup); (case' h1 => walk_at "look"); (case' h2 => exact rfl))
  | with_reducible apply s_asg
  | with_reducible apply s_dgetE
  | ((with_reducible apply s_dget); (case' h1 => walk_at "look"))
  | ((with_reducible apply s_I); (case' hc => first | exact ⟨by omega, by omega⟩ | exact .inl ⟨by omega, by omega⟩ | exact .inr ⟨by omega, by omega⟩ | (show (_ : Int) < _; omega) | (show (_ : Int) ≠ _; omega)))
  | with_reducible apply s_mm
  | with_reducible apply s_makeE
  | ((with_reducible apply s_lenKL); (case' h1 => walk_at "look"))
  | ((with_reducible apply s_lenKT); (case' h1 => walk_at "look"))
  | ((with_reducible apply s_listKL); (case' h1 => walk_at "look"))
  | ((with_reducible apply s_listKT); (case' h1 => walk_at "look"))
  | ((with_reducible apply s_tupKL); (case' h1 => walk_at "look"))
  | ((with_reducible apply s_tupKT); (case' h1 => walk_at "look"))
  | with_reducible apply s_revE
  | ((with_reducible apply s_rev); (case' h1 => walk_at "look"))
  | with_reducible apply s_iE
  | ((with_reducible apply s_iE2); (case' h1 => walk_at "look"); intro J w)
  | ((with_reducible apply s_catA); (case' h1 => walk_at "look"); (case' h2 => walk_at "look"); (case' hz => (first | decide | (simp; done) | (simp; omega))); intro p H1 mv hp)
  | ((with_reducible apply s_slA); (case' h1 => walk_at "look"); intro p H1 mv hp)
  | ((with_reducible apply s_tupOfL); (case' h1 => walk_at "look"))
  | ((with_reducible apply s_tupOfT); (case' h1 => walk_at "look"))
  | with_reducible apply s_sFld
  | ((with_reducible apply s_sFld2); (case' h1 => walk_at "look"); (case' h2 => assumption); (case' h3 => assumption); (case' h4 => exact of_decide_eq_true rfl); (try rw [upd_upd]))
  | with_reducible apply s_seal
  | ((with_reducible apply s_wipe); (case' h1 => exact rfl))
  | ((with_reducible apply s_slL); (case' h1 => walk_at "look"))
  | with_reducible apply s_ifTT
  | with_reducible apply s_ifFF
  | with_reducible apply s_rollE
  | ((with_reducible apply s_roll); (case' h1 => walk_at "look"); (case' h2 => exact ⟨by omega, by omega⟩); intro k k0 k1)
  | with_reducible apply s_gSub
  | ((with_reducible apply s_setL); (case' h1 => walk_at "look"); (case' h2 => exact rfl))
  | with_reducible apply s_ab
  | with_reducible apply s_in1
  | with_reducible apply s_in2
  | ((with_reducible apply s_lsL); (case' h1 => walk_at "look"))
  | ((with_reducible apply s_lsT); (case' h1 => walk_at "look"))
  | ((with_reducible apply s_tyL); (case' h1 => walk_at "look"))
  | with_reducible apply s_for
  | with_reducible apply s_lc
  | with_reducible apply s_dc
  | with_reducible apply s_gn
  | with_reducible apply s_yes
  | with_reducible apply s_iL
  | with_reducible apply s_iT
  | with_reducible apply s_iR1
  | with_reducible apply s_iR2
  | with_reducible apply s_iK
  | ((with_reducible apply s_iL2); (case' h1 => walk_at "look"); intro J w)
  | ((with_reducible apply s_iT2); (case' h1 => walk_at "look"); intro J w)
  | ((with_reducible apply s_iR12); (case' h1 => omega); intro J w)
  | ((with_reducible apply s_iR22); (case' h1 => omega); intro J w)
  | ((with_reducible apply s_iK2); (case' h1 => walk_at "look"); intro J w)
  | with_reducible apply s_gN
  | ((with_reducible apply s_var); (case' h1 => exact rfl))
  | with_reducible apply s_c
  | with_reducible apply s_op
  | with_reducible apply s_cons
  | with_reducible apply s_nil
  | with_reducible apply s_ret
  | with_reducible apply s_ifS
  | with_reducible apply s_test
  | with_reducible apply s_B
  | with_reducible apply s_exbl
  | with_reducible apply s_exint
  | with_reducible apply s_I0
  | ((with_reducible apply s_Eq); (case' hs => exact rfl))
  | ((with_reducible apply s_Ne); (case' hs => exact rfl))
  | with_reducible apply s_un
  | with_reducible apply s_U
  | with_reducible apply s_cb
  | with_reducible apply s_call
  | with_reducible apply s_next
  | with_reducible apply s_drop
  | with_reducible apply s_break
  | with_reducible apply s_cont
  | with_reducible apply s_retN
  | with_reducible apply s_par
  | with_reducible apply s_par2
  | with_reducible apply s_par3
  | with_reducible apply s_par33
  | ((with_reducible apply s_aug); (case' h1 => exact rfl))
  | with_reducible apply s_and
  | with_reducible apply s_or
  | with_reducible apply s_not
  | with_reducible apply s_andV
  | with_reducible apply s_orV
  | with_reducible apply s_notV
  | with_reducible apply s_ifE
  | with_reducible apply s_isN
  | with_reducible apply s_chain
  | with_reducible apply s_sl
  | with_reducible apply s_noP
  | with_reducible apply s_part
  | with_reducible apply s_bm
  | with_reducible apply s_bm0
  | with_reducible apply s_tup
  | with_reducible apply s_lst
  | with_reducible apply s_fldE
  | ((with_reducible apply s_fld); (case' h1 => walk_at "look"); (case' h2 => assumption); (case' h3 => assumption); (case' h4 => exact rfl))
  | ((with_reducible apply s_ixL); (case' h1 => walk_at "look"); (case' h2 => exact rfl))
  | ((with_reducible apply s_ixT); (case' h1 => walk_at "look"); (case' h2 => exact rfl))
  | ((with_reducible apply s_lenL); (case' h1 => walk_at "look"))
  | ((with_reducible apply s_mk0); (case' hz => first | decide | (simp only [List.length_cons, List.length_nil]; decide)))
  | ((with_reducible refine s_all fun p hn => ?_); generalize hg : upd _ _ _ = H1; obtain ⟨mv, hp⟩ := gen_upd hg hn; clear hg))
local macro_rules | `(tactic| walk_at "mv") => `(tactic| first
  | with_reducible assumption
  | exact Mv.refl _
  | (refine Mv.trans ?_ (by with_reducible assumption); walk_at "mv"))
local macro_rules | `(tactic| walk_at "ss") => `(tactic| repeat walk_at "s")
local macro_rules | `(tactic| walk_at "k0") => `(tactic| try dsimp only [L2.cxOf, Cx.nox, Cx.wish, Cx.blk, genCx])

section
variable [Lw] {P : Program} {w : World} {K : PySem.W.Frag} {mg : Str → Option Value} {base : Heap} {f : Addr} {fd : FuncData}
theorem ok_dice (T : Sy fa4 fn4 tf4 K mg base) (F : FnP K "_law_dice" s__law_dice f fd) : FnOk P w K mg base CX0 1 f fd ["cell"] spDice := by
  refine F.ok sc__law_dice (fun vs H Q E h => ?_) (fun cdv A outer s H vs Q E hr h => ⟨_, PSs.nox (pss_cons (ps_if (pt_chain op_lt op_lt (pe_op op_sub pe_int pe_int) (pv 0) pe_int) (pss_one (ps_ret (pe_lst (pa_cons (pe_callB call_abs rfl (T.free "abs") boot_abs (pa_cons (pv 0) pa_nil)) (pa_cons pe_int (pa_cons pe_int pa_nil)))))) pss_nil) (pss_one (ps_ret (pe_lst (pa_cons (pv 0) (pa_cons (pe_op op_add pe_int (pe_op op_mod (pe_callTy call_int1 rfl (T.free "int") boot_int (pa_cons (pv 0) pa_nil)) pe_int)) (pa_cons (pe_callTy call_int1 rfl (T.free "int") boot_int (pa_cons (pe_cmpR op_ge (pv 0) (pe_op op_pow pe_int pe_int) (nomark _)) pa_nil)) pa_nil))))))), ?_⟩)
  · obtain ⟨c, rfl, _⟩ := h
    rfl
  · obtain ⟨c, rfl, q⟩ := h
    walk_at "k0"
    walk_at "ss"
    refine ite_dec (fun hc => ?_) (fun hc => ?_)
    · walk_at "ss"
      refine ite_dec (fun hc => ?_) (fun hc => ?_)
      · walk_at "ss"
        exact q _ _ _ _ _ (by assumption) (by assumption) (by assumption)
      · walk_at "ss"
        exact q _ _ _ _ _ (by assumption) (by assumption) (by assumption)
    · walk_at "ss"
      exact q _ _ _ _ _ (by assumption) (by assumption) (by assumption)
theorem ok_roll (T : Sy fa4 fn4 tf4 K mg base) (F : FnP K "_law_roll" s__law_roll f fd) : FnOk P w K mg base CX0 1 f fd ["dice", "many"] spRoll := by
  refine F.ok sc__law_roll (fun vs H Q E h => ?_) (fun cdv A outer s H vs Q E hr h => ⟨_, PSs.nox (pss_cons (ps_if (PW.pt (pw_or (pt_cmpR op_eq (pe_ix (ix_listK (K := K) rfl) (pv 0) pe_int (fun _ _ => rfl)) pe_int (nomark _)) (pw_or1 (PW.pt (pw_and (pt_cmpR op_eq (pe_ix (ix_listK (K := K) rfl) (pv 0) pe_int (fun _ _ => rfl)) pe_int (nomark _)) (pw_and1 (pt_cmpR op_gt (pe_ix (ix_listK (K := K) rfl) (pv 0) pe_int (fun _ _ => rfl)) pe_int (nomark _)))))))) (pss_cons (ps_set (i := 2) sc__law_roll.nd rfl (.inl rfl) (pe_op op_mod (pe_callTy call_int1 rfl (T.free "int") boot_int (pa_cons (pe_ix (ix_listK (K := K) rfl) (pv 0) pe_int (fun _ _ => rfl)) pa_nil)) (pv 1))) (pss_cons (ps_asg (pe_op op_fdiv (pe_ix (ix_listK (K := K) rfl) (pv 0) pe_int (fun _ _ => rfl)) (pv 1)) (pg_sub (pv 0) pe_int set_list)) (pss_one (ps_ret (pv 2))))) pss_nil) (pss_cons (ps_asg pe_int (pg_sub (pv 0) pe_int set_list)) (pss_cons (ps_if (pt_cmpR op_gt (pv 1) pe_int (nomark _)) pss_never pss_nil) (pss_cons (ps_asg (pe_op op_mod (pe_callTy call_int1 rfl (T.free "int") boot_int (pa_cons (pe_op op_add (pe_op op_add (pe_op op_mul (pe_ix (ix_listK (K := K) rfl) (pv 0) pe_int (fun _ _ => rfl)) pe_int) (pe_op op_mul (pe_ix (ix_listK (K := K) rfl) (pv 0) pe_int (fun _ _ => rfl)) pe_int)) pe_int) pa_nil)) pe_int) (pg_sub (pv 0) pe_int set_list)) (pss_cons (ps_asg (pe_op op_add (pe_ix (ix_listK (K := K) rfl) (pv 0) pe_int (fun _ _ => rfl)) pe_int) (pg_sub (pv 0) pe_int set_list)) (pss_one (ps_ret (pe_op op_mod (pe_callTy call_int1 rfl (T.free "int") boot_int (pa_cons (pe_op op_fdiv (pe_ix (ix_listK (K := K) rfl) (pv 0) pe_int (fun _ _ => rfl)) pe_int) pa_nil)) (pv 1))))))))), ?_⟩)
  · obtain ⟨_, _, _, _, _, rfl, _⟩ := h
    rfl
  · obtain ⟨p, n, x, y, z, rfl, hp, h0, h1, q⟩ := h
    walk_at "k0"
    walk_at "ss"
    have fin : ∀ i : Int, 0 ≤ i % n ∧ i % n < n := fun i => ⟨Int.emod_nonneg _ (by omega), Int.emod_lt_of_pos _ h0⟩
    refine ite_dec (fun hc => ?_) (fun hc => ?_)
    · walk_at "ss"
      exact q _ _ _ _ (fin _).1 (fin _).2
    · walk_at "ss"
      refine ite_dec (fun hc => ?_) (fun hc => ?_)
      · walk_at "ss"
        refine ite_dec (fun hc => ?_) (fun hc => ?_)
        · walk_at "ss"
          exact q _ _ _ _ (fin _).1 (fin _).2
        · walk_at "ss"
          refine ite_dec (fun hc => ?_) (fun hc => ?_)
          · omega
          walk_at "ss"
          rw [upd_upd, upd_upd]
          exact q _ _ _ _ (fin _).1 (fin _).2
      · walk_at "ss"
        refine ite_dec (fun hc => ?_) (fun hc => ?_)
        · omega
        walk_at "ss"
        rw [upd_upd, upd_upd]
        exact q _ _ _ _ (fin _).1 (fin _).2
/-- the law's rounds for one turn: one dice list -/
def spRounds (K : PySem.W.Frag) : Sp := fun vs H Q _ => ∃ (a : Addr) (ns : List Int), vs = [.ref a, .int 1] ∧ SqL K H a (ns.map V.int) ∧ ∀ (p q : Addr) (H' : Hp), Mv H H' → H' p = some (.lst [.ref q]) → H' q = some (DiceO q) → Q (.ref p) H'
theorem ok_rounds (T : Sy fa4 fn4 tf4 K mg base) (F : FnP K "_law_rounds" s__law_rounds f fd) {f1 : Addr} {fd1 : FuncData} (c__law_dice : Cal P w K mg base CX0 1 "_law_dice" f1 fd1 ["cell"] spDice) : FnOk P w K mg base CX0 2 f fd ["script", "most"] (spRounds K) := by
  refine F.ok sc__law_rounds (fun vs H Q E h => ?_) (fun cdv A outer s H vs Q E hr h => ⟨_, PSs.nox (pss_cons (ps_set (i := 2) sc__law_rounds.nd rfl (.inl rfl) (pe_slice (sl_listK (K := K) rfl) (pv 0) po_none (po_some (pv 1)))) (pss_cons (ps_if (pt_cmpR (op_eqDK (K := K) rfl (Room.units hr)) (pv 2) (pe_lst pa_nil) (nomark _)) (pss_one (ps_set (i := 2) sc__law_rounds.nd rfl (.inl rfl) (pe_lst (pa_cons pe_int pa_nil)))) pss_nil) (pss_one (ps_ret (pe_lc (own := [("cell", 3)]) (tt := tYes) rfl sc__law_rounds.nd (pi_listK (K := K) rfl (pv 2)) (blkOk_by (N := n__law_rounds) (sc := (defScope s__law_rounds)) (by decide +kernel)) (fun _ _ _ _ _ => (pg_name (i := 3) sc__law_rounds.nd rfl (.inl rfl))) (fun _ _ _ _ _ => pts_nil)  (fun _ _ _ _ _ => (pe_seal (pe_cal c__law_dice (hr.mono (by first | decide | omega)) rfl pass0 (pa_cons (pv 3) pa_nil))))))))), ?_⟩)
  · obtain ⟨_, _, rfl, _⟩ := h
    rfl
  · obtain ⟨a, ns, rfl, hs, q⟩ := h
    walk_at "k0"
    walk_at "ss"
    rename_i p hn H1 mv hp p2 hn2 H2 mv2 hp2
    have hc : ∃ zs : List Int, zs.length ≤ 1 ∧ cutV (ns.map V.int) none (some 1) = zs.map V.int := by
      cases ns with
      | nil => exact ⟨[], by decide, rfl⟩
      | cons n r => exact ⟨[n], by simp, by simp [cutV, HT.sIx]⟩
    obtain ⟨zs, hz, e⟩ := hc
    rw [e] at hp
    refine s_eqD (.lst (SqL.of (mv2.lst hp)) dpAll_ints) (.lst (SqL.of hp2) .nil) ?_ rfl ?_
    · match zs, hz with
      | [], _ => rfl
      | [n], _ => rfl
    have hz2 : zs = [] ∨ ∃ n, zs = [n] := match zs, hz with
      | [], _ => .inl rfl
      | [n], _ => .inr ⟨n, rfl⟩
    rcases hz2 with rfl | ⟨n, rfl⟩
    · refine ⟨true, rfl, ?_⟩
      walk_at "ss"
      rename_i J w
      refine lcE w (fun H' m => m.sqL (by walk_at "look")) fun D hD => ⟨fun i acc H' => (i = 0 ∧ acc = []) ∨ (i = 1 ∧ ∃ q, acc = [.ref q] ∧ H' q = some (DiceO q)), fun H' _ => .inl ⟨rfl, rfl⟩, fun i y acc H' hy m hDa hP => ?_, fun acc H' m hDa hP => ?_⟩
      · have hi : i = 0 ∧ ∃ n, y = .int n := by
          match i, hy with
          | 0, hy => exact ⟨rfl, _, (Option.some.inj hy).symm⟩
          | i + 1, hy => cases (show none = some y from hy)
        obtain ⟨rfl, n, rfl⟩ := hi
        have hacc : acc = [] := by
          rcases hP with ⟨_, h⟩ | ⟨h, _⟩
          · exact h
          · cases h
        subst hacc
        walk_at "ss"
        refine ⟨_, rfl, fun p x y z H3 hn mv hp => ⟨p, x, y, z, rfl, hp, ?_⟩⟩
        have hne : D ≠ p := ne_of_none hDa hn
        refine lcP hD (by rw [upd_ne hne]; exact mv.lst hDa) (by decide) ((m.trans mv).put (m.free hn)) fun H5 m5 nl => .inr ⟨rfl, p, rfl, nl.exx upd_same⟩
      · rcases hP with ⟨h, _⟩ | ⟨_, q', rfl, hq⟩
        · cases h
        · exact q D q' H' (by walk_at "mv") hDa hq
    · refine ⟨false, rfl, ?_⟩
      walk_at "ss"
      rename_i J w
      refine lcE w (fun H' m => m.sqL (by walk_at "look")) fun D hD => ⟨fun i acc H' => (i = 0 ∧ acc = []) ∨ (i = 1 ∧ ∃ q, acc = [.ref q] ∧ H' q = some (DiceO q)), fun H' _ => .inl ⟨rfl, rfl⟩, fun i y acc H' hy m hDa hP => ?_, fun acc H' m hDa hP => ?_⟩
      · have hi : i = 0 ∧ ∃ n, y = .int n := by
          match i, hy with
          | 0, hy => exact ⟨rfl, _, (Option.some.inj hy).symm⟩
          | i + 1, hy => cases (show none = some y from hy)
        obtain ⟨rfl, n, rfl⟩ := hi
        have hacc : acc = [] := by
          rcases hP with ⟨_, h⟩ | ⟨h, _⟩
          · exact h
          · cases h
        subst hacc
        walk_at "ss"
        refine ⟨_, rfl, fun p x y z H3 hn mv hp => ⟨p, x, y, z, rfl, hp, ?_⟩⟩
        have hne : D ≠ p := ne_of_none hDa hn
        refine lcP hD (by rw [upd_ne hne]; exact mv.lst hDa) (by decide) ((m.trans mv).put (m.free hn)) fun H5 m5 nl => .inr ⟨rfl, p, rfl, nl.exx upd_same⟩
      · rcases hP with ⟨h, _⟩ | ⟨_, q', rfl, hq⟩
        · cases h
        · exact q D q' H' (by walk_at "mv") hDa hq
end
end K4

set_option Elab.async false
set_option linter.all false
set_option maxRecDepth 100000
set_option maxHeartbeats 2000000
namespace K4
open PySem PySem.Spec PyProof.Rows L2 Mi
local macro_rules | `(tactic| walk_at "look") => `(tactic| first
  | with_reducible assumption
  | (with_reducible exact upd_same)
  | ((with_reducible apply SqL.of); first | with_reducible assumption | with_reducible exact upd_same)
  | ((with_reducible apply SqT.of); with_reducible assumption)
  | ((with_reducible apply Mv.sqL); (case' m => with_reducible assumption); walk_at "look")
  | ((with_reducible apply Mv.sqT); (case' m => with_reducible assumption); walk_at "look")
  | ((with_reducible apply Mv.lst); (case' m => with_reducible assumption); walk_at "look")
  | ((with_reducible apply Mv.tup); (case' m => with_reducible assumption); walk_at "look")
  | ((with_reducible apply Mv.ins); (case' m => with_reducible assumption); walk_at "look")
  | ((with_reducible apply Mv.dK); (case' m => with_reducible assumption); walk_at "look")
  | ((with_reducible apply Mv.exx); (case' m => with_reducible assumption); walk_at "look")
  | ((with_reducible apply Mv.dp); (case' m => with_reducible assumption); walk_at "look")
  | ((with_reducible apply Mv.dget); (case' m => with_reducible assumption); walk_at "look")
  | ((with_reducible apply Lk.dget); (case' m => with_reducible assumption); walk_at "look")
  | ((with_reducible apply Nl.dget); (case' m => with_reducible assumption); walk_at "look")
  | ((with_reducible apply Mv.frz); (case' m => with_reducible assumption); walk_at "look")
  | ((with_reducible apply Nl.sqT); (case' m => with_reducible assumption); walk_at "look")
  | ((with_reducible apply Nl.tup); (case' m => with_reducible assumption); walk_at "look")
  | ((with_reducible apply Nl.ins); (case' m => with_reducible assumption); walk_at "look")
  | ((with_reducible apply Nl.exx); (case' m => with_reducible assumption); walk_at "look")
  | ((with_reducible apply Nd.sqL); (case' m => with_reducible assumption); walk_at "look")
  | ((with_reducible apply Nd.sqT); (case' m => with_reducible assumption); walk_at "look")
  | ((with_reducible apply Nd.lst); (case' m => with_reducible assumption); walk_at "look")
  | ((with_reducible apply Nd.tup); (case' m => with_reducible assumption); walk_at "look")
  | ((with_reducible apply Nd.ins); (case' m => with_reducible assumption); walk_at "look")
  | ((with_reducible apply Nd.exx); (case' m => with_reducible assumption); walk_at "look")
  | ((with_reducible apply Lk.sqL); (case' m => with_reducible assumption); walk_at "look")
  | ((with_reducible apply Lk.sqT); (case' m => with_reducible assumption); walk_at "look")
  | ((with_reducible apply Lk.lst); (case' m => with_reducible assumption); walk_at "look")
  | ((with_reducible apply Lk.tup); (case' m => with_reducible assumption); walk_at "look")
  | ((with_reducible apply Lk.ins); (case' m => with_reducible assumption); walk_at "look")
  | ((with_reducible apply Lk.exx); (case' m => with_reducible assumption); walk_at "look")
  | ((with_reducible apply Lk.dp); (case' m => with_reducible assumption); walk_at "look"))
local macro_rules | `(tactic| walk_at "s") => `(tactic| first
  | with_reducible apply s_seq
  | with_reducible apply s_gCons
  | with_reducible apply s_gNil
  | ((with_reducible apply s_gTup); (case' h1 => walk_at "look"); (case' h2 => exact rfl))
  | with_reducible apply s_asg
  | with_reducible apply s_dgetE
  | ((with_reducible apply s_dget); (case' h1 => walk_at "look"))
  | ((with_reducible apply s_I); (case' hc => first | exact ⟨by omega, by omega⟩ | exact .inl ⟨by omega, by omega⟩ | exact .inr ⟨by omega, by omega⟩ | (show (_ : Int) < _; omega) | (show (_ : Int) ≠ _; omega)))
  | with_reducible apply s_mm
  | with_reducible apply s_makeE
  | ((with_reducible apply s_lenKL); (case' h1 => walk_at "look"))
  | ((with_reducible apply s_lenKT); (case' h1 => walk_at "look"))
  | ((with_reducible apply s_listKL); (case' h1 => walk_at "look"))
  | ((with_reducible apply s_listKT); (case' h1 => walk_at "look"))
  | ((with_reducible apply s_tupKL); (case' h1 => walk_at "look"))
  | ((with_reducible apply s_tupKT); (case' h1 => walk_at "look"))
  | with_reducible apply s_revE
  | ((with_reducible apply s_rev); (case' h1 => walk_at "look"))
  | with_reducible apply s_iE
  | ((with_reducible apply s_iE2); (case' h1 => walk_at "look"); intro J w)
  | ((with_reducible apply s_catA); (case' h1 => walk_at "look"); (case' h2 => walk_at "look"); (case' hz => (first | decide | (simp; done) | (simp; omega))); intro p H1 mv hp)
  | ((with_reducible apply s_slA); (case' h1 => walk_at "look"); intro p H1 mv hp)
  | ((with_reducible apply s_tupOfL); (case' h1 => walk_at "look"))
  | ((with_reducible apply s_tupOfT); (case' h1 => walk_at "look"))
  | with_reducible apply s_sFld
  | ((with_reducible apply s_sFld2); (case' h1 => walk_at "look"); (case' h2 => assumption); (case' h3 => assumption); (case' h4 => exact of_decide_eq_true rfl); (try rw [upd_upd]))
  | with_reducible apply s_seal
  | ((with_reducible apply s_wipe); (case' h1 => exact rfl))
  | ((with_reducible apply s_slL); (case' h1 => walk_at "look"))
  | with_reducible apply s_ifTT
  | with_reducible apply s_ifFF
  | with_reducible apply s_rollE
  | ((with_reducible apply s_roll); (case' h1 => walk_at "look"); (case' h2 => exact ⟨by omega, by omega⟩); intro k k0 k1)
  | with_reducible apply s_gSub
  | ((with_reducible apply s_setL); (case' h1 => walk_at "look"); (case' h2 => exact rfl))
  | with_reducible apply s_ab
  | with_reducible apply s_in1
  | with_reducible apply s_in2
  | ((with_reducible apply s_lsL); (case' h1 => walk_at "look"))
  | ((with_reducible apply s_lsT); (case' h1 => walk_at "look"))
  | ((with_reducible apply s_tyL); (case' h1 => walk_at "look"))
  | with_reducible apply s_for
  | with_reducible apply s_lc
  | with_reducible apply s_dc
  | with_reducible apply s_gn
  | with_reducible apply s_yes
  | with_reducible apply s_iL
  | with_reducible apply s_iT
  | with_reducible apply s_iR1
  | with_reducible apply s_iR2
  | with_reducible apply s_iK
  | ((with_reducible apply s_iL2); (case' h1 => walk_at "look"); intro J w)
  | ((with_reducible apply s_iT2); (case' h1 => walk_at "look"); intro J w)
  | ((with_reducible apply s_iR12); (case' h1 => omega); intro J w)
  | ((with_reducible apply s_iR22); (case' h1 => omega); intro J w)
  | ((with_reducible apply s_iK2); (case' h1 => walk_at "look"); intro J w)
  | with_reducible apply s_gN
  | ((with_reducible apply s_var); (case' h1 => exact rfl))
  | with_reducible apply s_c
  | with_reducible apply s_op
  | with_reducible apply s_cons
  | with_reducible apply s_nil
  | with_reducible apply s_ret
  | with_reducible apply s_ifS
  | with_reducible apply s_test
  | with_reducible apply s_B
  | with_reducible apply s_exbl
  | with_reducible apply s_exint
  | with_reducible apply s_I0
  | ((with_reducible apply s_Eq); (case' hs => exact rfl))
  | ((with_reducible apply s_Ne); (case' hs => exact rfl))
  | with_reducible apply s_un
  | with_reducible apply s_U
  | with_reducible apply s_cb
  | with_reducible apply s_call
  | with_reducible apply s_next
  | with_reducible apply s_drop
  | with_reducible apply s_break
  | with_reducible apply s_cont
  | with_reducible apply s_retN
  | with_reducible apply s_par
  | with_reducible apply s_par2
  | with_reducible apply s_par3
  | with_reducible apply s_par33
  | ((with_reducible apply s_aug); (case' h1 => exact rfl))
  | with_reducible apply s_and
  | with_reducible apply s_or
  | with_reducible apply s_not
  | with_reducible apply s_andV
  | with_reducible apply s_orV
  | with_reducible apply s_notV
  | with_reducible apply s_ifE
  | with_reducible apply s_isN
  | with_reducible apply s_chain
  | with_reducible apply s_sl
  | with_reducible apply s_noP
  | with_reducible apply s_part
  | with_reducible apply s_bm
  | with_reducible apply s_bm0
  | with_reducible apply s_tup
  | with_reducible apply s_lst
  | with_reducible apply s_fldE
  | ((with_reducible apply s_fld); (case' h1 => walk_at "look"); (case' h2 => assumption); (case' h3 => assumption); (case' h4 => exact rfl))
  | ((with_reducible apply s_ixL); (case' h1 => walk_at "look"); (case' h2 => exact rfl))
  | ((with_reducible apply s_ixT); (case' h1 => walk_at "look"); (case' h2 => exact rfl))
  | ((with_reducible apply s_lenL); (case' h1 => walk_at "look"))
  | ((with_reducible apply s_mk0); (case' hz => first | decide | (simp only [List.length_cons, List.length_nil]; decide)))
  | ((with_reducible refine s_all fun p hn => ?_); generalize hg : upd _ _ _ = H1; obtain ⟨mv, hp⟩ := gen_upd hg hn; clear hg))
local macro_rules | `(tactic| walk_at "mv") => `(tactic| first
  | with_reducible assumption
  | exact Mv.refl _
  | (refine Mv.trans ?_ (by with_reducible assumption); walk_at "mv"))
local macro_rules | `(tactic| walk_at "ss") => `(tactic| repeat walk_at "s")
local macro_rules | `(tactic| walk_at "k0") => `(tactic| try dsimp only [L2.cxOf, Cx.nox, Cx.wish, Cx.blk, genCx])

section
variable [Lw] {P : Program} {w : World} {K : PySem.W.Frag} {mg : Str → Option Value} {base : Heap} {f : Addr} {fd : FuncData}
def spBread (K : PySem.W.Frag) : Sp := fun vs H Q E => ∃ a b c : Int, vs = [.int a, .int b, .int c] ∧ (a < 1000 ∧ b < 1000 ∧ c < 1000) ∧ ((a < 0 ∨ b < 0 ∨ c < 1 ∨ a + b = 0) → E (.ref (He.ga K "BookError")) none H) ∧ (¬ (a < 0 ∨ b < 0 ∨ c < 1 ∨ a + b = 0) → Q (.int (80 * c / (a + b))) H)
theorem ok_bread (T : Sy fa4 fn4 tf4 K mg base) (F : FnP K "bread_price" s_bread_price f fd) : FnOk P w K mg base (CX P w) 1 f fd ["pence", "cost", "loaves"] (spBread K) := by
  refine F.ok sc_bread_price (fun vs H Q E h => ?_) (fun cdv A outer s H vs Q E hr h => ⟨_, (pss_cons (ps_if (PW.pt (pw_or (pt_cmpR op_lt (pv 0) pe_int (nomark _)) (pw_or (pt_cmpR op_lt (pv 1) pe_int (nomark _)) (pw_or (pt_cmpR op_lt (pv 2) pe_int (nomark _)) (pw_or1 (pt_cmpR op_eq (pe_op op_add (pv 0) (pv 1)) pe_int (nomark _))))))) (pss_one (ps_raise rfl (takes_of rfl rfl rfl rfl) (pmk_own PySem.F.excBase_ValueError (T.excX "BookError") (T.glo "BookError") (T.excK "BookError") (raises_own (T.excB "BookError") (T.excT "BookError")) rfl))) pss_nil) (pss_one (ps_ret (pe_op op_fdiv (pe_op op_mul pe_int (pv 2)) (pe_op op_add (pv 0) (pv 1)))))), ?_⟩)
  · obtain ⟨_, _, _, rfl, _⟩ := h
    rfl
  · obtain ⟨a, b, c, rfl, ⟨a1, b1, c1⟩, bad, good⟩ := h
    walk_at "k0"
    walk_at "ss"
    refine ite_dec (fun hc => ?_) (fun hc => ?_)
    · exact bad (.inl hc)
    walk_at "ss"
    refine ite_dec (fun hc2 => ?_) (fun hc2 => ?_)
    · exact bad (.inr (.inl hc2))
    walk_at "ss"
    refine ite_dec (fun hc3 => ?_) (fun hc3 => ?_)
    · exact bad (.inr (.inr (.inl hc3)))
    walk_at "ss"
    refine ite_dec (fun hc4 => ?_) (fun hc4 => ?_)
    · exact bad (.inr (.inr (.inr (V.int.inj hc4))))
    have hc4 : a + b ≠ 0 := fun z => hc4 (by rw [z])
    walk_at "ss"
    exact good (by omega)
/-- a made job -/
def spJob (K : PySem.W.Frag) : Sp := fun vs H Q E => ∃ (x dx : Addr) (n o : Str) (p r d : Int), vs = [.ref x, .str n, .str o, .int p, .int r, .int d] ∧ H x = some (.ins (He.ga K "Job") dx []) ∧ (0 < p ∧ 0 ≤ r ∧ r ≤ d) ∧
  Q .non (upd H x (.ins (He.ga K "Job") dx [("name", .str n), ("owner", .str o), ("pounds", .int p), ("first", .int r), ("due", .int d)]))
theorem ok_job (T : Sy fa4 fn4 tf4 K mg base) (F : FunD K "__init__" "Job.__init__" (defArgs s_Job___init__) (defBody s_Job___init__) (defScope s_Job___init__) [] [] f fd) : FnOk P w K mg base (CX P w) 1 f fd ["self", "name", "owner", "pounds", "first", "due"] (spJob K) := by
  refine F.ok sc_Job___init__ (fun vs H Q E h => ?_) (fun cdv A outer s H vs Q E hr h => ⟨_, (pss_cons (ps_if (PW.pt (pw_or (pt_cmpR op_lt (pv 3) pe_int (nomark _)) (pw_or1 (pt_not (pt_chain op_le op_le pe_int (pv 4) (pv 5)))))) (pss_one (ps_raise rfl (takes_of rfl rfl rfl rfl) (pmk_own PySem.F.excBase_ValueError (T.excX "WorkError") (T.glo "WorkError") (T.excK "WorkError") (raises_own (T.excB "WorkError") (T.excT "WorkError")) rfl))) pss_nil) (pss_cons (ps_fld (pv 0) (pv 1) rfl) (pss_cons (ps_fld (pv 0) (pv 2) rfl) (pss_cons (ps_fld (pv 0) (pv 3) rfl) (pss_cons (ps_fld (pv 0) (pv 4) rfl) (pss_one (ps_fld (pv 0) (pv 5) rfl))))))), ?_⟩)
  · obtain ⟨_, _, _, _, _, _, _, rfl, _⟩ := h
    rfl
  · obtain ⟨x, dx, n, o, p, r, d, rfl, hx, ⟨h1, h2, h3⟩, q⟩ := h
    have cJ := T.cls "Job"
    have nA := T.noat "Job" "name"
    have nB := T.noat "Job" "owner"
    have nC := T.noat "Job" "pounds"
    have nD := T.noat "Job" "first"
    have nE := T.noat "Job" "due"
    walk_at "k0"
    walk_at "ss"
    refine ite_dec (fun hc => ?_) (fun hc => ?_)
    · omega
    walk_at "ss"
    refine ite_dec (fun hc => ?_) (fun hc => ?_)
    · walk_at "ss"
      refine ite_ndec (fun hc => ?_) (fun hc => ?_)
      · omega
      walk_at "ss"
      exact q
    · omega
end
end K4

set_option Elab.async false
set_option linter.all false
set_option maxRecDepth 100000
set_option maxHeartbeats 2000000
namespace K4
open PySem PySem.Spec PyProof.Rows L2 Mi
local macro_rules | `(tactic| walk_at "look") => `(tactic| first
  | with_reducible assumption
  | (with_reducible exact upd_same)
  | ((with_reducible apply SqL.of); first | with_reducible assumption | with_reducible exact upd_same)
  | ((with_reducible apply SqT.of); with_reducible assumption)
  | ((with_reducible apply Mv.sqL); (case' m => with_reducible assumption); walk_at "look")
  | ((with_reducible apply Mv.sqT); (case' m => with_reducible assumption); walk_at "look")
  | ((with_reducible apply Mv.lst); (case' m => with_reducible assumption); walk_at "look")
  | ((with_reducible apply Mv.tup); (case' m => with_reducible assumption); walk_at "look")
  | ((with_reducible apply Mv.ins); (case' m => with_reducible assumption); walk_at "look")
  | ((with_reducible apply Mv.dK); (case' m => with_reducible assumption); walk_at "look")
  | ((with_reducible apply Mv.exx); (case' m => with_reducible assumption); walk_at "look")
  | ((with_reducible apply Mv.dp); (case' m => with_reducible assumption); walk_at "look")
  | ((with_reducible apply Mv.dget); (case' m => with_reducible assumption); walk_at "look")
  | ((with_reducible apply Lk.dget); (case' m => with_reducible assumption); walk_at "look")
  | ((with_reducible apply Nl.dget); (case' m => with_reducible assumption); walk_at "look")
  | ((with_reducible apply Mv.frz); (case' m => with_reducible assumption); walk_at "look")
  | ((with_reducible apply Nl.sqT); (case' m => with_reducible assumption); walk_at "look")
  | ((with_reducible apply Nl.tup); (case' m => with_reducible assumption); walk_at "look")
  | ((with_reducible apply Nl.ins); (case' m => with_reducible assumption); walk_at "look")
  | ((with_reducible apply Nl.exx); (case' m => with_reducible assumption); walk_at "look")
  | ((with_reducible apply Nd.sqL); (case' m => with_reducible assumption); walk_at "look")
  | ((with_reducible apply Nd.sqT); (case' m => with_reducible assumption); walk_at "look")
  | ((with_reducible apply Nd.lst); (case' m => with_reducible assumption); walk_at "look")
  | ((with_reducible apply Nd.tup); (case' m => with_reducible assumption); walk_at "look")
  | ((with_reducible apply Nd.ins); (case' m => with_reducible assumption); walk_at "look")
  | ((with_reducible apply Nd.exx); (case' m => with_reducible assumption); walk_at "look")
  | ((with_reducible apply Lk.sqL); (case' m => with_reducible assumption); walk_at "look")
  | ((with_reducible apply Lk.sqT); (case' m => with_reducible assumption); walk_at "look")
  | ((with_reducible apply Lk.lst); (case' m => with_reducible assumption); walk_at "look")
  | ((with_reducible apply Lk.tup); (case' m => with_reducible assumption); walk_at "look")
  | ((with_reducible apply Lk.ins); (case' m => with_reducible assumption); walk_at "look")
  | ((with_reducible apply Lk.exx); (case' m => with_reducible assumption); walk_at "look")
  | ((with_reducible apply Lk.dp); (case' m => with_reducible assumption); walk_at "look"))
local macro_rules | `(tactic| walk_at "s") => `(tactic| first
  | with_reducible apply s_seq
  | with_reducible apply s_gCons
  | with_reducible apply s_gNil
  | ((with_reducible apply s_gTup); (case' h1 => walk_at "look"); (case' h2 => exact rfl))
  | with_reducible apply s_asg
  | with_reducible apply s_dgetE
  | ((with_reducible apply s_dget); (case' h1 => walk_at "look"))
  | ((with_reducible apply s_I); (case' hc => first | exact ⟨by omega, by omega⟩ | exact .inl ⟨by omega, by omega⟩ | exact .inr ⟨by omega, by omega⟩ | (show (_ : Int) < _; omega) | (show (_ : Int) ≠ _; omega)))
  | with_reducible apply s_mm
  | with_reducible apply s_makeE
  | ((with_reducible apply s_lenKL); (case' h1 => walk_at "look"))
  | ((with_reducible apply s_lenKT); (case' h1 => walk_at "look"))
  | ((with_reducible apply s_listKL); (case' h1 => walk_at "look"))
  | ((with_reducible apply s_listKT); (case' h1 => walk_at "look"))
  | ((with_reducible apply s_tupKL); (case' h1 => walk_at "look"))
  | ((with_reducible apply s_tupKT); (case' h1 => walk_at "look"))
  | with_reducible apply s_revE
  | ((with_reducible apply s_rev); (case' h1 => walk_at "look"))
  | with_reducible apply s_iE
  | ((with_reducible apply s_iE2); (case' h1 => walk_at "look"); intro J w)
  | ((with_reducible apply s_catA); (case' h1 => walk_at "look"); (case' h2 => walk_at "look"); (case' hz => (first | decide | (simp; done) | (simp; omega))); intro p H1 mv hp)
  | ((with_reducible apply s_slA); (case' h1 => walk_at "look"); intro p H1 mv hp)
  | ((with_reducible apply s_tupOfL); (case' h1 => walk_at "look"))
  | ((with_reducible apply s_tupOfT); (case' h1 => walk_at "look"))
  | with_reducible apply s_sFld
  | ((with_reducible apply s_sFld2); (case' h1 => walk_at "look"); (case' h2 => assumption); (case' h3 => assumption); (case' h4 => exact of_decide_eq_true rfl); (try rw [upd_upd]))
  | with_reducible apply s_seal
  | ((with_reducible apply s_wipe); (case' h1 => exact rfl))
  | ((with_reducible apply s_slL); (case' h1 => walk_at "look"))
  | with_reducible apply s_ifTT
  | with_reducible apply s_ifFF
  | with_reducible apply s_rollE
  | ((with_reducible apply s_roll); (case' h1 => walk_at "look"); (case' h2 => exact ⟨by omega, by omega⟩); intro k k0 k1)
  | with_reducible apply s_gSub
  | ((with_reducible apply s_setL); (case' h1 => walk_at "look"); (case' h2 => exact rfl))
  | with_reducible apply s_ab
  | with_reducible apply s_in1
  | with_reducible apply s_in2
  | ((with_reducible apply s_lsL); (case' h1 => walk_at "look"))
  | ((with_reducible apply s_lsT); (case' h1 => walk_at "look"))
  | ((with_reducible apply s_tyL); (case' h1 => walk_at "look"))
  | with_reducible apply s_for
  | with_reducible apply s_lc
  | with_reducible apply s_dc
  | with_reducible apply s_gn
  | with_reducible apply s_yes
  | with_reducible apply s_iL
  | with_reducible apply s_iT
  | with_reducible apply s_iR1
  | with_reducible apply s_iR2
  | with_reducible apply s_iK
  | ((with_reducible apply s_iL2); (case' h1 => walk_at "look"); intro J w)
  | ((with_reducible apply s_iT2); (case' h1 => walk_at "look"); intro J w)
  | ((with_reducible apply s_iR12); (case' h1 => omega); intro J w)
  | ((with_reducible apply s_iR22); (case' h1 => omega); intro J w)
  | ((with_reducible apply s_iK2); (case' h1 => walk_at "look"); intro J w)
  | with_reducible apply s_gN
  | ((with_reducible apply s_var); (case' h1 => exact rfl))
  | with_reducible apply s_c
  | with_reducible apply s_op
  | with_reducible apply s_cons
  | with_reducible apply s_nil
  | with_reducible apply s_ret
  | with_reducible apply s_ifS
  | with_reducible apply s_test
  | with_reducible apply s_B
  | with_reducible apply s_exbl
  | with_reducible apply s_exint
  | with_reducible apply s_I0
  | ((with_reducible apply s_Eq); (case' hs => exact rfl))
  | ((with_reducible apply s_Ne); (case' hs => exact rfl))
  | with_reducible apply s_un
  | with_reducible apply s_U
  | with_reducible apply s_cb
  | with_reducible apply s_call
  | with_reducible apply s_next
  | with_reducible apply s_drop
  | with_reducible apply s_break
  | with_reducible apply s_cont
  | with_reducible apply s_retN
  | with_reducible apply s_par
  | with_reducible apply s_par2
  | with_reducible apply s_par3
  | with_reducible apply s_par33
  | ((with_reducible apply s_aug); (case' h1 => exact rfl))
  | with_reducible apply s_and
  | with_reducible apply s_or
  | with_reducible apply s_not
  | with_reducible apply s_andV
  | with_reducible apply s_orV
  | with_reducible apply s_notV
  | with_reducible apply s_ifE
  | with_reducible apply s_isN
  | with_reducible apply s_chain
  | with_reducible apply s_sl
  | with_reducible apply s_noP
  | with_reducible apply s_part
  | with_reducible apply s_bm
  | with_reducible apply s_bm0
  | with_reducible apply s_tup
  | with_reducible apply s_lst
  | with_reducible apply s_fldE
  | ((with_reducible apply s_fld); (case' h1 => walk_at "look"); (case' h2 => assumption); (case' h3 => assumption); (case' h4 => exact rfl))
  | ((with_reducible apply s_ixL); (case' h1 => walk_at "look"); (case' h2 => exact rfl))
  | ((with_reducible apply s_ixT); (case' h1 => walk_at "look"); (case' h2 => exact rfl))
  | ((with_reducible apply s_lenL); (case' h1 => walk_at "look"))
  | ((with_reducible apply s_mk0); (case' hz => first | decide | (simp only [List.length_cons, List.length_nil]; decide)))
  | ((with_reducible refine s_all fun p hn => ?_); generalize hg : upd _ _ _ = H1; obtain ⟨mv, hp⟩ := gen_upd hg hn; clear hg))
local macro_rules | `(tactic| walk_at "mv") => `(tactic| first
  | with_reducible assumption
  | exact Mv.refl _
  | (refine Mv.trans ?_ (by with_reducible assumption); walk_at "mv"))
local macro_rules | `(tactic| walk_at "ss") => `(tactic| repeat walk_at "s")
local macro_rules | `(tactic| walk_at "k0") => `(tactic| try dsimp only [L2.cxOf, Cx.nox, Cx.wish, Cx.blk, genCx])

section
variable [Lw] {P : Program} {w : World} {K : PySem.W.Frag} {mg : Str → Option Value} {base : Heap} {f : Addr} {fd : FuncData}
def spOrd (K : PySem.W.Frag) : Nat → Sp
  | 0 => fun _ _ _ _ => False
  | n + 1 => fun vs H Q _ => ∃ (a : Addr) (ns : List Str), vs = [.ref a] ∧ SqT K H a (ns.map V.str) ∧ ns.length ≤ n ∧ (∀ x ∈ ns, txOk x = true) ∧ ∀ p H', Mv H H' → Dp K H' (.ref p) (.tuple ((permsF n ns).map ordD)) → Q (.ref p) H'
theorem len_le {n : Nat} (h : n ≤ 100000) : n ≤ sizeLine := Nat.le_trans h (by decide)
theorem ok_ord (T : Sy fa4 fn4 tf4 K mg base) (F : FnP K "orders_of" s_orders_of f fd) (hm : mg "orders_of" = some (.ref f)) (hb : Binds K fd ["names"] []) : ∀ n, n ≤ 6 → FnOk P w K mg base CX0 n f fd ["names"] (spOrd K n)
  | 0, _ => ⟨fun _ _ _ _ h => h.elim, fun _ _ _ _ _ _ _ _ _ _ _ _ _ h => h.elim⟩
  | n + 1, h6 => by
    have c__ : Cal P w K mg base CX0 n "orders_of" f fd ["names"] (spOrd K n) := ⟨ok_ord T F hm hb n (by omega), hm, F.kp, hb⟩
    have c_orders_of := c__
    refine F.ok sc_orders_of (fun vs H Q E h => ?_) (fun cdv A outer s H vs Q E hr h => ⟨_, PSs.nox (pss_cons (ps_if (pt_cmpR (op_eqDK (K := K) rfl (Room.units hr)) (pv 0) (pe_tup pa_nil) (nomark _)) (pss_one (ps_ret (pe_tup (pa_cons (pe_tup pa_nil) pa_nil)))) pss_nil) (pss_cons (ps_set (i := 1) sc_orders_of.nd rfl (.inl rfl) (pe_lst pa_nil)) (pss_cons (ps_for PassesOwn.never rfl (pi_enumTK (K := K) rfl rfl (T.free "enumerate") (pa_cons (pv 0) pa_nil)) (pg_tupK (K := K) (n := 2) rfl rfl (pgs_cons (pg_name (i := 2) sc_orders_of.nd rfl (.inl rfl)) (pgs_cons (pg_name (i := 3) sc_orders_of.nd rfl (.inr rfl)) pgs_nil))) (pss_one (ps_aug (i := 1) sc_orders_of.nd rfl (.inl rfl) (pe_lc (own := [("rest", 4)]) (tt := tYes) rfl sc_orders_of.nd (pi_tupK (K := K) rfl (pe_cal c_orders_of (hr.mono (by first | decide | omega)) rfl pass0 (pa_cons (pe_op (op_catAK (K := K) rfl) (pe_slice (sl_tupAK (K := K) rfl) (pv 0) po_none (po_some (pv 2))) (pe_slice (sl_tupAK (K := K) rfl) (pv 0) (po_some (pe_op op_add (pv 2) pe_int)) po_none)) pa_nil))) (blkOk_by (N := n_orders_of) (sc := (defScope s_orders_of)) (by decide +kernel)) (fun _ _ _ _ _ => (pg_name (i := 4) sc_orders_of.nd rfl (.inl rfl))) (fun _ _ _ _ _ => pts_nil)  (fun _ _ _ _ _ => (pe_op (op_catAK (K := K) rfl) (pe_tup (pa_cons (pv 3) pa_nil)) (pv 4)))) iop_ext))) (pss_one (ps_ret (pe_callTy (call_tupleK (K := K) rfl) rfl (T.free "tuple") boot_tuple (pa_cons (pv 1) pa_nil))))))), ?_⟩)
    · obtain ⟨_, _, rfl, _⟩ := h
      rfl
    · obtain ⟨a, ns, rfl, hs, hl, hx, q⟩ := h
      walk_at "k0"
      walk_at "ss"
      rename_i p0 hn0 H1 mv0 hp0
      refine s_eqD (.tup (mv0.sqT hs) dpAll_strs) (.tup (SqT.of hp0) .nil) (Sh.shaped (Sh.tup (sh_strs hx)) (by decide)) rfl ?_
      cases hns : ns with
      | nil =>
        subst hns
        refine ⟨true, rfl, ?_⟩
        walk_at "ss"
        rename_i p1 hn1 H2 mv1 hp1 p2 hn2 H3 mv2 hp2
        refine q _ _ (by walk_at "mv") ?_
        rw [permsF_nil]
        exact .tup (SqT.of hp2) (.cons (.tup (SqT.of (mv2.tup hp1)) .nil) .nil)
      | cons n0 nr =>
        rw [← hns]
        have hne : ns ≠ [] := by rw [hns]; exact List.cons_ne_nil _ _
        have e : PyData.eqv (.tuple (ns.map .str)) (.tuple []) = false := by rw [hns]; rfl
        rw [e]
        refine ⟨false, rfl, ?_⟩
        walk_at "ss"
        rename_i p1 hn1 H2 mv1 hp1 J w
        obtain ⟨m, rfl⟩ : ∃ m, n = m + 1 := ⟨n - 1, by have := List.length_pos_iff.mpr hne; omega⟩
        have h4 := pow5 (m := m) (by omega)
        refine forW (B := H1) w mv1 (fun H' mm => mm.sqT (mv0.sqT hs)) (fun i σ' H' => ∃ x y z, σ' = [some (.ref a), some (.ref p1), x, y, z] ∧ ∃ acc, H' p1 = some (.lst acc) ∧ DpAll K H' acc (((List.range i).flatMap fun j => (permsF m (ns.eraseIdx j)).map (ns.getD j Str.empty :: ·)).map ordD) ∧ acc.length ≤ i * 625) ⟨none, none, none, rfl, [], hp1, .nil, Nat.zero_le _⟩ (fun i y σ' H' H'' hi mv hP hY => ?_) (fun σ' H' mv hP => ?_)
        · obtain ⟨x, y0, z, rfl, acc, hacc, hd, hal⟩ := hP
          obtain ⟨T, u, v, rfl, hT, hHe, e1, e2⟩ := hY
          cases e1
          obtain ⟨n1, hn1', rfl⟩ := map_get e2
          obtain ⟨mvT, hpT⟩ := gen_upd hHe.symm hT
          clear hHe e2
          have hi' : i < ns.length := by simpa using hi
          walk_at "ss"
          rename_i pa Ha mva hpa pb Hb mvb hpb
          refine s_catA (by walk_at "look") (by walk_at "look") (Nat.le_trans (Nat.add_le_add (cutV_length _ _ _) (cutV_length _ _ _)) (len_le (by simp; omega))) fun p H3 mv3 hp => ?_
          rw [erase_cut hi'] at hp
          walk_at "ss"
          refine ⟨_, ns.eraseIdx i, rfl, hp, by rw [List.length_eraseIdx_of_lt hi']; omega, fun x hx' => hx x (List.mem_of_mem_eraseIdx hx'), fun p' H5 mv5 dp => ?_⟩
          cases dp with
          | @tup _ xs _ hsx hax =>
            refine s_iT2 hsx fun J2 w2 => ?_
            have hpl : (permsF m (ns.eraseIdx i)).length ≤ 625 := Nat.le_trans (permsF_le (by rw [List.length_eraseIdx_of_lt hi']; omega) (by omega)) h4
            refine lcE w2 (fun H' mm => mm.sqT hsx) fun D hD => ⟨fun j acc2 H' => DpAll K H' acc2 (((permsF m (ns.eraseIdx i)).take j).map fun o => .tuple ((n1 :: o).map .str)), fun H' _ => .nil, fun j y acc2 H6 hy mv6 hDa hP => ?_, fun acc2 H6 mv6 hDa hP => ?_⟩
            · obtain ⟨d, hd1, hd2⟩ := dpAll_get hax hy
              rw [List.getElem?_map] at hd1
              cases ho : (permsF m (ns.eraseIdx i))[j]? with
              | none =>
                rw [ho] at hd1
                cases hd1
              | some o =>
                rw [ho] at hd1
                cases hd1
                obtain ⟨qa, rfl, hqa⟩ := dp_tup_strs hd2
                have hol := permsF_len (get_mem ho)
                walk_at "ss"
                rename_i pe He mve hpe
                refine s_catA (by walk_at "look") (by walk_at "look") (len_le (by simp; omega)) fun p7 H7 mv7 hp7 => ?_
                have hl2 := dpAll_length hP
                rw [List.length_map, List.length_take] at hl2
                refine lcP hD (by walk_at "look") (Nat.lt_of_le_of_lt (m := 625) (by omega) (by decide)) (by walk_at "mv") fun H8 mv8 nl => ?_
                rw [take_more ho, List.map_append]
                refine dpAll_append (nl_all nl noLs_ords ((mve.trans mv7).dpAll hP)) (.cons (.tup (nl.sqT hp7) ?_) .nil)
                exact dpAll_strs (l := n1 :: o)
            · have hxl : xs.length = (permsF m (ns.eraseIdx i)).length := by
                have := dpAll_length hax
                rw [List.length_map] at this
                exact this
              rw [hxl, List.take_length] at hP
              have hl2 := dpAll_length hP
              rw [List.length_map] at hl2
              have hac : H6 p1 = some (.lst acc) := by walk_at "look"
              have hi5 : i ≤ 4 := by omega
              refine s_ext2 hac hDa (len_le (by omega)) ?_
              have nl := nl_upd (l := acc ++ acc2) hac
              refine ⟨Mv.put (by walk_at "mv") hn1, _, _, _, rfl, acc ++ acc2, upd_same, ?_, ?_⟩
              · rw [List.range_succ, List.flatMap_append, List.map_append]
                refine dpAll_append (nl_all nl noLs_ords' (Mv.dpAll (by walk_at "mv") hd)) ?_
                have e : (List.map ordD (List.flatMap (fun j => List.map (fun x => ns.getD j Str.empty :: x) (permsF m (ns.eraseIdx j))) [i])) = (permsF m (ns.eraseIdx i)).map fun o => .tuple ((n1 :: o).map .str) := by
                  have e2 : ns.getD i Str.empty = n1 := by
                    rw [List.getD_eq_getElem?_getD, hn1']
                    rfl
                  simp only [List.flatMap_cons, List.flatMap_nil, List.append_nil, e2, List.map_map]
                  rfl
                rw [e]
                exact nl_all nl noLs_ords hP
              · rw [List.length_append, Nat.add_mul]
                omega
        · obtain ⟨x, y0, z, rfl, acc, hacc, hd, hal⟩ := hP
          walk_at "ss"
          rename_i pz hz H9 mv9 hp9
          refine q _ _ (by walk_at "mv") ?_
          rw [permsF_succ hne]
          rw [List.length_map] at hd
          exact .tup (SqT.of hp9) (mv9.dpAll hd)
end
end K4

set_option Elab.async false
set_option linter.all false
set_option maxRecDepth 100000
set_option maxHeartbeats 2000000
namespace K4
open PySem PySem.Spec PyProof.Rows L2 Mi
local macro_rules | `(tactic| walk_at "look") => `(tactic| first
  | with_reducible assumption
  | (with_reducible exact upd_same)
  | ((with_reducible apply SqL.of); first | with_reducible assumption | with_reducible exact upd_same)
  | ((with_reducible apply SqT.of); with_reducible assumption)
  | ((with_reducible apply Mv.sqL); (case' m => with_reducible assumption); walk_at "look")
  | ((with_reducible apply Mv.sqT); (case' m => with_reducible assumption); walk_at "look")
  | ((with_reducible apply Mv.lst); (case' m => with_reducible assumption); walk_at "look")
  | ((with_reducible apply Mv.tup); (case' m => with_reducible assumption); walk_at "look")
  | ((with_reducible apply Mv.ins); (case' m => with_reducible assumption); walk_at "look")
  | ((with_reducible apply Mv.dK); (case' m => with_reducible assumption); walk_at "look")
  | ((with_reducible apply Mv.exx); (case' m => with_reducible assumption); walk_at "look")
  | ((with_reducible apply Mv.dp); (case' m => with_reducible assumption); walk_at "look")
  | ((with_reducible apply Mv.dget); (case' m => with_reducible assumption); walk_at "look")
  | ((with_reducible apply Lk.dget); (case' m => with_reducible assumption); walk_at "look")
  | ((with_reducible apply Nl.dget); (case' m => with_reducible assumption); walk_at "look")
  | ((with_reducible apply Mv.frz); (case' m => with_reducible assumption); walk_at "look")
  | ((with_reducible apply Nl.sqT); (case' m => with_reducible assumption); walk_at "look")
  | ((with_reducible apply Nl.tup); (case' m => with_reducible assumption); walk_at "look")
  | ((with_reducible apply Nl.ins); (case' m => with_reducible assumption); walk_at "look")
  | ((with_reducible apply Nl.exx); (case' m => with_reducible assumption); walk_at "look")
  | ((with_reducible apply Nd.sqL); (case' m => with_reducible assumption); walk_at "look")
  | ((with_reducible apply Nd.sqT); (case' m => with_reducible assumption); walk_at "look")
  | ((with_reducible apply Nd.lst); (case' m => with_reducible assumption); walk_at "look")
  | ((with_reducible apply Nd.tup); (case' m => with_reducible assumption); walk_at "look")
  | ((with_reducible apply Nd.ins); (case' m => with_reducible assumption); walk_at "look")
  | ((with_reducible apply Nd.exx); (case' m => with_reducible assumption); walk_at "look")
  | ((with_reducible apply Lk.sqL); (case' m => with_reducible assumption); walk_at "look")
  | ((with_reducible apply Lk.sqT); (case' m => with_reducible assumption); walk_at "look")
  | ((with_reducible apply Lk.lst); (case' m => with_reducible assumption); walk_at "look")
  | ((with_reducible apply Lk.tup); (case' m => with_reducible assumption); walk_at "look")
  | ((with_reducible apply Lk.ins); (case' m => with_reducible assumption); walk_at "look")
  | ((with_reducible apply Lk.exx); (case' m => with_reducible assumption); walk_at "look")
  | ((with_reducible apply Lk.dp); (case' m => with_reducible assumption); walk_at "look"))
local macro_rules | `(tactic| walk_at "s") => `(tactic| first
  | with_reducible apply s_seq
  | with_reducible apply s_gCons
  | with_reducible apply s_gNil
  | ((with_reducible apply s_gTup); (case' h1 => walk_at "look"); (case' h2 => exact rfl))
  | with_reducible apply s_asg
  | with_reducible apply s_dgetE
  | ((with_reducible apply s_dget); (case' h1 => walk_at "look"))
  | ((with_reducible apply s_I); (case' hc => first | exact ⟨by omega, by omega⟩ | exact .inl ⟨by omega, by omega⟩ | exact .inr ⟨by omega, by omega⟩ | (show (_ : Int) < _; omega) | (show (_ : Int) ≠ _; omega)))
  | with_reducible apply s_mm
  | with_reducible apply s_makeE
  | ((with_reducible apply s_lenKL); (case' h1 => walk_at "look"))
  | ((with_reducible apply s_lenKT); (case' h1 => walk_at "look"))
  | ((with_reducible apply s_listKL); (case' h1 => walk_at "look"))
  | ((with_reducible apply s_listKT); (case' h1 => walk_at "look"))
  | ((with_reducible apply s_tupKL); (case' h1 => walk_at "look"))
  | ((with_reducible apply s_tupKT); (case' h1 => walk_at "look"))
  | with_reducible apply s_revE
  | ((with_reducible apply s_rev); (case' h1 => walk_at "look"))
  | with_reducible apply s_iE
  | ((with_reducible apply s_iE2); (case' h1 => walk_at "look"); intro J w)
  | ((with_reducible apply s_catA); (case' h1 => walk_at "look"); (case' h2 => walk_at "look"); (case' hz => (first | decide | (simp; done) | (simp; omega))); intro p H1 mv hp)
  | ((with_reducible apply s_slA); (case' h1 => walk_at "look"); intro p H1 mv hp)
  | ((with_reducible apply s_tupOfL); (case' h1 => walk_at "look"))
  | ((with_reducible apply s_tupOfT); (case' h1 => walk_at "look"))
  | with_reducible apply s_sFld
  | ((with_reducible apply s_sFld2); (case' h1 => walk_at "look"); (case' h2 => assumption); (case' h3 => assumption); (case' h4 => exact of_decide_eq_true rfl); (try rw [upd_upd]))
  | with_reducible apply s_seal
  | ((with_reducible apply s_wipe); (case' h1 => exact rfl))
  | ((with_reducible apply s_slL); (case' h1 => walk_at "look"))
  | with_reducible apply s_ifTT
  | with_reducible apply s_ifFF
  | with_reducible apply s_rollE
  | ((with_reducible apply s_roll); (case' h1 => walk_at "look"); (case' h2 => exact ⟨by omega, by omega⟩); intro k k0 k1)
  | with_reducible apply s_gSub
  | ((with_reducible apply s_setL); (case' h1 => walk_at "look"); (case' h2 => exact rfl))
  | with_reducible apply s_ab
  | with_reducible apply s_in1
  | with_reducible apply s_in2
  | ((with_reducible apply s_lsL); (case' h1 => walk_at "look"))
  | ((with_reducible apply s_lsT); (case' h1 => walk_at "look"))
  | ((with_reducible apply s_tyL); (case' h1 => walk_at "look"))
  | with_reducible apply s_for
  | with_reducible apply s_lc
  | with_reducible apply s_dc
  | with_reducible apply s_gn
  | with_reducible apply s_yes
  | with_reducible apply s_iL
  | with_reducible apply s_iT
  | with_reducible apply s_iR1
  | with_reducible apply s_iR2
  | with_reducible apply s_iK
  | ((with_reducible apply s_iL2); (case' h1 => walk_at "look"); intro J w)
  | ((with_reducible apply s_iT2); (case' h1 => walk_at "look"); intro J w)
  | ((with_reducible apply s_iR12); (case' h1 => omega); intro J w)
  | ((with_reducible apply s_iR22); (case' h1 => omega); intro J w)
  | ((with_reducible apply s_iK2); (case' h1 => walk_at "look"); intro J w)
  | with_reducible apply s_gN
  | ((with_reducible apply s_var); (case' h1 => exact rfl))
  | with_reducible apply s_c
  | with_reducible apply s_op
  | with_reducible apply s_cons
  | with_reducible apply s_nil
  | with_reducible apply s_ret
  | with_reducible apply s_ifS
  | with_reducible apply s_test
  | with_reducible apply s_B
  | with_reducible apply s_exbl
  | with_reducible apply s_exint
  | with_reducible apply s_I0
  | ((with_reducible apply s_Eq); (case' hs => exact rfl))
  | ((with_reducible apply s_Ne); (case' hs => exact rfl))
  | with_reducible apply s_un
  | with_reducible apply s_U
  | with_reducible apply s_cb
  | with_reducible apply s_call
  | with_reducible apply s_next
  | with_reducible apply s_drop
  | with_reducible apply s_break
  | with_reducible apply s_cont
  | with_reducible apply s_retN
  | with_reducible apply s_par
  | with_reducible apply s_par2
  | with_reducible apply s_par3
  | with_reducible apply s_par33
  | ((with_reducible apply s_aug); (case' h1 => exact rfl))
  | with_reducible apply s_and
  | with_reducible apply s_or
  | with_reducible apply s_not
  | with_reducible apply s_andV
  | with_reducible apply s_orV
  | with_reducible apply s_notV
  | with_reducible apply s_ifE
  | with_reducible apply s_isN
  | with_reducible apply s_chain
  | with_reducible apply s_sl
  | with_reducible apply s_noP
  | with_reducible apply s_part
  | with_reducible apply s_bm
  | with_reducible apply s_bm0
  | with_reducible apply s_tup
  | with_reducible apply s_lst
  | with_reducible apply s_fldE
  | ((with_reducible apply s_fld); (case' h1 => walk_at "look"); (case' h2 => assumption); (case' h3 => assumption); (case' h4 => exact rfl))
  | ((with_reducible apply s_ixL); (case' h1 => walk_at "look"); (case' h2 => exact rfl))
  | ((with_reducible apply s_ixT); (case' h1 => walk_at "look"); (case' h2 => exact rfl))
  | ((with_reducible apply s_lenL); (case' h1 => walk_at "look"))
  | ((with_reducible apply s_mk0); (case' hz => first | decide | (simp only [List.length_cons, List.length_nil]; decide)))
  | ((with_reducible refine s_all fun p hn => ?_); generalize hg : upd _ _ _ = H1; obtain ⟨mv, hp⟩ := gen_upd hg hn; clear hg))
local macro_rules | `(tactic| walk_at "mv") => `(tactic| first
  | with_reducible assumption
  | exact Mv.refl _
  | (refine Mv.trans ?_ (by with_reducible assumption); walk_at "mv"))
local macro_rules | `(tactic| walk_at "ss") => `(tactic| repeat walk_at "s")
local macro_rules | `(tactic| walk_at "k0") => `(tactic| try dsimp only [L2.cxOf, Cx.nox, Cx.wish, Cx.blk, genCx])

theorem filter_ne_all : ∀ {ns : List Str} {n : Str}, n ∉ ns → ns.filter (fun x => !decide (x = n)) = ns
  | [], _, _ => rfl
  | x :: ns, n, h => by
    have h1 : x ≠ n := fun z => h (z ▸ List.mem_cons_self)
    rw [List.filter_cons_of_pos (by simpa using h1), filter_ne_all fun z => h (List.mem_cons_of_mem _ z)]
theorem filter_erase : ∀ {ns : List Str} {i : Nat} {n : Str}, ns.Nodup → ns[i]? = some n → ns.filter (fun x => !decide (x = n)) = ns.eraseIdx i
  | [], i, n, _, h => by simp at h
  | x :: ns, 0, n, hn, h => by
    cases h
    rw [List.filter_cons_of_neg (by simp), List.eraseIdx_zero, List.tail_cons]
    exact filter_ne_all (List.nodup_cons.mp hn).1
  | x :: ns, i + 1, n, hn, h => by
    rw [List.getElem?_cons_succ] at h
    have h1 : x ≠ n := fun z => (List.nodup_cons.mp hn).1 (z ▸ get_mem h)
    rw [List.filter_cons_of_pos (by simpa using h1), List.eraseIdx_cons_succ, filter_erase (List.nodup_cons.mp hn).2 h]
section
variable [Lw] {P : Program} {w : World} {K : PySem.W.Frag} {mg : Str → Option Value} {base : Heap} {f : Addr} {fd : FuncData}
def spLOrd (K : PySem.W.Frag) : Nat → Sp
  | 0 => fun _ _ _ _ => False
  | n + 1 => fun vs H Q _ => ∃ (a : Addr) (ns : List Str), vs = [.ref a] ∧ SqL K H a (ns.map V.str) ∧ ns.length ≤ n ∧ ns.Nodup ∧ (∀ x ∈ ns, txOk x = true) ∧ ∀ p H' xs, Mv H H' → H' p = some (.lst xs) → DpAll K H' xs ((permsF n ns).map ordD) → Q (.ref p) H'
theorem ok_lord (T : Sy fa4 fn4 tf4 K mg base) (F : FnP K "_law_orders" s__law_orders f fd) (hm : mg "_law_orders" = some (.ref f)) (hb : Binds K fd ["names"] []) : ∀ n, n ≤ 6 → FnOk P w K mg base CX0 n f fd ["names"] (spLOrd K n)
  | 0, _ => ⟨fun _ _ _ _ h => h.elim, fun _ _ _ _ _ _ _ _ _ _ _ _ _ h => h.elim⟩
  | n + 1, h6 => by
    have c__law_orders : Cal P w K mg base CX0 n "_law_orders" f fd ["names"] (spLOrd K n) := ⟨ok_lord T F hm hb n (by omega), hm, F.kp, hb⟩
    refine F.ok sc__law_orders (fun vs H Q E h => ?_) (fun cdv A outer s H vs Q E hr h => ⟨_, PSs.nox (pss_cons (ps_if (pt_cmpR (op_eqDK (K := K) rfl (Room.units hr)) (pv 0) (pe_lst pa_nil) (nomark _)) (pss_one (ps_ret (pe_lst (pa_cons (pe_tup pa_nil) pa_nil)))) pss_nil) (pss_cons (ps_set (i := 1) sc__law_orders.nd rfl (.inl rfl) (pe_lst pa_nil)) (pss_cons (ps_for PassesOwn.never rfl (pi_listK (K := K) rfl (pv 0)) (pg_name (i := 2) sc__law_orders.nd rfl (.inr rfl)) (pss_one (ps_set (i := 1) sc__law_orders.nd rfl (.inl rfl) (pe_op op_cat (pv 1) (pe_lc (own := [("rest", 4)]) (tt := tYes) rfl sc__law_orders.nd (pi_listK (K := K) rfl (pe_cal c__law_orders (hr.mono (by first | decide | omega)) rfl pass0 (pa_cons (pe_lc (own := [("one", 3)])  rfl sc__law_orders.nd (pi_listK (K := K) rfl (pv 0)) (blkOk_by (N := n__law_orders) (sc := (defScope s__law_orders)) (by decide +kernel)) (fun _ _ _ _ _ => (pg_name (i := 3) sc__law_orders.nd rfl (.inl rfl))) (fun _ _ _ _ _ => pts_one (pt_cmpR op_ne (pv 3) (pv 2) (nomark _)))  (fun _ _ _ _ _ => (pv 3))) pa_nil))) (blkOk_by (N := n__law_orders) (sc := (defScope s__law_orders)) (by decide +kernel)) (fun _ _ _ _ _ => (pg_name (i := 4) sc__law_orders.nd rfl (.inl rfl))) (fun _ _ _ _ _ => pts_nil)  (fun _ _ _ _ _ => (pe_op (op_catAK (K := K) rfl) (pe_tup (pa_cons (pv 2) pa_nil)) (pv 4)))))))) (pss_one (ps_ret (pv 1)))))), ?_⟩)
    · obtain ⟨_, _, rfl, _⟩ := h
      rfl
    · obtain ⟨a, ns, rfl, hs, hl, hnd, hx, q⟩ := h
      walk_at "k0"
      walk_at "ss"
      rename_i p0 hn0 H1 mv0 hp0
      refine s_eqD (.lst (mv0.sqL hs) dpAll_strs) (.lst (SqL.of hp0) .nil) (Sh.shaped (Sh.lst (sh_strs hx)) (by decide)) rfl ?_
      cases hns : ns with
      | nil =>
        subst hns
        refine ⟨true, rfl, ?_⟩
        walk_at "ss"
        rename_i p1 hn1 H2 mv1 hp1 p2 hn2 H3 mv2 hp2
        refine q _ _ _ (by walk_at "mv") hp2 ?_
        rw [permsF_nil]
        exact .cons (.tup (SqT.of (mv2.tup hp1)) .nil) .nil
      | cons n0 nr =>
        rw [← hns]
        have hne : ns ≠ [] := by rw [hns]; exact List.cons_ne_nil _ _
        have e : PyData.eqv (.list (ns.map .str)) (.list []) = false := by rw [hns]; rfl
        rw [e]
        refine ⟨false, rfl, ?_⟩
        walk_at "ss"
        rename_i p1 hn1 H2 mv1 hp1 J w
        obtain ⟨m, rfl⟩ : ∃ m, n = m + 1 := ⟨n - 1, by have := List.length_pos_iff.mpr hne; omega⟩
        have h4 := pow5 (m := m) (by omega)
        refine forE (B := H1) w mv1 (fun H' mm => mm.sqL (mv0.sqL hs)) (fun i σ' H' => ∃ x y z pf, σ' = [some (.ref a), some (.ref pf), x, y, z] ∧ ∃ acc, H' pf = some (.lst acc) ∧ DpAll K H' acc (((List.range i).flatMap fun j => (permsF m (ns.eraseIdx j)).map (ns.getD j Str.empty :: ·)).map ordD) ∧ acc.length ≤ i * 625) ⟨none, none, none, p1, rfl, [], hp1, .nil, Nat.zero_le _⟩ (fun i y σ' H' hy mv hP => ?_) (fun σ' H' mv hP => ?_)
        · obtain ⟨x, y0, z, pf, rfl, acc, hacc, hd, hal⟩ := hP
          obtain ⟨n1, hn1', rfl⟩ := map_get hy
          have hi' : i < ns.length := (List.getElem?_eq_some_iff.mp hn1').1
          walk_at "ss"
          rename_i J1 w1
          refine lcE w1 (fun H' mm => mm.sqL (by walk_at "look")) fun D hD => ⟨fun j acc2 H' => acc2 = ((ns.take j).filter fun x => !decide (x = n1)).map V.str, fun H' _ => rfl, fun j y acc2 H6 hy mv6 hDa hP => ?_, fun acc2 H6 mv6 hDa hP => ?_⟩
          · obtain ⟨n2, hn2', rfl⟩ := map_get hy
            subst hP
            walk_at "ss"
            refine ite_ndec (fun hc => ?_) (fun hc => ?_)
            · walk_at "ss"
              refine lcP hD hDa (Nat.lt_of_le_of_lt (m := 6) ?_ (by decide)) mv6 fun H8 mv8 nl => ?_
              · have := List.length_filter_le (fun x => !decide (x = n1)) (ns.take j)
                rw [List.length_take] at this
                rw [List.length_map]
                omega
              · have hc : ¬ n2 = n1 := fun z => hc (by rw [z])
                rw [take_more hn2', List.filter_append, List.filter_cons_of_pos (by simpa using hc), List.map_append]
                rfl
            · refine ⟨_, hDa, mv6, ?_⟩
              have hc : n2 = n1 := V.str.inj hc
              dsimp only
              rw [take_more hn2', List.filter_append, List.filter_cons_of_neg (by simpa using hc), List.filter_nil, List.append_nil]
          · rw [List.length_map, List.take_length, filter_erase hnd hn1'] at hP
            subst hP
            walk_at "ss"
            refine ⟨_, ns.eraseIdx i, rfl, SqL.of hDa, by rw [List.length_eraseIdx_of_lt hi']; omega, hnd.sublist (List.eraseIdx_sublist _ _), fun x hx' => hx x (List.mem_of_mem_eraseIdx hx'), fun p' H5 xs mv5 hp5 hax => ?_⟩
            refine s_iL2 (SqL.of hp5) fun J2 w2 => ?_
            have hpl : (permsF m (ns.eraseIdx i)).length ≤ 625 := Nat.le_trans (permsF_le (by rw [List.length_eraseIdx_of_lt hi']; omega) (by omega)) h4
            refine lcE w2 (fun H' mm => mm.sqL (SqL.of hp5)) fun D2 hD2 => ⟨fun j acc2 H' => DpAll K H' acc2 (((permsF m (ns.eraseIdx i)).take j).map fun o => .tuple ((n1 :: o).map .str)), fun H' _ => .nil, fun j y acc2 H6 hy mv6 hDa hP => ?_, fun acc2 H6 mv6 hDa hP => ?_⟩
            · obtain ⟨d, hd1, hd2⟩ := dpAll_get (mv6.dpAll hax) hy
              rw [List.getElem?_map] at hd1
              cases ho : (permsF m (ns.eraseIdx i))[j]? with
              | none =>
                rw [ho] at hd1
                cases hd1
              | some o =>
                rw [ho] at hd1
                cases hd1
                obtain ⟨qa, rfl, hqa⟩ := dp_tup_strs hd2
                have hol := permsF_len (get_mem ho)
                walk_at "ss"
                rename_i pe _ He mve hpe
                refine s_catA (by walk_at "look") (by walk_at "look") (len_le (by simp; omega)) fun p7 H7 mv7 hp7 => ?_
                have hl2 := dpAll_length hP
                rw [List.length_map, List.length_take] at hl2
                refine lcP hD2 (by walk_at "look") (Nat.lt_of_le_of_lt (m := 625) (by omega) (by decide)) (by walk_at "mv") fun H8 mv8 nl => ?_
                rw [take_more ho, List.map_append]
                refine dpAll_append (nl_all nl noLs_ords ((mve.trans mv7).dpAll hP)) (.cons (.tup (nl.sqT hp7) ?_) .nil)
                exact dpAll_strs (l := n1 :: o)
            · have hxl : xs.length = (permsF m (ns.eraseIdx i)).length := by
                have := dpAll_length hax
                rw [List.length_map] at this
                exact this
              rw [hxl, List.take_length] at hP
              have hl2 := dpAll_length hP
              rw [List.length_map] at hl2
              have hac : H6 pf = some (.lst acc) := by walk_at "look"
              have hd := Mv.dpAll (by walk_at "mv" : Mv H' H6) hd
              refine s_cat hac hDa (len_le (by omega)) ?_
              walk_at "ss"
              rename_i pg _ H9 mv9 hp9
              refine ⟨by walk_at "mv", _, _, _, pg, rfl, acc ++ acc2, hp9, ?_, ?_⟩
              · rw [List.range_succ, List.flatMap_append, List.map_append]
                refine dpAll_append (mv9.dpAll hd) ?_
                have e : (List.map ordD (List.flatMap (fun j => List.map (fun x => ns.getD j Str.empty :: x) (permsF m (ns.eraseIdx j))) [i])) = (permsF m (ns.eraseIdx i)).map fun o => .tuple ((n1 :: o).map .str) := by
                  have e2 : ns.getD i Str.empty = n1 := by
                    rw [List.getD_eq_getElem?_getD, hn1']
                    rfl
                  simp only [List.flatMap_cons, List.flatMap_nil, List.append_nil, e2, List.map_map]
                  rfl
                rw [e]
                exact mv9.dpAll hP
              · rw [List.length_append, Nat.add_mul]
                omega
        · obtain ⟨x, y0, z, pf, rfl, acc, hacc, hd, hal⟩ := hP
          walk_at "ss"
          refine q _ _ _ (by walk_at "mv") hacc ?_
          rw [permsF_succ hne]
          rw [List.length_map] at hd
          exact hd
end
end K4

set_option Elab.async false
set_option linter.all false
set_option maxRecDepth 100000
set_option maxHeartbeats 2000000
namespace K4
open PySem PySem.Spec PyProof.Rows L2 Mi
local macro_rules | `(tactic| walk_at "look") => `(tactic| first
  | with_reducible assumption
  | (with_reducible exact upd_same)
  | ((with_reducible apply SqL.of); first | with_reducible assumption | with_reducible exact upd_same)
  | ((with_reducible apply SqT.of); with_reducible assumption)
  | ((with_reducible apply Mv.sqL); (case' m => with_reducible assumption); walk_at "look")
  | ((with_reducible apply Mv.sqT); (case' m => with_reducible assumption); walk_at "look")
  | ((with_reducible apply Mv.lst); (case' m => with_reducible assumption); walk_at "look")
  | ((with_reducible apply Mv.tup); (case' m => with_reducible assumption); walk_at "look")
  | ((with_reducible apply Mv.ins); (case' m => with_reducible assumption); walk_at "look")
  | ((with_reducible apply Mv.dK); (case' m => with_reducible assumption); walk_at "look")
  | ((with_reducible apply Mv.exx); (case' m => with_reducible assumption); walk_at "look")
  | ((with_reducible apply Mv.dp); (case' m => with_reducible assumption); walk_at "look")
  | ((with_reducible apply Mv.dget); (case' m => with_reducible assumption); walk_at "look")
  | ((with_reducible apply Lk.dget); (case' m => with_reducible assumption); walk_at "look")
  | ((with_reducible apply Nl.dget); (case' m => with_reducible assumption); walk_at "look")
  | ((with_reducible apply Mv.frz); (case' m => with_reducible assumption); walk_at "look")
  | ((with_reducible apply Nl.sqT); (case' m => with_reducible assumption); walk_at "look")
  | ((with_reducible apply Nl.tup); (case' m => with_reducible assumption); walk_at "look")
  | ((with_reducible apply Nl.ins); (case' m => with_reducible assumption); walk_at "look")
  | ((with_reducible apply Nl.exx); (case' m => with_reducible assumption); walk_at "look")
  | ((with_reducible apply Nd.sqL); (case' m => with_reducible assumption); walk_at "look")
  | ((with_reducible apply Nd.sqT); (case' m => with_reducible assumption); walk_at "look")
  | ((with_reducible apply Nd.lst); (case' m => with_reducible assumption); walk_at "look")
  | ((with_reducible apply Nd.tup); (case' m => with_reducible assumption); walk_at "look")
  | ((with_reducible apply Nd.ins); (case' m => with_reducible assumption); walk_at "look")
  | ((with_reducible apply Nd.exx); (case' m => with_reducible assumption); walk_at "look")
  | ((with_reducible apply Lk.sqL); (case' m => with_reducible assumption); walk_at "look")
  | ((with_reducible apply Lk.sqT); (case' m => with_reducible assumption); walk_at "look")
  | ((with_reducible apply Lk.lst); (case' m => with_reducible assumption); walk_at "look")
  | ((with_reducible apply Lk.tup); (case' m => with_reducible assumption); walk_at "look")
  | ((with_reducible apply Lk.ins); (case' m => with_reducible assumption); walk_at "look")
  | ((with_reducible apply Lk.exx); (case' m => with_reducible assumption); walk_at "look")
  | ((with_reducible apply Lk.dp); (case' m => with_reducible assumption); walk_at "look"))
local macro_rules | `(tactic| walk_at "s") => `(tactic| first
  | with_reducible apply s_seq
  | with_reducible apply s_gCons
  | with_reducible apply s_gNil
  | ((with_reducible apply s_gTup); (case' h1 => walk_at "look"); (case' h2 => exact rfl))
  | with_reducible apply s_asg
  | with_reducible apply s_dgetE
  | ((with_reducible apply s_dget); (case' h1 => walk_at "look"))
  | ((with_reducible apply s_I); (case' hc => first | exact ⟨by omega, by omega⟩ | exact .inl ⟨by omega, by omega⟩ | exact .inr ⟨by omega, by omega⟩ | (show (_ : Int) < _; omega) | (show (_ : Int) ≠ _; omega)))
  | with_reducible apply s_mm
  | with_reducible apply s_makeE
  | ((with_reducible apply s_lenKL); (case' h1 => walk_at "look"))
  | ((with_reducible apply s_lenKT); (case' h1 => walk_at "look"))
  | ((with_reducible apply s_listKL); (case' h1 => walk_at "look"))
  | ((with_reducible apply s_listKT); (case' h1 => walk_at "look"))
  | ((with_reducible apply s_tupKL); (case' h1 => walk_at "look"))
  | ((with_reducible apply s_tupKT); (case' h1 => walk_at "look"))
  | with_reducible apply s_revE
  | ((with_reducible apply s_rev); (case' h1 => walk_at "look"))
  | with_reducible apply s_iE
  | ((with_reducible apply s_iE2); (case' h1 => walk_at "look"); intro J w)
  | ((with_reducible apply s_catA); (case' h1 => walk_at "look"); (case' h2 => walk_at "look"); (case' hz => (first | decide | (simp; done) | (simp; omega))); intro p H1 mv hp)
  | ((with_reducible apply s_slA); (case' h1 => walk_at "look"); intro p H1 mv hp)
  | ((with_reducible apply s_tupOfL); (case' h1 => walk_at "look"))
  | ((with_reducible apply s_tupOfT); (case' h1 => walk_at "look"))
  | with_reducible apply s_sFld
  | ((with_reducible apply s_sFld2); (case' h1 => walk_at "look"); (case' h2 => assumption); (case' h3 => assumption); (case' h4 => exact of_decide_eq_true rfl); (try rw [upd_upd]))
  | with_reducible apply s_seal
  | ((with_reducible apply s_wipe); (case' h1 => exact rfl))
  | ((with_reducible apply s_slL); (case' h1 => walk_at "look"))
  | with_reducible apply s_ifTT
  | with_reducible apply s_ifFF
  | with_reducible apply s_rollE
  | ((with_reducible apply s_roll); (case' h1 => walk_at "look"); (case' h2 => exact ⟨by omega, by omega⟩); intro k k0 k1)
  | with_reducible apply s_gSub
  | ((with_reducible apply s_setL); (case' h1 => walk_at "look"); (case' h2 => exact rfl))
  | with_reducible apply s_ab
  | with_reducible apply s_in1
  | with_reducible apply s_in2
  | ((with_reducible apply s_lsL); (case' h1 => walk_at "look"))
  | ((with_reducible apply s_lsT); (case' h1 => walk_at "look"))
  | ((with_reducible apply s_tyL); (case' h1 => walk_at "look"))
  | with_reducible apply s_for
  | with_reducible apply s_lc
  | with_reducible apply s_dc
  | with_reducible apply s_gn
  | with_reducible apply s_yes
  | with_reducible apply s_iL
  | with_reducible apply s_iT
  | with_reducible apply s_iR1
  | with_reducible apply s_iR2
  | with_reducible apply s_iK
  | ((with_reducible apply s_iL2); (case' h1 => walk_at "look"); intro J w)
  | ((with_reducible apply s_iT2); (case' h1 => walk_at "look"); intro J w)
  | ((with_reducible apply s_iR12); (case' h1 => omega); intro J w)
  | ((with_reducible apply s_iR22); (case' h1 => omega); intro J w)
  | ((with_reducible apply s_iK2); (case' h1 => walk_at "look"); intro J w)
  | with_reducible apply s_gN
  | ((with_reducible apply s_var); (case' h1 => exact rfl))
  | with_reducible apply s_c
  | with_reducible apply s_op
  | with_reducible apply s_cons
  | with_reducible apply s_nil
  | with_reducible apply s_ret
  | with_reducible apply s_ifS
  | with_reducible apply s_test
  | with_reducible apply s_B
  | with_reducible apply s_exbl
  | with_reducible apply s_exint
  | with_reducible apply s_I0
  | ((with_reducible apply s_Eq); (case' hs => exact rfl))
  | ((with_reducible apply s_Ne); (case' hs => exact rfl))
  | with_reducible apply s_un
  | with_reducible apply s_U
  | with_reducible apply s_cb
  | with_reducible apply s_call
  | with_reducible apply s_next
  | with_reducible apply s_drop
  | with_reducible apply s_break
  | with_reducible apply s_cont
  | with_reducible apply s_retN
  | with_reducible apply s_par
  | with_reducible apply s_par2
  | with_reducible apply s_par3
  | with_reducible apply s_par33
  | ((with_reducible apply s_aug); (case' h1 => exact rfl))
  | with_reducible apply s_and
  | with_reducible apply s_or
  | with_reducible apply s_not
  | with_reducible apply s_andV
  | with_reducible apply s_orV
  | with_reducible apply s_notV
  | with_reducible apply s_ifE
  | with_reducible apply s_isN
  | with_reducible apply s_chain
  | with_reducible apply s_sl
  | with_reducible apply s_noP
  | with_reducible apply s_part
  | with_reducible apply s_bm
  | with_reducible apply s_bm0
  | with_reducible apply s_tup
  | with_reducible apply s_lst
  | with_reducible apply s_fldE
  | ((with_reducible apply s_fld); (case' h1 => walk_at "look"); (case' h2 => assumption); (case' h3 => assumption); (case' h4 => exact rfl))
  | ((with_reducible apply s_ixL); (case' h1 => walk_at "look"); (case' h2 => exact rfl))
  | ((with_reducible apply s_ixT); (case' h1 => walk_at "look"); (case' h2 => exact rfl))
  | ((with_reducible apply s_lenL); (case' h1 => walk_at "look"))
  | ((with_reducible apply s_mk0); (case' hz => first | decide | (simp only [List.length_cons, List.length_nil]; decide)))
  | ((with_reducible refine s_all fun p hn => ?_); generalize hg : upd _ _ _ = H1; obtain ⟨mv, hp⟩ := gen_upd hg hn; clear hg))
local macro_rules | `(tactic| walk_at "mv") => `(tactic| first
  | with_reducible assumption
  | exact Mv.refl _
  | (refine Mv.trans ?_ (by with_reducible assumption); walk_at "mv"))
local macro_rules | `(tactic| walk_at "ss") => `(tactic| repeat walk_at "s")
local macro_rules | `(tactic| walk_at "k0") => `(tactic| try dsimp only [L2.cxOf, Cx.nox, Cx.wish, Cx.blk, genCx])

/-- the first of the best -/
structure BestI (K : PySem.W.Frag) (wor : List Str → Int) (ords : List (List Str)) (i : Nat) (b : V) (H : Hp) (t k : Nat) (q : Addr) (o : List Str) : Prop where
  hb : b = .ref t
  ht : H t = some (.tup [.int (wor o), .ref q])
  hq : SqT K H q (o.map V.str)
  ho : ords[k]? = some o
  hk : k < i
  ha : ∀ (j : Nat) (o' : List Str), j < i → ords[j]? = some o' → wor o' ≤ wor o
  hf : ∀ (j : Nat) (o' : List Str), j < k → ords[j]? = some o' → wor o' < wor o
theorem BestI.mv [Lw] {K : PySem.W.Frag} {wor : List Str → Int} {ords : List (List Str)} {i : Nat} {b : V} {H H' : Hp} {t k : Nat} {q : Addr} {o : List Str} (m : Mv H H') (h : BestI K wor ords i b H t k q o) : BestI K wor ords i b H' t k q o := ⟨h.hb, m.tup h.ht, m.sqT h.hq, h.ho, h.hk, h.ha, h.hf⟩
section
variable [Lw] {P : Program} {w : World} {K : PySem.W.Frag} {mg : Str → Option Value} {base : Heap} {f : Addr} {fd : FuncData}
def spBest (K : PySem.W.Frag) : Sp := fun vs H Q E => ∃ (a : Addr) (rs : List V) (p : Int), vs = [.ref a, .int p] ∧ SqL K H a rs ∧ ((rs.length > 8 ∨ p < 1) → E (.ref (He.ga K "WorkError")) none H) ∧
  (¬ (rs.length > 8 ∨ p < 1) → p < 1000 ∧ ∃ (nsJ ns : List Str) (pd : Str → Int × Int), nsJ.length = rs.length ∧ nsJ.Perm ns ∧ (ns.Pairwise fun a b => leS a b = true) ∧ ns.Nodup ∧ ns.length ≤ 5 ∧ (∀ x ∈ ns, txOk x = true) ∧ GxR.TabG H (He.cT K ("best_order", none)).2 ∧
    (∀ (i : Nat) (n : Str) (v : V), nsJ[i]? = some n → rs[i]? = some v → ∃ o r, JobAt (He.ga K "Job") H v n o (pd n).1 r (pd n).2) ∧
    ∀ b H' t k q o, Mv H H' → BestI K (fun o => inT pd p o 0 0) (permsF 5 ns) (permsF 5 ns).length b H' t k q o → Q b H')
theorem ok_best (T : Sy fa4 fn4 tf4 K mg base) (F : FunD K "best_order" "best_order" (defArgs s_best_order) (defBody s_best_order) (defScope s_best_order) [] [] (He.fAd K ("best_order", none)) fd) (hP : (He.cT K ("best_order", none)).2 ≠ Lw.L) {f1 f2 : Addr} {fd1 fd2 : FuncData} (c_orders_of : Cal P w K mg base CX0 6 "orders_of" f1 fd1 ["names"] (spOrd K 6)) (c_in_time : Cal P w K mg base CX0 1 "in_time" f2 fd2 ["jobs", "names", "pounds"] (spInTime K (He.ga K "Job"))) :
    FnOk P w K mg base (CX P w) 7 (He.fAd K ("best_order", none)) fd ["jobs", "pounds"] (spBest K) := by
  obtain ⟨tMJ, c_MJ⟩ := T.int "MOST_JOBS" 8
  refine FunD.okC F sc_best_order (fun vs H Q E h => ?_) (fun A outer s H vs Q E hr h => ⟨_, (pss_cons (ps_if (PW.pt (pw_or (pt_cmpR op_gt (pe_callB (call_lenK (K := K) rfl) rfl (T.free "len") boot_len (pa_cons (pv 0) pa_nil)) (pe_glob (v := .int 8) rfl c_MJ ⟨_, rfl⟩) (nomark _)) (pw_or1 (pt_cmpR op_lt (pv 1) pe_int (nomark _))))) (pss_one (ps_raise rfl (takes_of rfl rfl rfl rfl) (pmk_own PySem.F.excBase_ValueError (T.excX "WorkError") (T.glo "WorkError") (T.excK "WorkError") (raises_own (T.excB "WorkError") (T.excT "WorkError")) rfl))) pss_nil) (pss_cons (ps_set (i := 2) sc_best_order.nd rfl (.inl rfl) pe_non) (pss_cons (ps_for (passes_of rfl) rfl (pi_tupK (K := K) rfl (pe_cal c_orders_of (hr.mono (by first | decide | omega)) rfl pass0 (pa_cons (pe_callTy (call_tupleK (K := K) rfl) rfl (T.free "tuple") boot_tuple (pa_cons (pe_sortedG (k := 0) (own := [("job", 5)]) ⟨hr.mono (by first | decide | omega), T.tabB ("best_order", none), rfl, (pi_listK (K := K) rfl (pv 0)), fun _ => rfl, ⟨genOk_by (N := n_best_order) (sc := (defScope s_best_order)) (by decide +kernel), sc_best_order.nd, fun A s H cl L code fp => (pg_name (i := 5) sc_best_order.nd rfl (.inl rfl)), fun A s H cl L code fp hr2 => pts_nil, fun A s H cl L code fp hr2 => (pe_fldK (K := K) rfl (pv 5) rfl)⟩⟩ rfl (T.free "sorted")) pa_nil)) pa_nil))) (pg_name (i := 3) sc_best_order.nd rfl (.inl rfl)) (pss_cons (ps_set (i := 4) sc_best_order.nd rfl (.inl rfl) (pe_cal c_in_time (hr.mono (by first | decide | omega)) rfl pass0 (pa_cons (pe_dc (own := [("job", 5)]) (tt := tYes) rfl sc_best_order.nd (pi_listK (K := K) rfl (pv 0)) (blkOk_by (N := n_best_order) (sc := (defScope s_best_order)) (by decide +kernel)) (fun _ _ _ _ _ => (pg_name (i := 5) sc_best_order.nd rfl (.inl rfl))) (fun _ _ _ _ _ => pts_nil)  (fun _ _ _ _ _ => (pe_fldK (K := K) rfl (pv 5) rfl)) (fun _ _ _ _ _ => (pv 5))) (pa_cons (pv 3) (pa_cons (pv 1) pa_nil))))) (pss_one (ps_if (PW.pt (pw_or (pt_cmp (pc_isN (pv 2))) (pw_or1 (pt_cmpR op_gt (pv 4) (pe_ix (ix_tupK (K := K) rfl) (pv 2) pe_int (fun _ _ => rfl)) (nomark _))))) (pss_one (ps_set (i := 2) sc_best_order.nd rfl (.inl rfl) (pe_tup (pa_cons (pv 4) (pa_cons (pv 3) pa_nil))))) pss_nil)))) (pss_one (ps_ret (pv 2)))))), ?_⟩)
  · obtain ⟨_, _, _, rfl, _⟩ := h
    rfl
  · obtain ⟨a, rs, p, rfl, hs, bad, good⟩ := h
    have cJ := T.cls "Job"
    have nA := T.noat "Job" "name"
    walk_at "k0"
    walk_at "ss"
    refine ite_dec (fun hc => ?_) (fun hc => ?_)
    · exact bad (.inl (by omega))
    walk_at "ss"
    refine ite_dec (fun hc2 => ?_) (fun hc2 => ?_)
    · exact bad (.inr hc2)
    obtain ⟨h1000, nsJ, ns, pd, hlen, hperm, hsort, hnd, h5, hx, hT, hj, q⟩ := good (by omega)
    have hlen2 := hperm.length_eq
    walk_at "ss"
    rename_i J w
    refine gnE w (fun H' m => m.sqL hs) hP hT ⟨fun i acc H' => acc = (nsJ.take i).map V.str, fun H' _ => rfl, fun i y acc H' hy m hacc => ?_, fun acc H' m hacc => ?_⟩
    · have hi := (List.getElem?_eq_some_iff.mp hy).1
      have hn : nsJ[i]? = some (nsJ[i]'(by omega)) := List.getElem?_eq_getElem _
      obtain ⟨o, r, a1, dx, rfl, ha1⟩ := hj i _ _ hn hy
      walk_at "ss"
      subst hacc
      refine ⟨Nat.lt_of_le_of_lt (m := 6) (by rw [List.length_map, List.length_take]; omega) (by decide), m, ?_⟩
      dsimp only
      rw [take_more hn, List.map_append]
      rfl
    · rw [show rs.length = nsJ.length from hlen.symm, List.take_length] at hacc
      subst hacc
      refine ⟨_, sortP_strs, ?_⟩
      rw [sortedV_strs hperm hsort]
      walk_at "ss"
      rename_i pL hnL HL mvL hpL pT hnT HT mvT hpT
      refine ⟨_, ns, rfl, SqT.of hpT, h5, hx, fun pO H2 mvO dpO => ?_⟩
      cases dpO with
      | @tup _ xs _ hsx hax =>
        refine s_iT2 hsx fun J2 w2 => ?_
        have hxl : xs.length = (permsF 5 ns).length := by
          have := dpAll_length hax
          rw [List.length_map] at this
          exact this
        refine forE (B := H2) w2 (Mv.refl _) (fun H' m => m.sqT hsx) (fun i σ' H' => ∃ b x y z, σ' = [some (.ref a), some (.int p), some b, x, y, z] ∧ ((i = 0 ∧ b = .non) ∨ ∃ t k q o, BestI K (fun o => inT pd p o 0 0) (permsF 5 ns) i b H' t k q o)) ⟨.non, none, none, none, rfl, .inl ⟨rfl, rfl⟩⟩ (fun i y σ' H' hy mv hP => ?_) (fun σ' H' mv hP => ?_)
        · obtain ⟨b, x, y1, z, rfl, hb⟩ := hP
          obtain ⟨d, hd1, hd2⟩ := dpAll_get hax hy
          rw [List.getElem?_map] at hd1
          cases ho : (permsF 5 ns)[i]? with
          | none =>
            rw [ho] at hd1
            cases hd1
          | some o =>
            rw [ho] at hd1
            cases hd1
            obtain ⟨qa, rfl, hqa⟩ := dp_tup_strs hd2
            have hom := permsF_mem (get_mem ho)
            walk_at "ss"
            rename_i J3 w3
            refine dcE w3 (fun H'' mm => mm.sqL (by walk_at "look")) fun D hD => ⟨fun j acc H'' => acc.length ≤ j ∧ ∀ (l : Nat) (n : Str) (v : V), l < j → nsJ[l]? = some n → rs[l]? = some v → valV acc (Sum.inr n : Key) = some v, fun _ _ => ⟨Nat.le_refl _, fun l _ _ h => absurd h (Nat.not_lt_zero _)⟩, fun j y acc H3 hy mm hDa hP => ?_, fun acc H3 mm hDa hP => ?_⟩
            · have hj1 := (List.getElem?_eq_some_iff.mp hy).1
              have hn : nsJ[j]? = some (nsJ[j]'(by omega)) := List.getElem?_eq_getElem _
              obtain ⟨o3, r3, a3, dx3, rfl, ha3⟩ := hj j _ _ hn hy
              walk_at "ss"
              refine dcP (k := Sum.inr _) hD hDa (Nat.lt_of_le_of_lt (m := 6) (by omega) (by decide)) mm fun H5 m5 nd => ⟨Nat.le_trans (length_putK _ _ _) (by omega), fun l n v hl hn1 hv => ?_⟩
              rw [valV_put]
              by_cases hlj : l = j
              · subst hlj
                rw [hn] at hn1
                rw [if_pos (by rw [Option.some.inj hn1])]
                rw [hy] at hv
                exact hv
              · have hndJ : nsJ.Nodup := hperm.symm.nodup hnd
                rw [if_neg fun z => ?_]
                · exact hP.2 l n v (by omega) hn1 hv
                · have z := Sum.inr.inj z
                  rw [z] at hn1
                  exact hlj (nodup_inj hndJ hn1 hn)
            · walk_at "ss"
              refine ⟨D, qa, p, o, pd, rfl, by omega, h1000, by walk_at "look", fun n hn => ?_, fun H6 m6 => ?_⟩
              · have hn2 := hperm.symm.subset (hom n hn)
                obtain ⟨l, hl⟩ := List.mem_iff_getElem?.mp hn2
                have hl1 := (List.getElem?_eq_some_iff.mp hl).1
                have hv : rs[l]? = some (rs[l]'(by omega)) := List.getElem?_eq_getElem _
                obtain ⟨o3, r3, hj3⟩ := hj l _ _ hl hv
                refine ⟨_, o3, r3, ?_, JobAt.mv (by walk_at "mv") hj3⟩
                have hg := DGet.k (k := (Sum.inr n : Key)) hDa
                rw [hP.2 l n _ (by omega) hl hv] at hg
                exact hg
              · rcases hb with ⟨rfl, rfl⟩ | ⟨t, k, q2, o2, hB⟩
                · walk_at "ss"
                  refine ite_dec (fun hc => ?_) (fun hc => absurd rfl hc)
                  walk_at "ss"
                  rename_i pb hnb Hb mvb hpb
                  refine ⟨by walk_at "mv", _, _, _, _, rfl, .inr ⟨pb, 0, qa, o, rfl, hpb, by walk_at "look", ho, by decide, fun j o' hj ho' => ?_, fun j o' hj => absurd hj (Nat.not_lt_zero _)⟩⟩
                  have : j = 0 := by omega
                  subst this
                  rw [ho] at ho'
                  rw [Option.some.inj ho']
                  exact Int.le_refl _
                · obtain ⟨rfl, ht, hq2, ho2, hk2, ha2, hf2⟩ := hB
                  have ht := Mv.tup (by walk_at "mv" : Mv H' H6) ht
                  have hq2 := Mv.sqT (by walk_at "mv" : Mv H' H6) hq2
                  walk_at "ss"
                  refine ite_dec (fun hc => nomatch hc) (fun hc => ?_)
                  walk_at "ss"
                  refine ite_dec (fun hc => ?_) (fun hc => ?_)
                  · walk_at "ss"
                    rename_i pb hnb Hb mvb hpb
                    refine ⟨by walk_at "mv", _, _, _, _, rfl, .inr ⟨pb, i, qa, o, rfl, hpb, by walk_at "look", ho, by omega, fun j o' hj ho' => ?_, fun j o' hj ho' => ?_⟩⟩
                    · by_cases z : j = i
                      · rw [z, ho] at ho'
                        rw [Option.some.inj ho']
                        exact Int.le_refl _
                      · have := ha2 j o' (by omega) ho'
                        try dsimp only at this hc ⊢
                        omega
                    · have := ha2 j o' hj ho'
                      try dsimp only at this hc ⊢
                      omega
                  · walk_at "ss"
                    refine ⟨by walk_at "mv", _, _, _, _, rfl, .inr ⟨t, k, q2, o2, rfl, ht, hq2, ho2, by omega, fun j o' hj ho' => ?_, hf2⟩⟩
                    by_cases z : j = i
                    · rw [z, ho] at ho'
                      have e := Option.some.inj ho'
                      subst e
                      try dsimp only at hc ⊢
                      omega
                    · exact ha2 j o' (by omega) ho'
        · obtain ⟨b, x, y1, z, rfl, hb⟩ := hP
          rw [hxl] at hb
          rcases hb with ⟨h0, _⟩ | ⟨t, k, q2, o2, hB⟩
          · obtain ⟨o9, ho9⟩ := permsF_pos (n := 5) (ns := ns) h5
            have h1 := List.length_pos_of_mem ho9
            omega
          · walk_at "ss"
            exact q _ _ t k q2 o2 (by walk_at "mv") hB
end
end K4

set_option Elab.async false
set_option linter.all false
set_option maxRecDepth 100000
set_option maxHeartbeats 4000000
namespace K4
open PySem PySem.Spec PyProof.Rows L2 Mi LamX
local macro_rules | `(tactic| walk_at "look") => `(tactic| first
  | with_reducible assumption
  | (with_reducible exact upd_same)
  | ((with_reducible apply SqL.of); first | with_reducible assumption | with_reducible exact upd_same)
  | ((with_reducible apply SqT.of); with_reducible assumption)
  | ((with_reducible apply Mv.sqL); (case' m => with_reducible assumption); walk_at "look")
  | ((with_reducible apply Mv.sqT); (case' m => with_reducible assumption); walk_at "look")
  | ((with_reducible apply Mv.lst); (case' m => with_reducible assumption); walk_at "look")
  | ((with_reducible apply Mv.tup); (case' m => with_reducible assumption); walk_at "look")
  | ((with_reducible apply Mv.ins); (case' m => with_reducible assumption); walk_at "look")
  | ((with_reducible apply Mv.dK); (case' m => with_reducible assumption); walk_at "look")
  | ((with_reducible apply Mv.exx); (case' m => with_reducible assumption); walk_at "look")
  | ((with_reducible apply Mv.dp); (case' m => with_reducible assumption); walk_at "look")
  | ((with_reducible apply Mv.dget); (case' m => with_reducible assumption); walk_at "look")
  | ((with_reducible apply Lk.dget); (case' m => with_reducible assumption); walk_at "look")
  | ((with_reducible apply Nl.dget); (case' m => with_reducible assumption); walk_at "look")
  | ((with_reducible apply Mv.frz); (case' m => with_reducible assumption); walk_at "look")
  | ((with_reducible apply Nl.sqT); (case' m => with_reducible assumption); walk_at "look")
  | ((with_reducible apply Nl.tup); (case' m => with_reducible assumption); walk_at "look")
  | ((with_reducible apply Nl.ins); (case' m => with_reducible assumption); walk_at "look")
  | ((with_reducible apply Nl.exx); (case' m => with_reducible assumption); walk_at "look")
  | ((with_reducible apply Nd.sqL); (case' m => with_reducible assumption); walk_at "look")
  | ((with_reducible apply Nd.sqT); (case' m => with_reducible assumption); walk_at "look")
  | ((with_reducible apply Nd.lst); (case' m => with_reducible assumption); walk_at "look")
  | ((with_reducible apply Nd.tup); (case' m => with_reducible assumption); walk_at "look")
  | ((with_reducible apply Nd.ins); (case' m => with_reducible assumption); walk_at "look")
  | ((with_reducible apply Nd.exx); (case' m => with_reducible assumption); walk_at "look")
  | ((with_reducible apply Lk.sqL); (case' m => with_reducible assumption); walk_at "look")
  | ((with_reducible apply Lk.sqT); (case' m => with_reducible assumption); walk_at "look")
  | ((with_reducible apply Lk.lst); (case' m => with_reducible assumption); walk_at "look")
  | ((with_reducible apply Lk.tup); (case' m => with_reducible assumption); walk_at "look")
  | ((with_reducible apply Lk.ins); (case' m => with_reducible assumption); walk_at "look")
  | ((with_reducible apply Lk.exx); (case' m => with_reducible assumption); walk_at "look")
  | ((with_reducible apply Lk.dp); (case' m => with_reducible assumption); walk_at "look"))
local macro_rules | `(tactic| walk_at "s") => `(tactic| first
  | with_reducible apply s_seq
  | with_reducible apply s_gCons
  | with_reducible apply s_gNil
  | ((with_reducible apply s_gTup); (case' h1 => walk_at "look"); (case' h2 => exact rfl))
  | with_reducible apply s_asg
  | with_reducible apply s_dgetE
  | ((with_reducible apply s_dget); (case' h1 => walk_at "look"))
  | ((with_reducible apply s_I); (case' hc => first | exact ⟨by omega, by omega⟩ | exact .inl ⟨by omega, by omega⟩ | exact .inr ⟨by omega, by omega⟩ | (show (_ : Int) < _; omega) | (show (_ : Int) ≠ _; omega)))
  | with_reducible apply s_mm
  | with_reducible apply s_makeE
  | ((with_reducible apply s_lenKL); (case' h1 => walk_at "look"))
  | ((with_reducible apply s_lenKT); (case' h1 => walk_at "look"))
  | ((with_reducible apply s_listKL); (case' h1 => walk_at "look"))
  | ((with_reducible apply s_listKT); (case' h1 => walk_at "look"))
  | ((with_reducible apply s_tupKL); (case' h1 => walk_at "look"))
  | ((with_reducible apply s_tupKT); (case' h1 => walk_at "look"))
  | with_reducible apply s_revE
  | ((with_reducible apply s_rev); (case' h1 => walk_at "look"))
  | with_reducible apply s_iE
  | ((with_reducible apply s_iE2); (case' h1 => walk_at "look"); intro J w)
  | ((with_reducible apply s_catA); (case' h1 => walk_at "look"); (case' h2 => walk_at "look"); (case' hz => (first | decide | (simp; done) | (simp; omega))); intro p H1 mv hp)
  | ((with_reducible apply s_slA); (case' h1 => walk_at "look"); intro p H1 mv hp)
  | ((with_reducible apply s_tupOfL); (case' h1 => walk_at "look"))
  | ((with_reducible apply s_tupOfT); (case' h1 => walk_at "look"))
  | with_reducible apply s_sFld
  | ((with_reducible apply s_sFld2); (case' h1 => walk_at "look"); (case' h2 => assumption); (case' h3 => assumption); (case' h4 => exact of_decide_eq_true rfl); (try rw [upd_upd]))
  | with_reducible apply s_seal
  | ((with_reducible apply s_wipe); (case' h1 => exact rfl))
  | ((with_reducible apply s_slL); (case' h1 => walk_at "look"))
  | with_reducible apply s_ifTT
  | with_reducible apply s_ifFF
  | with_reducible apply s_rollE
  | ((with_reducible apply s_roll); (case' h1 => walk_at "look"); (case' h2 => exact ⟨by omega, by omega⟩); intro k k0 k1)
  | with_reducible apply s_gSub
  | ((with_reducible apply s_setL); (case' h1 => walk_at "look"); (case' h2 => exact rfl))
  | with_reducible apply s_ab
  | with_reducible apply s_in1
  | with_reducible apply s_in2
  | ((with_reducible apply s_lsL); (case' h1 => walk_at "look"))
  | ((with_reducible apply s_lsT); (case' h1 => walk_at "look"))
  | ((with_reducible apply s_tyL); (case' h1 => walk_at "look"))
  | with_reducible apply s_for
  | with_reducible apply s_lc
  | with_reducible apply s_dc
  | with_reducible apply s_gn
  | with_reducible apply s_yes
  | with_reducible apply s_iL
  | with_reducible apply s_iT
  | with_reducible apply s_iR1
  | with_reducible apply s_iR2
  | with_reducible apply s_iK
  | ((with_reducible apply s_iL2); (case' h1 => walk_at "look"); intro J w)
  | ((with_reducible apply s_iT2); (case' h1 => walk_at "look"); intro J w)
  | ((with_reducible apply s_iR12); (case' h1 => omega); intro J w)
  | ((with_reducible apply s_iR22); (case' h1 => omega); intro J w)
  | ((with_reducible apply s_iK2); (case' h1 => walk_at "look"); intro J w)
  | with_reducible apply s_gN
  | ((with_reducible apply s_var); (case' h1 => exact rfl))
  | with_reducible apply s_c
  | with_reducible apply s_op
  | with_reducible apply s_cons
  | with_reducible apply s_nil
  | with_reducible apply s_ret
  | with_reducible apply s_ifS
  | with_reducible apply s_test
  | with_reducible apply s_B
  | with_reducible apply s_exbl
  | with_reducible apply s_exint
  | with_reducible apply s_I0
  | ((with_reducible apply s_Eq); (case' hs => exact rfl))
  | ((with_reducible apply s_Ne); (case' hs => exact rfl))
  | with_reducible apply s_un
  | with_reducible apply s_U
  | with_reducible apply s_cb
  | with_reducible apply s_call
  | with_reducible apply s_next
  | with_reducible apply s_drop
  | with_reducible apply s_break
  | with_reducible apply s_cont
  | with_reducible apply s_retN
  | with_reducible apply s_par
  | with_reducible apply s_par2
  | with_reducible apply s_par3
  | with_reducible apply s_par33
  | ((with_reducible apply s_aug); (case' h1 => exact rfl))
  | with_reducible apply s_and
  | with_reducible apply s_or
  | with_reducible apply s_not
  | with_reducible apply s_andV
  | with_reducible apply s_orV
  | with_reducible apply s_notV
  | with_reducible apply s_ifE
  | with_reducible apply s_isN
  | with_reducible apply s_chain
  | with_reducible apply s_sl
  | with_reducible apply s_noP
  | with_reducible apply s_part
  | with_reducible apply s_bm
  | with_reducible apply s_bm0
  | with_reducible apply s_tup
  | with_reducible apply s_lst
  | with_reducible apply s_fldE
  | ((with_reducible apply s_fld); (case' h1 => walk_at "look"); (case' h2 => assumption); (case' h3 => assumption); (case' h4 => exact rfl))
  | ((with_reducible apply s_ixL); (case' h1 => walk_at "look"); (case' h2 => exact rfl))
  | ((with_reducible apply s_ixT); (case' h1 => walk_at "look"); (case' h2 => exact rfl))
  | ((with_reducible apply s_lenL); (case' h1 => walk_at "look"))
  | ((with_reducible apply s_mk0); (case' hz => first | decide | (simp only [List.length_cons, List.length_nil]; decide)))
  | ((with_reducible refine s_all fun p hn => ?_); generalize hg : upd _ _ _ = H1; obtain ⟨mv, hp⟩ := gen_upd hg hn; clear hg))
local macro_rules | `(tactic| walk_at "mv") => `(tactic| first
  | with_reducible assumption
  | exact Mv.refl _
  | (refine Mv.trans ?_ (by with_reducible assumption); walk_at "mv"))
local macro_rules | `(tactic| walk_at "ss") => `(tactic| repeat walk_at "s")
local macro_rules | `(tactic| walk_at "k0") => `(tactic| try dsimp only [L2.cxOf, Cx.nox, Cx.wish, Cx.blk, genCx])

abbrev n_law : List Str := ["script", "dice", "jobs", "pounds", "made", "orders", "worths", "spot", "price", "cost", "loaves", "one", "bad", "k", "name", "names", "f"]
theorem sc_law : FnScope n_law ["script"] (defScope s_law) := ⟨rfl, rfl, rfl, by decide +kernel, rfl, by decide +kernel, by decide +kernel⟩
/-! ### the law's lambdas -/
def lamE (i : Nat) : Expr := match (defBody (topS 19)).getD 2 (.Pass ⟨0, 0, 0, 0⟩) with
  | .Assign _ (.List es _) _ => es.getD i (.Constant .none 0 ⟨0, 0, 0, 0⟩)
  | _ => .Constant .none 0 ⟨0, 0, 0, 0⟩
def lamP : Expr → Arguments
  | .Lambda p _ _ _ => p
  | _ => { posonlyargs := [], args := [], vararg := none, kwonlyargs := [], kw_defaults := [], kwarg := none, defaults := [] }
def lamB : Expr → Expr
  | .Lambda _ b _ _ => b
  | e => e
def lamS : Expr → Scope
  | .Lambda _ _ s _ => s
  | _ => { kind := .function, names := [], isGenerator := false, isCoroutine := false, more := [] }
def tJob9 (K : PySem.W.Frag) : TE := tLc (iRng1 (tCons (tC (.int 9)) tNil)) (gName 13) tYes (tMake (He.ga K "Job") (spJob K) [] (fun _ _ _ => False) (tCons (tCB (fun xs H Q => ∃ i, xs = [V.int i] ∧ i.natAbs.log2 < 1920 ∧ Q (.str (toString i)) H) (tCons (tVar 13) tNil)) (tCons (tC (.str "b")) (tCons (tC (.int 1)) (tCons (tC (.int 0)) (tCons (tC (.int 0)) tNil)))))) [13]
abbrev aL (K : PySem.W.Frag) : Nat → TA
  | 0 => tCons (tLst (tCons (tVar 11) tNil)) (tCons (tC (.int 0)) tNil)
  | 1 => tCons (tJob9 K) (tCons (tC (.int 1)) tNil)
  | 2 => tCons (tUn (rU fun i => .int (-i)) (tC (.int 1))) (tCons (tC (.int 5)) (tCons (tC (.int 1)) tNil))
  | 3 => tCons (tC (.int 1)) (tCons (tUn (rU fun i => .int (-i)) (tC (.int 1))) (tCons (tC (.int 1)) tNil))
  | 4 => tCons (tC (.int 1)) (tCons (tC (.int 1)) (tCons (tC (.int 0)) tNil))
  | _ => tCons (tC (.int 0)) (tCons (tC (.int 0)) (tCons (tC (.int 1)) tNil))
def spL [Lw] (K : PySem.W.Frag) (i : Nat) : Sp := if i < 2 then spBest K else spBread K
def lamD (K : PySem.W.Frag) [Lw] (i : Nat) : LamD := ⟨lamP (lamE i), lamB (lamE i), lamS (lamE i), fun E => tCall (spL K i) [] E (aL K i)⟩
section
variable [Lw] {P : Program} {w : World} {K : PySem.W.Frag} {mg : Str → Option Value} {base : Heap}
abbrev lawX (P : Program) (w : World) (K : PySem.W.Frag) (mg : Str → Option Value) (base : Heap) (A : Around) (outer : List Env) (s : Shared) (H : Hp) (E : XK) : Cx := (cxOf (CX P w) P w K mg base n_law "law" (defScope s_law) (He.fAd K ("law", none)) (.ref (He.codeOf K ("law", none))) A outer s H E).nox
theorem lam_ok (T : Sy fa4 fn4 tf4 K mg base) {f1 f2 f3 : Addr} {fd1 fd2 fd3 : FuncData} (c_best_order : Cal P w K mg base (CX P w) 7 "best_order" f1 fd1 ["jobs", "pounds"] (spBest K)) (c_bread_price : Cal P w K mg base (CX P w) 1 "bread_price" f2 fd2 ["pence", "cost", "loaves"] (spBread K))
    (M_Job : Mk K (He.ga K "Job") f3) (j_ok : FnOk P w K mg base (CX P w) 1 f3 fd3 ["self", "name", "owner", "pounds", "first", "due"] (spJob K)) (j_b : Binds K fd3 ["self", "name", "owner", "pounds", "first", "due"] [])
    (A : Around) (outer : List Env) (s : Shared) (H : Hp) (E : XK) : ∀ i, i < 6 → LamOk (lawX P w K mg base A outer s H E) 7 (lamD K i)
  | 0, _ => by
    refine ⟨lamS_by (sc := defScope s_law) (scope := lamS (lamE 0)) (by decide +kernel), fun _ _ _ _ _ => by rfl, fun A outer s H E f c' hr => ?_⟩
    show PE _ (lamB (lamE 0)) (tCall (spBest K) [] E (tCons (tLst (tCons (tVar 11) tNil)) (tCons (tC (.int 0)) tNil)))
    exact pe_cal c_best_order hr rfl (passes_call (takes_of rfl rfl rfl rfl) fun _ _ _ _ h => h) (pa_cons (pe_lst (pa_cons (pv 11) pa_nil)) (pa_cons pe_int pa_nil))
  | 1, _ => by
    refine ⟨lamS_by (sc := defScope s_law) (scope := lamS (lamE 1)) (by decide +kernel), fun _ _ _ _ _ => by rfl, fun A outer s H E f c' hr => ?_⟩
    show PE _ (lamB (lamE 1)) (tCall (spBest K) [] E (tCons (tJob9 K) (tCons (tC (.int 1)) tNil)))
    exact pe_cal c_best_order hr rfl (passes_call (takes_of rfl rfl rfl rfl) fun _ _ _ _ h => h) (pa_cons (pe_lc (own := [("k", 13)]) (tt := tYes) rfl sc_law.nd (pi_range1 rfl (T.free "range") (pa_cons pe_int pa_nil)) (blkOk_by (N := n_law) (sc := lamS (lamE 1)) (by decide +kernel)) (fun _ _ _ _ _ => (pg_name (i := 13) sc_law.nd rfl (.inl rfl))) (fun _ _ _ _ _ => pts_nil)
      (fun _ _ _ _ _ => (pe_make M_Job j_ok (hr.mono (by decide)) rfl (T.glo "Job") j_b .nil passF (pa_cons (pe_callTy call_str_int rfl (T.free "str") boot_str (pa_cons (pv 13) pa_nil)) (pa_cons pe_str (pa_cons pe_int (pa_cons pe_int (pa_cons pe_int pa_nil)))))))) (pa_cons pe_int pa_nil))
  | 2, _ => by
    refine ⟨lamS_by (sc := defScope s_law) (scope := lamS (lamE 2)) (by decide +kernel), fun _ _ _ _ _ => by rfl, fun A outer s H E f c' hr => ?_⟩
    show PE _ (lamB (lamE 2)) (tCall (spBread K) [] E (tCons (tUn (rU fun i => .int (-i)) (tC (.int 1))) (tCons (tC (.int 5)) (tCons (tC (.int 1)) tNil))))
    exact pe_cal c_bread_price (hr.mono (by decide)) rfl (passes_call (takes_of rfl rfl rfl rfl) fun _ _ _ _ h => h) (pa_cons (pe_un un_neg pe_int) (pa_cons pe_int (pa_cons pe_int pa_nil)))
  | 3, _ => by
    refine ⟨lamS_by (sc := defScope s_law) (scope := lamS (lamE 3)) (by decide +kernel), fun _ _ _ _ _ => by rfl, fun A outer s H E f c' hr => ?_⟩
    show PE _ (lamB (lamE 3)) (tCall (spBread K) [] E (tCons (tC (.int 1)) (tCons (tUn (rU fun i => .int (-i)) (tC (.int 1))) (tCons (tC (.int 1)) tNil))))
    exact pe_cal c_bread_price (hr.mono (by decide)) rfl (passes_call (takes_of rfl rfl rfl rfl) fun _ _ _ _ h => h) (pa_cons pe_int (pa_cons (pe_un un_neg pe_int) (pa_cons pe_int pa_nil)))
  | 4, _ => by
    refine ⟨lamS_by (sc := defScope s_law) (scope := lamS (lamE 4)) (by decide +kernel), fun _ _ _ _ _ => by rfl, fun A outer s H E f c' hr => ?_⟩
    show PE _ (lamB (lamE 4)) (tCall (spBread K) [] E (tCons (tC (.int 1)) (tCons (tC (.int 1)) (tCons (tC (.int 0)) tNil))))
    exact pe_cal c_bread_price (hr.mono (by decide)) rfl (passes_call (takes_of rfl rfl rfl rfl) fun _ _ _ _ h => h) (pa_cons pe_int (pa_cons pe_int (pa_cons pe_int pa_nil)))
  | 5, _ => by
    refine ⟨lamS_by (sc := defScope s_law) (scope := lamS (lamE 5)) (by decide +kernel), fun _ _ _ _ _ => by rfl, fun A outer s H E f c' hr => ?_⟩
    show PE _ (lamB (lamE 5)) (tCall (spBread K) [] E (tCons (tC (.int 0)) (tCons (tC (.int 0)) (tCons (tC (.int 1)) tNil))))
    exact pe_cal c_bread_price (hr.mono (by decide)) rfl (passes_call (takes_of rfl rfl rfl rfl) fun _ _ _ _ h => h) (pa_cons pe_int (pa_cons pe_int (pa_cons pe_int pa_nil)))
  | i + 6, h => absurd h (by omega)
end
end K4

set_option Elab.async false
set_option linter.all false
set_option maxRecDepth 100000
set_option maxHeartbeats 2000000
namespace K4
open PySem PySem.Spec PyProof.Rows L2 Mi LamX
def nm (l : Nat) : Str := ("j" : Str) ++ Str.ofString (toString ((0 : Int) + (l : Nat)))
def nms (n : Nat) : List Str := (List.range n).map nm
theorem nms_length {n : Nat} : (nms n).length = n := by simp [nms]
theorem nms_at {n i : Nat} (h : i < n) : (nms n)[i]? = some (nm i) := by simp [nms, h]
theorem nms_take {n : Nat} (h : n ≤ 5) : nms n = (nms 5).take n := by
  unfold nms
  rw [← List.map_take, List.take_range, Nat.min_eq_left h]
theorem nms5_nodup : (nms 5).Nodup := by decide +kernel
theorem nms5_sorted : (nms 5).Pairwise fun a b => leS a b = true := by decide +kernel
theorem nms5_tx : ∀ x ∈ nms 5, txOk x = true := by decide +kernel
theorem nms_nodup {n : Nat} (h : n ≤ 5) : (nms n).Nodup := by
  rw [nms_take h]
  exact nms5_nodup.sublist (List.take_sublist _ _)
theorem nms_sorted {n : Nat} (h : n ≤ 5) : (nms n).Pairwise fun a b => leS a b = true := by
  rw [nms_take h]
  exact nms5_sorted.sublist (List.take_sublist _ _)
theorem nms_tx {n : Nat} (h : n ≤ 5) : ∀ x ∈ nms n, txOk x = true := fun x hx => by
  rw [nms_take h] at hx
  exact nms5_tx x (List.take_subset _ _ hx)
theorem nm_short {l : Nat} (h : l < 5) : ("j" : Str).length + (Str.ofString (toString ((0 : Int) + (l : Nat)))).length ≤ sizeLine := by
  have : ∀ l, l < 5 → ("j" : Str).length + (Str.ofString (toString ((0 : Int) + (l : Nat)))).length ≤ 10 := by decide +kernel
  exact Nat.le_trans (this l h) (by decide)
/-- one job's data: its row, its pair, pounds, due -/
abbrev Jd := Addr × Addr × Int × Int
def kvs1 (l : List Jd) : List (Key × V) := l.mapIdx fun i e => (Sum.inr (nm i), V.ref e.2.1)
def kpd (l : List Jd) : List (Str × Int × Int) := l.mapIdx fun i e => (nm i, e.2.2)
def pdL (l : List Jd) (s : Str) : Int × Int := ((kpd l).lookup s).getD (0, 0)
theorem kvs1_keys {l : List Jd} : (kvs1 l).map (·.1) = (nms l.length).map (Sum.inr : Str → Key) := by
  apply List.ext_getElem?
  intro i
  simp only [kvs1, nms, List.getElem?_map, List.getElem?_mapIdx, List.getElem?_range]
  by_cases h : i < l.length
  · simp [h]
  · simp [h]
theorem kpd_keys {l : List Jd} : (kpd l).map (·.1) = nms l.length := by
  apply List.ext_getElem?
  intro i
  simp only [kpd, nms, List.getElem?_map, List.getElem?_mapIdx, List.getElem?_range]
  by_cases h : i < l.length
  · simp [h]
  · simp [h]
theorem pdL_at {l : List Jd} (h : l.length ≤ 5) {i : Nat} {e : Jd} (he : l[i]? = some e) : pdL l (nm i) = e.2.2 := by
  unfold pdL
  have h1 : (kpd l)[i]? = some (nm i, e.2.2) := by simp [kpd, List.getElem?_mapIdx, he]
  rw [lookup_get (by rw [kpd_keys]; exact nms_nodup h) h1]
  rfl
theorem kvs1_at {l : List Jd} {i : Nat} {e : Jd} (he : l[i]? = some e) : (kvs1 l)[i]? = some (Sum.inr (nm i), V.ref e.2.1) := by simp [kvs1, List.getElem?_mapIdx, he]
theorem inr_nodup {l : List Str} (h : l.Nodup) : (l.map (Sum.inr : Str → Key)).Nodup := by
  rw [List.nodup_iff_pairwise_ne] at h ⊢
  exact List.Pairwise.map _ (fun a b hab z => hab (Sum.inr.inj z)) h
theorem kvs1_nodup {l : List Jd} (h : l.length ≤ 5) : ((kvs1 l).map (·.1)).Nodup := by
  rw [kvs1_keys]
  exact inr_nodup (nms_nodup h)
theorem mem_nms {n : Nat} {x : Str} (h : x ∈ nms n) : ∃ i, i < n ∧ x = nm i := by
  obtain ⟨i, hi, rfl⟩ := List.mem_map.mp h
  exact ⟨i, List.mem_range.mp hi, rfl⟩
theorem get_of_lt {α : Type} {l : List α} {i : Nat} (h : i < l.length) : ∃ e, l[i]? = some e := ⟨l[i], List.getElem?_eq_getElem h⟩
def kvs2 (acc : List V) : List (Key × V) := acc.mapIdx fun i v => (Sum.inr (nm i), v)
theorem kvs2_keys {acc : List V} : (kvs2 acc).map (·.1) = (nms acc.length).map (Sum.inr : Str → Key) := by
  apply List.ext_getElem?
  intro i
  simp only [kvs2, nms, List.getElem?_map, List.getElem?_mapIdx, List.getElem?_range]
  by_cases h : i < acc.length
  · simp [h]
  · simp [h]
theorem kvs2_at {acc : List V} {i : Nat} {v : V} (he : acc[i]? = some v) : (kvs2 acc)[i]? = some (Sum.inr (nm i), v) := by simp [kvs2, List.getElem?_mapIdx, he]
theorem kvs2_nodup {acc : List V} (h : acc.length ≤ 5) : ((kvs2 acc).map (·.1)).Nodup := by
  rw [kvs2_keys]
  exact inr_nodup (nms_nodup h)
theorem sh_best {M : Int} {o : List Str} (h : ∀ x ∈ o, txOk x = true) : Sh 2 (.tuple [.int M, ordD o]) := Sh.tup fun d hd => by
  rcases List.mem_cons.mp hd with rfl | hd
  · exact Sh.int.mono (by decide)
  · rw [List.mem_singleton.mp hd]
    exact Sh.tup (sh_strs h)
section
variable [Lw] {K : PySem.W.Frag} {H : Hp}
theorem mv_rm {H H' : Hp} {f : Addr} {φ : Heap → Prop} (h : H f = some (.ext φ)) (m : Mv (rm H f) H') : Mv H (upd H' f (.ext φ)) := by
  have c : ∀ b u, H b = some u → (∀ ψ, u ≠ .ext ψ) → b ≠ f := fun b u e n z => by
    rw [z, h] at e
    exact n φ (Option.some.inj e).symm
  refine ⟨fun b o e n => ?_, fun P t => ?_, fun ps t => ?_, fun b e => ?_⟩
  · by_cases z : b = f
    · rw [z, h] at e
      cases e
      rw [z, upd_same]
    · rw [upd_ne z]
      exact m.x b o (by rw [rm_ne z]; exact e) n
  · obtain ⟨ps, h1, h2⟩ := t
    have z := c _ _ h1 fun _ z => nomatch z
    obtain ⟨ps', h3, h4⟩ := m.t P ⟨ps, by rw [rm_ne z]; exact h1, h2⟩
    exact ⟨ps', by rw [upd_ne z]; exact h3, h4⟩
  · have z := c _ _ t fun _ z => nomatch z
    rw [upd_ne z]
    exact m.l ps (by rw [rm_ne z]; exact t)
  · by_cases z : b = f
    · rw [z, upd_same] at e
      cases e
    · rw [upd_ne z] at e
      have := m.k b e
      rw [rm_ne z] at this
      exact this
theorem lamIs_ext {X : Cx} {D : LamD} {f : Addr} {H H' : Hp} (e : ExtN H H') (h : LamIs X D f H) : LamIs X D f H' := by
  obtain ⟨c', pm, ctv, h1, h2⟩ := h
  exact ⟨c', pm, ctv, e _ _ h1 fun _ z => (nomatch z), e _ _ h2 fun _ z => nomatch z⟩
theorem told_call {CS : Addr} {ret : Str} {sp : Sp} {tA : TA} {σ : L2.St} {Q : VK} {D : LamD} (hD : D.t = fun E => tCall sp [] E tA) (h : tA σ H fun vs H1 => sp (vs ++ []) H1 Q (fun cls _ H' => ∃ b, PySem.W.exmOne K cls (.ref CS) = some b ∧ (b = true → Q (.str ret) H') ∧ (b = false → False))) :
    TTold K CS ret (fun E H' Q' => D.t E σ H' Q') H Q := by
  unfold TTold
  rw [hD]
  exact h
theorem mkJob {n o : Str} {p r d : Int} {Q : VK} {E : XK} (hp : 0 < p ∧ 0 ≤ r ∧ r ≤ d) (h : ∀ x dx H2, H x = none → Mv H H2 → H2 x = some (.ins (He.ga K "Job") dx [("name", .str n), ("owner", .str o), ("pounds", .int p), ("first", .int r), ("due", .int d)]) → Q (.ref x) H2) :
    ∀ x dx, H x = none → H dx = none → dx ≠ x → spJob K (.ref x :: ([.str n, .str o, .int p, .int r, .int d] ++ [])) (upd (upd H dx (.own x)) x (.ins (He.ga K "Job") dx [])) (fun v H2 => v = .non ∧ Q (.ref x) H2) E := by
  intro x dx hx hdx hne
  refine ⟨x, dx, n, o, p, r, d, rfl, upd_same, hp, rfl, ?_⟩
  rw [upd_upd]
  exact h x dx _ hx (((Mv.new hdx).put hx)) upd_same
def MkE (C : Addr) (sp : Sp) (dvs : List V) (E : XK) (Q : VK) (vs : List V) (H1 : Hp) : Prop := ∀ x dx, H1 x = none → H1 dx = none → dx ≠ x → sp (.ref x :: (vs ++ dvs)) (upd (upd H1 dx (.own x)) x (.ins C dx [])) (fun v H2 => v = .non ∧ Q (.ref x) H2) E
theorem s_makeE {C : Addr} {sp : Sp} {dvs : List V} {E : XK} {t : TA} {σ : L2.St} {Q : VK} (h : t σ H fun vs H1 => MkE C sp dvs E Q vs H1) : tMake C sp dvs E t σ H Q := h
theorem mkJobE {n o : Str} {p r d : Int} {Q : VK} {E : XK} (hp : 0 < p ∧ 0 ≤ r ∧ r ≤ d) (h : ∀ x dx H2, H x = none → Mv H H2 → H2 x = some (.ins (He.ga K "Job") dx [("name", .str n), ("owner", .str o), ("pounds", .int p), ("first", .int r), ("due", .int d)]) → Q (.ref x) H2) : MkE (He.ga K "Job") (spJob K) [] E Q [.str n, .str o, .int p, .int r, .int d] H := mkJob hp h
end
end K4

set_option Elab.async false
set_option linter.all false
set_option maxRecDepth 100000
set_option maxHeartbeats 1000000
set_option pp.maxSteps 1500
namespace K4
open PySem PySem.Spec PyProof.Rows L2 Mi LamX
local macro_rules | `(tactic| walk_at "look") => `(tactic| first
  | with_reducible assumption
  | (with_reducible exact upd_same)
  | ((with_reducible apply SqL.of); first | with_reducible assumption | with_reducible exact upd_same)
  | ((with_reducible apply SqT.of); with_reducible assumption)
  | ((with_reducible apply Mv.sqL); (case' m => with_reducible assumption); walk_at "look")
  | ((with_reducible apply Mv.sqT); (case' m => with_reducible assumption); walk_at "look")
  | ((with_reducible apply Mv.lst); (case' m => with_reducible assumption); walk_at "look")
  | ((with_reducible apply Mv.tup); (case' m => with_reducible assumption); walk_at "look")
  | ((with_reducible apply Mv.ins); (case' m => with_reducible assumption); walk_at "look")
  | ((with_reducible apply Mv.dK); (case' m => with_reducible assumption); walk_at "look")
  | ((with_reducible apply Mv.exx); (case' m => with_reducible assumption); walk_at "look")
  | ((with_reducible apply Mv.dp); (case' m => with_reducible assumption); walk_at "look")
  | ((with_reducible apply Mv.dget); (case' m => with_reducible assumption); walk_at "look")
  | ((with_reducible apply Lk.dget); (case' m => with_reducible assumption); walk_at "look")
  | ((with_reducible apply Nl.dget); (case' m => with_reducible assumption); walk_at "look")
  | ((with_reducible apply Mv.frz); (case' m => with_reducible assumption); walk_at "look")
  | ((with_reducible apply Nl.sqT); (case' m => with_reducible assumption); walk_at "look")
  | ((with_reducible apply Nl.tup); (case' m => with_reducible assumption); walk_at "look")
  | ((with_reducible apply Nl.ins); (case' m => with_reducible assumption); walk_at "look")
  | ((with_reducible apply Nl.exx); (case' m => with_reducible assumption); walk_at "look")
  | ((with_reducible apply Nd.sqL); (case' m => with_reducible assumption); walk_at "look")
  | ((with_reducible apply Nd.sqT); (case' m => with_reducible assumption); walk_at "look")
  | ((with_reducible apply Nd.lst); (case' m => with_reducible assumption); walk_at "look")
  | ((with_reducible apply Nd.tup); (case' m => with_reducible assumption); walk_at "look")
  | ((with_reducible apply Nd.ins); (case' m => with_reducible assumption); walk_at "look")
  | ((with_reducible apply Nd.exx); (case' m => with_reducible assumption); walk_at "look")
  | ((with_reducible apply Lk.sqL); (case' m => with_reducible assumption); walk_at "look")
  | ((with_reducible apply Lk.sqT); (case' m => with_reducible assumption); walk_at "look")
  | ((with_reducible apply Lk.lst); (case' m => with_reducible assumption); walk_at "look")
  | ((with_reducible apply Lk.tup); (case' m => with_reducible assumption); walk_at "look")
  | ((with_reducible apply Lk.ins); (case' m => with_reducible assumption); walk_at "look")
  | ((with_reducible apply Lk.exx); (case' m => with_reducible assumption); walk_at "look")
  | ((with_reducible apply Lk.dp); (case' m => with_reducible assumption); walk_at "look"))
local macro_rules | `(tactic| walk_at "s") => `(tactic| first
  | with_reducible apply s_seq
  | with_reducible apply s_gCons
  | with_reducible apply s_gNil
  | ((with_reducible apply s_gTup); (case' h1 => walk_at "look"); (case' h2 => exact rfl))
  | with_reducible apply s_asg
  | with_reducible apply s_dgetE
  | ((with_reducible apply s_dget); (case' h1 => walk_at "look"))
  | ((with_reducible apply s_I); (case' hc => first | exact ⟨by omega, by omega⟩ | exact .inl ⟨by omega, by omega⟩ | exact .inr ⟨by omega, by omega⟩ | (show (_ : Int) < _; omega) | (show (_ : Int) ≠ _; omega)))
  | with_reducible apply s_mm
  | with_reducible apply s_makeE
  | ((with_reducible apply s_lenKL); (case' h1 => walk_at "look"))
  | ((with_reducible apply s_lenKT); (case' h1 => walk_at "look"))
  | ((with_reducible apply s_listKL); (case' h1 => walk_at "look"))
  | ((with_reducible apply s_listKT); (case' h1 => walk_at "look"))
  | ((with_reducible apply s_tupKL); (case' h1 => walk_at "look"))
  | ((with_reducible apply s_tupKT); (case' h1 => walk_at "look"))
  | with_reducible apply s_revE
  | ((with_reducible apply s_rev); (case' h1 => walk_at "look"))
  | with_reducible apply s_iE
  | ((with_reducible apply s_iE2); (case' h1 => walk_at "look"); intro J w)
  | ((with_reducible apply s_catA); (case' h1 => walk_at "look"); (case' h2 => walk_at "look"); (case' hz => (first | decide | (simp; done) | (simp; omega))); intro p H1 mv hp)
  | ((with_reducible apply s_slA); (case' h1 => walk_at "look"); intro p H1 mv hp)
  | ((with_reducible apply s_tupOfL); (case' h1 => walk_at "look"))
  | ((with_reducible apply s_tupOfT); (case' h1 => walk_at "look"))
  | with_reducible apply s_sFld
  | ((with_reducible apply s_sFld2); (case' h1 => walk_at "look"); (case' h2 => assumption); (case' h3 => assumption); (case' h4 => exact of_decide_eq_true rfl); (try rw [upd_upd]))
  | with_reducible apply s_seal
  | ((with_reducible apply s_wipe); (case' h1 => exact rfl))
  | ((with_reducible apply s_slL); (case' h1 => walk_at "look"))
  | with_reducible apply s_ifTT
  | with_reducible apply s_ifFF
  | with_reducible apply s_rollE
  | ((with_reducible apply s_roll); (case' h1 => walk_at "look"); (case' h2 => exact ⟨by omega, by omega⟩); intro k k0 k1)
  | with_reducible apply s_gSub
  | ((with_reducible apply s_setL); (case' h1 => walk_at "look"); (case' h2 => exact rfl))
  | with_reducible apply s_ab
  | with_reducible apply s_in1
  | with_reducible apply s_in2
  | ((with_reducible apply s_lsL); (case' h1 => walk_at "look"))
  | ((with_reducible apply s_lsT); (case' h1 => walk_at "look"))
  | ((with_reducible apply s_tyL); (case' h1 => walk_at "look"))
  | with_reducible apply s_for
  | with_reducible apply s_lc
  | with_reducible apply s_dc
  | with_reducible apply s_gn
  | with_reducible apply s_yes
  | with_reducible apply s_iL
  | with_reducible apply s_iT
  | with_reducible apply s_iR1
  | with_reducible apply s_iR2
  | with_reducible apply s_iK
  | ((with_reducible apply s_iL2); (case' h1 => walk_at "look"); intro J w)
  | ((with_reducible apply s_iT2); (case' h1 => walk_at "look"); intro J w)
  | ((with_reducible apply s_iR12); (case' h1 => omega); intro J w)
  | ((with_reducible apply s_iR22); (case' h1 => omega); intro J w)
  | ((with_reducible apply s_iK2); (case' h1 => walk_at "look"); intro J w)
  | with_reducible apply s_gN
  | ((with_reducible apply s_var); (case' h1 => exact rfl))
  | with_reducible apply s_c
  | with_reducible apply s_op
  | with_reducible apply s_cons
  | with_reducible apply s_nil
  | with_reducible apply s_ret
  | with_reducible apply s_ifS
  | with_reducible apply s_test
  | with_reducible apply s_B
  | with_reducible apply s_exbl
  | with_reducible apply s_exint
  | with_reducible apply s_I0
  | ((with_reducible apply s_Eq); (case' hs => exact rfl))
  | ((with_reducible apply s_Ne); (case' hs => exact rfl))
  | with_reducible apply s_un
  | with_reducible apply s_U
  | with_reducible apply s_cb
  | with_reducible apply s_call
  | with_reducible apply s_next
  | with_reducible apply s_drop
  | with_reducible apply s_break
  | with_reducible apply s_cont
  | with_reducible apply s_retN
  | with_reducible apply s_par
  | with_reducible apply s_par2
  | with_reducible apply s_par3
  | with_reducible apply s_par33
  | ((with_reducible apply s_aug); (case' h1 => exact rfl))
  | with_reducible apply s_and
  | with_reducible apply s_or
  | with_reducible apply s_not
  | with_reducible apply s_andV
  | with_reducible apply s_orV
  | with_reducible apply s_notV
  | with_reducible apply s_ifE
  | with_reducible apply s_isN
  | with_reducible apply s_chain
  | with_reducible apply s_sl
  | with_reducible apply s_noP
  | with_reducible apply s_part
  | with_reducible apply s_bm
  | with_reducible apply s_bm0
  | with_reducible apply s_tup
  | with_reducible apply s_lst
  | with_reducible apply s_fldE
  | ((with_reducible apply s_fld); (case' h1 => walk_at "look"); (case' h2 => assumption); (case' h3 => assumption); (case' h4 => exact rfl))
  | ((with_reducible apply s_ixL); (case' h1 => walk_at "look"); (case' h2 => exact rfl))
  | ((with_reducible apply s_ixT); (case' h1 => walk_at "look"); (case' h2 => exact rfl))
  | ((with_reducible apply s_lenL); (case' h1 => walk_at "look"))
  | ((with_reducible apply s_mk0); (case' hz => first | decide | (simp only [List.length_cons, List.length_nil]; decide)))
  | ((with_reducible refine s_all fun p hn => ?_); generalize hg : upd _ _ _ = H1; obtain ⟨mv, hp⟩ := gen_upd hg hn; clear hg))
local macro_rules | `(tactic| walk_at "mv") => `(tactic| first
  | with_reducible assumption
  | exact Mv.refl _
  | (refine Mv.trans ?_ (by with_reducible assumption); walk_at "mv"))
local macro_rules | `(tactic| walk_at "ss") => `(tactic| repeat walk_at "s")
local macro_rules | `(tactic| walk_at "k0") => `(tactic| try dsimp only [L2.cxOf, Cx.nox, Cx.wish, Cx.blk, genCx])

theorem scTold : FnScope ["what"] ["what"] (defScope s_told) := ⟨rfl, rfl, rfl, by decide +kernel, rfl, by decide +kernel, by decide +kernel⟩
def pd2 (s : Str) : Int × Int := if s = "a" then (10, 5) else (5, 0)
abbrev d15 : PyData := .tuple [.int 15, .tuple [.str "b", .str "a"]]
theorem q15 : PyData.eqv d15 d15 = true := by decide +kernel
theorem q15s : SeqAt.shaped d15 = true := by decide +kernel
abbrev db0 : PyData := .tuple [.str "b", .int 0]
theorem qb0 : PyData.eqv db0 db0 = true := by decide +kernel
theorem qb0s : SeqAt.shaped db0 = true := by decide +kernel
theorem pd2_a : pd2 "a" = (10, 5) := by decide +kernel
theorem pd2_b : pd2 "b" = (5, 0) := by decide +kernel
theorem perms_ab : permsF 5 ["a", "b"] = ([["a", "b"], ["b", "a"]] : List (List Str)) := by decide +kernel
theorem wor_ab : inT pd2 5 ["a", "b"] 0 0 = 10 := by decide +kernel
theorem wor_ba : inT pd2 5 ["b", "a"] 0 0 = 15 := by decide +kernel
section
variable [Lw] {P : Program} {w : World} {K : PySem.W.Frag} {mg : Str → Option Value} {base : Heap}
def lq : Str := (envOfC "law" (defScope s_law) 0 0 .none).qual
abbrev lawT (K : PySem.W.Frag) : List (Addr × Str) := [((He.cT K ("law", none)).2, lq ++ "<lambda>")]
def spLaw (K : PySem.W.Frag) : Sp := fun vs H Q _ => ∃ (a : Addr) (ns : List Int), vs = [.ref a] ∧ SqL K H a (ns.map V.int) ∧ GxR.TabG H (He.cT K ("best_order", none)).2 ∧ H (He.cT K ("law", none)).2 = some (.tbl #[]) ∧ ∀ H', Q (.bl true) H'
/-- what the law calls -/
structure Cs (P : Program) (w : World) (K : PySem.W.Frag) (mg : Str → Option Value) (base : Heap) : Prop where
  rounds : ∃ f fd, Cal P w K mg base CX0 2 "_law_rounds" f fd ["script", "most"] (spRounds K)
  roll : ∃ f fd, Cal P w K mg base CX0 1 "_law_roll" f fd ["dice", "many"] spRoll
  lord : ∃ f fd, Cal P w K mg base CX0 6 "_law_orders" f fd ["names"] (spLOrd K 6)
  ord : ∃ f fd, Cal P w K mg base CX0 6 "orders_of" f fd ["names"] (spOrd K 6)
  worth : ∃ f fd, Cal P w K mg base CX0 1 "_law_worth" f fd ["jobs", "names", "pounds"] (spWorth K)
  intime : ∃ f fd, Cal P w K mg base CX0 1 "in_time" f fd ["jobs", "names", "pounds"] (spInTime K (He.ga K "Job"))
  best : ∃ f fd, Cal P w K mg base (CX P w) 7 "best_order" f fd ["jobs", "pounds"] (spBest K)
  bread : ∃ f fd, Cal P w K mg base (CX P w) 1 "bread_price" f fd ["pence", "cost", "loaves"] (spBread K)
  job : ∃ f fd, Mk K (He.ga K "Job") f ∧ FnOk P w K mg base (CX P w) 1 f fd ["self", "name", "owner", "pounds", "first", "due"] (spJob K) ∧ Binds K fd ["self", "name", "owner", "pounds", "first", "due"] []
  told : ∃ fd, FunD K "_law_told" "_law_told" (defArgs s_told) (defBody s_told) (defScope s_told) [] [] (He.ga K "_law_told") fd ∧ Binds K fd ["what"] []
structure JobC (P : Program) (w : World) (K : PySem.W.Frag) (mg : Str → Option Value) (base : Heap) (f : Addr) (fd : FuncData) : Prop where
  ok : FnOk P w K mg base (CX P w) 1 f fd ["self", "name", "owner", "pounds", "first", "due"] (spJob K)
  b : Binds K fd ["self", "name", "owner", "pounds", "first", "due"] []
theorem ok_law (T : Sy fa4 fn4 tf4 K mg base) {fd : FuncData} (F : FunD K "law" "law" (defArgs s_law) (defBody s_law) (defScope s_law) [] [] (He.fAd K ("law", none)) fd) (hL : (He.cT K ("law", none)).2 = Lw.L) (hP1 : (He.cT K ("best_order", none)).2 ≠ Lw.L) (C : Cs P w K mg base) :
    FnOk P w K mg base (CX P w) 10 (He.fAd K ("law", none)) fd ["script"] (spLaw K) := by
  obtain ⟨tMJ, c_MJ⟩ := T.int "MOST_JOBS" 8
  obtain ⟨f1, fd1, c__law_rounds⟩ := C.rounds
  obtain ⟨f2, fd2, c__law_roll⟩ := C.roll
  obtain ⟨f3, fd3, c__law_orders⟩ := C.lord
  obtain ⟨f4, fd4, c_orders_of⟩ := C.ord
  obtain ⟨f5, fd5, c__law_worth⟩ := C.worth
  obtain ⟨f6, fd6, c_in_time⟩ := C.intime
  obtain ⟨f7, fd7, c_best_order⟩ := C.best
  obtain ⟨f8, fd8, c_bread_price⟩ := C.bread
  obtain ⟨f9, fd9, M_Job, j1, j2⟩ := C.job
  have c_Job : JobC P w K mg base f9 fd9 := ⟨j1, j2⟩
  obtain ⟨fdt, Ft, bT⟩ := C.told
  obtain ⟨oc, od, dV, kV, doc, pm, an, cdv, ct, osl, rfl, lkT, cdT, _, _⟩ := Ft.ex
  refine FunD.okC F sc_law (fun vs H Q E h => ?_) (fun A outer s H vs Q E hr h => ?_)
  · obtain ⟨_, _, rfl, _⟩ := h
    rfl
  have O := lam_ok T c_best_order c_bread_price M_Job j1 j2 A outer s H E
  have hq : (lawX P w K mg base A outer s H E).env.qual = lq := rfl
  have hmT : ((He.cT K ("law", none)).2, (lawX P w K mg base A outer s H E).env.qual ++ "<lambda>") ∈ lawT K := by
    rw [hq]
    exact List.mem_singleton_self _
  have huT : ∀ p ∈ lawT K, p.1 = (He.cT K ("law", none)).2 → p.2 = (lawX P w K mg base A outer s H E).env.qual ++ "<lambda>" := fun p hp _ => by
    rw [hq, List.mem_singleton.mp hp]
  refine ⟨_, PSs.nox (pss_cons (ps_for PassesOwn.never rfl (pi_listK (K := K) rfl (pe_cal c__law_rounds (hr.mono (by first | decide | omega)) rfl pass0 (pa_cons (pv 0) (pa_cons pe_int pa_nil)))) (pg_name (i := 1) sc_law.nd rfl (.inr rfl)) (pss_cons (ps_set (i := 2) sc_law.nd rfl (.inr rfl) (pe_callTy (call_dictPK (K := K) rfl rfl) rfl (T.free "dict") boot_dict (pa_cons (pe_lc (own := [("k", 13)]) (tt := tYes) rfl sc_law.nd (pi_range1 rfl (T.free "range") (pa_cons (pe_roll c__law_roll (hr.mono (by first | decide | omega)) rfl (pa_cons (pv 1) (pa_cons pe_int pa_nil))) pa_nil)) (blkOk_by (N := n_law) (sc := (defScope s_law)) (by decide +kernel)) (fun _ _ _ _ _ => (pg_name (i := 13) sc_law.nd rfl (.inl rfl))) (fun _ _ _ _ _ => pts_nil)  (fun _ _ _ _ _ => (pe_tup (pa_cons (pe_op op_add_str pe_str (pe_callTy call_str_int rfl (T.free "str") boot_str (pa_cons (pv 13) pa_nil))) (pa_cons (pe_tup (pa_cons (pe_op op_add pe_int (pe_roll c__law_roll (hr.mono (by first | decide | omega)) rfl (pa_cons (pv 1) (pa_cons pe_int pa_nil)))) (pa_cons (pe_roll c__law_roll (hr.mono (by first | decide | omega)) rfl (pa_cons (pv 1) (pa_cons pe_int pa_nil))) pa_nil))) pa_nil))))) pa_nil))) (pss_cons (ps_set (i := 3) sc_law.nd rfl (.inr rfl) (pe_op op_add pe_int (pe_roll c__law_roll (hr.mono (by first | decide | omega)) rfl (pa_cons (pv 1) (pa_cons pe_int pa_nil))))) (pss_cons (ps_lock (ps_setLc (i := 4) (own := [("name", 14)]) (tt := tYes) rfl sc_law.nd rfl rfl (sw_true rfl rfl rfl (by decide +kernel)) (pi_keys (pv 2)) (blkOk_by (N := n_law) (sc := (defScope s_law)) (by decide +kernel)) (fun _ _ _ _ _ => (pg_name (i := 14) sc_law.nd rfl (.inl rfl))) (fun _ _ _ _ _ => pts_nil)  (fun _ _ _ _ _ => (pe_make M_Job c_Job.ok (hr.mono (by first | decide | omega)) rfl (T.glo "Job") c_Job.b .nil passF (pa_cons (pv 14) (pa_cons pe_str (pa_cons (pe_ix (ix_tupK (K := K) rfl) (pe_dget (Room.u1 hr) (pv 2) (pv 14) (fun _ _ => rfl)) pe_int (fun _ _ => rfl)) (pa_cons pe_int (pa_cons (pe_ix (ix_tupK (K := K) rfl) (pe_dget (Room.u1 hr) (pv 2) (pv 14) (fun _ _ => rfl)) pe_int (fun _ _ => rfl)) pa_nil))))))))) (pss_cons (ps_set (i := 5) sc_law.nd rfl (.inl rfl) (pe_cal c__law_orders (hr.mono (by first | decide | omega)) rfl pass0 (pa_cons (pe_callB (call_sortedDK rfl) rfl (T.free "sorted") boot_sorted (pa_cons (pv 2) pa_nil)) pa_nil))) (pss_cons (ps_setLc (i := 6) (own := [("names", 15)]) (tt := tYes) rfl sc_law.nd rfl rfl (sw_true rfl rfl rfl (by decide +kernel)) (pi_listK (K := K) rfl (pv 5)) (blkOk_by (N := n_law) (sc := (defScope s_law)) (by decide +kernel)) (fun _ _ _ _ _ => (pg_name (i := 15) sc_law.nd rfl (.inl rfl))) (fun _ _ _ _ _ => pts_nil)  (fun _ _ _ _ _ => (pe_cal c__law_worth (hr.mono (by first | decide | omega)) rfl pass0 (pa_cons (pv 2) (pa_cons (pv 15) (pa_cons (pv 3) pa_nil)))))) (pss_cons (ps_if (PW.pt (pw_or (pt_cmpR (op_neDK (K := K) rfl (Room.units hr)) (pe_cal c_best_order (hr.mono (by first | decide | omega)) rfl passF (pa_cons (pe_revLK (K := K) rfl (pv 4)) (pa_cons (pv 3) pa_nil))) (pe_tup (pa_cons (pe_callB (cr_maxK (K := K) rfl rfl) rfl (T.free "max") boot_max (pa_cons (pv 6) pa_nil)) (pa_cons (pe_ix (ix_listK (K := K) rfl) (pv 5) (pe_bm PySem.F.plainAttrs_list PySem.F.slot_list_index PySem.F.type_list_index (mt_indexK (K := K) rfl) (pv 6) (pa_cons (pe_callB (cr_maxK (K := K) rfl rfl) rfl (T.free "max") boot_max (pa_cons (pv 6) pa_nil)) pa_nil)) (fun _ _ => rfl)) pa_nil))) (nomark _)) (pw_or1 (pt_cmpR (op_neDK (K := K) rfl (Room.units hr)) (pe_callTy (call_listK (K := K) rfl) rfl (T.free "list") boot_list (pa_cons (pe_cal c_orders_of (hr.mono (by first | decide | omega)) rfl pass0 (pa_cons (pe_callTy (call_tupleK (K := K) rfl) rfl (T.free "tuple") boot_tuple (pa_cons (pe_callB (call_sortedDK rfl) rfl (T.free "sorted") boot_sorted (pa_cons (pv 2) pa_nil)) pa_nil)) pa_nil)) pa_nil)) (pv 5) (nomark _))))) (pss_one (ps_ret pe_bl)) pss_nil) (pss_cons (ps_set (i := 7) sc_law.nd rfl (.inl rfl) (pe_roll c__law_roll (hr.mono (by first | decide | omega)) rfl (pa_cons (pv 1) (pa_cons (pe_callB (call_lenK (K := K) rfl) rfl (T.free "len") boot_len (pa_cons (pv 5) pa_nil)) pa_nil)))) (pss_cons (ps_if (pt_cmpR op_ne (pe_cal c_in_time (hr.mono (by first | decide | omega)) rfl pass0 (pa_cons (pe_callTy (call_dictPK (K := K) rfl rfl) rfl (T.free "dict") boot_dict (pa_cons (pe_lc (own := [("one", 11)]) (tt := tYes) rfl sc_law.nd (pi_listK (K := K) rfl (pv 4)) (blkOk_by (N := n_law) (sc := (defScope s_law)) (by decide +kernel)) (fun _ _ _ _ _ => (pg_name (i := 11) sc_law.nd rfl (.inl rfl))) (fun _ _ _ _ _ => pts_nil)  (fun _ _ _ _ _ => (pe_tup (pa_cons (pe_fldK (K := K) rfl (pv 11) rfl) (pa_cons (pv 11) pa_nil))))) pa_nil)) (pa_cons (pe_ix (ix_listK (K := K) rfl) (pv 5) (pv 7) (fun _ _ => rfl)) (pa_cons (pv 3) pa_nil)))) (pe_ix (ix_listK (K := K) rfl) (pv 6) (pv 7) (fun _ _ => rfl)) (nomark _)) (pss_one (ps_ret pe_bl)) pss_nil) (pss_cons (ps_par3 (i := 8) (j := 9) (l := 10) (by rfl) sc_law.nd rfl rfl rfl (by decide) (by decide) (by decide) rfl rfl rfl (pa_cons (pe_roll c__law_roll (hr.mono (by first | decide | omega)) rfl (pa_cons (pv 1) (pa_cons pe_int pa_nil))) (pa_cons (pe_op op_add pe_int (pe_roll c__law_roll (hr.mono (by first | decide | omega)) rfl (pa_cons (pv 1) (pa_cons pe_int pa_nil)))) (pa_cons (pe_op op_add pe_int (pe_roll c__law_roll (hr.mono (by first | decide | omega)) rfl (pa_cons (pv 1) (pa_cons pe_int pa_nil)))) pa_nil))) (by rfl)) (pss_one (ps_if (pt_cmpR op_ne (pe_cal c_bread_price (hr.mono (by first | decide | omega)) rfl passF (pa_cons (pv 8) (pa_cons (pv 9) (pa_cons (pv 10) pa_nil)))) (pe_op op_fdiv (pe_op op_mul pe_int (pv 10)) (pe_op op_add (pv 8) (pv 9))) (nomark _)) (pss_one (ps_ret pe_bl)) pss_nil)))))))))))) (pss_cons (ps_set (i := 11) sc_law.nd rfl (.inr rfl) (pe_make M_Job c_Job.ok (hr.mono (by first | decide | omega)) rfl (T.glo "Job") c_Job.b .nil passF (pa_cons pe_str (pa_cons pe_str (pa_cons pe_int (pa_cons pe_int (pa_cons pe_int pa_nil))))))) (pss_cons (ps_set (i := 12) sc_law.nd rfl (.inl rfl) (pe_lst (pa_cons (pe_lam (D := lamD K 0) (T.tabB ("law", none)) rfl hmT huT rfl (O 0 (by decide))) (pa_cons (pe_lam (D := lamD K 1) (T.tabB ("law", none)) rfl hmT huT rfl (O 1 (by decide))) (pa_cons (pe_lam (D := lamD K 2) (T.tabB ("law", none)) rfl hmT huT rfl (O 2 (by decide))) (pa_cons (pe_lam (D := lamD K 3) (T.tabB ("law", none)) rfl hmT huT rfl (O 3 (by decide))) (pa_cons (pe_lam (D := lamD K 4) (T.tabB ("law", none)) rfl hmT huT rfl (O 4 (by decide))) (pa_cons (pe_lam (D := lamD K 5) (T.tabB ("law", none)) rfl hmT huT rfl (O 5 (by decide))) pa_nil)))))))) (pss_one (ps_ret (pe_and (pe_cmpR (op_eqDK (K := K) rfl (Room.units hr)) (lcI (own := [("f", 16)]) (te := tC (.int 1)) (g := gName 16) (tt := fun σ => tTest (tOp rNe (tTold (lawX P w K mg base A outer s H E) 7 16 σ (TTold K (He.ga K "MillError") "MillError")) (tC (.str "MillError")))) rfl sc_law.nd (pi_listK (K := K) rfl (pv 12)) (blkOk_by (N := n_law) (sc := (defScope s_law)) (by decide +kernel)) (fun _ _ _ _ _ => (pg_name (i := 16) sc_law.nd rfl (.inl rfl))) (fun s3 H3 C cl fp pins σ I3 f3 => pts_one (pt_cmpR op_ne (pe_toldV (i := 16) (k := 7) (TT := TTold K (He.ga K "MillError") "MillError") I3 f3 rfl (T.glo "_law_told") Ft.kp lkT cdT bT scTold rfl (.inl rfl) (told_gives rfl (T.glo "MillError") (by decide) fun _ => rfl) (hr.mono (by decide)) (pv 16)) pe_str (nomark _))) (fun _ _ _ _ _ => pe_int)) (pe_lst pa_nil) (nomark _)) (pe_and (pe_cmpR op_eq (pe_glob (v := .int 8) rfl c_MJ ⟨_, rfl⟩) pe_int (nomark _)) (pe_and (pe_cmpR (op_eqDK (K := K) rfl (Room.units hr)) (pe_cal c_best_order (hr.mono (by first | decide | omega)) rfl passF (pa_cons (pe_lst pa_nil) (pa_cons pe_int pa_nil))) (pe_tup (pa_cons pe_int (pa_cons (pe_tup pa_nil) pa_nil))) (nomark _)) (pe_and (pe_cmpR (op_eqDK (K := K) rfl (Room.units hr)) (pe_cal c_best_order (hr.mono (by first | decide | omega)) rfl passF (pa_cons (pe_lst (pa_cons (pe_make M_Job c_Job.ok (hr.mono (by first | decide | omega)) rfl (T.glo "Job") c_Job.b .nil passF (pa_cons pe_str (pa_cons pe_str (pa_cons pe_int (pa_cons pe_int (pa_cons pe_int pa_nil)))))) (pa_cons (pe_make M_Job c_Job.ok (hr.mono (by first | decide | omega)) rfl (T.glo "Job") c_Job.b .nil passF (pa_cons pe_str (pa_cons pe_str (pa_cons pe_int (pa_cons pe_int (pa_cons pe_int pa_nil)))))) pa_nil))) (pa_cons pe_int pa_nil))) (pe_tup (pa_cons pe_int (pa_cons (pe_tup (pa_cons pe_str (pa_cons pe_str pa_nil))) pa_nil))) (nomark _)) (pe_one (pe_cmpR (op_eqDK (K := K) rfl (Room.units hr)) (pe_tup (pa_cons (pe_fldK (K := K) rfl (pv 11) rfl) (pa_cons (pe_fldK (K := K) rfl (pv 11) rfl) pa_nil))) (pe_tup (pa_cons pe_str (pa_cons pe_int pa_nil))) (nomark _)))))))))))), ?_⟩
  obtain ⟨a, ns, rfl, hs, hTB, hTL, q⟩ := h
  walk_at "k0"
  walk_at "ss"
  refine ⟨a, ns, rfl, hs, fun p0 q0 H1 mv1 hp0 hq0 => ?_⟩
  refine s_iL2 (SqL.of hp0) fun J w1 => ?_
  refine forE (B := H1) w1 (Mv.refl _) (fun H' m => m.sqL (SqL.of hp0)) (fun i σ' H' => ∃ x1 x2 x3 x4 x5 x6 x7 x8 x9 x10 x11 x12 x13 x14 x15 x16, σ' = [some (.ref a), x1, x2, x3, x4, x5, x6, x7, x8, x9, x10, x11, x12, x13, x14, x15, x16]) ⟨_, _, _, _, _, _, _, _, _, _, _, _, _, _, _, _, rfl⟩ (fun i y σ' H' hy mv hP => ?_) (fun σ' H' mv hP => ?_)
  · obtain ⟨x1, x2, x3, x4, x5, x6, x7, x8, x9, x10, x11, x12, x13, x14, x15, x16, rfl⟩ := hP
    obtain rfl : y = .ref q0 := by
      match i, hy with
      | 0, hy => exact (Option.some.inj hy).symm
      | i + 1, hy => cases (show none = some y from hy)
    have hdice : H' q0 = some (DiceO q0) := mv.exx hq0
    walk_at "ss"
    rename_i n0 hn0 hn1 J1 w2
    refine lcE w2 (fun _ _ => True.intro) fun D hD => ⟨fun j acc H'' => ∃ l : List Jd, l.length = j ∧ acc = l.map (fun e => V.ref e.1) ∧ ∀ (i : Nat) (e : Jd), l[i]? = some e → H'' e.1 = some (.tup [.str (nm i), .ref e.2.1]) ∧ H'' e.2.1 = some (.tup [.int e.2.2.1, .int e.2.2.2]) ∧ 0 < e.2.2.1 ∧ e.2.2.1 < 1000 ∧ 0 ≤ e.2.2.2, fun _ _ => ⟨[], rfl, rfl, fun i e h => by simp at h⟩, fun j y acc H2 hy mv2 hDa hP => ?_, fun acc H2 mv2 hDa hP => ?_⟩
    · obtain ⟨l, hl, rfl, hall⟩ := hP
      obtain ⟨hj, rfl⟩ := rangeL_get hy
      have hj5 : j < 5 := by omega
      walk_at "ss"
      refine ⟨by
        have h5 : ((0 : Int) + (j : Nat)).natAbs ≤ 5 := by omega
        exact Nat.lt_of_le_of_lt (Nat.log2_le_self _) (by omega), ?_⟩
      refine ⟨_, _, rfl, rfl, nm_short hj5, ?_⟩
      walk_at "ss"
      rename_i r1 r1a r1b r2 r2a r2b t1 ht1 Ha mva hta t2 ht2 Hb mvb htb
      refine lcP hD (by walk_at "look") (Nat.lt_of_le_of_lt (m := 6) (by rw [List.length_map]; omega) (by decide)) (by walk_at "mv") fun H8 mv8 nl => ⟨l ++ [(t2, t1, 1 + r1, r2)], by simp [hl], by simp, fun i e he => ?_⟩
      by_cases hil : i < l.length
      · rw [List.getElem?_append_left hil] at he
        obtain ⟨a1, a2, a3⟩ := hall i e he
        exact ⟨nl.tup (mvb.tup (mva.tup a1)), nl.tup (mvb.tup (mva.tup a2)), a3⟩
      · rw [List.getElem?_append_right (by omega)] at he
        have hz : i - l.length = 0 := by
          have := (List.getElem?_eq_some_iff.mp he).1
          simp at this
          omega
        rw [hz] at he
        cases he
        have hij : i = j := by omega
        subst hij
        exact ⟨nl.tup htb, nl.tup (mvb.tup hta), (by show 0 < 1 + r1; omega), (by show 1 + r1 < 1000; omega), r2a⟩
    · obtain ⟨l, hl, rfl, hall⟩ := hP
      rw [rangeL_length] at hl
      have hl5 : l.length ≤ 5 := by omega
      walk_at "ss"
      refine s_dictP (ps := l.map (·.1)) (kvs := kvs1 l) (SqL.of (by rw [List.map_map]; exact hDa)) (paired_get (by simp [kvs1]) fun i x y hx hy => ?_) (kvs1_nodup hl5) fun d hd => ?_
      · rw [List.getElem?_map] at hx
        cases he : l[i]? with
        | none => rw [he] at hx; cases hx
        | some e =>
          rw [he] at hx
          cases hx
          rw [kvs1_at he] at hy
          cases hy
          exact SqT.of (hall i e he).1
      generalize hg : upd _ _ _ = H3
      obtain ⟨mv3, hd3⟩ := gen_upd hg hd
      clear hg
      walk_at "ss"
      refine s_lockK hd3 fun od H4 lk hfr => ?_
      walk_at "ss"
      rename_i rp rpa rpb J3 w3
      have hdg : ∀ {i : Nat} {e : Jd}, l[i]? = some e → DGet H4 d (.str (nm i)) (some (.ref e.2.1)) := fun {i e} he => .inl ⟨kvs1 l, Sum.inr (nm i), .inr ⟨od, hfr⟩, rfl, (valV_get (kvs1_nodup hl5) (kvs1_at he)).symm⟩
      refine lcE w3 (fun H' m => m.frz hfr) fun D2 hD2 => ⟨fun j acc H'' => acc.length = j ∧ ∀ (i : Nat) (v : V), acc[i]? = some v → ∃ e, l[i]? = some e ∧ JobAt (He.ga K "Job") H'' v (nm i) "ann" e.2.2.1 0 e.2.2.2, fun _ _ => ⟨rfl, fun i v h => by simp at h⟩, fun j y acc H5 hy mv5 hDa hP => ?_, fun acc H5 mv5 hDa hP => ?_⟩
      · obtain ⟨kv, hkv, rfl⟩ := map_get hy
        have hj : j < l.length := by
          have := (List.getElem?_eq_some_iff.mp hkv).1
          simpa [kvs1] using this
        obtain ⟨e, he⟩ := get_of_lt hj
        rw [kvs1_at he] at hkv
        cases hkv
        obtain ⟨_, ht2, p1, p2, p3⟩ := hall j e he
        have hg1 := hdg he
        show gName 14 (V.str (nm j)) _ _ _
        walk_at "ss"
        refine mkJobE ⟨p1, Int.le_refl _, p3⟩ fun x dx H6 hx mv6 hx6 => ?_
        refine lcP hD2 (by walk_at "look") (Nat.lt_of_le_of_lt (m := 6) (by omega) (by decide)) (by walk_at "mv") fun H7 mv7 nl => ⟨by simp [hP.1], fun i v hv => ?_⟩
        by_cases hi : i < acc.length
        · rw [List.getElem?_append_left hi] at hv
          obtain ⟨e', he', a1, dx1, rfl, hj1⟩ := hP.2 i v hv
          exact ⟨e', he', a1, dx1, rfl, nl.ins (mv6.ins hj1)⟩
        · rw [List.getElem?_append_right (by omega)] at hv
          have hz : i - acc.length = 0 := by
            have := (List.getElem?_eq_some_iff.mp hv).1
            simp at this
            omega
          rw [hz] at hv
          cases hv
          have hij : i = j := by omega
          subst hij
          exact ⟨e, he, x, dx, rfl, nl.ins hx6⟩
      · walk_at "ss"
        have hfr5 := mv5.frz hfr
        refine ⟨hfr5, ?_⟩
        have mvb := lk.back mv5
        have hne : ∀ b u, H5 b = some u → (∀ o v, u ≠ .frz o v) → upd H5 d (.dK (kvs1 l)) b = some u := fun b u e n => by
          rw [upd_ne fun z => n _ _ (Option.some.inj (e.symm.trans (by rw [z]; exact hfr5)))]
          exact e
        have hmade := hne _ _ hDa fun _ _ z => nomatch z
        have hd6 : upd H5 d (.dK (kvs1 l)) d = some (.dK (kvs1 l)) := upd_same
        have hjobs : ∀ (i : Nat) (v : V), acc[i]? = some v → ∃ e, l[i]? = some e ∧ JobAt (He.ga K "Job") (upd H5 d (.dK (kvs1 l))) v (nm i) "ann" e.2.2.1 0 e.2.2.2 := fun i v hv => by
          obtain ⟨e', he', a1, dx1, rfl, hj1⟩ := hP.2 i v hv
          exact ⟨e', he', a1, dx1, rfl, hne _ _ hj1 fun _ _ z => nomatch z⟩
        have hacl : acc.length = l.length := by
          have := hP.1
          simpa [kvs1] using this
        generalize upd H5 d (.dK (kvs1 l)) = H6 at mvb hmade hd6 hjobs ⊢
        clear hne hP
        walk_at "ss"
        have hall6 : ∀ (i : Nat) (e : Jd), l[i]? = some e → H6 e.2.1 = some (.tup [.int e.2.2.1, .int e.2.2.2]) ∧ 0 < e.2.2.1 ∧ e.2.2.1 < 1000 ∧ 0 ≤ e.2.2.2 := fun i e he => ⟨mvb.tup (mv3.tup (hall i e he).2.1), (hall i e he).2.2⟩
        have hdg6 : ∀ {i : Nat} {e : Jd}, l[i]? = some e → DGet H6 d (.str (nm i)) (some (.ref e.2.1)) := fun {i e} he => .inl ⟨kvs1 l, Sum.inr (nm i), .inl hd6, rfl, (valV_get (kvs1_nodup hl5) (kvs1_at he)).symm⟩
        have hnl : (nms l.length).length ≤ 5 := by rw [nms_length]; exact hl5
        refine s_sortedD (ks := nms l.length) (.inl hd6) kvs1_keys (by omega) (nms_sorted hl5) fun pn hpn => ?_
        generalize hg : upd _ _ _ = H7
        obtain ⟨mv7, hpn7⟩ := gen_upd hg hpn
        clear hg
        walk_at "ss"
        refine ⟨pn, nms l.length, rfl, SqL.of hpn7, hnl, nms_nodup hl5, nms_tx hl5, fun po H8 xo mv8 hpo hdo => ?_⟩
        have hxo : xo.length = (permsF 5 (nms l.length)).length := by
          have := dpAll_length hdo
          rw [List.length_map] at this
          exact this
        have hle : (permsF 5 (nms l.length)).length ≤ 3125 := permsF_le hnl (by decide)
        walk_at "ss"
        rename_i J4 w4
        refine lcE w4 (fun H' m => m.sqL (SqL.of hpo)) fun D3 hD3 => ⟨fun j acc2 H'' => acc2 = ((permsF 5 (nms l.length)).take j).map fun o => V.int (inT (pdL l) (1 + rp) o 0 0), fun _ _ => rfl, fun j y acc2 H9 hy mv9 hDa hP => ?_, fun acc2 H9 mv9 hDa hP => ?_⟩
        · obtain ⟨dd, hd1, hd2⟩ := dpAll_get (mv9.dpAll hdo) hy
          rw [List.getElem?_map] at hd1
          cases ho : (permsF 5 (nms l.length))[j]? with
          | none =>
            rw [ho] at hd1
            cases hd1
          | some o =>
            rw [ho] at hd1
            cases hd1
            obtain ⟨qa, rfl, hqa⟩ := dp_tup_strs hd2
            walk_at "ss"
            refine ⟨d, qa, 1 + rp, o, pdL l, rfl, by omega, by omega, by walk_at "look", fun n hn => ?_, fun H10 mv10 => ?_⟩
            · obtain ⟨i, hi, rfl⟩ := mem_nms (permsF_mem (get_mem ho) n hn)
              obtain ⟨e, he⟩ := get_of_lt hi
              obtain ⟨a1, a2, a3, a4⟩ := hall6 i e he
              rw [pdL_at hl5 he]
              exact ⟨e.2.1, Mv.dget (by walk_at "mv" : Mv H6 H9) (hdg6 he), Mv.tup (by walk_at "mv" : Mv H6 H9) a1, a2, a3⟩
            · subst hP
              refine lcP hD3 (by walk_at "look") (Nat.lt_of_le_of_lt (m := 3125) (by rw [List.length_map, List.length_take]; omega) (by decide)) (by walk_at "mv") fun H11 mv11 nl => ?_
              rw [take_more ho, List.map_append]
              rfl
        · rw [hxo, List.take_length] at hP
          subst hP
          walk_at "ss"
          rename_i pr hpr Hr mvr hrv
          have cJ := T.cls "Job"
          have nA := T.noat "Job" "name"
          obtain ⟨W, hW⟩ : ∃ W : List Int, W = (permsF 5 (nms l.length)).map fun o => inT (pdL l) (1 + rp) o 0 0 := ⟨_, rfl⟩
          have hw9 : H9 D3 = some (.lst (W.map V.int)) := by
            rw [hW, List.map_map]
            exact hDa
          clear hDa
          have hxpos : 0 < xo.length := by
            obtain ⟨o9, ho9⟩ := permsF_pos (n := 5) (ns := nms l.length) hnl
            have := List.length_pos_of_mem ho9
            omega
          refine ⟨pr, acc.reverse, 1 + rp, rfl, SqL.of hrv, fun z => ?_, fun _ => ⟨by omega, (nms l.length).reverse, nms l.length, pdL l, ?_, List.reverse_perm _, nms_sorted hl5, nms_nodup hl5, hnl, nms_tx hl5, (by walk_at "mv" : Mv H Hr).t _ hTB, fun i n v hn hv => ?_, fun b Hb t k q2 o mvb2 hB => ?_⟩⟩
          · rw [List.length_reverse] at z
            omega
          · rw [List.length_reverse, List.length_reverse, nms_length, hacl]
          · have hi : i < l.length := by
              have := (List.getElem?_eq_some_iff.mp hn).1
              rw [List.length_reverse, nms_length] at this
              exact this
            rw [List.getElem?_reverse (by rw [nms_length]; exact hi), nms_length, nms_at (by omega)] at hn
            rw [List.getElem?_reverse (by omega), hacl] at hv
            cases hn
            obtain ⟨e, he, hj⟩ := hjobs _ _ hv
            rw [pdL_at hl5 he]
            exact ⟨"ann", 0, JobAt.mv (by walk_at "mv") hj⟩
          · obtain ⟨rfl, ht, hq2, ho2, hk2, ha2, hf2⟩ := hB
            have hoM : inT (pdL l) (1 + rp) o 0 0 ∈ W := by
              rw [hW]
              exact List.mem_map.mpr ⟨o, get_mem ho2, rfl⟩
            have hmax : ∀ y ∈ W, y ≤ inT (pdL l) (1 + rp) o 0 0 := fun y hy => by
              rw [hW] at hy
              obtain ⟨o', ho', rfl⟩ := List.mem_map.mp hy
              obtain ⟨j, hj⟩ := List.mem_iff_getElem?.mp ho'
              exact ha2 j o' (List.getElem?_eq_some_iff.mp hj).1 hj
            have hWk : W[k]? = some (inT (pdL l) (1 + rp) o 0 0) := by
              rw [hW, List.getElem?_map, ho2]
              rfl
            have hWf : ∀ (m : Nat) (z : Int), m < k → W[m]? = some z → z < inT (pdL l) (1 + rp) o 0 0 := fun m z hm hz => by
              rw [hW, List.getElem?_map] at hz
              cases ho' : (permsF 5 (nms l.length))[m]? with
              | none => rw [ho'] at hz; cases hz
              | some o' =>
                rw [ho'] at hz
                cases hz
                exact hf2 m o' hm ho'
            have hom := permsF_mem (get_mem ho2)
            have hotx : ∀ x ∈ o, txOk x = true := fun x hx => nms_tx hl5 x (hom x hx)
            refine s_tup ?_
            walk_at "ss"
            refine s_maxI (ns := W) (M := inT (pdL l) (1 + rp) o 0 0) (by walk_at "look") hoM hmax ?_
            walk_at "ss"
            refine s_maxI (ns := W) (M := inT (pdL l) (1 + rp) o 0 0) (by walk_at "look") hoM hmax ?_
            walk_at "ss"
            refine s_indexI (ns := W) (j := k) (by walk_at "look") hWk hWf ?_
            have hko : ∀ {j : Nat} {oo : List Str}, (permsF 5 (nms l.length))[j]? = some oo → ∃ qj, xo[j]? = some (.ref qj) ∧ SqT K H8 qj (oo.map V.str) := fun {j oo} hj => by
              have hjx : j < xo.length := by
                have := (List.getElem?_eq_some_iff.mp hj).1
                omega
              obtain ⟨vj, hvj⟩ := get_of_lt hjx
              obtain ⟨dd, hd1, hd2⟩ := dpAll_get hdo hvj
              rw [List.getElem?_map, hj] at hd1
              cases hd1
              obtain ⟨qj, rfl, hqj⟩ := dp_tup_strs hd2
              exact ⟨qj, hvj, hqj⟩
            obtain ⟨qk, hqk1, hqk2⟩ := hko ho2
            refine s_ixL (by walk_at "look") (atI_nat hqk1) ?_
            walk_at "ss"
            rename_i pt hpt Ht mvt htt
            refine s_neD (d := .tuple [.int (inT (pdL l) (1 + rp) o 0 0), ordD o]) (e := .tuple [.int (inT (pdL l) (1 + rp) o 0 0), ordD o]) (.tup (SqT.of (mvt.tup ht)) (.cons (.int _) (.cons (.tup (mvt.sqT hq2) dpAll_strs) .nil))) (.tup (SqT.of htt) (.cons (.int _) (.cons (.tup (by walk_at "look") dpAll_strs) .nil))) ((sh_best hotx).shaped (by decide)) ((sh_best hotx).shaped (by decide)) ?_
            rw [(sh_best hotx).refl]
            refine ⟨false, rfl, ?_⟩
            walk_at "ss"
            refine s_sortedD (kvs := kvs1 l) (ks := nms l.length) (.inl (Mv.dK (by walk_at "mv" : Mv H6 Ht) hd6)) kvs1_keys (by omega) (nms_sorted hl5) fun pn2 hpn2 => ?_
            generalize hg : upd _ _ _ = Hs
            obtain ⟨mvs, hpns⟩ := gen_upd hg hpn2
            clear hg
            walk_at "ss"
            refine ⟨_, nms l.length, rfl, SqT.of (by assumption), hnl, nms_tx hl5, fun po2 Hy mvy dpo2 => ?_⟩
            cases dpo2 with
            | @tup _ xs2 _ hsx2 hax2 =>
              refine s_nil ?_
              walk_at "ss"
              rename_i pl2 hpl2 Hl mvl hll
              have hshl : Sh 2 (.list ((permsF 5 (nms l.length)).map ordD)) := Sh.lst (sh_ord (nms_tx hl5))
              refine s_neD (d := .list ((permsF 5 (nms l.length)).map ordD)) (e := .list ((permsF 5 (nms l.length)).map ordD)) (.lst (SqL.of hll) (mvl.dpAll hax2)) (.lst (by walk_at "look") (Mv.dpAll (by walk_at "mv" : Mv H8 Hl) hdo)) (hshl.shaped (by decide)) (hshl.shaped (by decide)) ?_
              rw [hshl.refl]
              refine ⟨false, rfl, ?_⟩
              walk_at "ss"
              rename_i sp0 spa spb J5 w5
              obtain ⟨sp, rfl⟩ := Int.eq_ofNat_of_zero_le spa
              have hsx : sp < xo.length := by omega
              obtain ⟨os, hos⟩ := get_of_lt (l := permsF 5 (nms l.length)) (i := sp) (by omega)
              obtain ⟨qs, hqs1, hqs2⟩ := hko hos
              have hosm := permsF_mem (get_mem hos)
              refine lcE w5 (fun H' m => m.sqL (SqL.of (by walk_at "look"))) fun D4 hD4 => ⟨fun j acc4 H'' => ∃ ts : List Addr, ts.length = j ∧ acc4 = ts.map V.ref ∧ ∀ (i : Nat) (u : Addr) (v : V), ts[i]? = some u → acc[i]? = some v → H'' u = some (.tup [.str (nm i), v]), fun _ _ => ⟨[], rfl, rfl, fun i u v h => by simp at h⟩, fun j y acc4 H11 hy mv11 hDa4 hP4 => ?_, fun acc4 H11 mv11 hDa4 hP4 => ?_⟩
              · obtain ⟨ts, hts, rfl, hall4⟩ := hP4
                obtain ⟨e, he, a1, dx1, rfl, hj1⟩ := hjobs j y hy
                have hj2 := Mv.ins (by walk_at "mv" : Mv H6 H11) hj1
                have hjl := (List.getElem?_eq_some_iff.mp he).1
                walk_at "ss"
                rename_i pu hpu Hu mvu huu
                refine lcP hD4 (by walk_at "look") (Nat.lt_of_le_of_lt (m := 6) (by rw [List.length_map]; omega) (by decide)) (by walk_at "mv") fun H12 mv12 nl => ⟨ts ++ [pu], by simp [hts], by simp, fun i u v hu hv => ?_⟩
                by_cases hi : i < ts.length
                · rw [List.getElem?_append_left hi] at hu
                  exact nl.tup (mvu.tup (hall4 i u v hu hv))
                · rw [List.getElem?_append_right (by omega)] at hu
                  have hz : i - ts.length = 0 := by
                    have := (List.getElem?_eq_some_iff.mp hu).1
                    simp at this
                    omega
                  rw [hz] at hu
                  cases hu
                  have hij : i = j := by omega
                  subst hij
                  rw [hy] at hv
                  cases hv
                  exact nl.tup huu
              · obtain ⟨ts, hts, rfl, hall4⟩ := hP4
                walk_at "ss"
                have hacl5 : acc.length ≤ 5 := by omega
                refine s_dictP (ps := ts) (kvs := kvs2 acc) (SqL.of hDa4) (paired_get (by simp [kvs2, hts]) fun i x y hx hy => ?_) (kvs2_nodup hacl5) fun d4 hd4 => ?_
                · have hi : i < acc.length := by
                    have := (List.getElem?_eq_some_iff.mp hx).1
                    omega
                  obtain ⟨v, hv⟩ := get_of_lt hi
                  rw [kvs2_at hv] at hy
                  cases hy
                  exact SqT.of (hall4 i x v hx hv)
                generalize hg : upd _ _ _ = H13
                obtain ⟨mv13, hd13⟩ := gen_upd hg hd4
                clear hg
                walk_at "ss"
                refine s_ixL (by walk_at "look") (atI_nat hqs1) ?_
                walk_at "ss"
                refine ⟨d4, qs, 1 + rp, os, pdL l, rfl, by omega, by omega, by walk_at "look", fun n hn => ?_, fun H14 mv14 => ?_⟩
                · obtain ⟨i, hi, rfl⟩ := mem_nms (hosm n hn)
                  obtain ⟨v, hv⟩ := get_of_lt (l := acc) (i := i) (by omega)
                  obtain ⟨e, he, hj1⟩ := hjobs i v hv
                  rw [pdL_at hl5 he]
                  exact ⟨v, "ann", 0, .inl ⟨kvs2 acc, Sum.inr (nm i), .inl hd13, rfl, (valV_get (kvs2_nodup hacl5) (kvs2_at hv)).symm⟩, JobAt.mv (by walk_at "mv" : Mv H6 H13) hj1⟩
                · refine s_op ?_
                  walk_at "ss"
                  refine s_ixL (v := .int (inT (pdL l) (1 + rp) os 0 0)) (Mv.sqL (by walk_at "mv" : Mv H9 H14) (SqL.of hw9)) (atI_nat (by rw [hW, List.map_map, List.getElem?_map, hos]; rfl)) ?_
                  walk_at "ss"
                  refine ite_ndec (fun hc => absurd rfl hc) (fun _ => ?_)
                  walk_at "ss"
                  rename_i b1 b1a b1b b2 b2a b2b b3 b3a b3b
                  refine ⟨_, _, _, rfl, ⟨by omega, by omega, by omega⟩, fun z => by omega, fun _ => ?_⟩
                  refine s_op ?_
                  walk_at "ss"
                  refine ite_ndec (fun hc => absurd rfl hc) (fun _ => ?_)
                  walk_at "ss"
                  exact ⟨by walk_at "mv", _, _, _, _, _, _, _, _, _, _, _, _, _, _, _, _, rfl⟩
  · obtain ⟨x1, x2, x3, x4, x5, x6, x7, x8, x9, x10, x11, x12, x13, x14, x15, x16, rfl⟩ := hP
    have cJ := T.cls "Job"
    have nB := T.noat "Job" "owner"
    have nD := T.noat "Job" "first"
    walk_at "ss"
    refine mkJobE (p := 1) (r := 0) (d := 0) (by decide) fun xj dxj G0 hxj mv2 hj => ?_
    walk_at "ss"
    have hPne : (He.cT K ("best_order", none)).2 ≠ (He.cT K ("law", none)).2 := by
      rw [hL]
      exact hP1
    have hT0 : Tabs (lawT K) G0 := fun p hp => by
      rw [List.mem_singleton.mp hp]
      refine TabS.nil ?_
      have m0 : Mv H G0 := by walk_at "mv"
      have := hTL
      rw [hL] at this ⊢
      exact m0.l _ this
    have hb : GxR.TabG G0 (He.cT K ("best_order", none)).2 := (by walk_at "mv" : Mv H G0).t _ hTB
    refine ⟨hT0, fun f0 G1 eN0 eK0 hT1 hn0 hl0 => ?_⟩
    have hj := eN0 _ _ hj fun _ z => nomatch z
    have hb : GxR.TabG G1 (He.cT K ("best_order", none)).2 := by
      obtain ⟨ps, h1, h2⟩ := hb
      exact ⟨ps, eK0 _ _ hPne h1, h2⟩
    walk_at "ss"
    refine ⟨hT1, fun f1 G2 eN1 eK1 hT2 hn1 hl1 => ?_⟩
    have hj := eN1 _ _ hj fun _ z => nomatch z
    have hb : GxR.TabG G2 (He.cT K ("best_order", none)).2 := by
      obtain ⟨ps, h1, h2⟩ := hb
      exact ⟨ps, eK1 _ _ hPne h1, h2⟩
    have hl0 := lamIs_ext eN1 hl0
    walk_at "ss"
    refine ⟨hT2, fun f2 G3 eN2 eK2 hT3 hn2 hl2 => ?_⟩
    have hj := eN2 _ _ hj fun _ z => nomatch z
    have hb : GxR.TabG G3 (He.cT K ("best_order", none)).2 := by
      obtain ⟨ps, h1, h2⟩ := hb
      exact ⟨ps, eK2 _ _ hPne h1, h2⟩
    have hl0 := lamIs_ext eN2 hl0
    have hl1 := lamIs_ext eN2 hl1
    walk_at "ss"
    refine ⟨hT3, fun f3 G4 eN3 eK3 hT4 hn3 hl3 => ?_⟩
    have hj := eN3 _ _ hj fun _ z => nomatch z
    have hb : GxR.TabG G4 (He.cT K ("best_order", none)).2 := by
      obtain ⟨ps, h1, h2⟩ := hb
      exact ⟨ps, eK3 _ _ hPne h1, h2⟩
    have hl0 := lamIs_ext eN3 hl0
    have hl1 := lamIs_ext eN3 hl1
    have hl2 := lamIs_ext eN3 hl2
    walk_at "ss"
    refine ⟨hT4, fun f4 G5 eN4 eK4 hT5 hn4 hl4 => ?_⟩
    have hj := eN4 _ _ hj fun _ z => nomatch z
    have hb : GxR.TabG G5 (He.cT K ("best_order", none)).2 := by
      obtain ⟨ps, h1, h2⟩ := hb
      exact ⟨ps, eK4 _ _ hPne h1, h2⟩
    have hl0 := lamIs_ext eN4 hl0
    have hl1 := lamIs_ext eN4 hl1
    have hl2 := lamIs_ext eN4 hl2
    have hl3 := lamIs_ext eN4 hl3
    walk_at "ss"
    refine ⟨hT5, fun f5 G6 eN5 eK5 hT6 hn5 hl5 => ?_⟩
    have hj := eN5 _ _ hj fun _ z => nomatch z
    have hb : GxR.TabG G6 (He.cT K ("best_order", none)).2 := by
      obtain ⟨ps, h1, h2⟩ := hb
      exact ⟨ps, eK5 _ _ hPne h1, h2⟩
    have hl0 := lamIs_ext eN5 hl0
    have hl1 := lamIs_ext eN5 hl1
    have hl2 := lamIs_ext eN5 hl2
    have hl3 := lamIs_ext eN5 hl3
    have hl4 := lamIs_ext eN5 hl4
    walk_at "ss"
    rename_i pb hpb Hb mvb hbl J2 w2
    refine lcE w2 (fun H' m => m.sqL (SqL.of hbl)) fun D hD => ⟨fun i acc H' => acc = [], fun _ _ => rfl, fun i y acc H2 hy mv3 hDa hP => ?_, fun acc H2 mv3 hDa hP => ?_⟩
    · subst hP
      have mB : Mv Hb H2 := mv3
      rcases i with _ | _ | _ | _ | _ | _ | i
      · obtain rfl : y = .ref f0 := (Option.some.inj hy).symm
        have hl := lamIs_ext (mvb.trans mB).x hl0
        obtain ⟨cc, pmc, ctc, hfc, hcc⟩ := id hl
        walk_at "ss"
        refine ⟨f0, lamD K 0, _, rfl, O 0 (by decide), hl, hfc, ?_⟩
        refine told_call (sp := spBest K) (tA := tCons (tLst (tCons (tVar 11) tNil)) (tCons (tC (.int 0)) tNil)) rfl ?_
        walk_at "ss"
        rename_i pz hpz H3 mvp hpz2
        refine ⟨_, _, _, rfl, SqL.of hpz2, fun _ => ?_, fun z => absurd (Or.inr (by decide)) z⟩
        refine ⟨true, T.exm "WorkError" "MillError" true, fun _ => ?_, fun z => nomatch z⟩
        have mvz := mv_rm hfc mvp
        generalize upd H3 f0 _ = H4 at mvz ⊢
        walk_at "ss"
        refine ite_ndec (fun hc => absurd rfl hc) (fun _ => ?_)
        exact ⟨[], mvz.lst hDa, mv3.trans mvz, rfl⟩
      · obtain rfl : y = .ref f1 := (Option.some.inj hy).symm
        have hl := lamIs_ext (mvb.trans mB).x hl1
        obtain ⟨cc, pmc, ctc, hfc, hcc⟩ := id hl
        walk_at "ss"
        refine ⟨f1, lamD K 1, _, rfl, O 1 (by decide), hl, hfc, ?_⟩
        refine told_call (sp := spBest K) (tA := tCons (tJob9 K) (tCons (tC (.int 1)) tNil)) rfl ?_
        refine s_cons ?_
        unfold tJob9
        walk_at "ss"
        rename_i J9 w9
        refine lcE w9 (fun _ _ => True.intro) fun D9 hD9 => ⟨fun i acc H' => acc.length = i, fun _ _ => rfl, fun i y acc H9 hy mv9 hDa9 hP9 => ?_, fun acc H9 mv9 hDa9 hP9 => ?_⟩
        · obtain ⟨hi9, rfl⟩ := rangeL_get hy
          have hi9 : i < 9 := hi9
          walk_at "ss"
          refine ⟨Nat.lt_of_le_of_lt (Nat.log2_le_self _) (by omega), ?_⟩
          walk_at "ss"
          refine mkJobE (p := 1) (r := 0) (d := 0) (by decide) fun x dx H10 hx mv10 hx10 => ?_
          exact lcP hD9 (mv10.lst hDa9) (Nat.lt_of_le_of_lt (m := 9) (by omega) (by decide)) (mv9.trans mv10) fun H11 mv11 nl => by simp [hP9]
        · have hP9 : acc.length = 9 := by rw [hP9, rangeL_length]; rfl
          walk_at "ss"
          refine ⟨_, _, _, rfl, SqL.of hDa9, fun _ => ?_, fun z => absurd (Or.inl (by omega)) z⟩
          refine ⟨true, T.exm "WorkError" "MillError" true, fun _ => ?_, fun z => nomatch z⟩
          have mvz := mv_rm hfc (by walk_at "mv" : Mv (rm H2 f1) H9)
          generalize upd H9 f1 _ = H4 at mvz ⊢
          walk_at "ss"
          refine ite_ndec (fun hc => absurd rfl hc) (fun _ => ?_)
          exact ⟨[], mvz.lst hDa, mv3.trans mvz, rfl⟩
      · obtain rfl : y = .ref f2 := (Option.some.inj hy).symm
        have hl := lamIs_ext (mvb.trans mB).x hl2
        obtain ⟨cc, pmc, ctc, hfc, hcc⟩ := id hl
        walk_at "ss"
        refine ⟨f2, lamD K 2, _, rfl, O 2 (by decide), hl, hfc, ?_⟩
        refine told_call (sp := spBread K) (tA := tCons (tUn (rU fun i => .int (-i)) (tC (.int 1))) (tCons (tC (.int 5)) (tCons (tC (.int 1)) tNil))) rfl ?_
        walk_at "ss"
        refine ⟨_, _, _, rfl, ⟨by decide, by decide, by decide⟩, fun _ => ?_, fun z => absurd (by decide) z⟩
        refine ⟨true, T.exm "BookError" "MillError" true, fun _ => ?_, fun z => nomatch z⟩
        have mvz := mv_rm hfc (Mv.refl (rm H2 f2))
        generalize upd (rm H2 f2) f2 _ = H4 at mvz ⊢
        walk_at "ss"
        refine ite_ndec (fun hc => absurd rfl hc) (fun _ => ?_)
        exact ⟨[], mvz.lst hDa, mv3.trans mvz, rfl⟩
      · obtain rfl : y = .ref f3 := (Option.some.inj hy).symm
        have hl := lamIs_ext (mvb.trans mB).x hl3
        obtain ⟨cc, pmc, ctc, hfc, hcc⟩ := id hl
        walk_at "ss"
        refine ⟨f3, lamD K 3, _, rfl, O 3 (by decide), hl, hfc, ?_⟩
        refine told_call (sp := spBread K) (tA := tCons (tC (.int 1)) (tCons (tUn (rU fun i => .int (-i)) (tC (.int 1))) (tCons (tC (.int 1)) tNil))) rfl ?_
        walk_at "ss"
        refine ⟨_, _, _, rfl, ⟨by decide, by decide, by decide⟩, fun _ => ?_, fun z => absurd (by decide) z⟩
        refine ⟨true, T.exm "BookError" "MillError" true, fun _ => ?_, fun z => nomatch z⟩
        have mvz := mv_rm hfc (Mv.refl (rm H2 f3))
        generalize upd (rm H2 f3) f3 _ = H4 at mvz ⊢
        walk_at "ss"
        refine ite_ndec (fun hc => absurd rfl hc) (fun _ => ?_)
        exact ⟨[], mvz.lst hDa, mv3.trans mvz, rfl⟩
      · obtain rfl : y = .ref f4 := (Option.some.inj hy).symm
        have hl := lamIs_ext (mvb.trans mB).x hl4
        obtain ⟨cc, pmc, ctc, hfc, hcc⟩ := id hl
        walk_at "ss"
        refine ⟨f4, lamD K 4, _, rfl, O 4 (by decide), hl, hfc, ?_⟩
        refine told_call (sp := spBread K) (tA := tCons (tC (.int 1)) (tCons (tC (.int 1)) (tCons (tC (.int 0)) tNil))) rfl ?_
        walk_at "ss"
        refine ⟨_, _, _, rfl, ⟨by decide, by decide, by decide⟩, fun _ => ?_, fun z => absurd (by decide) z⟩
        refine ⟨true, T.exm "BookError" "MillError" true, fun _ => ?_, fun z => nomatch z⟩
        have mvz := mv_rm hfc (Mv.refl (rm H2 f4))
        generalize upd (rm H2 f4) f4 _ = H4 at mvz ⊢
        walk_at "ss"
        refine ite_ndec (fun hc => absurd rfl hc) (fun _ => ?_)
        exact ⟨[], mvz.lst hDa, mv3.trans mvz, rfl⟩
      · obtain rfl : y = .ref f5 := (Option.some.inj hy).symm
        have hl := lamIs_ext (mvb.trans mB).x hl5
        obtain ⟨cc, pmc, ctc, hfc, hcc⟩ := id hl
        walk_at "ss"
        refine ⟨f5, lamD K 5, _, rfl, O 5 (by decide), hl, hfc, ?_⟩
        refine told_call (sp := spBread K) (tA := tCons (tC (.int 0)) (tCons (tC (.int 0)) (tCons (tC (.int 1)) tNil))) rfl ?_
        walk_at "ss"
        refine ⟨_, _, _, rfl, ⟨by decide, by decide, by decide⟩, fun _ => ?_, fun z => absurd (by decide) z⟩
        refine ⟨true, T.exm "BookError" "MillError" true, fun _ => ?_, fun z => nomatch z⟩
        have mvz := mv_rm hfc (Mv.refl (rm H2 f5))
        generalize upd (rm H2 f5) f5 _ = H4 at mvz ⊢
        walk_at "ss"
        refine ite_ndec (fun hc => absurd rfl hc) (fun _ => ?_)
        exact ⟨[], mvz.lst hDa, mv3.trans mvz, rfl⟩
      · cases (show none = some y from hy)
    · subst hP
      walk_at "ss"
      rename_i pn hpn Hn mvn hpn2
      refine s_eqD (d := .list []) (e := .list []) (.lst (SqL.of (mvn.lst hDa)) .nil) (.lst (SqL.of hpn2) .nil) rfl rfl ?_
      refine ⟨true, rfl, ?_⟩
      walk_at "ss"
      refine ite_dec (fun _ => ?_) (fun hc => absurd rfl hc)
      walk_at "ss"
      rename_i p5 hp5 H5 mv5 hp5'
      refine ⟨_, [], 5, rfl, SqL.of hp5', fun z => absurd z (by decide), fun _ => ⟨by decide, [], [], fun _ => (0, 0), rfl, .refl _, .nil, List.nodup_nil, by decide, (fun x h => by cases h), (by walk_at "mv" : Mv G6 H5).t _ hb, (fun i n v h => by simp at h), fun b Hc t k q2 o mvc hB => ?_⟩⟩
      obtain ⟨rfl, ht, hq2, ho2, hk2, ha2, hf2⟩ := hB
      rw [permsF_nil] at ho2 hk2
      have hko : o = [] := by
        have : k = 0 := by
          have : k < 1 := hk2
          omega
        subst this
        exact (Option.some.inj ho2).symm
      subst hko
      refine s_tup ?_
      walk_at "ss"
      rename_i pe hpe He mve hpe2 pf hpf Hf mvf hpf2
      refine s_eqD (d := .tuple [.int 0, .tuple []]) (e := .tuple [.int 0, .tuple []]) (.tup (SqT.of (mvf.tup (mve.tup ht))) (.cons (.int _) (.cons (.tup (mvf.sqT (mve.sqT hq2)) .nil) .nil))) (.tup (SqT.of hpf2) (.cons (.int _) (.cons (.tup (SqT.of (mvf.tup hpe2)) .nil) .nil))) rfl rfl ?_
      refine ⟨true, rfl, ?_⟩
      walk_at "ss"
      refine mkJobE (p := 10) (r := 0) (d := 5) (by decide) fun xa dxa Ha hxa mva hja => ?_
      walk_at "ss"
      refine mkJobE (p := 5) (r := 0) (d := 0) (by decide) fun xb dxb Hb2 hxb mvb2 hjb => ?_
      walk_at "ss"
      rename_i pl hpl Hl mvl hpl2
      refine ⟨_, [.ref xa, .ref xb], 5, rfl, SqL.of hpl2, (fun z => by rcases z with z | z <;> simp at z), fun _ => ⟨by decide, ["a", "b"], ["a", "b"], pd2, rfl, .refl _, by decide +kernel, by decide +kernel, by decide, by decide +kernel, (by walk_at "mv" : Mv G6 Hl).t _ hb, fun i n v hn hv => ?_, fun b Hc t k q2 o mvc hB => ?_⟩⟩
      · rcases i with _ | _ | i
        · cases hn
          cases hv
          rw [pd2_a]
          exact ⟨"x", 0, xa, dxa, rfl, by walk_at "look"⟩
        · cases hn
          cases hv
          rw [pd2_b]
          exact ⟨"x", 0, xb, dxb, rfl, by walk_at "look"⟩
        · cases (show none = some n from hn)
      · obtain ⟨rfl, ht, hq2, ho2, hk2, ha2, hf2⟩ := hB
        have hko : o = (["b", "a"] : List Str) := by
          rw [perms_ab] at ho2 hk2 ha2
          rcases k with _ | _ | k
          · have h1 := ha2 1 ["b", "a"] (by decide) rfl
            cases ho2
            rw [wor_ab, wor_ba] at h1
            exact absurd h1 (by decide)
          · exact (Option.some.inj ho2).symm
          · have : k + 2 < 2 := hk2
            omega
        subst hko
        rw [wor_ba] at ht
        refine s_tup ?_
        walk_at "ss"
        rename_i pg hpg Hg mvg hpg2 ph hph Hh mvh hph2
        refine s_eqD (d := d15) (e := d15) (.tup (SqT.of (mvh.tup (mvg.tup ht))) (.cons (.int _) (.cons (.tup (mvh.sqT (mvg.sqT hq2)) (.cons (.str _) (.cons (.str _) .nil))) .nil))) (.tup (SqT.of hph2) (.cons (.int _) (.cons (.tup (SqT.of (mvh.tup hpg2)) (.cons (.str _) (.cons (.str _) .nil))) .nil))) q15s q15s ?_
        rw [q15]
        refine ⟨true, rfl, ?_⟩
        walk_at "ss"
        rename_i pk hpk Hk mvk hpk2 pm hpm Hm mvm hpm2
        refine s_eqD (d := db0) (e := db0) (.tup (SqT.of (mvm.tup hpk2)) (.cons (.str _) (.cons (.int _) .nil))) (.tup (SqT.of hpm2) (.cons (.str _) (.cons (.int _) .nil))) qb0s qb0s ?_
        rw [qb0]
        exact q _
end
end K4

set_option Elab.async false
set_option linter.all false
set_option maxRecDepth 100000
set_option maxHeartbeats 4000000
namespace K4
open PySem PySem.Spec PyProof.Rows L2 Mi LamX
section
variable [Lw] {P : Program} {w : World} {K : PySem.W.Frag} {mg : Str → Option Value} {base : Heap}
theorem cs_of (T : Sy fa4 fn4 tf4 K mg base) (hP1 : (He.cT K ("best_order", none)).2 ≠ Lw.L) : Cs P w K mg base := by
  obtain ⟨fd0, F0⟩ := T.d _ (List.mem_of_getElem? (i := 0) (l := fn4) rfl)
  obtain ⟨fd1, F1⟩ := T.d _ (List.mem_of_getElem? (i := 1) (l := fn4) rfl)
  obtain ⟨fd2, F2⟩ := T.d _ (List.mem_of_getElem? (i := 2) (l := fn4) rfl)
  obtain ⟨fd3, F3⟩ := T.d _ (List.mem_of_getElem? (i := 3) (l := fn4) rfl)
  obtain ⟨fd4, F4⟩ := T.d _ (List.mem_of_getElem? (i := 4) (l := fn4) rfl)
  obtain ⟨fd5, F5⟩ := T.d _ (List.mem_of_getElem? (i := 5) (l := fn4) rfl)
  obtain ⟨fd6, F6⟩ := T.d _ (List.mem_of_getElem? (i := 6) (l := fn4) rfl)
  obtain ⟨fd7, F7⟩ := T.d _ (List.mem_of_getElem? (i := 7) (l := fn4) rfl)
  obtain ⟨fd8, F8⟩ := T.d _ (List.mem_of_getElem? (i := 8) (l := fn4) rfl)
  obtain ⟨fd9, F9⟩ := T.d _ (List.mem_of_getElem? (i := 9) (l := fn4) rfl)
  obtain ⟨fd11, F11⟩ := T.d _ (List.mem_of_getElem? (i := 11) (l := fn4) rfl)
  have b1 : Binds K fd1 ["jobs", "names", "pounds"] [] := FunD.bindsN F1 fun _ _ _ _ _ _ us hl => match us, hl with | [_, _, _], _ => rfl
  have b2 : Binds K fd2 ["names"] [] := FunD.bindsN F2 fun _ _ _ _ _ _ us hl => match us, hl with | [_], _ => rfl
  have b3 : Binds K fd3 ["pence", "cost", "loaves"] [] := FunD.bindsN F3 fun _ _ _ _ _ _ us hl => match us, hl with | [_, _, _], _ => rfl
  have b4 : Binds K fd4 ["cell"] [] := FunD.bindsN F4 fun _ _ _ _ _ _ us hl => match us, hl with | [_], _ => rfl
  have b5 : Binds K fd5 ["dice", "many"] [] := FunD.bindsN F5 fun _ _ _ _ _ _ us hl => match us, hl with | [_, _], _ => rfl
  have b6 : Binds K fd6 ["script", "most"] [] := FunD.bindsN F6 fun _ _ _ _ _ _ us hl => match us, hl with | [_, _], _ => rfl
  have b7 : Binds K fd7 ["what"] [] := FunD.bindsN F7 fun _ _ _ _ _ _ us hl => match us, hl with | [_], _ => rfl
  have b8 : Binds K fd8 ["names"] [] := FunD.bindsN F8 fun _ _ _ _ _ _ us hl => match us, hl with | [_], _ => rfl
  have b9 : Binds K fd9 ["jobs", "names", "pounds"] [] := FunD.bindsN F9 fun _ _ _ _ _ _ us hl => match us, hl with | [_, _, _], _ => rfl
  have b0 : Binds K fd0 ["jobs", "pounds"] [] := FunD.bindsN F0 fun _ _ _ _ _ _ us hl => match us, hl with | [_, _], _ => rfl
  have b11 : Binds K fd11 ["self", "name", "owner", "pounds", "first", "due"] [] := FunD.bindsN F11 fun _ _ _ _ _ _ us hl => match us, hl with | [_, _, _, _, _, _], _ => rfl
  have c_ord : Cal P w K mg base CX0 6 "orders_of" _ fd2 ["names"] (spOrd K 6) := ⟨ok_ord T F2 (T.glo "orders_of") b2 6 (by decide), T.glo "orders_of", F2.kp, b2⟩
  have c_int : Cal P w K mg base CX0 1 "in_time" _ fd1 ["jobs", "names", "pounds"] (spInTime K (He.ga K "Job")) := ⟨ok_in_time T F1, T.glo "in_time", F1.kp, b1⟩
  have c_dice : Cal P w K mg base CX0 1 "_law_dice" _ fd4 ["cell"] spDice := ⟨ok_dice T F4, T.glo "_law_dice", F4.kp, b4⟩
  exact ⟨⟨_, fd6, ok_rounds T F6 c_dice, T.glo "_law_rounds", F6.kp, b6⟩, ⟨_, fd5, ok_roll T F5, T.glo "_law_roll", F5.kp, b5⟩, ⟨_, fd8, ok_lord T F8 (T.glo "_law_orders") b8 6 (by decide), T.glo "_law_orders", F8.kp, b8⟩, ⟨_, fd2, c_ord⟩, ⟨_, fd9, ok_worth T F9, T.glo "_law_worth", F9.kp, b9⟩, ⟨_, fd1, c_int⟩,
    ⟨_, fd0, ok_best T F0 hP1 c_ord c_int, T.glo "best_order", F0.kp, b0⟩, ⟨_, fd3, ok_bread T F3, T.glo "bread_price", F3.kp, b3⟩, ⟨_, fd11, T.mkr "Job", ok_job T F11, b11⟩, ⟨fd7, F7, b7⟩⟩
end
/-! ### the head -/
abbrev R : PySem.W.OpenRow := PySem.W.OpenLaw.row PySem.Challenge.rw_millstack_k04_orders_of_jobs_that_are_du
def ex4 (K : PySem.W.Frag) : Bool := decide ((He.cT K ("best_order", none)).2 ≠ (He.cT K ("law", none)).2)
abbrev hk : PySem.W.Hook := He.hookX 8 fa4 fn4 [] tf4 ex4
def ob (s : PySem.W.SharedT) : He.AlX := He.obsX 8 fa4 fn4 [] tf4 ex4 (HandSHeadRun.getT s)
theorem ob_eq (s : PySem.W.SharedT) : ob s = hk.obs s.abs := He.obsX_eq (HandSHeadRun.getT_eq s)
def loose4 : List PySem.Str := ["MillError", "WorkError", "BookError", "MOST_JOBS", "Job", "best_order", "in_time", "orders_of", "bread_price", "_law_dice", "_law_roll", "_law_rounds", "_law_told", "_law_orders", "_law_worth"]
theorem run (w : World) : HandSHeadRun.RunEq R (PySem.W.view R.prog [19]) hk ob 4000 loose4 w := by
  intro os
  kernel_rfl
theorem at_law {w : World} {K : PySem.W.Frag} {h : Heap} {mg : Str → Option Value} {f : Addr} (KX : K.In h) (G : h.Ns mainGlobals mg) (hfa : mg ("law" : Str) = some (.ref f)) (c : He.SaysX fa4 fn4 [] tf4 ex4 w h K) : LawAtS PySem.Challenge.rw_millstack_k04_orders_of_jobs_that_are_du w K (CX R.prog w) 10 63 "script" mg f h := by
  have mkT : ∀ base : Heap, (∀ p ∈ tf4, LamX.TabB base mg (He.cT K p).1 (He.cT K p).2) → Sy fa4 fn4 tf4 K mg base := fun base tb => ⟨fun x hx => c.t.d.facts hx, fun x hx => c.t.d.defs hx, ⟨h, KX, G⟩, tb⟩
  obtain ⟨fd, F⟩ := c.t.d.defs (List.mem_of_getElem? (i := 10) (l := fn4) rfl)
  have hl : hasF (qGlo "law") fa4 = true := by decide +kernel
  obtain ⟨fx, hx1, hx2⟩ := hasF_mem hl
  have e : f = He.ga K "law" := by
    have hg : mg ("law" : Str) = some (.ref (He.ga K "law")) := He.glo_ok KX G (c.t.d.facts (f := .glo "law") (List.mem_of_getElem? (i := 14) (l := fa4) rfl))
    rw [hfa] at hg
    exact Value.ref.inj (Option.some.inj hg)
  subst e
  have hne : (He.cT K ("best_order", none)).2 ≠ (He.cT K ("law", none)).2 := of_decide_eq_true c.more
  have hbnd := FunD.bindsA (ps := ["script"]) F fun _ _ _ _ _ _ us hl => match us, hl with | [_], _ => rfl
  refine ⟨fd, tf4.map (He.cT K), spLaw K, fun p hp => ?_, fun p hp => ?_, fun p hp => ?_, fun s v => hbnd s [v] rfl, fun H a ns _ _ hH hS => ⟨a, ns, rfl, hS, ⟨#[], hH (He.cT K ("best_order", none)) (List.mem_map.mpr ⟨_, List.mem_cons_self, rfl⟩), True.intro⟩, hH (He.cT K ("law", none)) (List.mem_map.mpr ⟨_, List.mem_cons_of_mem _ List.mem_cons_self, rfl⟩), fun _ => rfl⟩, fun base hb1 hb2 hTB => ?_⟩
  · obtain ⟨q, hq, rfl⟩ := List.mem_map.mp hp
    exact c.empty q hq
  · obtain ⟨q, hq, rfl⟩ := List.mem_map.mp hp
    exact c.out q hq
  · obtain ⟨q, hq, rfl⟩ := List.mem_map.mp hp
    exact PySem.W.codeHd_of_K KX (c.hd q hq)
  · letI : Lw := ⟨(He.cT K ("law", none)).2⟩
    have T := mkT base fun p hp => hTB _ (List.mem_map.mpr ⟨p, hp, rfl⟩)
    exact ok_law T F rfl hne (cs_of T hne)
end K4
open PySem PySem.W PySem.Calls PyProof.Rows
theorem PySem.Challenge.cw_millstack_k04_orders_of_jobs_that_are_du_holds : PySem.Challenge.rw_millstack_k04_orders_of_jobs_that_are_du.Holds := by
  w_on; o_law
  refine HandSHeadRun.head_any (r := OpenLaw.row PySem.Challenge.rw_millstack_k04_orders_of_jobs_that_are_du) (q := view (OpenLaw.row PySem.Challenge.rw_millstack_k04_orders_of_jobs_that_are_du).prog [19]) (H := K4.hk) (ob := K4.ob) (M := 4000) (loose := K4.loose4)
    (d := HandSHeadRun.topDef (OpenLaw.row PySem.Challenge.rw_millstack_k04_orders_of_jobs_that_are_du).prog 19) (kwd := []) K4.ob_eq (by kernel_rfl) (fun s => by kernel_rfl) K4.run (by kernel_rfl) (by kernel_rfl) (by kernel_rfl) (by rfl) (by first | assumption | decide +kernel) (by decide +kernel) ⟨rfl, rfl, rfl, rfl, rfl, by decide +kernel⟩ ?hw ?hc
  case hw => w_witness2
  case hc =>
    refine LamX.walk_ofTsE (l := PySem.Challenge.rw_millstack_k04_orders_of_jobs_that_are_du) (n := 63) (k := 10) (x := "script") (CX := fun w => L2.CX K4.R.prog w) rfl (by decide) (by kernel_rfl) ⟨rfl, by decide, by decide⟩ ?F (fun _ _ _ _ _ ⟨_, _, _, _, _, _, _, _, _, _, _, _, z⟩ => z)
    intro w mg fa h Y G hmg0
    obtain ⟨K, KX, c⟩ := Y
    have hmg : mg ("law" : PySem.Str) = some (.ref fa) := by
      have e : (HandSHeadRun.topDef (OpenLaw.row PySem.Challenge.rw_millstack_k04_orders_of_jobs_that_are_du).prog 19).name = ("law" : PySem.Str) := by kernel_rfl
      rw [← e]
      exact hmg0
    exact ⟨K, KX, K4.at_law KX G hmg c⟩
