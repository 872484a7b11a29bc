import PyProof.Rows.All
import Wide.All
import OpenK.AllK
import Wide.FinOn
import HandS.ForMost
import HandS.ForExc
import HandS.Lambda
import HandS.GenList
import HandS.AnyAll
import HandS.EndTab
import PyProof.TupleOfGen
import PyProof.CollectWalk
import HandS.Conv
import KE.SortData
import HandS.Evl
import HandS.Style
import HandS.TupAny
import HandS.Walk
import HandS.DictComp
import HandS.Defaults
import HandS.HeadHook4
import HandS.ExcCtx
import HandS.Small
import HandS.FStr
import KE.GoesMore
import HandS.More
import KE.DataMinMax
import HandS.Zip
import PyProof.Claim2Refuses
import HandS.DictTup
import PyProof.DictFindH
import HandS.ListItems
import KE.DataCmp
import HandS.Deep
import KE.KEqDict
import HandS.Head0
import HandS.Head1
import HandS.Head2
import HandS.HeadEnd
import HandS.HeadWalk
import PySem.Challenge.RW_millstack_k01_gears_that_turn_each_other
set_option Elab.async false
set_option linter.all false
set_option maxRecDepth 100000
set_option maxHeartbeats 2000000
/-! Generator expressions that a built-in draws at once: the frame, the loop. -/
namespace Mi
open PySem PySem.Spec PyProof.Rows L2

structure GenOk (N : List Str) (sc scope : Scope) (own : List (Str × Nat)) : Prop where
  kind : scope.kind = .function
  co : scope.isCoroutine = false
  dot : scope.names.lookup (".0" : Str) = some NameKind.local
  uniq : ∀ y ∈ scope.names, scope.names.lookup y.1 = some y.2
  nocell : ∀ y ∈ scope.names, y.2 ≠ .cell
  ix : ∀ p ∈ own, N[p.2]? = some p.1
  free : ∀ y ∈ scope.names, y.2 = .free → sc.names.lookup y.1 = some .cell ∨ sc.names.lookup y.1 = some .free
  loc : ∀ y ∈ scope.names, y.2 = .local → y.1 ∈ own.map (·.1) ∨ y.1 ∉ N
def genOkB (N : List Str) (sc scope : Scope) (own : List (Str × Nat)) : Bool :=
  decide (scope.kind = .function) && !scope.isCoroutine && decide (scope.names.lookup (".0" : Str) = some NameKind.local) && scope.names.all (fun y => decide (scope.names.lookup y.1 = some y.2)) &&
    scope.names.all (fun y => !decide (y.2 = .cell)) && own.all (fun p => decide (N[p.2]? = some p.1)) &&
    scope.names.all (fun y => !decide (y.2 = .free) || decide (sc.names.lookup y.1 = some .cell) || decide (sc.names.lookup y.1 = some .free)) &&
    scope.names.all (fun y => !decide (y.2 = .local) || decide (y.1 ∈ own.map (·.1)) || !decide (y.1 ∈ N))
theorem genOk_by {N : List Str} {sc scope : Scope} {own : List (Str × Nat)} (h : genOkB N sc scope own = true) : GenOk N sc scope own := by
  unfold genOkB at h
  simp only [Bool.and_eq_true, Bool.or_eq_true, Bool.not_eq_true', decide_eq_true_eq, decide_eq_false_iff_not, List.all_eq_true] at h
  obtain ⟨⟨⟨⟨⟨⟨⟨h1, h2⟩, h3⟩, h4⟩, h5⟩, h6⟩, h7⟩, h8⟩ := h
  refine ⟨h1, h2, h3, h4, h5, h6, fun y hy e => ?_, fun y hy e => ?_⟩
  · rcases h7 y hy with (z | z) | z
    · exact absurd e z
    · exact .inl z
    · exact .inr z
  · rcases h8 y hy with (z | z) | z
    · exact absurd e z
    · exact .inl z
    · exact .inr z

/-- the context of the generator's frame, entered from the def's frames -/
abbrev genCx (X : Cx) (A : Around) (s : Shared) (H : Hp) (ce : Env) (fp : List Addr) : Cx :=
  { X with A := A.deeper ce, s_0 := s, H_0 := H, env := ce, outer := X.stack, stack := ce :: X.stack, ex := fp, fn := fun _ => false, calm := true, pn := [], xe := fun _ _ => False }

section
variable {X : Cx} {pins : List (Addr × Obj)} {σ : L2.St} {H : Hp} {s : Shared}
theorem gen_start {A : Around} {scope : Scope} {own : List (Str × Nat)} {fp : List Addr} {code : Value} {s5 : Shared} (I : Inv X pins σ H s) (hA : A.handled = none) (hF : A.frames = some X.stack)
    (ok : GenOk X.N X.env.scope scope own) (hN : X.N.Nodup) (hfp : ∀ b ∈ fp, FpOk X pins H b ∧ b < s.heap.objs.size) (kp : ∀ b o, s.heap.get? b = some o → s5.heap.get? b = some o)
    (hn : ∃ m, s5.heap.Ns s.heap.objs.size m) (hg : AllBare s5.gens) (ho : s5.os = s.os) :
    Inv (genCx X A s H (genEnv scope (cloFrom X.env.cells scope.names []) s.heap.objs.size code builtinsNs X.env) fp) [] (wipe σ (own.map (·.2))) H s5 := by
  have hasF : ∀ y ∈ scope.names, y.2 = .free → ∃ c, X.env.cells.lookup y.1 = some c := fun y hy e => (ok.free y hy e).elim (fun k => I.ok.has _ (.inl k)) fun k => I.ok.has _ (.inr k)
  generalize hce : genEnv scope (cloFrom X.env.cells scope.names []) s.heap.objs.size code builtinsNs X.env = ce
  have eL : ce.locals = s.heap.objs.size := by subst hce; rfl
  have eC : ce.cells = cloFrom X.env.cells scope.names [] := by subst hce; rfl
  have eS : ce.scope = scope := by subst hce; rfl
  have eF : ce.frame = some ce.locals := by subst hce; rfl
  have eG : ce.globals = mainGlobals := by subst hce; exact I.ok.glob
  have eB : ce.builtins = builtinsNs := by subst hce; rfl
  have up : ∀ {y c}, ce.cells.lookup y = some c → X.env.cells.lookup y = some c ∧ (y, NameKind.free) ∈ scope.names := fun {y c} e => by
    rw [eC] at e
    rcases cloFrom_mem (PySem.mem_of_lookup e) with hm | ⟨h1, h2⟩
    · cases hm
    · obtain ⟨c1, hc⟩ := hasF _ h1 rfl
      refine ⟨?_, h1⟩
      rw [h2, hc]
      rfl
  have dn : ∀ {y}, scope.names.lookup y = some .free → ∃ c, ce.cells.lookup y = some c := fun {y} hl => by
    rw [eC]
    exact mem_lookup (cloFrom_has (cells := X.env.cells) (acc := []) (PySem.mem_of_lookup hl))
  have cellLt : ∀ {y c}, X.env.cells.lookup y = some c → c < s.heap.objs.size := fun {y c} e => by
    obtain ⟨v, z⟩ := I.cell y c e
    exact z.lt
  have okG : (genCx X A s H ce fp).Ok := by
    refine ⟨I.ok.mod, ?_, eG, eB, ?_, fun y z c e1 e2 => I.ok.inj y z c (up e1).1 (up e2).1, fun y hy => ?_, fun y c z _ => Bool.noConfusion (show false = true from z), fun _ => hA, Around.frames_deeper hF, .inr ⟨rfl, eF⟩, fun b hb => ⟨?_, fun y c e z => ?_⟩, I.bs,
      Nat.le_trans I.ok.bsz I.sz, fun b o e hb => ?_, fun b hb z => ?_, I.stack, I.stkFree⟩
    · show ce.scope.kind = _
      rw [eS]
      exact ok.kind
    · show s.heap.objs.size ≤ ce.locals
      rw [eL]
      exact Nat.le_refl _
    · have hy : ce.scope.names.lookup y = some .cell ∨ ce.scope.names.lookup y = some .free := hy
      rw [eS] at hy
      rcases hy with hy | hy
      · exact absurd rfl (ok.nocell _ (PySem.mem_of_lookup hy))
      · exact dn hy
    · show b ≠ ce.locals
      rw [eL]
      exact Nat.ne_of_lt (hfp b hb).2
    · exact (hfp b hb).1.2.2.2.2.1 y c (up e).1 z
    · rcases (hfp b hb).1.2.2.2.1 with z | z
      · exact I.ok.noex b o e z
      · exact absurd (Nat.lt_of_lt_of_le (Heap.lt_size e) (Nat.le_trans I.ok.bsz z)) (Nat.lt_irrefl _)
    · rcases List.mem_cons.mp (I.stkSub b z) with z | z
      · exact (hfp b hb).1.2.1 z
      · exact (hfp b hb).1.2.2.1 z
  have tok : HOk X.prog X.w H s5.heap := I.hok.kept kp
  refine ⟨okG, ho, hg, Un.kept kp, ?_, fun y c e => ?_, ?_, fun y c e => I.freeC y c (up e).1, fun p hp => ?_, tok, ?_⟩
  · obtain ⟨m, hm⟩ := hn
    refine ⟨m, ?_, fun i y v e1 e2 e3 => ?_⟩
    · show s5.heap.Ns ce.locals m
      rw [eL]
      exact hm
    · obtain ⟨e2, hne⟩ := wipe_some e2
      have e3 : Vis ce.scope y := e3
      rw [eS] at e3
      have hfr : scope.names.lookup y = some .free := by
        rcases e3 with k | k | k
        · rcases ok.loc _ (PySem.mem_of_lookup k) rfl with q | q
          · obtain ⟨p, hp, hpy⟩ := List.mem_map.mp q
            have e4 := ok.ix p hp
            have : p.1 = y := hpy
            rw [this] at e4
            exact absurd (List.mem_map.mpr ⟨p, hp, nodup_ix hN e4 e1⟩) hne
          · exact absurd (List.mem_of_getElem? e1) q
        · exact absurd rfl (ok.nocell _ (PySem.mem_of_lookup k))
        · exact k
      have visX : Vis X.env.scope y := (ok.free _ (PySem.mem_of_lookup hfr) rfl).elim (fun k => .inr (.inl k)) fun k => .inr (.inr k)
      obtain ⟨mX, _, hl⟩ := I.loc
      obtain ⟨u, r, q⟩ := hl i y v e1 e2 visX
      obtain ⟨c, hc⟩ := dn hfr
      refine ⟨u, r, .inr ⟨.inr ?_, c, hc, ?_⟩⟩
      · show ce.scope.names.lookup y = some .free
        rw [eS]
        exact hfr
      · rcases q with ⟨k, _⟩ | ⟨_, c2, h2, z⟩
        · have k : X.env.scope.names.lookup y = some .local := k
          rcases ok.free _ (PySem.mem_of_lookup hfr) rfl with k2 | k2 <;> rw [show X.env.scope.names.lookup y = _ from k2] at k <;> cases k
        · rw [(up hc).1] at h2
          cases h2
          exact z.keeps kp
  · obtain ⟨v, z⟩ := I.cell y c (up e).1
    exact ⟨v, z.keeps kp⟩
  · show H ce.locals = none
    rw [eL]
    exact I.hok.fresh (Nat.le_refl _)
  · exact absurd (show p ∈ ([] : List (Addr × Obj)) ++ [] from hp) (by simp)
  · rw [wipe_length]
    exact I.len
end

/-! ### the drawer: what it holds, what it asks of an item, its end -/
structure Con (α : Type) where
  ad : List Addr
  CO : α → List (Addr × Obj) → Prop
  adr : ∀ a cs, CO a cs → cs.map (·.1) = ad
  nc : ∀ a cs, CO a cs → ∀ p ∈ cs, ∀ v, p.2.data ≠ .cell v
  one : ∀ a b cs, CO a cs → CO b cs → a = b
  take : α → V → Hp → (α → Hp → Prop) → Prop
  fin : α → Hp → Prop
/-- between two drawings: only what the drawer holds has changed -/
structure Wkn (ad : List Addr) (cs' : List (Addr × Obj)) (s s' : Shared) : Prop where
  os : s'.os = s.os
  bare : AllBare s'.gens
  keep : ∀ b o, b ∉ ad → s.heap.get? b = some o → s'.heap.get? b = some o
  has : ∀ p ∈ cs', s'.heap.get? p.1 = some p.2
def GYc {α : Type} (C : Con α) (X : Cx) (gp : List (Addr × Obj)) : Protocol := fun _ s₀ v s kap =>
  ∃ (a : α) (y : V) (σ : L2.St) (H : Hp) (cs : List (Addr × Obj)) (Nx : α → Hp → Prop), RelV y v ∧ C.CO a cs ∧ (∀ p ∈ cs, s₀.heap.get? p.1 = some p.2) ∧ Inv X (cs ++ gp) σ H s ∧ C.take a y H Nx ∧
    ∀ a' cs' s', Nx a' H → C.CO a' cs' → Wkn C.ad cs' s s' → kap (.send .none) s'
def GRc {α : Type} (C : Con α) (X : Cx) (gp : List (Addr × Obj)) : GenEnd := fun _ s₀ r s => r = .ok .next ∧
  ∃ (a : α) (σ : L2.St) (H : Hp) (cs : List (Addr × Obj)), C.CO a cs ∧ (∀ p ∈ cs, s₀.heap.get? p.1 = some p.2) ∧ Inv X (cs ++ gp) σ H s ∧ C.fin a H
/-- where the drawer's things and the generator's own object lie -/
structure Lies (X : Cx) (ad fp : List Addr) (gp : List (Addr × Obj)) : Prop where
  young : ∀ b ∈ ad, X.s_0.heap.objs.size ≤ b ∧ b ≠ X.env.locals ∧ (∀ x c, X.env.cells.lookup x = some c → c ≠ b) ∧ b ∉ fp ∧ ∀ p ∈ gp, p.1 ≠ b
  gfp : ∀ p ∈ gp, p.1 ∉ fp
  ex : X.ex = fp
  pn : X.pn = []
section
variable {α : Type} {C : Con α} {X : Cx} {gp cs cs' P : List (Addr × Obj)} {σ : L2.St} {H : Hp} {s s' : Shared} {fp : List Addr}
theorem Con.mem (C : Con α) {a : α} {cs : List (Addr × Obj)} (h : C.CO a cs) {p : Addr × Obj} (hp : p ∈ cs) : p.1 ∈ C.ad := by
  rw [← C.adr a cs h]
  exact List.mem_map.mpr ⟨p, hp, rfl⟩
theorem woken {a a' : α} (L : Lies X C.ad fp gp) (hP : ∀ p ∈ P, p.1 ∉ C.ad) (I : Inv X (cs ++ P) σ H s) (c : C.CO a cs) (c' : C.CO a' cs') (w : Wkn C.ad cs' s s') : Inv X (cs' ++ P) σ H s' := by
  have I0 : Inv X P σ H s := I.pins_of fun p hp => I.pin p (List.mem_append_right _ (List.mem_append_right _ hp))
  have hAd : ∀ b ∈ C.ad, H b = none ∧ b ∉ X.fs := fun b hb => by
    rw [← C.adr a cs c] at hb
    obtain ⟨p, hp, e⟩ := List.mem_map.mp hb
    have q := I.pin p (List.mem_append_right _ (List.mem_append_left _ hp))
    rw [← e]
    exact ⟨q.2.1, q.2.2.2.1⟩
  have nH : ∀ b u, H b = some u → b ∉ C.ad := fun b u e hb => by
    rw [(hAd b hb).1] at e
    cases e
  obtain ⟨hh, gg, dd, tt, oo⟩ := s'
  have eo : oo = s.os := w.os
  subst eo
  have J : Inv X P σ H { s with heap := hh, gens := gg, drawn := dd, toks := tt } := by
    refine I0.step (ch := C.ad) (fun b hb => ?_) (fun b o _ _ hc q _ => w.keep b o hc q) (fun b o _ _ hc q _ => ⟨o.slots, w.keep b o hc q⟩) (fun _ _ _ _ n => n) (fun b o hc q => ⟨o, w.keep b o hc q⟩)
      (fun _ _ q => q) (fun _ _ _ q => q) (fun b ps q => ⟨#[], by rw [q]; simp⟩) (fun m hm => ?_) (fun b u q => ?_) w.bare
    · obtain ⟨q1, q2, q3, _, _⟩ := L.young b hb
      refine ⟨.inr q1, q2, q3, fun p hp => ?_⟩
      rw [L.pn] at hp
      intro z
      rw [← z] at hb
      exact hP p hp hb
    · obtain ⟨ob, es, ep, ho, r⟩ := hm
      exact ⟨ob, es, ep, w.keep _ ob (fun z => (L.young _ z).2.1 rfl) ho, r⟩
    · refine (I0.hok b u q).stay (fun d v hd y => w.keep d v ?_ y) (fun _ y => y) fun _ _ y => y
      rcases hd with y | y
      · rw [y]
        exact nH b u q
      · exact nH d _ y
  refine J.pins_of fun p hp => ?_
  rcases List.mem_append.mp hp with hp | hp
  · have hb := C.mem c' hp
    exact ⟨w.has p hp, (hAd _ hb).1, (L.young _ hb).2.1, (hAd _ hb).2, C.nc a' cs' c' p hp⟩
  · exact J.pin p (List.mem_append_right _ hp)
end

/-- what a generator expression's turns keep: i drawn so far, m falls -/
def Turns {α : Type} (take : α → V → Hp → (α → Hp → Prop) → Prop) (fin : α → Hp → Prop) (J : It) (g : TG) (tt : TT) (te : TE) (σ0 : L2.St) (vs : List Nat) (W : Nat → Nat → α → Hp → Prop) : Prop := ∀ i m a H, W i m a H →
  (J.stop i H ∧ fin a H) ∨ (J.go i H ∧ ∃ Nx : α → Hp → Prop, (∀ a' H', Nx a' H' → ∃ m', m' < m ∧ W (i + 1) m' a' H') ∧ ∀ x H', J.yld i H x H' → g x σ0 H' fun σ2 H2 => wipe σ2 vs = σ0 ∧ tt σ2 H2 fun b H3 =>
    if b = true then te σ2 H3 fun y H4 => take a y H4 Nx else Nx a H3)

section
variable {α : Type} {C : Con α} {X : Cx} {gp : List (Addr × Obj)} {fp : List Addr} {B : Around} {elt tg iter : Expr} {ifs : List Expr} {scope : Scope} {pos : Pos} {it : Addr} {tn : Nat → Heap → Prop} {J : It} {g : TG} {tt : TT} {te : TE} {σ0 : L2.St} {vs : List Nat} {W : Nat → Nat → α → Hp → Prop}
theorem gen_loop (hc : X.calm = true) (hov : B.over (.compLoop (.GeneratorExp elt [⟨tg, iter, ifs, 0⟩] scope pos) 0 (.ref it) .none X.env) [] = X.A) (hxe : ∀ e s, ¬ X.xe e s) (hco : X.env.scope.isCoroutine = false)
    (T : Turn X.prog X.w X.K tg J fp it tn) (pg : PG X tg g) (pt : PTs X ifs tt) (pe : PE X elt te) (L : Lies X C.ad fp gp) (hlen : ∀ σ2 : L2.St, wipe σ2 vs = σ0 → σ2.length = σ0.length) (turn : Turns C.take C.fin J g tt te σ0 vs W) :
    ∀ (m n i : Nat) (a : α) (cs : List (Addr × Obj)) (s₀ s : Shared) (H : Hp), m < n → W i m a H → C.CO a cs → (∀ p ∈ cs, s₀.heap.get? p.1 = some p.2) → Inv X (cs ++ gp) σ0 H s → tn i s.heap → (∀ b ∈ fp, H b = none) →
      Seg (model X.prog X.w) B (GRc C X gp) (GYc C X gp) n s₀ (.compLoop (.GeneratorExp elt [⟨tg, iter, ifs, 0⟩] scope pos) 0 (.ref it) .none X.env)
        ((model X.prog X.w).den (.compLoop (.GeneratorExp elt [⟨tg, iter, ifs, 0⟩] scope pos) 0 (.ref it) .none X.env)) [] s := by
  have noE : ∀ {t : Sem PySem.Fin} {n : Nat} {s₀ : Shared} {c : Code} (x : Value) (s' : Shared), X.xe x s' → Seg (model X.prog X.w) B (GRc C X gp) (GYc C X gp) n s₀ c t [] s' := fun x s' h => absurd h (hxe x s')
  intro m
  induction m using Nat.strongRecOn with
  | ind m ih =>
    intro n i a cs s₀ s H hmn w co at0 I st nfp
    have stat : ∀ {σ' : L2.St} {H' : Hp} {s' : Shared}, Inv X (cs ++ gp) σ' H' s' → (∀ b ∈ fp, H' b = none) → ∀ b ∈ fp, FpOk X (cs ++ gp) H' b := fun {σ' H' s'} I' hn b hb => by
      have hx : b ∈ X.ex := by
        rw [L.ex]
        exact hb
      refine ⟨hn b hb, (I'.ok.exf b hx).1, I'.ok.exfs b hx, .inl hx, (I'.ok.exf b hx).2, fun p hp z => ?_⟩
      rw [L.pn] at hp
      rcases List.mem_append.mp (show p ∈ cs ++ gp from hp) with hp | hp
      · exact (L.young p.1 (C.mem co hp)).2.2.2.1 (by rw [z]; exact hb)
      · exact L.gfp p hp (by rw [z]; exact hb)
    show Seg _ B _ _ _ s₀ _ ((compTurn (.GeneratorExp elt [⟨tg, iter, ifs, 0⟩] scope pos) 0 (.ref it) .none X.env).onRaise (leaving X.env)) [] s
    rw [compTurn_gen, Sem.onRaise_eq_wrap]
    refine seg_bind_wrap (wpAny_standAt ?_)
    rcases turn i m a H w with ⟨stop, hf⟩ | ⟨go, Nx, hNx, step⟩
    · refine seg_bind_wrap ?_
      rw [hov]
      refine wpAny_mono (T.done X rfl rfl rfl hc i _ s σ0 H (fun _ _ => False) I (stat I nfp) st stop) (fun r s1 hr => ?_) fun _ _ z => z.elim
      obtain ⟨er, I1⟩ := hr
      subst er
      exact seg_end (.ok .next) ⟨rfl, a, σ0, H, cs, co, at0, I1, hf⟩
    · refine seg_bind_wrap ?_
      rw [hov]
      refine wpAny_mono (T.item X rfl rfl rfl hc i _ s σ0 H (fun _ _ => False) I (stat I nfp) st go) (fun r s1 hr => ?_) fun _ _ z => z.elim
      obtain ⟨u, er, h1⟩ := hr
      subst er
      refine seg_bind_wrap ?_
      rw [hov]
      refine wpAny_mono h1 (fun _ s2 h2 => ?_) fun _ _ z => z.elim
      obtain ⟨x, H2, I2, r2, y2, st2, n2⟩ := h2
      have I2p := I2.pinned (stat I2 n2) (T.obj _ _ st2)
      refine seg_bind_wrap ?_
      rw [hov]
      refine wpAny_mono (pg.run _ s2 σ0 H2 x u _ I2p r2 (step x H2 y2)) (fun _ s3 h3 => ?_) fun x s' z => noE x s' z
      obtain ⟨σ3, H3, I3, hw3, q3⟩ := h3
      refine seg_bind_wrap ?_
      rw [hov]
      refine wpAny_mono (pt.run _ s3 σ3 H3 _ I3 q3) (fun b s4 h4 => ?_) fun x s' z => noE x s' z
      obtain ⟨H4, I4, q4⟩ := h4
      have back : ∀ {s' : Shared} {H' : Hp} {cs1 : List (Addr × Obj)}, Inv X ((cs1 ++ gp) ++ pinsAt fp s2.heap) σ3 H' s' → Inv X (cs1 ++ gp) σ0 H' s' ∧ tn (i + 1) s'.heap ∧ ∀ b ∈ fp, H' b = none := fun {s' H' cs1} I' => by
        have pin' : ∀ b ∈ fp, ∀ o, s2.heap.get? b = some o → s'.heap.get? b = some o ∧ H' b = none := fun b hb o e =>
          let z := I'.pin (b, o) (List.mem_append_right _ (List.mem_append_right _ (mem_pinsAt hb e)))
          ⟨z.1, z.2.1⟩
        refine ⟨(I'.unpinned (pins := cs1 ++ gp)).weak (hlen σ3 hw3).symm fun j v e => ?_, T.keep _ _ _ st2 fun b hb o e => (pin' b hb o e).1, fun b hb => ?_⟩
        · rw [← hw3] at e
          exact (wipe_some e).1
        · obtain ⟨o, e, _⟩ := T.obj _ _ st2 b hb
          exact (pin' b hb o e).2
      cases b with
      | false =>
        simp only [Bool.false_eq_true, if_false] at q4 ⊢
        obtain ⟨m', hm', w'⟩ := hNx a H4 q4
        obtain ⟨I5, st5, n5⟩ := back I4
        exact seg_again rfl (ih m' hm' n (i + 1) a cs s₀ s4 H4 (Nat.lt_trans hm' hmn) w' co at0 I5 st5 n5)
      | true =>
        simp only [if_true] at q4 ⊢
        have hy : ∀ v, yieldOut X.env v = yieldValue v := fun v => by simp only [yieldOut, hco, Bool.false_eq_true, if_false]
        simp only [hy]
        rw [Sem.bind_eq_wrap', Sem.bind_eq_wrap', Sem.wrap_wrap, Sem.wrap_wrap]
        refine seg_wrap ?_
        rw [hov]
        refine wpAny_mono (pe.run _ s4 σ3 H4 _ I4 q4) (fun v s5 h5 => ?_) fun x s' z => noE x s' z
        obtain ⟨y, H5, I5, r5, q5⟩ := h5
        obtain ⟨n', rfl⟩ : ∃ n', n = n' + 1 := ⟨n - 1, by omega⟩
        refine seg_at (seg_yield rfl rfl rfl ⟨a, y, σ3, H5, cs, Nx, r5, co, at0, I5.unpinned, q5, fun a' cs' s' nx co' wk => ?_⟩)
        obtain ⟨m', hm', w'⟩ := hNx a' H5 nx
        have I6 : Inv X (cs' ++ (gp ++ pinsAt fp s2.heap)) σ3 H5 s' := by
          refine woken L (fun p hp z => ?_) (by rw [← List.append_assoc]; exact I5) co co' wk
          rcases List.mem_append.mp hp with hp | hp
          · exact (L.young _ z).2.2.2.2 p hp rfl
          · exact (L.young _ z).2.2.2.1 (of_pinsAt hp).1
        rw [← List.append_assoc] at I6
        obtain ⟨I7, st7, n7⟩ := back I6
        exact seg_again rfl (ih m' hm' n' (i + 1) a' cs' s' s' H5 (by omega) w' co' wk.has I7 st7 n7)
end

/-! ### the generator begins -/
section
variable {α : Type} {C : Con α} {X : Cx} {gp : List (Addr × Obj)} {fp : List Addr} {B : Around} {elt tg iter : Expr} {ifs : List Expr} {scope : Scope} {pos : Pos} {it : Addr} {tn : Nat → Heap → Prop} {J : It} {g : TG} {tt : TT} {te : TE} {σ0 : L2.St} {vs : List Nat} {W : Nat → Nat → α → Hp → Prop}
theorem gen_begin (hc : X.calm = true) (hov : B.over (.compLoop (.GeneratorExp elt [⟨tg, iter, ifs, 0⟩] scope pos) 0 (.ref it) .none X.env) [] = X.A) (hxe : ∀ e s, ¬ X.xe e s) (hco : X.env.scope.isCoroutine = false)
    (T : Turn X.prog X.w X.K tg J fp it tn) (pg : PG X tg g) (pt : PTs X ifs tt) (pe : PE X elt te) (L : Lies X C.ad fp gp) (hlen : ∀ σ2 : L2.St, wipe σ2 vs = σ0 → σ2.length = σ0.length) (turn : Turns C.take C.fin J g tt te σ0 vs W)
    {m n : Nat} {a : α} {cs : List (Addr × Obj)} {s : Shared} {H : Hp} (hmn : m < n) (w : W 0 m a H) (co : C.CO a cs) (I : Inv X (cs ++ gp) σ0 H s) (st : tn 0 s.heap) (nfp : ∀ b ∈ fp, H b = none) :
    Seg (model X.prog X.w) B (GRc C X gp) (GYc C X gp) n s (.compStart (.GeneratorExp elt [⟨tg, iter, ifs, 0⟩] scope pos) 0 (.ref it) .none X.env)
      ((model X.prog X.w).den (.compStart (.GeneratorExp elt [⟨tg, iter, ifs, 0⟩] scope pos) 0 (.ref it) .none X.env)) [] s := by
  have at0 : ∀ p ∈ cs, s.heap.get? p.1 = some p.2 := fun p hp => (I.pin p (List.mem_append_right _ (List.mem_append_left _ hp))).1
  have loop := gen_loop hc hov hxe hco T pg pt pe L hlen turn m n 0 a cs s s H hmn w co at0 I st nfp
  show Seg _ B _ _ _ s _ ((compStart (.GeneratorExp elt [⟨tg, iter, ifs, 0⟩] scope pos) 0 (.ref it) .none X.env).onRaise (leaving X.env)) [] s
  unfold compStart
  rw [Sem.onRaise_eq_wrap]
  show Seg _ B _ _ _ s _ ((ask >>= _).wrap _ _ _ _) [] s
  refine seg_bind_wrap (wpAny_askSetting ?_)
  split
  · exact seg_again rfl loop
  · first
      | exact seg_bind_wrap (wpAny_rule (seg_bind_wrap (wpAny_standAt (seg_bind_wrap (T.self _ 0 s _ _ st (seg_again rfl loop))))))
      | (refine seg_bind_wrap (wpAny_rule ?_); show Seg _ B _ _ _ s _ ((standAt iter.pos >>= _).wrap _ _ _ _) [] s; exact seg_bind_wrap (wpAny_standAt (seg_bind_wrap (T.self _ 0 s _ _ st (seg_again rfl loop)))))

/-- suspended, or not begun: any drawer that keeps to its own may draw -/
def Susp {α : Type} (C : Con α) (X : Cx) (gp : List (Addr × Obj)) (Ac : Around) (gi n : Nat) (Nn : α → Prop) (s : Shared) : Prop :=
  ∃ (gs : GenState) (a0 : α) (cs0 : List (Addr × Obj)) (σ : L2.St) (H : Hp), s.gens[gi]? = some gs ∧ Inv X (cs0 ++ gp) σ H s ∧ C.CO a0 cs0 ∧
    ∀ a' cs' s', Nn a' → C.CO a' cs' → Wkn C.ad cs' s s' → (match n with | 0 => False | k + 1 => gs.Goes (model X.prog X.w) Ac.in1 (GRc C X gp) (GYc C X gp) k (.send .none) s')
/-- the generator's own object among its pins -/
def GenIn (gp : List (Addr × Obj)) (ga : Addr) (gi : Nat) : Prop := ∃ (o : Obj) (nm qn : Value), (ga, o) ∈ gp ∧ o.cls = .type "generator" ∧ o.data = .fields #[.int gi 0, nm, qn] ∧ o.slots = #[]
end
section
variable {α : Type} {C : Con α} {X : Cx} {gp : List (Addr × Obj)} {fp : List Addr} {Ac : Around} {ga : Addr} {gi n : Nat} {Nn : α → Prop} {s s' : Shared} {a : α} {cs : List (Addr × Obj)} {Q : Option Value → Shared → Prop} {E : Value → Shared → Prop}
theorem inv_gens {pins : List (Addr × Obj)} {σ : L2.St} {H : Hp} {h' : Heap} {gg : Array GenState} (I : Inv X pins σ H s) (hb : AllBare gg) (k : ∀ b o, s.heap.get? b = some o → h'.get? b = some o) : Inv X pins σ H { s with heap := h', gens := gg } := by
  refine I.step (ch := []) (fun b hb => absurd hb (by simp)) (fun b o _ _ _ q _ => k b o q) (fun b o _ _ _ q _ => ⟨o.slots, k b o q⟩) (fun _ _ _ _ n => n) (fun b o _ q => ⟨o, k b o q⟩)
    (fun _ _ q => q) (fun _ _ _ q => q) (fun b ps q => ⟨#[], by rw [q]; simp⟩) (fun m hm => ?_) (I.hok.kept k) hb
  obtain ⟨ob, es, ep, ho, r⟩ := hm
  exact ⟨ob, es, ep, k _ ob ho, r⟩
theorem same_objs {l1 l2 : List (Addr × Obj)} {h : Heap} (e : l1.map (·.1) = l2.map (·.1)) (h1 : ∀ p ∈ l1, h.get? p.1 = some p.2) (h2 : ∀ p ∈ l2, h.get? p.1 = some p.2) : l1 = l2 := by
  induction l1 generalizing l2 with
  | nil => cases l2 with
    | nil => rfl
    | cons p r => cases e
  | cons p r ih => cases l2 with
    | nil => cases e
    | cons q t =>
      rw [List.map_cons, List.map_cons] at e
      injection e with e1 e2
      have a1 := h1 p List.mem_cons_self
      have a2 := h2 q List.mem_cons_self
      rw [e1, a2] at a1
      have e3 : p = q := Prod.ext e1 (Option.some.inj a1).symm
      rw [e3, ih e2 (fun x hx => h1 x (List.mem_cons_of_mem _ hx)) fun x hx => h2 x (List.mem_cons_of_mem _ hx)]
theorem genIn_at {pins : List (Addr × Obj)} {σ : L2.St} {H : Hp} (G : GenIn gp ga gi) (I : Inv X (pins ++ gp) σ H s) : s.heap.IsGen ga gi := by
  obtain ⟨o, nm, qn, ho, r⟩ := G
  exact ⟨o, nm, qn, (I.pin (ga, o) (List.mem_append_right _ (List.mem_append_right _ ho))).1, r⟩
theorem next_susp (hh : Ac.handled = none) (hd : Ac.depth < recursionLimit) (L : Lies X C.ad fp gp) (hgp : ∀ p ∈ gp, p.1 ∉ C.ad) (G : GenIn gp ga gi) (S : Susp C X gp Ac gi n Nn s) (hN : Nn a) (co : C.CO a cs) (wk : Wkn C.ad cs s s') (hgen : s'.gens = s.gens)
    (hY : ∀ v s2 y σ H Nx n', n = n' + 1 → RelV y v → Inv X (cs ++ gp) σ H s2 → C.take a y H Nx → Susp C X gp Ac gi n' (fun a' => Nx a' H) s2 → Q (some v) s2)
    (hD : ∀ s2 σ H, Inv X (cs ++ gp) σ H s2 → C.fin a H → Q none s2) : wpAny (model X.prog X.w) Ac (pyNext (.ref ga)) Q E s' := by
  obtain ⟨gs, a0, cs0, σ, H, hgs, I, c0, go⟩ := S
  have I' := woken L hgp I c0 co wk
  have hgs' : s'.gens[gi]? = some gs := by
    rw [hgen]
    exact hgs
  have hlt : gi + 1 ≤ s'.gens.size := (Array.getElem?_eq_some_iff.mp hgs').1
  have bareR : AllBare (s'.setGen gi .running).gens := allBare_setGen wk.bare rfl
  have hgo := go a cs (s'.setGen gi .running) hN co ⟨wk.os, bareR, wk.keep, wk.has⟩
  cases n with
  | zero => exact False.elim hgo
  | succ k =>
    have eqs : ∀ {a1 : α} {cs1 : List (Addr × Obj)}, C.CO a1 cs1 → (∀ p ∈ cs1, s'.heap.get? p.1 = some p.2) → cs1 = cs ∧ a1 = a := fun {a1 cs1} c1 h1 => by
      have e : cs1 = cs := same_objs ((C.adr _ _ c1).trans (C.adr _ _ co).symm) h1 wk.has
      subst e
      exact ⟨rfl, C.one _ _ _ c1 co⟩
    refine GenW.wpAny_gsz (n := gi + 1) hlt (wpAny_pyNext_genexpQ (A := Ac) (P := fun _ s₀ s₁ => ∃ (a : α) (σ : L2.St) (H : Hp) (cs : List (Addr × Obj)), C.CO a cs ∧ (∀ p ∈ cs, s₀.heap.get? p.1 = some p.2) ∧ Inv X (cs ++ gp) σ H s₁ ∧ C.fin a H)
      (Q := fun r s2 => gi + 1 ≤ s2.gens.size → Q r s2) (E := fun e s2 => gi + 1 ≤ s2.gens.size → E e s2) hh I'.nolimit hd (genIn_at G I') hgs' hgo (fun v s1 gs' hb hv hsz => ?_) (fun s1 hp h' hk hsz => ?_))
    · obtain ⟨a1, y, σ1, H1, cs1, Nx, ry, c1, at1, I1, tk, kap⟩ := hv
      obtain ⟨e1, e2⟩ := eqs c1 at1
      subst e1 e2
      have hsz1 : gi < s1.gens.size := by
        have q : (s1.setGen gi gs').gens.size = s1.gens.size := GenW.setGen_size _ _ _
        have hsz' : gi + 1 ≤ (s1.setGen gi gs').gens.size := hsz
        omega
      have I2 : Inv X (cs1 ++ gp) σ1 H1 (s1.setGen gi gs') := inv_gens I1 (allBare_setGen I1.bare hb) fun _ _ e => e
      refine hY v _ y σ1 H1 Nx k rfl ry I2 tk ⟨gs', a1, cs1, σ1, H1, setGen_at hsz1, I2, c1, fun a' cs' s3 nx co' wk' => ?_⟩
      exact kap a' cs' s3 nx co' ⟨wk'.os, wk'.bare, wk'.keep, wk'.has⟩
    · obtain ⟨a1, σ1, H1, cs1, c1, at1, I1, fn⟩ := hp
      obtain ⟨e1, e2⟩ := eqs c1 at1
      subst e1 e2
      have J := inv_gens (h' := h') (gg := (s1.setGen gi .finished).gens) I1 (allBare_setGen I1.bare rfl) hk
      exact hD _ σ1 H1 J fn
end
end Mi

set_option Elab.async false
set_option linter.all false
set_option maxRecDepth 100000
set_option maxHeartbeats 2000000
namespace Mi
open PySem PySem.Spec PyProof.Rows L2
/-- a generator just made over what J tells, in the state s6; not begun -/
def Fresh (X : Cx) (pins : List (Addr × Obj)) (σ : L2.St) (elt tg iter : Expr) (ifs : List Expr) (scope : Scope) (pos : Pos) (J : It) (H2 : Hp) (ga : Addr) (s6 : Shared) : Prop :=
  ∃ (s4 : Shared) (it : Addr) (fp : List Addr) (tn : Nat → Heap → Prop) (code : Value) (gi : Nat), Inv X pins σ H2 s4 ∧ Turn X.prog X.w X.K tg J fp it tn ∧ tn 0 s4.heap ∧ (∀ b ∈ fp, FpOk X pins H2 b ∧ b < s4.heap.objs.size) ∧
    s6.gens[gi]? = some (.fresh (.compStart (.GeneratorExp elt [⟨tg, iter, ifs, 0⟩] scope pos) 0 (.ref it) .none (genEnv scope (cloFrom X.env.cells scope.names []) s4.heap.objs.size code builtinsNs X.env))) ∧
    s6.heap.IsGen ga gi ∧ s4.heap.objs.size < ga ∧ ga < s6.heap.objs.size ∧ s6.os = s4.os ∧ AllBare s6.gens ∧ (∀ b o, s4.heap.get? b = some o → s6.heap.get? b = some o) ∧ ∃ m, s6.heap.Ns s4.heap.objs.size m
section
variable {X : Cx} {pins : List (Addr × Obj)} {σ : L2.St} {H : Hp} {s : Shared}
theorem gen_made {c P : Addr} {elt tg iter : Expr} {ifs : List Expr} {scope : Scope} {gpos : Pos} {own : List (Str × Nat)} {wi : TI} {k : Nat} {Q' : Value → Shared → Prop} {R : It → Hp → Prop} (hr : Room k X.A) (TB : LamX.TabB X.base X.mg c P) (hcode : X.env.code = .ref c)
    (ok : GenOk X.N X.env.scope scope own) (hi : PI X tg iter wi) (hs : ∀ v, genFold iter X.env v = pure v) (I : Inv X pins σ H s) (h : wi σ H fun J H1 => GxR.TabG H1 P ∧ R J H1)
    (hQ : ∀ J H1 H2 ga s6, R J H1 → GxR.Tabbed P H1 H2 → Fresh X pins σ elt tg iter ifs scope gpos J H2 ga s6 → Q' (.ref ga) s6) :
    wpAny (model X.prog X.w) X.A (eval (.GeneratorExp elt [⟨tg, iter, ifs, 0⟩] scope gpos) X.env) Q' X.xe s := by
  have hasF : ∀ y ∈ scope.names, y.2 = .free → ∃ c, X.env.cells.lookup y.1 = some c := fun y hy e => (ok.free y hy e).elim (fun k => I.ok.has _ (.inl k)) fun k => I.ok.has _ (.inr k)
  refine wpAny_GeneratorExp_make ok.co (closure_ok hasF) ok.nocell ok.dot ok.kind (by have := hr.dp; omega) ?_ hs
  refine thn (hi.run pins s σ H _ I h) fun xv s1 h1 => thn h1 fun itv s2 h2 => ?_
  obtain ⟨it, fp, tn, J, H1, e, I2, T, st2, f2, ⟨ps, hP, ht⟩, q⟩ := h2
  subst e
  have lim2 : s2.heap.NoLimit := I2.nolimit
  have hPs : s2.heap.get? P = some { cls := .none, data := .fields ps } := I2.hok P _ hP
  have cd : PySem.W.CodeHd s2.heap c P := TB.code.keeps I2.bk
  refine ⟨lim2, ?_⟩
  -- behind the code
  have cont : ∀ (code : Value) (s3 : Shared) (H2 : Hp), Inv X pins σ H2 s3 → GxR.Tabbed P H1 H2 → (∀ b ∈ fp, ∀ o, s2.heap.get? b = some o → s3.heap.get? b = some o) → (∀ b ∈ fp, H2 b = none) → wpAny (model X.prog X.w) X.A (builtinsFor X.env.globals X.env.builtins) (fun bi s₄ =>
        ∀ h', h'.Ns s₄.heap.objs.size (fun y => if y = ".0" then some (.ref it) else none) → Heap.SameBut s₄.heap.objs.size (s₄.heap.push { cls := .type "frame", data := .dict #[] }) h' →
          Q' (.ref h'.objs.size) { s₄ with
            gens := s₄.gens.push (.fresh (.compStart (.GeneratorExp elt [⟨tg, iter, ifs, 0⟩] scope gpos) 0 (.ref it) .none (genEnv scope (cloFrom X.env.cells scope.names []) s₄.heap.objs.size code bi X.env))),
            toks := s₄.toks + 1 + 1 + 1,
            heap := h'.push { cls := .type "generator", data := .fields #[.int s₄.gens.size 0, .str "<genexpr>" (s₄.toks + 1), .str (X.env.qual ++ "<genexpr>") (s₄.toks + 1 + 1)] } }) X.xe s3 := by
    intro code s3 H2 I3 hT k3 n3
    obtain ⟨bm, ob, e1, e2, e3, e4, e5, e6, e7, e8⟩ := TB.bm
    refine wpAny_builtinsFor (m := X.mg) (by rw [I3.ok.glob]; exact I3.mod.glob.keeps I3.bk) e1 e2 (I3.bk _ _ e5) e6 e7 e8 ?_
    intro h' hns hsb
    have kp : ∀ b o, s3.heap.get? b = some o → h'.get? b = some o := fun b o e => hsb.extBut b o (Nat.ne_of_lt (Heap.lt_size e)) (Heap.get?_push_of_some _ e)
    have hsz : h'.objs.size = s3.heap.objs.size + 1 := by
      rw [hsb.1, Heap.size_push]
    have st3 : tn 0 s3.heap := T.keep _ _ _ st2 k3
    have f3 : ∀ b ∈ fp, FpOk X pins H2 b ∧ b < s3.heap.objs.size := fun b hb => by
      obtain ⟨o, e, _⟩ := T.obj _ _ st3 b hb
      exact ⟨⟨n3 b hb, (f2 b hb).2⟩, Heap.lt_size e⟩
    refine hQ J H1 H2 _ _ q hT ⟨s3, it, fp, tn, code, s3.gens.size, I3, T, st3, f3, ?_, ?_, ?_, ?_, rfl, I3.bare.push rfl, fun b o e => Heap.get?_push_of_some _ (kp b o e), _, hns.keeps fun b o e => Heap.get?_push_of_some _ e⟩
    · exact Array.getElem?_push_size ..
    · exact ⟨_, _, _, Heap.get?_push_size _ rfl, rfl, rfl, rfl⟩
    · rw [hsz]
      exact Nat.lt_succ_self _
    · show h'.objs.size < (h'.push _).objs.size
      rw [Heap.size_push]
      exact Nat.lt_succ_self _
  have nP : ∀ b ∈ fp, b ≠ P := fun b hb z => by
    have e := (f2 b hb).1
    rw [z, hP] at e
    cases e
  cases hf : codeAmong gpos ps.toList with
  | none =>
    refine wpAny_genexprCodeX hcode (cd.code hPs ht) (cd.tab hPs) hf fun c' h' tk hx hge hlt hco' _ htab' _ => ?_
    obtain ⟨o1, vs1, f1, tf, fl, tg1, inF, tx, tt1, op, _, _, _, _, _, _, _, _, _, htr, _⟩ := hco'
    have J3 := GxR.inv_tab (more := #[rawInt gpos.line, rawInt gpos.col, .ref c']) (h' := h') (g' := s2.gens) (d' := s2.drawn) (t' := tk) I2 hP (fun b o hb e => hx b o hb e) htab'.2 I2.bare
    exact cont _ _ _ J3 ⟨⟨_, upd_same, htr⟩, fun b hb => upd_ne hb⟩ (fun b hb o e => hx b o (nP b hb) e) fun b hb => by
      rw [upd_ne (nP b hb)]
      exact (f2 b hb).1
  | some cv =>
    refine wpAny_genexprCode_hit hcode (cd.code hPs ht) hf ?_
    exact cont cv s2 H1 I2 ⟨⟨ps, hP, ht⟩, fun _ _ => rfl⟩ (fun _ _ _ e => e) fun b hb => (f2 b hb).1

/-- a drawer that has just begun draws from it -/
theorem fresh_susp {α : Type} {C : Con α} {elt tg iter : Expr} {ifs : List Expr} {scope : Scope} {gpos : Pos} {own : List (Str × Nat)} {J : It} {H2 : Hp} {ga : Addr} {s6 s7 : Shared} {g : TG} {tt : TT} {te : TE} {k : Nat} {Ac : Around} {W : Nat → Nat → α → Hp → Prop} {m0 : Nat} {a0 : α} {cs : List (Addr × Obj)}
    (F : Fresh X pins σ elt tg iter ifs scope gpos J H2 ga s6) (hrA : Room (k + 1) Ac) (hF : Ac.frames = some X.stack) (ok : GenOk X.N X.env.scope scope own) (hN : X.N.Nodup)
    (hg : ∀ (A : Around) (s : Shared) (H : Hp) (cl : List (Str × Addr)) (L : Addr) (code : Value) (fp : List Addr), PG (genCx X A s H (genEnv scope cl L code builtinsNs X.env) fp) tg g)
    (ht : ∀ (A : Around) (s : Shared) (H : Hp) (cl : List (Str × Addr)) (L : Addr) (code : Value) (fp : List Addr), Room k (A.deeper (genEnv scope cl L code builtinsNs X.env)) → PTs (genCx X A s H (genEnv scope cl L code builtinsNs X.env) fp) ifs tt)
    (he : ∀ (A : Around) (s : Shared) (H : Hp) (cl : List (Str × Addr)) (L : Addr) (code : Value) (fp : List Addr), Room k (A.deeper (genEnv scope cl L code builtinsNs X.env)) → PE (genCx X A s H (genEnv scope cl L code builtinsNs X.env) fp) elt te)
    (os : s7.os = s6.os) (gens : s7.gens = s6.gens) (kp : ∀ b o, s6.heap.get? b = some o → s7.heap.get? b = some o) (hC : ∀ b ∈ C.ad, s6.heap.objs.size ≤ b) (co : C.CO a0 cs) (has : ∀ p ∈ cs, s7.heap.get? p.1 = some p.2)
    (w : W 0 m0 a0 H2) (turn : Turns C.take C.fin J g tt te (wipe σ (own.map (·.2))) (own.map (·.2)) W) :
    ∃ (Xg : Cx) (gp : List (Addr × Obj)) (fp : List Addr) (gi : Nat), Xg.prog = X.prog ∧ Xg.w = X.w ∧ Xg.K = X.K ∧ Lies Xg C.ad fp gp ∧ (∀ p ∈ gp, p.1 ∉ C.ad) ∧ GenIn gp ga gi ∧ Susp C Xg gp Ac gi (m0 + 2) (fun a => a = a0) s7 ∧
      (∀ (pg : List (Addr × Obj)) (σ' : L2.St) (H' : Hp) (s' : Shared), Inv Xg pg σ' H' s' → Inv X pins σ H' s') := by
  obtain ⟨s4, it, fp, tn, code, gi, I4, T, st4, f4, hgs, hig, hga1, hga2, os6, b6, k6, m, hns⟩ := F
  obtain ⟨og, nm, qn, ho, hcl, hdt, hsl⟩ := hig
  generalize hce : genEnv scope (cloFrom X.env.cells scope.names []) s4.heap.objs.size code builtinsNs X.env = ce at hgs
  have eL : ce.locals = s4.heap.objs.size := by subst hce; rfl
  have eC : ce.cells = cloFrom X.env.cells scope.names [] := by subst hce; rfl
  have k7 : ∀ b o, s4.heap.get? b = some o → s7.heap.get? b = some o := fun b o e => kp b o (k6 b o e)
  have hdeep : ∀ {acc : Value}, (Ac.in1).over (.compStart (.GeneratorExp elt [⟨tg, iter, ifs, 0⟩] scope gpos) 0 (.ref it) acc ce) [] = (Ac.in1).deeper ce := fun {acc} => rfl
  have rD : Room k ((Ac.in1).deeper ce) := ⟨hrA.hd, by have := hrA.dp; show Ac.depth + 1 + 3 * k + 5 < _; omega, by have := hrA.un; show Ac.units + 1 + 3 + 16 * k + 200 < _; omega⟩
  have I7 : Inv (genCx X Ac.in1 s4 H2 ce fp) [] (wipe σ (own.map (·.2))) H2 s7 := by
    have z := gen_start (A := Ac.in1) (code := code) (s5 := s7) I4 (show Ac.in1.handled = none from hrA.hd) (show Ac.in1.frames = some X.stack from hF) ok hN f4 k7 ⟨m, hns.keeps kp⟩ (by rw [gens]; exact b6) (os.trans os6)
    rw [hce] at z
    exact z
  have szAd : ∀ b ∈ C.ad, s4.heap.objs.size < b := fun b hb => Nat.lt_of_lt_of_le (Nat.lt_trans hga1 hga2) (hC b hb)
  have cellLt : ∀ {x c}, ce.cells.lookup x = some c → c < s4.heap.objs.size := fun {x c} e => by
    obtain ⟨v, z⟩ : ∃ v, s4.heap.IsCell c v := by
      rw [eC] at e
      rcases cloFrom_mem (PySem.mem_of_lookup e) with hm | ⟨h1, h2⟩
      · cases hm
      · obtain ⟨c1, hc⟩ : ∃ c, X.env.cells.lookup x = some c := (ok.free _ h1 rfl).elim (fun k => I4.ok.has _ (.inl k)) fun k => I4.ok.has _ (.inr k)
        rw [h2, hc]
        exact I4.cell x c1 hc
    exact z.lt
  have L : Lies (genCx X Ac.in1 s4 H2 ce fp) C.ad fp [(ga, og)] := by
    refine ⟨fun b hb => ⟨Nat.le_of_lt (szAd b hb), ?_, fun x c e z => ?_, fun hm => ?_, fun p hp => ?_⟩, fun p hp hm => ?_, rfl, rfl⟩
    · show b ≠ ce.locals
      rw [eL]
      exact Nat.ne_of_gt (szAd b hb)
    · have h1 := cellLt (x := x) (c := c) e
      rw [z] at h1
      exact Nat.lt_asymm h1 (szAd b hb)
    · exact Nat.lt_asymm (f4 b hm).2 (szAd b hb)
    · rw [List.mem_singleton.mp hp]
      exact Nat.ne_of_lt (Nat.lt_of_lt_of_le hga2 (hC b hb))
    · rw [List.mem_singleton.mp hp] at hm
      exact Nat.lt_asymm (f4 ga hm).2 hga1
  have hgp : ∀ p ∈ [(ga, og)], p.1 ∉ C.ad := fun p hp hm => by
    rw [List.mem_singleton.mp hp] at hm
    exact absurd (Nat.lt_of_lt_of_le hga2 (hC _ hm)) (Nat.lt_irrefl _)
  have far : ∀ b, s4.heap.objs.size < b → H2 b = none ∧ b ≠ ce.locals ∧ b ∉ (genCx X Ac.in1 s4 H2 ce fp).fs := fun b hb => by
    refine ⟨I4.hok.fresh (Nat.le_of_lt hb), by rw [eL]; exact Nat.ne_of_gt hb, fun z => ?_⟩
    rcases List.mem_cons.mp (I4.stkSub b z) with e | z
    · have h1 := I4.lt
      rw [← e] at h1
      exact Nat.lt_asymm h1 hb
    · exact I4.nofs (Nat.le_of_lt hb) z
  have I8 : Inv (genCx X Ac.in1 s4 H2 ce fp) (cs ++ [(ga, og)]) (wipe σ (own.map (·.2))) H2 s7 := by
    refine I7.pins_of fun p hp => ?_
    rcases List.mem_append.mp hp with hp | hp
    · obtain ⟨q1, q2, q3⟩ := far p.1 (szAd _ (C.mem co hp))
      exact ⟨has p hp, q1, q2, q3, C.nc _ _ co p hp⟩
    · rw [List.mem_singleton.mp hp]
      obtain ⟨q1, q2, q3⟩ := far ga hga1
      refine ⟨kp _ _ ho, q1, q2, q3, fun v z => ?_⟩
      have z2 : og.data = .cell v := z
      rw [hdt] at z2
      cases z2
  have st7 : tn 0 s7.heap := T.keep _ _ _ st4 fun b _ o e => k7 b o e
  refine ⟨genCx X Ac.in1 s4 H2 ce fp, [(ga, og)], fp, gi, rfl, rfl, rfl, L, hgp, ⟨og, nm, qn, List.mem_singleton.mpr rfl, hcl, hdt, hsl⟩, ⟨_, a0, cs, _, H2, by rw [gens]; exact hgs, I8, co, fun a' cs' s' ea co' wk => ?_⟩, fun pg σ' H' s' I' => ?_⟩
  · subst ea
    have I9 := woken L hgp I8 co co' wk
    have stW : tn 0 s'.heap := T.keep _ _ _ st7 fun b hb o e => wk.keep b o (fun z => (L.young b z).2.2.2.1 hb) e
    refine ⟨rfl, ?_⟩
    have pg1 : PG (genCx X Ac.in1 s4 H2 ce fp) tg g := by
      have z := hg Ac.in1 s4 H2 (cloFrom X.env.cells scope.names []) s4.heap.objs.size code fp
      rw [hce] at z
      exact z
    have pt1 : PTs (genCx X Ac.in1 s4 H2 ce fp) ifs tt := by
      have z := ht Ac.in1 s4 H2 (cloFrom X.env.cells scope.names []) s4.heap.objs.size code fp
      rw [hce] at z
      exact z rD
    have pe1 : PE (genCx X Ac.in1 s4 H2 ce fp) elt te := by
      have z := he Ac.in1 s4 H2 (cloFrom X.env.cells scope.names []) s4.heap.objs.size code fp
      rw [hce] at z
      exact z rD
    exact gen_begin (X := genCx X Ac.in1 s4 H2 ce fp) (C := C) rfl (hdeep (acc := .none)) (fun _ _ z => z) (by show ce.scope.isCoroutine = false; rw [← hce]; exact ok.co) T pg1 pt1 pe1 L (fun σ2 e => by rw [← e, wipe_length]) turn (Nat.lt_succ_self m0) w co' I9 stW fun b hb => (f4 b hb).1.1
  · exact I4.call' (ch := fp) I'.os I'.base I'.hok I'.bare fun b hb => ⟨(f4 b hb).1.2.2.2.1, (f4 b hb).1.2.1, (f4 b hb).1.2.2.2.2.1, (f4 b hb).1.2.2.2.2.2⟩
end
end Mi

set_option Elab.async false
set_option linter.all false
set_option maxRecDepth 100000
set_option maxHeartbeats 2000000
namespace Mi
open PySem PySem.Spec PyProof.Rows L2
/-! ### any, all -/
def conB (isAny : Bool) (Qv : Bool → Hp → Prop) : Con Unit where
  ad := []
  CO := fun _ cs => cs = []
  adr := fun _ cs h => by
    rw [h]
    rfl
  nc := fun _ cs h p hp => by
    rw [h] at hp
    cases hp
  one := fun _ _ _ _ _ => rfl
  take := fun _ y H N => ∃ b : Bool, y = .bl b ∧ (if b = isAny then Qv b H else N () H)
  fin := fun _ H => Qv (!isAny) H
section
variable {X : Cx} {gp : List (Addr × Obj)} {fp : List Addr} {A : Around} {ga : Addr} {gi : Nat} {R : Result → Shared → Prop} {Qv : Bool → Hp → Prop}
theorem Wkn.refl {s : Shared} (h : AllBare s.gens) : Wkn [] [] s s := ⟨rfl, h, fun _ _ _ e => e, fun p hp => by cases hp⟩
theorem susp_bare {α : Type} {C : Con α} {X : Cx} {Ac : Around} {n : Nat} {Nn : α → Prop} {s : Shared} (S : Susp C X gp Ac gi n Nn s) : AllBare s.gens := by
  obtain ⟨_, _, _, _, _, _, I, _⟩ := S
  exact I.bare
theorem loop_any (hh : A.handled = none) (hd : A.depth < recursionLimit) (L : Lies X (conB true Qv).ad fp gp) (G : GenIn gp ga gi) (hR : ∀ b σ H s', Inv X gp σ H s' → Qv b H → R (.ok (.ret (.bool b))) s') :
    ∀ (n : Nat) (s : Shared) (Nn : Unit → Prop), Susp (conB true Qv) X gp A.in1 gi n Nn s → Nn () → codeAny (model X.prog X.w) A (.builtin "any.loop" ⟨[.ref ga], []⟩) R s := by
  intro n
  induction n with
  | zero =>
    intro s Nn S hN
    obtain ⟨gs, a0, cs0, σ, H, hgs, I, c0, go⟩ := S
    exact (show False from go () [] s hN rfl (Wkn.refl I.bare)).elim
  | succ k ih =>
    intro s Nn S hN
    refine codeAny_builtin F.entry_any_loop ?_
    rw [Around.under_plainId F.plain_any_loop _]
    show wpAny _ A.in1 (pyNext (.ref ga) >>= _) _ _ s
    refine wpAny_bind (next_susp (Ac := A.in1) (a := ()) (cs := []) hh hd L (fun p hp z => by cases z) G S hN rfl (Wkn.refl (susp_bare S)) rfl (fun v s2 y σ H Nx n' en ry I tk S2 => ?_) fun s2 σ H I fn => ?_)
    · obtain rfl : k = n' := by omega
      obtain ⟨b, rfl, q⟩ := tk
      obtain rfl : v = Value.bool b := ry
      refine wpAny_bind (wpAny_holding (wpAny_truthy_bool ?_))
      refine wpAny_bind (wpAny_letGo ?_)
      cases b with
      | false =>
        simp only [Bool.false_eq_true, if_false] at q ⊢
        exact wpAny_pure ⟨plainId_quiet F.plain_any_loop _, ih s2 _ S2 q⟩
      | true =>
        simp only [if_true] at q ⊢
        exact wpAny_bind (wpAny_rule (wpAny_pure (hR true σ H s2 I q)))
    · exact wpAny_bind (wpAny_rule (wpAny_pure (hR false σ H s2 I fn)))
theorem loop_all (hh : A.handled = none) (hd : A.depth < recursionLimit) (L : Lies X (conB false Qv).ad fp gp) (G : GenIn gp ga gi) (hR : ∀ b σ H s', Inv X gp σ H s' → Qv b H → R (.ok (.ret (.bool b))) s') :
    ∀ (n : Nat) (s : Shared) (Nn : Unit → Prop), Susp (conB false Qv) X gp A.in1 gi n Nn s → Nn () → codeAny (model X.prog X.w) A (.builtin "all.loop" ⟨[.ref ga], []⟩) R s := by
  intro n
  induction n with
  | zero =>
    intro s Nn S hN
    obtain ⟨gs, a0, cs0, σ, H, hgs, I, c0, go⟩ := S
    exact (show False from go () [] s hN rfl (Wkn.refl I.bare)).elim
  | succ k ih =>
    intro s Nn S hN
    refine codeAny_builtin F.entry_all_loop ?_
    rw [Around.under_plainId F.plain_all_loop _]
    show wpAny _ A.in1 (pyNext (.ref ga) >>= _) _ _ s
    refine wpAny_bind (next_susp (Ac := A.in1) (a := ()) (cs := []) hh hd L (fun p hp z => by cases z) G S hN rfl (Wkn.refl (susp_bare S)) rfl (fun v s2 y σ H Nx n' en ry I tk S2 => ?_) fun s2 σ H I fn => ?_)
    · obtain rfl : k = n' := by omega
      obtain ⟨b, rfl, q⟩ := tk
      obtain rfl : v = Value.bool b := ry
      refine wpAny_bind (wpAny_holding (wpAny_truthy_bool ?_))
      refine wpAny_bind (wpAny_letGo ?_)
      cases b with
      | true =>
        simp only [Bool.true_eq_false, if_false, if_true] at q ⊢
        exact wpAny_pure ⟨plainId_quiet F.plain_all_loop _, ih s2 _ S2 q⟩
      | false =>
        simp only [Bool.false_eq_true, if_false, if_true] at q ⊢
        exact wpAny_bind (wpAny_rule (wpAny_pure (hR false σ H s2 I q)))
    · exact wpAny_bind (wpAny_rule (wpAny_pure (hR true σ H s2 I fn)))

/-! ### sum -/
def sumO (i : Int) (t : Tok) (c : Nat) : Obj := { cls := .type "list", dict := none, data := .seq #[.int i t] c, slots := #[] }
def conS (S : Addr) (Qi : Int → Hp → Prop) : Con Int where
  ad := [S]
  CO := fun i cs => ∃ t c, cs = [(S, sumO i t c)]
  adr := fun _ cs ⟨t, c, h⟩ => by
    rw [h]
    rfl
  nc := fun _ cs ⟨t, c, h⟩ p hp v z => by
    rw [h] at hp
    rw [List.mem_singleton.mp hp] at z
    cases z
  one := fun a b cs ⟨t, c, h⟩ ⟨t', c', h'⟩ => by
    rw [h] at h'
    injection h' with h1 _
    injection h1 with _ h2
    injection h2 with _ _ h3
    injection h3 with h4 _
    have h5 := congrArg Array.toList h4
    injection h5 with h6 _
    injection h6
  take := fun a y H N => ∃ i : Int, y = .int i ∧ (-(2 ^ 63) ≤ i ∧ i < 2 ^ 63 ∧ -(2 ^ 63) ≤ a + i ∧ a + i < 2 ^ 63) ∧ N (a + i) H
  fin := fun a H => Qi a H
theorem loop_sum {S : Addr} {Qi : Int → Hp → Prop} (hh : A.handled = none) (hd : A.depth < recursionLimit) (L : Lies X (conS S Qi).ad fp gp) (hgp : ∀ p ∈ gp, p.1 ∉ (conS S Qi).ad) (G : GenIn gp ga gi)
    (hR : ∀ i t c σ H s', Inv X ((S, sumO i t c) :: gp) σ H s' → Qi i H → R (.ok (.ret (.int i t))) s') :
    ∀ (n : Nat) (s s' : Shared) (Nn : Int → Prop) (i : Int) (t : Tok) (c : Nat), Susp (conS S Qi) X gp A.in1 gi n Nn s → Nn i → Wkn [S] [(S, sumO i t c)] s s' → s'.gens = s.gens →
      codeAny (model X.prog X.w) A (.builtin "sum.loop" ⟨[.ref ga, .ref S, rawInt 0, rawInt 0], []⟩) R s' := by
  intro n
  induction n with
  | zero =>
    intro s s' Nn i t c Su hN wk hgen
    obtain ⟨gs, a0, cs0, σ, H, hgs, I, c0, go⟩ := Su
    exact (show False from go i _ s' hN ⟨t, c, rfl⟩ wk).elim
  | succ k ih =>
    intro s s' Nn i t c Su hN wk hgen
    have hS : s'.heap.get? S = some (sumO i t c) := wk.has (S, sumO i t c) (List.mem_singleton.mpr rfl)
    refine codeAny_builtin F.entry_sum_loop ?_
    rw [Around.under_plainId F.plain_sum_loop _]
    show wpAny _ A.in1 (seqItems? (.ref S) >>= _) _ _ s'
    refine wpAny_bind (wpAny_seqItems hS rfl ?_)
    show wpAny _ A.in1 (tryCatch (pyNext (.ref ga)) _ >>= _) _ _ s'
    refine wpAny_bind (wpAny_tryCatch (next_susp (Ac := A.in1) (a := i) hh hd L hgp G Su hN ⟨t, c, rfl⟩ wk hgen (fun v s2 y σ H Nx n' en ry I tk S2 => ?_) fun s2 σ H I fn => ?_))
    · obtain rfl : k = n' := by omega
      obtain ⟨j, rfl, ⟨f1, f2, f3, f4⟩, q⟩ := tk
      obtain ⟨u, rfl⟩ := ry
      have hS2 : s2.heap.get? S = some (sumO i t c) := (I.pin (S, sumO i t c) (List.mem_append_right _ (List.mem_append_left _ (List.mem_singleton.mpr rfl)))).1
      have hc : ((decide (-(2 ^ 63) ≤ j) && decide (j < 2 ^ 63)) && (decide (-(2 ^ 63) ≤ i + j) && decide (i + j < 2 ^ 63))) = true := by
        simp only [Bool.and_eq_true, decide_eq_true_eq]
        exact ⟨⟨f1, f2⟩, f3, f4⟩
      show wpAny _ A.in1 (if (_ : Bool) = true then (mkInt (i + j) >>= _) else _) _ _ _
      split
      · refine wpAny_bind (wpAny_mkInt ?_)
        show wpAny _ A.in1 (updateSeq S (fun _ => #[.int (i + j) s2.toks]) >>= _) _ _ _
        refine wpAny_bind ?_
        refine wpAny_updateSeq hS2 rfl (wpAny_pure ⟨plainId_quiet F.plain_sum_loop _, ?_⟩)
        refine ih s2 _ _ (i + j) s2.toks c S2 q ⟨rfl, I.bare, fun b o hb e => ?_, fun p hp => ?_⟩ rfl
        · exact (Heap.get?_update_other _ _ (fun z : S = b => hb (by rw [z]; exact List.mem_singleton.mpr rfl))).trans e
        · rw [List.mem_singleton.mp hp]
          exact Heap.get?_update_self (Obj.mapSeq fun _ => #[Value.int (i + j) s2.toks]) hS2 rfl
      · rename_i hneg
        exact absurd hc hneg
    · exact wpAny_pure (hR i t c σ H s2 I fn)

/-! ### a list of all -/
def unV : Value → Option V
  | .none => some .non
  | .bool b => some (.bl b)
  | .int i _ => some (.int i)
  | .str x _ => some (.str x)
  | .bytes b _ => some (.byt b)
  | .float b _ => some (.flt b)
  | .ref a => some (.ref a)
  | .type n => some (.ty n)
  | _ => none
theorem unV_of {x : V} {u : Value} (h : L2.RelV x u) : unV u = some x := by
  cases x with
  | non =>
    have e : u = Value.none := h
    rw [e]
    rfl
  | bl b =>
    have e : u = Value.bool b := h
    rw [e]
    rfl
  | int i =>
    obtain ⟨t, e⟩ := (show ∃ t, u = Value.int i t from h)
    rw [e]
    rfl
  | str x =>
    obtain ⟨t, e⟩ := (show ∃ t, u = Value.str x t from h)
    rw [e]
    rfl
  | byt b =>
    obtain ⟨t, e⟩ := (show ∃ t, u = Value.bytes b t from h)
    rw [e]
    rfl
  | flt b =>
    obtain ⟨t, e⟩ := (show ∃ t, u = Value.float b t from h)
    rw [e]
    rfl
  | ref a =>
    have e : u = Value.ref a := h
    rw [e]
    rfl
  | ty n =>
    have e : u = Value.type n := h
    rw [e]
    rfl
theorem relV_one {x y : V} {u : Value} (h1 : L2.RelV x u) (h2 : L2.RelV y u) : x = y := Option.some.inj ((unV_of h1).symm.trans (unV_of h2))
theorem vals_one : ∀ {xs ys : List V} {us : List Value}, Vals xs us → Vals ys us → xs = ys
  | _, _, _, .nil, .nil => rfl
  | _, _, _, .cons r t, .cons r' t' => by rw [relV_one r r', vals_one t t']
def conL (S : Addr) (Ql : List V → Hp → Prop) : Con (List V) where
  ad := [S]
  CO := fun ys cs => ∃ acc c, Vals ys acc.toList ∧ cs = [(S, lstObj acc c)]
  adr := fun _ cs ⟨t, c, _, h⟩ => by
    rw [h]
    rfl
  nc := fun _ cs ⟨t, c, _, h⟩ p hp v z => by
    rw [h] at hp
    rw [List.mem_singleton.mp hp] at z
    cases z
  one := fun a b cs ⟨t, c, r, h⟩ ⟨t', c', r', h'⟩ => by
    rw [h] at h'
    injection h' with h1 _
    injection h1 with _ h2
    injection h2 with _ _ h3
    injection h3 with h4 _
    rw [h4] at r
    exact vals_one r r'
  take := fun ys y H N => ys.length < sizeLine ∧ N (ys ++ [y]) H
  fin := fun ys H => Ql ys H
theorem loop_ext {S : Addr} {Ql : List V → Hp → Prop} {res : Value} (hh : A.handled = none) (hd : A.depth < recursionLimit) (L : Lies X (conL S Ql).ad fp gp) (hgp : ∀ p ∈ gp, p.1 ∉ (conL S Ql).ad) (G : GenIn gp ga gi)
    (hR : ∀ ys acc c σ H s', ys.length ≤ sizeLine → Vals ys acc.toList → Inv X ((S, lstObj acc c) :: gp) σ H s' → Ql ys H → R (.ok (.ret res)) s') :
    ∀ (n : Nat) (s s' : Shared) (Nn : List V → Prop) (ys : List V) (acc : Array Value) (c : Nat), Susp (conL S Ql) X gp A.in1 gi n Nn s → Nn ys → ys.length ≤ sizeLine → Vals ys acc.toList → Wkn [S] [(S, lstObj acc c)] s s' → s'.gens = s.gens →
      codeAny (model X.prog X.w) A (.builtin "list.extend.loop" ⟨[.ref S, .ref ga, res], []⟩) R s' := by
  intro n
  induction n with
  | zero =>
    intro s s' Nn ys acc c Su hN hyz rv wk hgen
    obtain ⟨gs, a0, cs0, σ, H, hgs, I, c0, go⟩ := Su
    exact (show False from go ys _ s' hN ⟨acc, c, rv, rfl⟩ wk).elim
  | succ k ih =>
    intro s s' Nn ys acc c Su hN hyz rv wk hgen
    refine codeAny_builtin F.entry_extend_loop ?_
    rw [Around.under_plainId F.plain_extend_loop _]
    show wpAny _ A.in1 (pyNext (.ref ga) >>= _) _ _ s'
    refine wpAny_bind (next_susp (Ac := A.in1) (a := ys) hh hd L hgp G Su hN ⟨acc, c, rv, rfl⟩ wk hgen (fun v s2 y σ H Nx n' en ry I tk S2 => ?_) fun s2 σ H I fn => ?_)
    · obtain rfl : k = n' := by omega
      obtain ⟨hz, q⟩ := tk
      have hS2 : s2.heap.get? S = some (lstObj acc c) := (I.pin (S, lstObj acc c) (List.mem_append_right _ (List.mem_append_left _ (List.mem_singleton.mpr rfl)))).1
      have hsz : acc.size < sizeLine := by
        have e := rv.length
        have e2 : acc.toList.length = acc.size := by simp
        omega
      show wpAny _ A.in1 (updateSeq S (·.push v) >>= _) _ _ _
      refine wpAny_bind ?_
      refine wpAny_updateSeq hS2 rfl (wpAny_pure ⟨plainId_quiet F.plain_extend_loop _, ?_⟩) (Nat.le_of_lt hsz) (by show (acc.push v).size ≤ sizeLine + 1; rw [Array.size_push]; omega)
      refine ih s2 _ _ (ys ++ [y]) (acc.push v) (c + 1) S2 q (by rw [List.length_append, List.length_singleton]; exact hz) (by rw [Array.toList_push]; exact rv.append (.cons ry .nil)) ⟨rfl, I.bare, fun b o hb e => ?_, fun p hp => ?_⟩ rfl
      · exact (Heap.get?_update_other _ _ (fun z : S = b => hb (by rw [z]; exact List.mem_singleton.mpr rfl))).trans e
      · rw [List.mem_singleton.mp hp]
        have e := Heap.get?_update_self (Obj.mapSeq (·.push v)) hS2 rfl
        rw [show Obj.mapSeq (·.push v) (lstObj acc c) = lstObj (acc.push v) (c + 1) from by simp [Obj.mapSeq]] at e
        exact e
    · exact wpAny_pure (hR ys acc c σ H s2 hyz rv I fn)
end
end Mi

set_option Elab.async false
set_option linter.all false
set_option maxRecDepth 100000
set_option maxHeartbeats 2000000
namespace Mi
open PySem PySem.Spec PyProof.Rows L2
open AutoSeq1 (wpAny_loadPart')
/-- the parts of a generator expression, as rules over its frame -/
structure GenP (X : Cx) (k : Nat) (elt tg : Expr) (ifs : List Expr) (scope : Scope) (own : List (Str × Nat)) (g : TG) (tt : TT) (te : TE) : Prop where
  ok : GenOk X.N X.env.scope scope own
  nd : X.N.Nodup
  pg : ∀ (A : Around) (s : Shared) (H : Hp) (cl : List (Str × Addr)) (L : Addr) (code : Value) (fp : List Addr), PG (genCx X A s H (genEnv scope cl L code builtinsNs X.env) fp) tg g
  pt : ∀ (A : Around) (s : Shared) (H : Hp) (cl : List (Str × Addr)) (L : Addr) (code : Value) (fp : List Addr), Room k (A.deeper (genEnv scope cl L code builtinsNs X.env)) → PTs (genCx X A s H (genEnv scope cl L code builtinsNs X.env) fp) ifs tt
  pe : ∀ (A : Around) (s : Shared) (H : Hp) (cl : List (Str × Addr)) (L : Addr) (code : Value) (fp : List Addr), Room k (A.deeper (genEnv scope cl L code builtinsNs X.env)) → PE (genCx X A s H (genEnv scope cl L code builtinsNs X.env) fp) elt te
/-- the reading of a generator expression that is drawn at once -/
def tGen {α : Type} (P : Addr) (wi : TI) (g : TG) (tt : TT) (te : TE) (vs : List Nat) (a0 : α) (take : VK → α → V → Hp → (α → Hp → Prop) → Prop) (fin : VK → α → Hp → Prop) : TE := fun σ H Q =>
  wi σ H fun J H1 => GxR.TabG H1 P ∧ ∀ H2, GxR.Tabbed P H1 H2 → ∃ W : Nat → Nat → α → Hp → Prop, (∃ m, W 0 m a0 H2) ∧ Turns (take Q) (fin Q) J g tt te (wipe σ vs) vs W
section
variable {X : Cx} {pins : List (Addr × Obj)} {σ : L2.St} {s6 : Shared} {elt tg iter : Expr} {ifs : List Expr} {scope : Scope} {gpos : Pos} {own : List (Str × Nat)} {J : It} {H2 : Hp} {ga : Addr} {g : TG} {tt : TT} {te : TE} {k : Nat} {A : Around} {E : Value → Shared → Prop}
theorem fresh_gen (Fr : Fresh X pins σ elt tg iter ifs scope gpos J H2 ga s6) : ∃ gi, s6.heap.IsGen ga gi := by
  obtain ⟨_, _, _, _, _, gi, _, _, _, _, _, h, _⟩ := Fr
  exact ⟨gi, h⟩
theorem fresh_lt (Fr : Fresh X pins σ elt tg iter ifs scope gpos J H2 ga s6) : ga < s6.heap.objs.size := by
  obtain ⟨_, _, _, _, _, gi, _, _, _, _, _, _, _, h, _⟩ := Fr
  exact h
theorem draw_any {Qv : Bool → Hp → Prop} (Fr : Fresh X pins σ elt tg iter ifs scope gpos J H2 ga s6) (hr : Room (k + 2) A) (hF : A.frames = some X.stack) (GP : GenP X k elt tg ifs scope own g tt te) {W : Nat → Nat → Unit → Hp → Prop} {m : Nat} (w : W 0 m () H2)
    (turn : Turns (conB true Qv).take (conB true Qv).fin J g tt te (wipe σ (own.map (·.2))) (own.map (·.2)) W) :
    wpAny (model X.prog X.w) A (call (.builtin "any") [.ref ga]) (fun u s' => ∃ b H', u = .bool b ∧ Inv X pins σ H' s' ∧ Qv b H') E s6 := by
  refine call_function_tree F.kind_any F.plain_any F.entry_any (F.args_any1 _) ?_
  unfold Builtin.«any»
  refine wpAny_bind (m := oneArg "any" _) (wpAny_pure ?_)
  obtain ⟨gi, hg⟩ := fresh_gen Fr
  refine wpAny_bind (wpAny_pyIter_gen hg ?_)
  obtain ⟨Xg, gp, fp, gi', e1, e2, e3, L, hgp, G, Su, back⟩ := fresh_susp (C := conB true Qv) (s7 := s6) Fr hr.in1 hF GP.ok GP.nd GP.pg GP.pt GP.pe rfl rfl (fun _ _ e => e) (fun b hb => by cases hb) (a0 := ()) (cs := []) rfl (fun p hp => by cases hp) w turn
  rw [← e1, ← e2]
  exact wpAny_pure ⟨plainId_quiet F.plain_any_loop _, loop_any hr.hd hr.depth L G (fun b σ' H' s' I q => ⟨b, H', rfl, back _ _ _ _ I, q⟩) _ _ _ Su rfl⟩
theorem draw_all {Qv : Bool → Hp → Prop} (Fr : Fresh X pins σ elt tg iter ifs scope gpos J H2 ga s6) (hr : Room (k + 2) A) (hF : A.frames = some X.stack) (GP : GenP X k elt tg ifs scope own g tt te) {W : Nat → Nat → Unit → Hp → Prop} {m : Nat} (w : W 0 m () H2)
    (turn : Turns (conB false Qv).take (conB false Qv).fin J g tt te (wipe σ (own.map (·.2))) (own.map (·.2)) W) :
    wpAny (model X.prog X.w) A (call (.builtin "all") [.ref ga]) (fun u s' => ∃ b H', u = .bool b ∧ Inv X pins σ H' s' ∧ Qv b H') E s6 := by
  refine call_function_tree F.kind_all F.plain_all F.entry_all (F.args_all1 _) ?_
  unfold Builtin.«all»
  refine wpAny_bind (m := oneArg "all" _) (wpAny_pure ?_)
  obtain ⟨gi, hg⟩ := fresh_gen Fr
  refine wpAny_bind (wpAny_pyIter_gen hg ?_)
  obtain ⟨Xg, gp, fp, gi', e1, e2, e3, L, hgp, G, Su, back⟩ := fresh_susp (C := conB false Qv) (s7 := s6) Fr hr.in1 hF GP.ok GP.nd GP.pg GP.pt GP.pe rfl rfl (fun _ _ e => e) (fun b hb => by cases hb) (a0 := ()) (cs := []) rfl (fun p hp => by cases hp) w turn
  rw [← e1, ← e2]
  exact wpAny_pure ⟨plainId_quiet F.plain_all_loop _, loop_all hr.hd hr.depth L G (fun b σ' H' s' I q => ⟨b, H', rfl, back _ _ _ _ I, q⟩) _ _ _ Su rfl⟩
theorem draw_sum {Qi : Int → Hp → Prop} (Fr : Fresh X pins σ elt tg iter ifs scope gpos J H2 ga s6) (hr : Room (k + 2) A) (hF : A.frames = some X.stack) (GP : GenP X k elt tg ifs scope own g tt te) {W : Nat → Nat → Int → Hp → Prop} {m : Nat} (w : W 0 m 0 H2)
    (turn : Turns (conS 0 Qi).take (conS 0 Qi).fin J g tt te (wipe σ (own.map (·.2))) (own.map (·.2)) W) :
    wpAny (model X.prog X.w) A (call (.builtin "sum") [.ref ga]) (fun u s' => ∃ i t H', u = .int i t ∧ Inv X pins σ H' s' ∧ Qi i H') E s6 := by
  refine call_function_tree F.kind_sum F.plain_sum F.entry_sum (F.args_sum1 _) ?_
  unfold Builtin.«sum»
  simp only [List.length_cons, List.length_nil]
  rw [if_neg (by decide)]
  refine wpAny_bind (wpAny_of_eq (show Builtin.Builtins.bindParams "sum" ["start"] 0 { } = pure [none] from rfl) ?_)
  obtain ⟨gi, hg⟩ := fresh_gen Fr
  refine wpAny_bind (wpAny_pyIter_gen hg ?_)
  refine wpAny_bind (wpAny_mkInt ?_)
  refine wpAny_bind (wpAny_pure ?_)
  simp only [List.forIn_cons, List.forIn_nil]
  refine wpAny_bind (wpAny_bind (wpAny_bind (wpAny_isInstance (T := "int") (b := false) (typeIs_int _ _ _) PySem.sub_int_str ?_)))
  simp only [Bool.false_eq_true, if_false]
  refine wpAny_pure (wpAny_bind (wpAny_bind (wpAny_isInstance (T := "int") (b := false) (typeIs_int _ _ _) PySem.sub_int_bytes ?_)))
  simp only [Bool.false_eq_true, if_false]
  refine wpAny_pure (wpAny_bind (wpAny_bind (wpAny_isInstance (T := "int") (b := false) (typeIs_int _ _ _) PySem.sub_int_bytearray ?_)))
  simp only [Bool.false_eq_true, if_false]
  refine wpAny_pure (wpAny_pure ?_)
  refine wpAny_bind (wpAny_newObj_type ?_)
  obtain ⟨Xg, gp, fp, gi', e1, e2, e3, L, hgp, G, Su, back⟩ := fresh_susp (C := conS s6.heap.objs.size Qi) (s7 := { s6 with heap := s6.heap.push { cls := .type "list", data := .seq [Value.int 0 s6.toks].toArray }, toks := s6.toks + 1 }) Fr hr.in1 hF GP.ok GP.nd GP.pg GP.pt GP.pe rfl rfl
    (fun b o e => Heap.get?_push_of_some _ e) (fun b hb => by rw [List.mem_singleton.mp hb]; exact Nat.le_refl _) (a0 := 0) (cs := [(s6.heap.objs.size, sumO 0 s6.toks 0)]) ⟨_, _, rfl⟩ (fun p hp => by rw [List.mem_singleton.mp hp]; exact Heap.get?_push_size _ rfl) w turn
  rw [← e1, ← e2]
  refine wpAny_pure ⟨plainId_quiet F.plain_sum_loop _, loop_sum (S := s6.heap.objs.size) hr.hd hr.depth L hgp G (fun i t c σ' H' s' I q => ⟨i, t, H', rfl, back _ _ _ _ I, q⟩) _ _ _ _ 0 s6.toks 0 Su rfl ⟨rfl, susp_bare Su, fun b o _ e => e, fun p hp => ?_⟩ rfl⟩
  rw [List.mem_singleton.mp hp]
  exact Heap.get?_push_size _ rfl
theorem draw_list {Ql : List V → Hp → Prop} (Fr : Fresh X pins σ elt tg iter ifs scope gpos J H2 ga s6) (hr : Room (k + 2) A) (hF : A.frames = some X.stack) (GP : GenP X k elt tg ifs scope own g tt te) {W : Nat → Nat → List V → Hp → Prop} {m : Nat} (w : W 0 m [] H2)
    (turn : Turns (conL 0 Ql).take (conL 0 Ql).fin J g tt te (wipe σ (own.map (·.2))) (own.map (·.2)) W) :
    wpAny (model X.prog X.w) A (collect (.ref ga)) (fun us s' => ∃ ys H', ys.length ≤ sizeLine ∧ Vals ys us ∧ Inv X pins σ H' s' ∧ Ql ys H') E s6 := by
  obtain ⟨gi, hg⟩ := fresh_gen Fr
  have hlt := fresh_lt Fr
  have hSI : s6.heap.objs.size ≠ ga := Nat.ne_of_gt hlt
  unfold collect
  refine wpAny_bind (wpAny_runValue (codeAny_builtin F.entry_proto_collect ?_))
  rw [Around.under_plainId F.plain_proto_collect _]
  show wpAny _ A.in1 (newList [] >>= fun l => again (.builtin "list.__iadd__" ⟨[l, .ref ga], []⟩)) _ _ s6
  refine wpAny_bind (wpAny_newObj_type ?_)
  refine wpAny_pure ⟨plainId_quiet F.plain_list_iadd _, codeAny_builtin F.entry_list_iadd ?_⟩
  rw [Around.under_plainId F.plain_list_iadd _]
  have hg1 : (s6.heap.push { cls := .type "list", data := .seq ([] : List Value).toArray }).IsGen ga gi := hg.keeps fun b o e => Heap.get?_push_of_some _ e
  have tyG : ({ s6 with heap := s6.heap.push { cls := .type "list", data := .seq ([] : List Value).toArray } } : Shared).TypeIs (.ref ga) "generator" := hg1.typeIs
  show wpAny _ A.in1 (Builtin.List.listExtendWith (.ref s6.heap.objs.size) (.ref ga) (.ref s6.heap.objs.size)) _ _ _
  unfold Builtin.List.listExtendWith
  refine wpAny_bind (wpAny_typeOf tyG ?_)
  have n1 : Builtin.List.listSameRef (.ref s6.heap.objs.size) (.ref ga) = false := by simp [Builtin.List.listSameRef, hSI]
  have n2 : (Value.type "generator" == Value.type "list") = false := by decide
  have n3 : (Value.type "generator" == Value.type "tuple") = false := by decide
  simp only [n1, n2, n3, Bool.or_false, Bool.false_eq_true, if_false]
  refine wpAny_bind (wpAny_pyIter_gen (s := { s6 with heap := _ }) hg1 ?_)
  refine wpAny_bind (wpAny_holding ?_)
  unfold Builtin.List.listLengthHint
  refine wpAny_bind (wpAny_specialOf tyG F.gen_no_len ?_)
  show wpAny _ A.in1 (specialOf (Value.ref ga) (Str.ofString "__length_hint__") >>= _) _ _ _
  refine wpAny_bind (wpAny_specialOf tyG F.gen_no_hint ?_)
  refine wpAny_pure ?_
  show wpAny _ A.in1 (rule "list.extend.makes-room" >>= fun _ => Builtin.List.listTouch (.ref s6.heap.objs.size) >>= fun _ =>
    again (.builtin "list.extend.loop" ⟨[.ref s6.heap.objs.size, .ref ga, .ref s6.heap.objs.size], []⟩)) _ _ _
  refine wpAny_bind (wpAny_rule ?_)
  have hS1 : (s6.heap.push { cls := .type "list", data := .seq ([] : List Value).toArray }).get? s6.heap.objs.size = some { cls := .type "list", data := .seq ([] : List Value).toArray } := Heap.get?_push_size _ rfl
  refine wpAny_bind ?_
  show wpAny _ A.in1 (updateSeq s6.heap.objs.size (·.push .none) >>= fun _ => updateSeq s6.heap.objs.size (·.pop)) _ _ _
  refine wpAny_bind (wpAny_updateSeq hS1 rfl ?_)
  have hS2 := Heap.get?_update_self (Obj.mapSeq (·.push Value.none)) hS1 rfl
  refine wpAny_updateSeq (hz := by seq_fits) hS2 rfl ?_
  have hS3 := Heap.get?_update_self (Obj.mapSeq (·.pop)) hS2 rfl
  have oth : ∀ b o, s6.heap.get? b = some o → (((s6.heap.push { cls := .type "list", data := .seq ([] : List Value).toArray }).update s6.heap.objs.size (Obj.mapSeq (·.push Value.none))).update s6.heap.objs.size (Obj.mapSeq (·.pop))).get? b = some o :=
    fun b o e => (Heap.get?_update_other _ _ (Ne.symm (Nat.ne_of_lt (Heap.lt_size e)))).trans ((Heap.get?_update_other _ _ (Ne.symm (Nat.ne_of_lt (Heap.lt_size e)))).trans (Heap.get?_push_of_some _ e))
  generalize hh7 : ((s6.heap.push { cls := .type "list", data := .seq ([] : List Value).toArray }).update s6.heap.objs.size (Obj.mapSeq (·.push Value.none))).update s6.heap.objs.size (Obj.mapSeq (·.pop)) = h7 at oth hS3 ⊢
  have hS4 : h7.get? s6.heap.objs.size = some (lstObj #[] 2) := hS3
  refine wpAny_pure ⟨plainId_quiet F.plain_extend_loop _, ?_⟩
  show codeAny _ _ _ _ ({ s6 with heap := h7 } : Shared)
  obtain ⟨Xg, gp, fp, gi', e1, e2, e3, L, hgp, G, Su, back⟩ := fresh_susp (C := conL s6.heap.objs.size Ql) (s7 := { s6 with heap := h7 }) Fr hr.in1 hF GP.ok GP.nd GP.pg GP.pt GP.pe rfl rfl
    oth (fun b hb => by rw [List.mem_singleton.mp hb]; exact Nat.le_refl _) (a0 := []) (cs := [(s6.heap.objs.size, lstObj #[] 2)]) ⟨#[], 2, .nil, rfl⟩ (fun p hp => by rw [List.mem_singleton.mp hp]; exact hS4) w turn
  rw [← e1, ← e2]
  refine loop_ext (S := s6.heap.objs.size) (res := .ref s6.heap.objs.size) hr.hd hr.depth L hgp G (fun ys acc c σ' H' s' hz rv I q => ?_) _ _ _ _ [] #[] 2 Su rfl (Nat.zero_le _) .nil ⟨rfl, susp_bare Su, fun b o _ e => e, fun p hp => ?_⟩ rfl
  · have hS' : s'.heap.get? s6.heap.objs.size = some (lstObj acc c) := (I.pin (s6.heap.objs.size, lstObj acc c) (List.mem_append_right _ List.mem_cons_self)).1
    show wpAny _ A (load s6.heap.objs.size >>= _) _ _ s'
    refine wpAny_bind (wpAny_load hS' ?_)
    exact wpAny_pure ⟨ys, H', hz, rv, back _ _ _ _ I, q⟩
  · rw [List.mem_singleton.mp hp]
    exact hS4
end
end Mi

set_option Elab.async false
set_option linter.all false
set_option maxRecDepth 100000
set_option maxHeartbeats 2000000
namespace Mi
open PySem PySem.Spec PyProof.Rows L2
open AutoSeq1 (wpAny_loadPart')
/-! ### the calls as rules -/
theorem boot_tuple1 : bootBuiltins "tuple" = some (.type "tuple") := by decide +kernel
theorem boot_all1 : bootBuiltins "all" = some (.builtin "all") := by decide +kernel
def takeB (isAny : Bool) : VK → Unit → V → Hp → (Unit → Hp → Prop) → Prop := fun Q _ y H N => ∃ b : Bool, y = .bl b ∧ (if b = isAny then Q (.bl b) H else N () H)
def finB (isAny : Bool) : VK → Unit → Hp → Prop := fun Q _ H => Q (.bl (!isAny)) H
def takeS : VK → Int → V → Hp → (Int → Hp → Prop) → Prop := fun _ a y H N => ∃ i : Int, y = .int i ∧ (-(2 ^ 63) ≤ i ∧ i < 2 ^ 63 ∧ -(2 ^ 63) ≤ a + i ∧ a + i < 2 ^ 63) ∧ N (a + i) H
def finS : VK → Int → Hp → Prop := fun Q a H => Q (.int a) H
def takeL : VK → List V → V → Hp → (List V → Hp → Prop) → Prop := fun _ ys y H N => ys.length < sizeLine ∧ N (ys ++ [y]) H
def finT : VK → List V → Hp → Prop := fun Q ys H => ∀ p, H p = none → Q (.ref p) (upd H p (.tup ys))
section
variable {X : Cx} {elt tg iter : Expr} {ifs : List Expr} {scope : Scope} {gpos p pos : Pos} {own : List (Str × Nat)} {g : TG} {tt : TT} {te : TE} {wi : TI} {k : Nat} {c P : Addr} {nm : Str}
/-- what every call over a generator expression asks -/
structure GenC (X : Cx) (k : Nat) (c P : Addr) (elt tg iter : Expr) (ifs : List Expr) (scope : Scope) (own : List (Str × Nat)) (wi : TI) (g : TG) (tt : TT) (te : TE) : Prop where
  hr : Room (k + 5) X.A
  tb : LamX.TabB X.base X.mg c P
  code : X.env.code = .ref c
  pi : PI X tg iter wi
  fold : ∀ v, genFold iter X.env v = pure v
  p : GenP X k elt tg ifs scope own g tt te
theorem starG (he : starEach [.GeneratorExp elt [⟨tg, iter, ifs, 0⟩] scope gpos] X.env = (false, eval (.GeneratorExp elt [⟨tg, iter, ifs, 0⟩] scope gpos) X.env) :: starEach [] X.env) {pins : List (Addr × Obj)} {σ : L2.St} {H : Hp} {s : Shared} {Q' : List Value → Shared → Prop} {α : Type} {a0 : α} {take : VK → α → V → Hp → (α → Hp → Prop) → Prop} {fin : VK → α → Hp → Prop} {Q : VK}
    (G : GenC X k c P elt tg iter ifs scope own wi g tt te) (I : Inv X pins σ H s) (h : tGen P wi g tt te (own.map (·.2)) a0 take fin σ H Q)
    (hQ : ∀ J H2 ga s6 (W : Nat → Nat → α → Hp → Prop) m, Fresh X pins σ elt tg iter ifs scope gpos J H2 ga s6 → W 0 m a0 H2 → Turns (take Q) (fin Q) J g tt te (wipe σ (own.map (·.2))) (own.map (·.2)) W → Q' [.ref ga] s6) :
    wpAny (model X.prog X.w) X.A (spliced (backTo pos (starEach [.GeneratorExp elt [⟨tg, iter, ifs, 0⟩] scope gpos] X.env))) Q' X.xe s := by
  rw [he]
  show wpAny _ _ (spliced ((false, eval (.GeneratorExp elt [⟨tg, iter, ifs, 0⟩] scope gpos) X.env) :: backTo pos (starEach [] X.env))) _ _ s
  refine Calls.spliced_cons (gen_made (R := fun J H1 => ∀ H2, GxR.Tabbed P H1 H2 → ∃ W : Nat → Nat → α → Hp → Prop, (∃ m, W 0 m a0 H2) ∧ Turns (take Q) (fin Q) J g tt te (wipe σ (own.map fun q : Str × Nat => q.2)) (own.map fun q : Str × Nat => q.2) W) G.hr G.tb G.code G.p.ok G.pi G.fold I h fun J H1 H2 ga s6 hR hT Fr => ?_)
  obtain ⟨W, ⟨m, w⟩, turn⟩ := hR H2 hT
  exact Calls.spliced_nil (hQ J H2 ga s6 W m Fr w turn)
theorem fresh_frames {pins : List (Addr × Obj)} {σ : L2.St} {J : It} {H2 : Hp} {ga : Addr} {s6 : Shared} (Fr : Fresh X pins σ elt tg iter ifs scope gpos J H2 ga s6) : X.A.frames = some X.stack := by
  obtain ⟨_, _, _, _, _, _, I, _⟩ := Fr
  exact I.ok.frames
theorem pe_anyG (G : GenC X k c P elt tg iter ifs scope own wi g tt te) (hg : Gl X "any") (hm : X.mg "any" = none) (he : starEach [.GeneratorExp elt [⟨tg, iter, ifs, 0⟩] scope gpos] X.env = (false, eval (.GeneratorExp elt [⟨tg, iter, ifs, 0⟩] scope gpos) X.env) :: starEach [] X.env := by rfl) :
    PE X (.Call (.Name "any" p) [.GeneratorExp elt [⟨tg, iter, ifs, 0⟩] scope gpos] [] pos) (tGen P wi g tt te (own.map (·.2)) () (takeB true) (finB true)) := by
  refine ⟨fun pins s σ H Q I h => ?_⟩
  refine wpAny_Call_Name_kw (ld_blt I hg hm boot_any ?_)
  refine PyProof.Rows.callWith_builtin1 (starG he G I h fun J H2 ga s6 W m Fr w turn => ?_) he (by rfl)
  refine thn (draw_any (Qv := fun b H => Q (.bl b) H) Fr (G.hr.mono (by omega)) (fresh_frames Fr) G.p w turn) fun u s' ⟨b, H', eu, I', q⟩ => ?_
  exact ⟨.bl b, H', I', eu, q⟩
theorem pe_allG (G : GenC X k c P elt tg iter ifs scope own wi g tt te) (hg : Gl X "all") (hm : X.mg "all" = none) (he : starEach [.GeneratorExp elt [⟨tg, iter, ifs, 0⟩] scope gpos] X.env = (false, eval (.GeneratorExp elt [⟨tg, iter, ifs, 0⟩] scope gpos) X.env) :: starEach [] X.env := by rfl) :
    PE X (.Call (.Name "all" p) [.GeneratorExp elt [⟨tg, iter, ifs, 0⟩] scope gpos] [] pos) (tGen P wi g tt te (own.map (·.2)) () (takeB false) (finB false)) := by
  refine ⟨fun pins s σ H Q I h => ?_⟩
  refine wpAny_Call_Name_kw (ld_blt I hg hm boot_all1 ?_)
  refine PyProof.Rows.callWith_builtin1 (starG he G I h fun J H2 ga s6 W m Fr w turn => ?_) he (by rfl)
  refine thn (draw_all (Qv := fun b H => Q (.bl b) H) Fr (G.hr.mono (by omega)) (fresh_frames Fr) G.p w turn) fun u s' ⟨b, H', eu, I', q⟩ => ?_
  exact ⟨.bl b, H', I', eu, q⟩
theorem pe_sumG (G : GenC X k c P elt tg iter ifs scope own wi g tt te) (hg : Gl X "sum") (hm : X.mg "sum" = none) (he : starEach [.GeneratorExp elt [⟨tg, iter, ifs, 0⟩] scope gpos] X.env = (false, eval (.GeneratorExp elt [⟨tg, iter, ifs, 0⟩] scope gpos) X.env) :: starEach [] X.env := by rfl) :
    PE X (.Call (.Name "sum" p) [.GeneratorExp elt [⟨tg, iter, ifs, 0⟩] scope gpos] [] pos) (tGen P wi g tt te (own.map (·.2)) 0 takeS finS) := by
  refine ⟨fun pins s σ H Q I h => ?_⟩
  refine wpAny_Call_Name_kw (ld_blt I hg hm boot_sum ?_)
  refine PyProof.Rows.callWith_builtin1 (starG he G I h fun J H2 ga s6 W m Fr w turn => ?_) he (by rfl)
  refine thn (draw_sum (Qi := fun i H => Q (.int i) H) Fr (G.hr.mono (by omega)) (fresh_frames Fr) G.p w turn) fun u s' ⟨i, t, H', eu, I', q⟩ => ?_
  exact ⟨.int i, H', I', ⟨t, eu⟩, q⟩
theorem in1_frames {A : Around} {l : List Env} (h : A.frames = some l) : A.in1.frames = some l := h
theorem draw_tuple {pins : List (Addr × Obj)} {σ : L2.St} {J : It} {H2 : Hp} {ga : Addr} {s6 : Shared} {A : Around} {E : Value → Shared → Prop} {Ql : List V → Hp → Prop} (Fr : Fresh X pins σ elt tg iter ifs scope gpos J H2 ga s6) (hr : Room (k + 5) A) (hF : A.frames = some X.stack)
    (GP : GenP X k elt tg ifs scope own g tt te) {W : Nat → Nat → List V → Hp → Prop} {m : Nat} (w : W 0 m [] H2) (turn : Turns (conL 0 Ql).take (conL 0 Ql).fin J g tt te (wipe σ (own.map (·.2))) (own.map (·.2)) W) :
    wpAny (model X.prog X.w) A (call (.type "tuple") [.ref ga]) (fun u s' => ∃ ys p H', u = .ref p ∧ H' p = none ∧ Inv X pins σ (upd H' p (.tup ys)) s' ∧ Ql ys H') E s6 := by
  obtain ⟨gi, hgen⟩ := fresh_gen Fr
  have hTI : s6.TypeIs (.ref ga) "generator" := hgen.typeIs
  have r1 : Room (k + 4) A.in1 := hr.in1
  have r2 : Room (k + 3) A.in1.in1 := r1.in1
  refine callType_codes (Q₁ := fun obj s₁ => s₁.TypeIs obj "tuple" ∧ ∃ ys p H', obj = .ref p ∧ H' p = none ∧ Inv X pins σ (upd H' p (.tup ys)) s₁ ∧ Ql ys H') F.called_tuple (F.typeCall_tuple_1 _) F.entry_object_init ?_ fun obj s₁ h₁ => ?_
  · refine codeAny_of_tree ?_
    show wpAny _ A.in1.in1 (do checkBuiltinCall "tuple.__new__" ⟨[.type "tuple", .ref ga], []⟩; again (.builtin "tuple.__new__" ⟨[.type "tuple", .ref ga], []⟩)) _ _ s6
    refine wpAny_bind (wpAny_of_eq (F.newCall_tuple_1 _) (wpAny_pure ⟨plainId_quiet F.plain_tuple_new _, codeAny_builtin F.entry_tuple_new ?_⟩))
    rw [Around.under_plainId F.plain_tuple_new _]
    have hsub := sub_tuple_self
    have hinit := init_tuple_lookup
    have hmh := madeHere_tuple
    have hcol : ∀ {Q' : List Value → Shared → Prop} {E' : Value → Shared → Prop}, (∀ us s' ys H', ys.length ≤ sizeLine → Vals ys us → Inv X pins σ H' s' → Ql ys H' → Q' us s') → wpAny (model X.prog X.w) A.in1.in1 (collect (.ref ga)) Q' E' s6 := fun hq =>
      thn (draw_list Fr (r2.mono (by omega)) hF GP w turn) fun us s' ⟨ys, H', hz, rv, I', q⟩ => hq us s' ys H' hz rv I' q
    wp_walk using wpAny_typeOf hTI, hcol
    intro us s' ys H' hz rv I' q
    show wpAny _ _ (Builtin.Tuple.tupleExact us.toArray >>= fun v => ret v) _ _ _
    unfold Builtin.Tuple.tupleExact
    have el := rv.length
    refine wpAny_bind (wpAny_newObj_type ?_ (by show us.toArray.size ≤ sizeLine; simp only [List.size_toArray]; omega))
    refine wpAny_pure ?_
    refine ⟨⟨_, Heap.get?_push_size _ rfl, rfl⟩, ys, s'.heap.objs.size, H', rfl, I'.hok.fresh (Nat.le_refl _), I'.laid (t' := s'.toks) (fun b u e => Heap.get?_push_of_some _ e) (Nat.le_refl _) ?_, q⟩
    exact ⟨hz, us, rv, ⟨_, Heap.get?_push_size _ rfl, rfl, _, rfl⟩⟩
  · obtain ⟨ht, ys, p, H', rfl, h2, h3, h4⟩ := h₁
    exact ⟨ht, F.args_object_init_2 _ _, object_init_meets F.called_tuple.init.lookup F.called_tuple.made (by decide) X.prog X.w A.in1 _ s₁ ⟨ht, rfl, ys, p, H', rfl, h2, h3, h4⟩⟩
theorem pe_tupG (G : GenC X k c P elt tg iter ifs scope own wi g tt te) (hg : Gl X "tuple") (hm : X.mg "tuple" = none) (he : starEach [.GeneratorExp elt [⟨tg, iter, ifs, 0⟩] scope gpos] X.env = (false, eval (.GeneratorExp elt [⟨tg, iter, ifs, 0⟩] scope gpos) X.env) :: starEach [] X.env := by rfl) :
    PE X (.Call (.Name "tuple" p) [.GeneratorExp elt [⟨tg, iter, ifs, 0⟩] scope gpos] [] pos) (tGen P wi g tt te (own.map (·.2)) [] takeL finT) := by
  refine ⟨fun pins s σ H Q I h => ?_⟩
  refine wpAny_Call_Name_kw (ld_blt I hg hm boot_tuple1 ?_)
  refine PyProof.Rows.callWith_type1 (starG he G I h fun J H2 ga s6 W m Fr w turn => ?_) he rfl
  refine thn (draw_tuple (Ql := finT Q) Fr G.hr (fresh_frames Fr) G.p w turn) fun u s' ⟨ys, p, H', eu, hp, I', q⟩ => ?_
  exact ⟨.ref p, _, I', eu, q p hp⟩
end
end Mi

set_option Elab.async false
set_option linter.all false
set_option maxRecDepth 100000
set_option maxHeartbeats 2000000
namespace Mi
open PySem PySem.Spec PyProof.Rows L2
/-! ### sorted -/
def scalD : PyData → Bool
  | .none => true
  | .bool _ => true
  | .int _ => true
  | .str _ => true
  | _ => false
def flatD : PyData → Bool
  | .tuple xs => xs.all scalD
  | d => scalD d
theorem reads_scal {h : Heap} {v : Value} {d : PyData} {as : List Addr} (r : Reads h v d as) (hs : scalD d = true) : as = [] := by
  cases r <;> first | rfl | cases hs
theorem readsAll_scal {h : Heap} : ∀ {vs : List Value} {ds : List PyData} {as : List Addr}, ReadsAll h vs ds as → ds.all scalD = true → as = []
  | _, _, _, .nil, _ => rfl
  | _, _, _, .cons r t, hs => by
    rw [List.all_cons, Bool.and_eq_true] at hs
    rw [reads_scal r hs.1, readsAll_scal t hs.2]
    rfl
theorem reads_flat {h : Heap} {v : Value} {d : PyData} {as : List Addr} (r : Reads h v d as) (hs : flatD d = true) : as = [] := by
  cases r with
  | tuple h1 h2 h3 h4 => exact readsAll_scal h4 hs
  | none => rfl
  | bool b => rfl
  | int i t => rfl
  | str x t => rfl
  | list h1 h2 h3 h4 => cases hs
  | dict h1 h2 h3 h4 h5 => cases hs
theorem depthAll_scal : ∀ {ds : List PyData}, ds.all scalD = true → PyData.depthAll ds = 0
  | [], _ => rfl
  | d :: ds, hs => by
    rw [List.all_cons, Bool.and_eq_true] at hs
    have h2 := depthAll_scal hs.2
    cases d <;> first | (simp [PyData.depthAll, PyData.depth, h2]; done) | (exact absurd hs.1 (by simp [scalD]))
theorem depth_flat {d : PyData} (hs : flatD d = true) : d.depth ≤ 1 := by
  cases d with
  | tuple xs =>
    have h := depthAll_scal (show xs.all scalD = true from hs)
    simp [PyData.depth, h]
  | list xs => cases hs
  | dict xs => cases hs
  | _ => simp [PyData.depth]
/-- what a sort's items are known by -/
structure SortP (K : PySem.W.Frag) (H : Hp) (ys : List V) (ps : List (V × PyData)) : Prop where
  e : ys = ps.map (·.1)
  d : ∀ q ∈ ps, Dp K H q.1 q.2
  f : ∀ q ∈ ps, flatD q.2 = true
  al : PySem.W.AllAlike (ps.map (·.2))
  so : PySem.W.Sortable (ps.map (·.2))
def sortedV (ps : List (V × PyData)) : List V := (ps.mergeSort (PySem.W.dataLe false fun q => q.2)).map (·.1)
theorem each_pairs {X : Cx} {pins : List (Addr × Obj)} {σ : L2.St} {H : Hp} {s : Shared} (I : Inv X pins σ H s) : ∀ {ps : List (V × PyData)} {us : List Value}, Vals (ps.map (·.1)) us → (∀ q ∈ ps, Dp X.K H q.1 q.2) → (∀ q ∈ ps, flatD q.2 = true) →
    PySem.W.EachIs (fun (u : Value) (q : V × PyData) => L2.RelV q.1 u) us ps ∧ PySem.W.EachIs (fun (u : Value) (q : V × PyData) => Reads s.heap u q.2 []) us ps
  | [], _, .nil, _, _ => ⟨.nil, .nil⟩
  | q :: ps, _, .cons r t, hd, hf => by
    obtain ⟨h1, h2⟩ := each_pairs I t (fun x hx => hd x (List.mem_cons_of_mem _ hx)) fun x hx => hf x (List.mem_cons_of_mem _ hx)
    obtain ⟨as, ra⟩ := Dp.reads I q.2 q.1 _ (hd q List.mem_cons_self) r
    rw [reads_flat ra (hf q List.mem_cons_self)] at ra
    exact ⟨.cons r h1, .cons ra h2⟩
theorem vals_each : ∀ {ps : List (V × PyData)} {us : List Value}, PySem.W.EachIs (fun (u : Value) (q : V × PyData) => L2.RelV q.1 u) us ps → Vals (ps.map (·.1)) us
  | _, _, .nil => .nil
  | _, _, .cons r t => .cons r (vals_each t)
section
variable {X : Cx} {pins : List (Addr × Obj)} {σ : L2.St} {H : Hp} {s : Shared} {A : Around} {E : Value → Shared → Prop}
theorem sort_tail {us : List Value} {ys : List V} {ps : List (V × PyData)} {Q : VK} {P : Flow → Shared → Prop} (hu : A.units + 64 < cLine) (I : Inv X pins σ H s) (rv : Vals ys us) (hz : ys.length ≤ sizeLine) (S : SortP X.K H ys ps)
    (q : ∀ p, H p = none → Q (.ref p) (upd H p (.lst (sortedV ps)))) (hP : ∀ u s', EP X pins σ Q u s' → P (.ret u) s') :
    wpAny (model X.prog X.w) A (newList us >>= fun l => holding [l] (call (.builtin "list.sort") [l] []) >>= fun _ => ret l) (fun fin s' => ∃ f, fin = .done f ∧ P f s') E s := by
  have rv' : Vals (ps.map (·.1)) us := by
    rw [← S.e]
    exact rv
  obtain ⟨e1, e2⟩ := each_pairs I rv' S.d S.f
  have hl : us.length = ps.length := e1.length
  have hl2 : ps.length ≤ sizeLine := by
    have h := hz
    rw [S.e, List.length_map] at h
    exact h
  refine wpAny_bind (wpAny_newList ?_ (by rw [hl]; exact hl2))
  have hoL : (s.heap.push (seqObj "list" us.toArray 0)).get? s.heap.objs.size = some (seqObj "list" us.toArray 0) := Heap.get?_push_size _ rfl
  have kp : ∀ b o, s.heap.get? b = some o → (s.heap.push (seqObj "list" us.toArray 0)).get? b = some o := fun b o e => Heap.get?_push_of_some _ e
  show wpAny _ _ _ _ _ { s with heap := s.heap.push (seqObj "list" us.toArray 0) }
  refine wpAny_bind (wpAny_holding ?_)
  refine PySem.W.list_sort_data (s := { s with heap := s.heap.push (seqObj "list" us.toArray 0) }) (enc := fun z : V × PyData => z.2) hoL e1 (e2.mono fun u z r => ⟨[], PyProof.Rows.Reads.keeps kp r, by simp⟩) S.al S.so hl2 (fun b hb => ?_) fun out ho eo => ?_
  · have := depth_flat (S.f b hb)
    omega
  · obtain ⟨n', hn'⟩ := PyProof.Rows.sortedHeap_at (vs := us) (out := out.toArray) hoL
    have hv : Vals (sortedV ps) out := vals_each eo
    have hlen : (sortedV ps).length ≤ sizeLine := by
      rw [hv.length, ho]
      exact hl2
    refine wpAny_pure ⟨_, rfl, hP _ _ ⟨.ref s.heap.objs.size, upd H s.heap.objs.size (.lst (sortedV ps)), I.laid (t' := s.toks) (fun b u e => ?_) (Nat.le_refl _) ⟨hlen, out, n', hv, hn'⟩, rfl, q _ (I.hok.fresh (Nat.le_refl _))⟩⟩
    have hb : b < s.heap.objs.size := Heap.lt_size e
    rw [PyProof.Rows.sortedHeap_old (Nat.ne_of_lt hb) (by rw [size_push']; exact Nat.lt_succ_of_lt hb)]
    exact Heap.get?_push_of_some _ e
end
def finSort (K : PySem.W.Frag) : VK → List V → Hp → Prop := fun Q ys H => ∃ ps, SortP K H ys ps ∧ ∀ p, H p = none → Q (.ref p) (upd H p (.lst (sortedV ps)))
theorem boot_sorted1 : bootBuiltins "sorted" = some (.builtin "sorted") := by decide +kernel
section
variable {X : Cx} {elt tg iter : Expr} {ifs : List Expr} {scope : Scope} {gpos p pos : Pos} {own : List (Str × Nat)} {g : TG} {tt : TT} {te : TE} {wi : TI} {k : Nat} {c P : Addr}
theorem pe_sortedG (G : GenC X k c P elt tg iter ifs scope own wi g tt te) (hg : Gl X "sorted") (hm : X.mg "sorted" = none) (he : starEach [.GeneratorExp elt [⟨tg, iter, ifs, 0⟩] scope gpos] X.env = (false, eval (.GeneratorExp elt [⟨tg, iter, ifs, 0⟩] scope gpos) X.env) :: starEach [] X.env := by rfl) :
    PE X (.Call (.Name "sorted" p) [.GeneratorExp elt [⟨tg, iter, ifs, 0⟩] scope gpos] [] pos) (tGen P wi g tt te (own.map (·.2)) [] takeL (finSort X.K)) := by
  refine ⟨fun pins s σ H Q I h => ?_⟩
  refine wpAny_Call_Name_kw (ld_blt I hg hm boot_sorted1 ?_)
  refine PyProof.Rows.callWith_builtin1 (starG he G I h fun J H2 ga s6 W m Fr w turn => ?_) he (by rfl)
  refine Calls.call_function_entry PyProof.Rows.kind_sorted PyProof.Rows.plain_sorted PyProof.Rows.entry_sorted (PyProof.Rows.args_sorted1 _) ?_
  unfold Builtin.«sorted»
  refine wpAny_bind (m := checkCount "sorted" 1 1 _) (wpAny_pure ?_)
  refine wpAny_bind (thn (draw_list (Ql := finSort X.K Q) Fr (G.hr.in1.mono (by omega)) (fresh_frames Fr) G.p w turn) fun us s' ⟨ys, H', hz, rv, I', ps, S, q⟩ => ?_)
  have hu : X.A.in1.units + 64 < cLine := G.hr.in1.units
  exact thn (sort_tail (P := fun f s' => ∃ v, f = .ret v ∧ EP X pins σ Q v s') hu I' rv hz S q fun u s' h => ⟨u, rfl, h⟩) fun fin s' ⟨f, e, v, e2, h⟩ => ⟨v, by rw [e, e2], h⟩
end
end Mi

set_option Elab.async false
set_option linter.all false
set_option maxRecDepth 100000
set_option maxHeartbeats 2000000
namespace Mi
open PySem PySem.Spec PyProof.Rows L2 LamX
/-! ### tracked anew, tracked no more -/
def rm (H : Hp) (f : Addr) : Hp := fun b => if b = f then none else H b
theorem rm_same {H : Hp} {f : Addr} : rm H f f = none := if_pos rfl
theorem rm_ne {H : Hp} {f b : Addr} (h : b ≠ f) : rm H f b = H b := if_neg h
section
variable {X : Cx} {pins : List (Addr × Obj)} {σ : L2.St} {H : Hp} {s : Shared} {f : Addr} {φ : Heap → Prop}
theorem forget (I : Inv X pins σ H s) (hf : H f = some (.ext φ)) : Inv X pins σ (rm H f) s := by
  have nf : ∀ b u, H b = some u → (∀ ψ, u ≠ .ext ψ) → b ≠ f := fun b u e n z => by
    rw [z, hf] at e
    exact n φ (Option.some.inj e).symm
  refine I.step (h' := s.heap) (g' := s.gens) (d' := s.drawn) (t' := s.toks) (ch := []) (fun b hb => absurd hb (by simp)) (fun b o _ _ _ q _ => q) (fun b o _ _ _ q _ => ⟨o.slots, q⟩) (fun b o _ _ n => ?_) (fun b o _ q => ⟨o, q⟩)
    (fun b xs q => ?_) (fun b o u q => ?_) (fun b ps q => ⟨#[], ?_⟩) (fun m hm => hm) (fun b u q => ?_) I.bare
  · unfold rm
    split
    · rfl
    · exact n
  · rw [rm_ne (nf b _ q fun _ z => by cases z)]
    exact q
  · rw [rm_ne (nf b _ q fun _ z => by cases z)]
    exact q
  · rw [rm_ne (nf b _ q fun _ z => by cases z), q]
    simp
  · by_cases hb : b = f
    · rw [hb, rm_same] at q
      cases q
    · rw [rm_ne hb] at q
      exact (I.hok b u q).stay (fun _ _ _ y => y) (fun d y => by rw [rm_ne (nf d _ y fun _ z => by cases z)]; exact y) fun d xs y => by rw [rm_ne (nf d _ y fun _ z => by cases z)]; exact y
theorem adopt {o : Obj} (I : Inv X pins σ H s) (hn : H f = none) (hy : (f ∈ X.ex ∨ X.s_0.heap.objs.size ≤ f) ∧ f ≠ X.env.locals ∧ (∀ x c, X.env.cells.lookup x = some c → c ≠ f) ∧ ∀ p ∈ X.pn ++ pins, p.1 ≠ f)
    (ho : s.heap.get? f = some o) (hφ : φ s.heap) (st : ∀ h1 h2 : Heap, φ h1 → (∀ o, h1.get? f = some o → h2.get? f = some o) → φ h2) : Inv X pins σ (upd H f (.ext φ)) s := by
  have nf : ∀ b u, H b = some u → b ≠ f := fun b u e => ne_of_none e hn
  refine I.step (h' := s.heap) (g' := s.gens) (d' := s.drawn) (t' := s.toks) (ch := [f]) (fun b hb => by rw [List.mem_singleton.mp hb]; exact hy) (fun b o _ _ _ q _ => q) (fun b o _ _ _ q _ => ⟨o.slots, q⟩) (fun b o hb _ n => ?_) (fun b o _ q => ⟨o, q⟩)
    (fun b xs q => ?_) (fun b o u q => ?_) (fun b ps q => ⟨#[], ?_⟩) (fun m hm => hm) (fun b u q => ?_) I.bare
  · rw [upd_ne fun z => hb (List.mem_singleton.mpr z)]
    exact n
  · rw [upd_ne (nf b _ q)]
    exact q
  · rw [upd_ne (nf b _ q)]
    exact q
  · rw [upd_ne (nf b _ q), q]
    simp
  · by_cases hb : b = f
    · rw [hb, upd_same] at q
      cases q
      rw [hb]
      exact ⟨hφ, ⟨o, ho⟩, st⟩
    · rw [upd_ne hb] at q
      exact (I.hok b u q).stay (fun _ _ _ y => y) (fun d y => by rw [upd_ne (nf d _ y)]; exact y) fun d xs y => by rw [upd_ne (nf d _ y)]; exact y
end
/-! ### a lambda as a value -/
def LamO (f : Addr) (q : Str) (params : Arguments) (body : Expr) (scope : Scope) (cl : List (Str × Addr)) (pm : Value) (c' : Addr) (ctv : Value) : HO := .ext fun h => h.get? f = some (PySem.W.kla_obj "<lambda>" q params body scope cl pm c' ctv)
/-- one lambda: its text, its reading (from the exception's wish), where its code stands -/
structure LamD where
  params : Arguments
  body : Expr
  scope : Scope
  t : XK → TE
structure LamOk (X : Cx) (k : Nat) (D : LamD) : Prop where
  L : LamS X.env.scope D.scope
  bind : ∀ (q : Str) (cl : List (Str × Addr)) (pm cv ctv : Value), bindArgs (PySem.W.kla_fn "<lambda>" q D.params D.body D.scope cl pm cv ctv) ⟨[], []⟩ = pure []
  body : ∀ (A : Around) (outer : List Env) (s : Shared) (H : Hp) (E : XK) (f c' : Addr), Room k (A.deeper (lamEnv X D.scope s.heap.objs.size f c')) → PE (lamCx X A outer s H E D.scope f c') D.body (D.t E)
/-- at f stands that lambda, made by X's def -/
def LamIs (X : Cx) (D : LamD) (f : Addr) (H : Hp) : Prop := ∃ (c' : Addr) (pm ctv : Value), H f = some (LamO f (X.env.qual ++ "<lambda>") D.params D.body D.scope (cloFrom X.env.cells D.scope.names []) pm c' ctv) ∧ H c' = some (CodeO c' (X.env.qual ++ "<lambda>"))
/-- a lambda's making: x = lambda: .. -/
def tMkLam (X : Cx) (T : List (Addr × Str)) (P : Addr) (D : LamD) : TE := fun _ H Q => Tabs T H ∧ ∀ f H1, ExtN H H1 → (∀ b o, b ≠ P → H b = some o → H1 b = some o) → Tabs T H1 → H f = none → LamIs X D f H1 → Q (.ref f) H1
section
variable {X : Cx} {T : List (Addr × Str)} {c P : Addr} {D : LamD} {pos : Pos} {k : Nat}
theorem codeO_young {X : Cx} {pins : List (Addr × Obj)} {σ : L2.St} {H : Hp} {s : Shared} (I : Inv X pins σ H s) {f : Addr} (hf : s.heap.objs.size ≤ f) : (f ∈ X.ex ∨ X.s_0.heap.objs.size ≤ f) ∧ f ≠ X.env.locals ∧ (∀ x c, X.env.cells.lookup x = some c → c ≠ f) ∧ ∀ p ∈ X.pn ++ pins, p.1 ≠ f := by
  obtain ⟨_, h1, _, h2, h3, h4⟩ := I.fpOk (H' := H) hf (I.hok.fresh hf)
  exact ⟨h2, h1, h3, h4⟩
theorem pe_lam (TB : TabB X.base X.mg c P) (hcode : X.env.code = .ref c) (hm : (P, X.env.qual ++ "<lambda>") ∈ T) (hu : ∀ p ∈ T, p.1 = P → p.2 = X.env.qual ++ "<lambda>") (hdef : defaultsOf D.params X.env = ([], [])) (O : LamOk X k D) :
    PE X (.Lambda D.params D.body D.scope pos) (tMkLam X T P D) := by
  refine ⟨fun pins s σ H Q I h => ?_⟩
  obtain ⟨hT, h⟩ := h
  obtain ⟨ps, hP, ht, ha⟩ := hT _ hm
  have hfree := O.L.has I.ok
  refine PySem.W.kla_eval hdef ?_
  have bP : s.heap.BuiltinsAt X.mg P := TB.bm.keeps I.bk
  have hPs : s.heap.get? P = some { cls := .none, data := .fields ps } := I.hok P _ hP
  -- the end, from what stands behind the making
  have fin : ∀ (H1 : Hp) (s1 : Shared) (c' : Addr) (pm ctv : Value) (f : Addr), Inv X pins σ H1 s1 → ExtN H H1 → (∀ b o, b ≠ P → H b = some o → H1 b = some o) → Tabs T H1 → s.heap.objs.size ≤ f → H1 f = none → s1.heap.get? f = some (PySem.W.kla_obj "<lambda>" (X.env.qual ++ "<lambda>") D.params D.body D.scope (cloFrom X.env.cells D.scope.names []) pm c' ctv) →
      H1 c' = some (CodeO c' (X.env.qual ++ "<lambda>")) → EP X pins σ Q (.ref f) s1 := fun H1 s1 c' pm ctv f I1 eN eK T1 hf hn ho hco => by
    have e1 : ∀ b o, H1 b = some o → upd H1 f (LamO f (X.env.qual ++ "<lambda>") D.params D.body D.scope (cloFrom X.env.cells D.scope.names []) pm c' ctv) b = some o := fun b o e => by
      rw [upd_ne (ne_of_none e hn)]
      exact e
    refine ⟨.ref f, _, adopt I1 hn (codeO_young I hf) ho ho (fun h1 h2 a st => st _ a), rfl, h f _ (eN.trans (.of e1)) (fun b o hb e => e1 b o (eK b o hb e)) (T1.ext e1) (I.hok.fresh hf) ⟨c', pm, ctv, upd_same, e1 _ _ hco⟩⟩
  cases hc : codeAmong pos ps.toList with
  | none =>
    refine PySem.W.kla_makeFunction (mg := X.mg) (c := c) (P := P) (ps := ps) (closure_ok hfree) I.ok.glob (I.mod.glob.keeps I.bk) hcode (TB.code.keeps I.bk) hPs ht hc TB.gP bP fun c' ctv h' tk hx hge hlt hrec htb => ?_
    obtain ⟨c2, oc, vs, t, e2, hoc, hd, hv⟩ := hrec
    cases e2
    have hsz : s.heap.objs.size ≤ h'.objs.size := Nat.le_trans hge (Nat.le_of_lt hlt)
    have nC : H c' = none := I.hok.fresh hge
    have J := inv_table (t' := tk) (more := #[rawInt pos.line, rawInt pos.col, .ref c']) (h' := h'.push (PySem.W.kla_obj "<lambda>" (X.env.qual ++ "<lambda>") D.params D.body D.scope (cloFrom X.env.cells D.scope.names []) ((X.mg "__name__").getD .none) c' ctv)) I hP
      (fun b o hb e => Heap.get?_push_of_some _ (hx b o hb e)) (Heap.get?_push_of_some _ htb) hge ⟨oc, vs, t, Heap.get?_push_of_some _ hoc, hd, hv⟩
    have eN : ExtN H (upd (upd H P (.tbl (ps ++ #[rawInt pos.line, rawInt pos.col, .ref c']))) c' (CodeO c' (X.env.qual ++ "<lambda>"))) := fun b o e n => by
      rw [upd_ne (ne_of_none e nC), upd_ne (fun z => n ps (Option.some.inj (e.symm.trans (by rw [z]; exact hP))))]
      exact e
    have eL : (ps ++ #[rawInt pos.line, rawInt pos.col, .ref c']).toList = ps.toList ++ [rawInt pos.line, rawInt pos.col, .ref c'] := by simp
    refine fin _ _ c' _ ctv h'.objs.size J eN (fun b o hb e => by rw [upd_ne (ne_of_none e nC), upd_ne hb]; exact e) (fun p hp => ?_) hsz ?_ (Heap.get?_push_size _ rfl) upd_same
    · by_cases hb : p.1 = P
      · rw [hu p hp hb, hb]
        refine ⟨_, by rw [upd_ne (ne_of_none hP nC), upd_same], by rw [eL]; exact PySem.TriplesOk_snoc _ _ _ _ ht, fun p' cv hcv => ?_⟩
        rw [eL] at hcv
        rcases among_app _ ht hcv with z | z
        · obtain ⟨c0, q1, q2⟩ := ha p' cv z
          exact ⟨c0, q1, eN _ _ q2 codeO_ne⟩
        · exact ⟨c', z, upd_same⟩
      · obtain ⟨ps', a1, a2, a3⟩ := hT p hp
        refine ⟨ps', by rw [upd_ne (ne_of_none a1 nC), upd_ne hb]; exact a1, a2, fun p' cv hcv => ?_⟩
        obtain ⟨c0, q1, q2⟩ := a3 p' cv hcv
        exact ⟨c0, q1, eN _ _ q2 codeO_ne⟩
    · have m1 : h'.objs.size ≠ c' := Nat.ne_of_gt hlt
      have m2 : h'.objs.size ≠ P := Nat.ne_of_gt (Nat.lt_of_lt_of_le (Heap.lt_size hPs) hsz)
      rw [upd_ne m1, upd_ne m2]
      exact I.hok.fresh hsz
  | some cv =>
    obtain ⟨c', e, hco⟩ := ha pos cv hc
    subst e
    refine PySem.W.kla_makeFunctionHit (mg := X.mg) (c := c) (P := P) (ps := ps) (closure_ok hfree) I.ok.glob (I.mod.glob.keeps I.bk) hcode (TB.code.keeps I.bk) hPs ht hc bP fun ctv h' tk hx hsz => ?_
    have J : Inv X pins σ H { s with heap := h'.push (PySem.W.kla_obj "<lambda>" (X.env.qual ++ "<lambda>") D.params D.body D.scope (cloFrom X.env.cells D.scope.names []) ((X.mg "__name__").getD .none) c' ctv), toks := tk } := I.kept fun b o e => Heap.get?_push_of_some _ (hx b o e)
    exact fin H _ c' _ ctv h'.objs.size J (ExtN.refl H) (fun _ _ _ e => e) hT hsz (I.hok.fresh hsz) (Heap.get?_push_size _ rfl) hco
end
end Mi

set_option Elab.async false
set_option linter.all false
set_option maxRecDepth 100000
set_option maxHeartbeats 2000000
namespace Mi
open PySem PySem.Spec PyProof.Rows L2 LamX
/-! ### a comprehension whose parts may lean on what the def knows -/
section
variable {X : Cx}
theorem lcI {elt tg iter : Expr} {ifs : List Expr} {scope : Scope} {own : List (Str × Nat)} {pos : Pos} {wi : TI} {g : TG} {tt : L2.St → TT} {te : TE} (hc : X.calm = true) (hN : X.N.Nodup) (hi : PI X tg iter wi) (ok : BlkOk X.N X.env.scope scope own)
    (hg : ∀ (s : Shared) (H : Hp) (C : Addr) (cl : List (Str × Addr)) (fp : List Addr), PG (X.blk s H scope (compEnvC scope cl C X.env) fp) tg g)
    (ht : ∀ (s : Shared) (H : Hp) (C : Addr) (cl : List (Str × Addr)) (fp : List Addr) (pins : List (Addr × Obj)) (σ : L2.St), Inv X pins σ H s → (∀ b ∈ fp, FpOk X pins H b) → PTs (X.blk s H scope (compEnvC scope cl C X.env) fp) ifs (tt σ))
    (he : ∀ (s : Shared) (H : Hp) (C : Addr) (cl : List (Str × Addr)) (fp : List Addr), PE (X.blk s H scope (compEnvC scope cl C X.env) fp) elt te) (hs : ∀ x, foldedSetIterable iter X.env x = pure x := by intro _; rfl) :
    PE X (.ListComp elt [⟨tg, iter, ifs, 0⟩] scope pos) (fun σ H Q => tLc wi g (tt σ) te (own.map (·.2)) σ H Q) := by
  refine ⟨fun pins s σ H Q I h => ?_⟩
  rw [eval_ListComp]
  have hasF : ∀ y ∈ scope.names, y.2 = .free → ∃ c, X.env.cells.lookup y.1 = some c := fun y hy e => (ok.free y hy e).elim (fun k => I.ok.has _ (.inl k)) fun k => I.ok.has _ (.inr k)
  refine wpAny_comprehension_free (use := none) rfl hs (closure_ok hasF) ok.kind (fun y hy e => by rw [ok.uniq y hy, e]) (thn (hi.run pins s σ H _ I h) fun xv s1 hx => thn hx fun itv s2 h2 => ?_)
  obtain ⟨it, fp, tn, J, H2, rfl, I2, T, st2, f2, q⟩ := h2
  refine wpAny_newObj_type (newEnv_comp ?_) (by show 0 ≤ sizeLine; decide)
  have newD : H2 s2.heap.objs.size = none := I2.hok.fresh (Nat.le_refl _)
  obtain ⟨W, ⟨m0, w0⟩, turn⟩ := q s2.heap.objs.size newD
  generalize hD : s2.heap.objs.size = D at newD w0 turn ⊢
  obtain ⟨s3, hs3⟩ : ∃ s3 : Shared, s3 = { s2 with heap := s2.heap.push { cls := .type "list", data := .seq ([] : List Value).toArray } } := ⟨_, rfl⟩
  obtain ⟨H3, hH3⟩ : ∃ H3 : Hp, H3 = upd H2 D (.lst []) := ⟨_, rfl⟩
  rw [← hH3] at w0
  rw [← hs3]
  have heap3 : s3.heap = s2.heap.push { cls := .type "list", data := .seq ([] : List Value).toArray } := by rw [hs3]
  have I3 : Inv X pins σ H3 s3 := by
    rw [hs3, hH3]
    refine I2.laid (t' := s2.toks) (fun b o e => Heap.get?_push_of_some _ e) (Nat.le_of_eq hD) ⟨Nat.zero_le _, [], 0, .nil, ?_⟩
    rw [← hD]
    exact Heap.get?_push_size _ rfl
  have f3 : ∀ b ∈ fp, FpOk X pins H3 b ∧ b < s3.heap.objs.size := fun b hb => by
    obtain ⟨o, e, _⟩ := T.obj _ _ st2 b hb
    have hlt := Heap.lt_size e
    refine ⟨⟨?_, (f2 b hb).2⟩, by rw [heap3, Heap.size_push]; exact Nat.lt_succ_of_lt hlt⟩
    rw [hH3, upd_ne (by rw [← hD]; exact Nat.ne_of_lt hlt)]
    exact (f2 b hb).1
  have st3 : tn 0 s3.heap := T.keep _ _ _ st2 fun b _ o e => by rw [heap3]; exact Heap.get?_push_of_some _ e
  have I4 := block_start I3 ok hN f3
  have pg := hg s3 H3 s3.heap.objs.size (cellsFrom (s3.heap.objs.size + 1) scope.names (cloFrom X.env.cells scope.names [])) fp
  have pt := ht s3 H3 s3.heap.objs.size (cellsFrom (s3.heap.objs.size + 1) scope.names (cloFrom X.env.cells scope.names [])) fp pins σ I3 fun b hb => (f3 b hb).1
  have pe := he s3 H3 s3.heap.objs.size (cellsFrom (s3.heap.objs.size + 1) scope.names (cloFrom X.env.cells scope.names [])) fp
  show codeAny _ _ (.compStart (.ListComp elt [⟨tg, iter, ifs, 0⟩] scope pos) 0 (.ref it) (.ref D) (compEnvC scope (cellsFrom (s3.heap.objs.size + 1) scope.names (cloFrom X.env.cells scope.names [])) s3.heap.objs.size X.env))
    (compPost (model X.prog X.w) X.A X.xe none (EP X pins σ Q) (.ref D) s3.heap.objs.size) { s3 with heap := pushCells (s3.heap.push { cls := .type "dict", data := .dict #[] }) scope.names }
  have n3 : ∀ b ∈ fp, H3 b = none := fun b hb => (f3 b hb).1.1
  generalize hce : compEnvC scope (cellsFrom (s3.heap.objs.size + 1) scope.names (cloFrom X.env.cells scope.names [])) s3.heap.objs.size X.env = ce at I4 pg pt pe ⊢
  have cL : ce.locals = s3.heap.objs.size := by subst hce; rfl
  obtain ⟨s4, hs4⟩ : ∃ s4 : Shared, s4 = { s3 with heap := pushCells (s3.heap.push { cls := .type "dict", data := .dict #[] }) scope.names } := ⟨_, rfl⟩
  rw [← hs4] at I4 ⊢
  have st4 : tn 0 s4.heap := T.keep _ _ _ st3 fun b _ o e => by rw [hs4]; exact pushCells_keeps _ _ _ _ (Heap.get?_push_of_some _ e)
  have own4 : ∀ {σ' : L2.St} {H' : Hp} {s' : Shared}, Inv (X.blk s3 H3 scope ce fp) [] σ' H' s' → (∀ b ∈ fp, H' b = none) → ∀ b ∈ fp, FpOk (X.blk s3 H3 scope ce fp) [] H' b := fun {σ' H' s'} I' hn b hb =>
    ⟨hn b hb, (I'.ok.exf b hb).1, I'.ok.exfs b hb, .inl hb, (I'.ok.exf b hb).2, fun p hp => absurd (show p ∈ ([] : List (Addr × Obj)) ++ [] from hp) (by simp)⟩
  have loop : codeAny (model X.prog X.w) X.A (.compLoop (.ListComp elt [⟨tg, iter, ifs, 0⟩] scope pos) 0 (.ref it) (.ref D) ce) (compPost (model X.prog X.w) X.A X.xe none (EP X pins σ Q) (.ref D) s3.heap.objs.size) s4 := by
    refine compLoop_any (fun n s' => ∃ i H', Inv (X.blk s3 H3 scope ce fp) [] (wipe σ (own.map (·.2))) H' s' ∧ tn i s'.heap ∧ (∀ b ∈ fp, H' b = none) ∧ W i n H') ?_ m0 ⟨0, H3, I4, st4, n3, w0⟩
    rintro n s5 ⟨i, H5, I5, st5, n5, w5⟩
    rcases turn i n H5 w5 with ⟨stop, qq⟩ | ⟨go, Nx, hNx, step⟩
    · refine thnF (T.done (X.blk s3 H3 scope ce fp) rfl rfl rfl hc i [] s5 _ H5 (fun _ _ => False) I5 (own4 I5 n5) st5 stop) fun r s6 ⟨hr, I6⟩ => ?_
      subst hr
      have I7 : Inv X pins σ H5 s6 := I3.call' (ch := fp) I6.os I6.base I6.hok I6.bare fun b hb => ⟨(f3 b hb).1.2.2.2.1, (f3 b hb).1.2.1, (f3 b hb).1.2.2.2.2.1, (f3 b hb).1.2.2.2.2.2⟩
      have nC : H5 s3.heap.objs.size = none := by
        have z : H5 ce.locals = none := I6.free
        rw [cL] at z
        exact z
      obtain ⟨m, hn, _⟩ := I6.loc
      have hn : s6.heap.Ns ce.locals m := hn
      rw [cL] at hn
      obtain ⟨z0, z1, z2, z3, z4, z5⟩ := I3.fpOk (Nat.le_refl _) nC
      exact ⟨m, hn, fun h6 sb => ⟨.ref D, H5, I7.turned (t' := s6.toks) (fun b o hb e => (sb.2 b hb).trans e) z0 z1 z3 z4 z5, rfl, qq⟩⟩
    · refine thnF (T.item (X.blk s3 H3 scope ce fp) rfl rfl rfl hc i [] s5 _ H5 (fun _ _ => False) I5 (own4 I5 n5) st5 go) fun r s6 ⟨u, hr, h6⟩ => ?_
      subst hr
      refine thnF h6 fun _ s7 ⟨x, H7, I7, r7, y7, st7, n7⟩ => ?_
      refine thnF (pg.run _ s7 _ H7 x u _ (I7.pinned (own4 I7 n7) (T.obj _ _ st7)) r7 (step x H7 y7)) fun _ s8 ⟨σ8, H8, I8, hw8, q8⟩ => ?_
      refine thnF (pt.run _ s8 σ8 H8 _ I8 q8) fun b s9 ⟨H9, I9, q9⟩ => ?_
      have fin : ∀ {s' : Shared} {H' : Hp}, Inv (X.blk s3 H3 scope ce fp) ([] ++ pinsAt fp s7.heap) σ8 H' s' → Nx H' → ∃ m, m < n ∧ ∃ i H', Inv (X.blk s3 H3 scope ce fp) [] (wipe σ (own.map (·.2))) H' s' ∧ tn i s'.heap ∧ (∀ b ∈ fp, H' b = none) ∧ W i m H' := fun {s' H'} I' nx => by
        obtain ⟨m', hm, w'⟩ := hNx H' nx
        have pin' : ∀ b ∈ fp, ∀ o, s7.heap.get? b = some o → s'.heap.get? b = some o ∧ H' b = none := fun b hb o e =>
          let z := I'.pin (b, o) (List.mem_append_right _ (List.mem_append_right _ (mem_pinsAt hb e)))
          ⟨z.1, z.2.1⟩
        refine ⟨m', hm, i + 1, H', (I'.unpinned (pins := [])).weak (by rw [← hw8, wipe_length]) (fun j v e => ?_), T.keep _ _ _ st7 fun b hb o e => (pin' b hb o e).1, fun b hb => ?_, w'⟩
        · rw [← hw8] at e
          exact (wipe_some e).1
        · obtain ⟨o, e, _⟩ := T.obj _ _ st7 b hb
          exact (pin' b hb o e).2
      cases b with
      | false =>
        simp only [Bool.false_eq_true, if_false] at q9 ⊢
        exact fin I9 q9
      | true =>
        simp only [if_true] at q9 ⊢
        refine thnF (pe.run _ s9 σ8 H9 _ I9 q9) fun z s10 ⟨yv, H10, I10, r10, acc, hD10, hz10, nx⟩ => ?_
        exact app_ok (X := X.blk s3 H3 scope ce fp) I10 hD10 hz10 r10 fun s11 I11 => fin I11 nx
  exact codeAny_compStart_list loop (T.self X.A 0 _ _ _ st4 loop)
/-- f(x) in the comprehension, x a lambda that the def made: told once -/
def tTold (X : Cx) (k i : Nat) (σ0 : L2.St) (TT : (XK → Hp → VK → Prop) → Hp → VK → Prop) : TE := fun σ H Q => ∃ (f : Addr) (D : LamD) (φ : Heap → Prop), σ[i]? = some (some (.ref f)) ∧ LamOk X k D ∧ LamIs X D f H ∧ H f = some (.ext φ) ∧ TT (fun E H' Q' => D.t E σ0 H' Q') (rm H f) (fun v H' => H' f = none → Q v (upd H' f (.ext φ)))
theorem pe_toldV {s3 : Shared} {H3 : Hp} {scope : Scope} {ce : Env} {fp : List Addr} {pins3 : List (Addr × Obj)} {σ3 : L2.St} (I3 : Inv X pins3 σ3 H3 s3) (f3 : ∀ b ∈ fp, FpOk X pins3 H3 b)
    {TT : (XK → Hp → VK → Prop) → Hp → VK → Prop} {x a fv : Str} {g : Addr} {k i : Nat} {pg : Arguments} {bg : List Stmt} {sg : Scope} {dV kV doc pm cdv ct oc : Value} {an od : Option Addr} {osl : Array (Option Value)} {Ng : List Str} {p pf pos : Pos}
    (hg : Gl (X.blk s3 H3 scope ce fp) x) (hm : X.mg x = some (.ref g)) (hk : PySem.W.keepIn X.K (.ref g) = true)
    (lk : X.K.lookup g = some ⟨oc, od, .func (PySem.W.fnOf x x pg bg sg dV kV doc pm an cdv ct), osl⟩) (hcg : PySem.W.codeIn X.K cdv x = true) (hb : L2.Binds X.K (PySem.W.fnOf x x pg bg sg dV kV doc pm an cdv ct) [a] []) (Sg : FnScope Ng [a] sg) (hNg : Ng[0]? = some a) (hva : Vis sg a)
    (hG : GivesTo (X.blk s3 H3 scope ce fp) Ng x sg g cdv bg a (X.env.qual ++ "<lambda>") TT) (hr : Room (k + 2) X.A) (hpf : PE (X.blk s3 H3 scope ce fp) (.Name fv pf) (tVar i))
    (hdb : (x == ("__debug__" : Str)) = false := by decide) (hd : (a == ("__debug__" : Str)) = false := by decide) (hcd : (a == ("__classdict__" : Str)) = false := by decide)
    (hst : starEach [.Name fv pf] (X.blk s3 H3 scope ce fp).env = (false, eval (.Name fv pf) (X.blk s3 H3 scope ce fp).env) :: starEach [] (X.blk s3 H3 scope ce fp).env := by rfl) (hpl : (backTo pos (starEach [] (X.blk s3 H3 scope ce fp).env)).any (·.1) = false := by rfl) :
    PE (X.blk s3 H3 scope ce fp) (.Call (.Name x p) [.Name fv pf] [] pos) (tTold X k i σ3 TT) := by
  refine ⟨fun pins s σ H Q I h => ?_⟩
  obtain ⟨f, D, φ, hs, O, ⟨c', pmL, ctv, hf, hco⟩, hφ, hTT⟩ := h
  refine wpAny_Call_Name_kw (ld_glob I hg hm ?_ hdb)
  refine PySem.W.callWith_K (h₀ := X.base) I.ok.mod.kin hk ?_ hst hpl
  rw [hst]
  show wpAny _ _ (spliced ((false, eval (.Name fv pf) (X.blk s3 H3 scope ce fp).env) :: backTo pos (starEach [] (X.blk s3 H3 scope ce fp).env))) _ _ s
  refine Calls.spliced_cons (thn (hpf.run pins s σ H (fun v H1 => v = .ref f ∧ H1 = H) I ⟨.ref f, hs, rfl, rfl⟩) fun u s1 ⟨v, H1, I1, r1, ev, eH⟩ => ?_)
  subst ev eH
  obtain rfl : u = Value.ref f := r1
  refine Calls.spliced_nil ⟨I1.kIn, ?_⟩
  obtain ⟨hlam, _, _⟩ := I1.hok f _ hf
  have J := forget I1 hf
  have IX0 : Inv X pins3 σ3 H1 s1 := I3.call' (ch := fp) I1.os I1.base I1.hok I1.bare fun b hb => ⟨(f3 b hb).2.2.2.1, (f3 b hb).2.1, (f3 b hb).2.2.2.2.1, (f3 b hb).2.2.2.2.2⟩
  have IX := forget IX0 hf
  have hfr : f ∉ frs X.stack := fun z => by
    have e := IX0.stkFree f z
    rw [hf] at e
    cases e
  have hfr2 : f ∉ frs (X.blk s3 H3 scope ce fp).stack := fun z => by
    have e := I1.stkFree f z
    rw [hf] at e
    cases e
  have hne : c' ≠ f := fun z => by
    obtain ⟨⟨oc1, vs1, t1, q1, q2, q3⟩, _, _⟩ := I1.hok c' _ hco
    rw [z] at q1
    have q4 := hlam
    rw [q1] at q4
    rw [Option.some.inj q4] at q2
    cases q2
  have hco2 : rm H1 f c' = some (CodeO c' (X.env.qual ++ "<lambda>")) := by
    rw [rm_ne hne]
    exact hco
  have rc : codeAny (model X.prog X.w) X.A (.call (.ref g) ⟨[.ref f], []⟩) (CR C8.CX0 X.stack X.prog X.w (rm H1 f) s1 (fun v H' => H' f = none → Q v (upd H' f (.ext φ))) C8.E0) s1 := by
    refine run_ofS (N := Ng) (ps := [a]) (us := [.ref f]) (vs := [.ref f]) lk hcg Sg hr IX.env0 (hb s1 [.ref f] I1.kIn rfl) (.cons rfl .nil) rfl fun hr' => ?_
    obtain ⟨t', ht', hq'⟩ := hG f c' s1 (rm H1 f) (fun v H' => H' f = none → Q v (upd H' f (.ext φ))) (fun E H' Q' => D.t E σ3 H' Q') (fun W pn xe E p1 p2 tk hW => pe_act (i := 0) IX O.L hlam rm_same hfr (O.bind _ _ _ _ _) tk hW hr' (fun A outer s H hr2 => O.body A outer s H E f c' hr2) hNg hva hd hcd) hco2 hTT
    exact ⟨t', ht'.nox, hq'⟩
  refine wpAny_call (codeAny_mono rc fun r s2 hq => ?_)
  cases r with
  | error e => exact (show False from hq).elim
  | ok fl =>
    cases fl with
    | ret u =>
      obtain ⟨v, H', os, bare, un, hok, r, q⟩ := hq
      obtain ⟨hp, ⟨ob, hob⟩, st⟩ := I1.hok f _ hφ
      have hkeep : ∀ o, s1.heap.get? f = some o → s2.heap.get? f = some o := fun o e => un.keep f o e rm_same hfr2 (by simp)
      have hn' : H' f = none := un.free f ob hob rm_same (by simp)
      have cv : ∀ b, b ≠ f → H1 b = none → rm H1 f b = none := fun b hb e => by
        rw [rm_ne hb]
        exact e
      have nef : ∀ b, H1 b = none → b ≠ f := fun b e z => by
        rw [z, hφ] at e
        cases e
      refine I1.after ⟨v, upd H' f (.ext φ), os, bare, ?UN, fun b u e => ?_, r, q hn'⟩
      case UN =>
        have kd : ∀ b u, H1 b = some u → (∀ ψ, u ≠ .ext ψ) → b ≠ f := fun b u e n z => by
          rw [z, hφ] at e
          exact n φ (Option.some.inj e).symm
        refine ⟨fun b o e n hb hx => un.keep b o e (cv b (nef b n) n) hb hx, fun b o e n hb hx => un.slot b o e (cv b (nef b n) n) hb hx, fun b o e n hx => ?_, un.there, fun b xs e => ?_, fun b o u e => ?_, fun b ps e => ?_⟩
        · rw [upd_ne (nef b n)]
          exact un.free b o e (cv b (nef b n) n) hx
        · have hb := kd b _ e fun _ z => nomatch z
          rw [upd_ne hb]
          exact un.tups b xs (by rw [rm_ne hb]; exact e)
        · have hb := kd b _ e fun _ z => nomatch z
          rw [upd_ne hb]
          exact un.frzs b o u (by rw [rm_ne hb]; exact e)
        · have hb := kd b _ e fun _ z => nomatch z
          rw [upd_ne hb]
          exact un.tbls b ps (by rw [rm_ne hb]; exact e)
      · by_cases hb : b = f
        · rw [hb, upd_same] at e
          cases e
          rw [hb]
          exact ⟨st _ _ hp hkeep, ⟨ob, hkeep _ hob⟩, st⟩
        · rw [upd_ne hb] at e
          exact (hok b u e).stay (fun _ _ _ y => y) (fun d y => by rw [upd_ne (ne_of_none y hn')]; exact y) fun d xs y => by rw [upd_ne (ne_of_none y hn')]; exact y
    | next => exact False.elim hq
    | brk => exact False.elim hq
    | cont => exact False.elim hq
end
end Mi

set_option Elab.async false
set_option linter.all false
set_option maxRecDepth 100000
set_option maxHeartbeats 2000000
namespace Mi
open PySem PySem.Spec PyProof.Rows L2
/-- the table of the law's own code -/
class Lw where
  /-- tables in which lambdas are told, and the name that these bear -/
  L : Addr → Prop
  q : Addr → Str
/-- what stood in the heap stands as before; tables may have grown, but for the law's -/
structure Mv [Lw] (H H' : Hp) : Prop where
  x : LamX.ExtN H H'
  t : ∀ P, GxR.TabG H P → GxR.TabG H' P
  l : ∀ P ps, Lw.L P → H P = some (.tbl ps) → H' P = some (.tbl ps)
  k : ∀ b, H' b = none → H b = none
section
variable [Lw] {K : PySem.W.Frag} {H H' H1 H2 : Hp} {a b p d : Addr} {xs : List V} {u o : HO}
theorem Mv.refl (H : Hp) : Mv H H := ⟨LamX.ExtN.refl H, fun _ h => h, fun _ _ _ h => h, fun _ h => h⟩
theorem Mv.trans (m : Mv H H1) (n : Mv H1 H2) : Mv H H2 := ⟨m.x.trans n.x, fun P h => n.t P (m.t P h), fun P ps hP h => n.l P ps hP (m.l P ps hP h), fun b h => m.k b (n.k b h)⟩
theorem Mv.ext (e : ∀ b o, H b = some o → H' b = some o) : Mv H H' := ⟨LamX.ExtN.of e, fun P ⟨ps, h1, h2⟩ => ⟨ps, e _ _ h1, h2⟩, fun P ps _ h => e _ _ h, fun b h => by
  cases z : H b with
  | none => rfl
  | some u =>
    rw [e b u z] at h
    cases h⟩
theorem Mv.new (hp : H p = none) : Mv H (upd H p o) := .ext fun b u e => by
  rw [upd_ne (ne_of_none e hp)]
  exact e
/-- a thing that H does not know may change -/
theorem Mv.put (m : Mv H H') (hp : H p = none) : Mv H (upd H' p o) := by
  refine ⟨fun b u e n => ?_, fun P h => ?_, fun P ps hP h => ?_, fun b h => ?_⟩
  · rw [upd_ne (ne_of_none e hp)]
    exact m.x b u e n
  · obtain ⟨ps, h1, h2⟩ := m.t P h
    obtain ⟨_, h3, _⟩ := h
    exact ⟨ps, by rw [upd_ne (ne_of_none h3 hp)]; exact h1, h2⟩
  · rw [upd_ne (ne_of_none h hp)]
    exact m.l P ps hP h
  · by_cases z : b = p
    · rw [z]
      exact hp
    · rw [upd_ne z] at h
      exact m.k b h
theorem Mv.at (m : Mv H H') (h : H a = some u) (n : ∀ ps, u ≠ .tbl ps) : H' a = some u := m.x a u h n
theorem Mv.free (m : Mv H H') (h : H' p = none) : H p = none := m.k p h
theorem Mv.rd (m : Mv H H') (n : ∀ ps, u ≠ .tbl ps) (h : Rd H a u) : Rd H' a u := by
  rcases h with h | ⟨o, h⟩
  · exact .inl (m.x a u h n)
  · exact .inr ⟨o, m.x a _ h fun _ z => nomatch z⟩
theorem Mv.sqL (m : Mv H H') (h : SqL K H a xs) : SqL K H' a xs := by
  rcases h with h | h
  · exact .inl (m.rd (fun _ z => nomatch z) h)
  · exact .inr h
theorem Mv.sqT (m : Mv H H') (h : SqT K H a xs) : SqT K H' a xs := by
  rcases h with h | h
  · exact .inl (m.rd (fun _ z => nomatch z) h)
  · exact .inr h
theorem Mv.lst (m : Mv H H') (h : H a = some (.lst xs)) : H' a = some (.lst xs) := m.x _ _ h fun _ z => nomatch z
theorem Mv.tup (m : Mv H H') (h : H a = some (.tup xs)) : H' a = some (.tup xs) := m.x _ _ h fun _ z => nomatch z
theorem Mv.dK {kvs : List (Key × V)} (m : Mv H H') (h : H a = some (.dK kvs)) : H' a = some (.dK kvs) := m.x _ _ h fun _ z => nomatch z
theorem Mv.dT {kvs : List (List Key × V)} (m : Mv H H') (h : H a = some (.dT kvs)) : H' a = some (.dT kvs) := m.x _ _ h fun _ z => nomatch z
theorem Mv.ins {C dx : Addr} {fs : List (Str × V)} (m : Mv H H') (h : H a = some (.ins C dx fs)) : H' a = some (.ins C dx fs) := m.x _ _ h fun _ z => nomatch z
theorem Mv.exx {φ : Heap → Prop} (m : Mv H H') (h : H a = some (.ext φ)) : H' a = some (.ext φ) := m.x _ _ h fun _ z => nomatch z
theorem Mv.frz {o : Obj} (m : Mv H H') (h : H a = some (.frz o u)) : H' a = some (.frz o u) := m.x _ _ h fun _ z => nomatch z
mutual
theorem dp_ext {K : PySem.W.Frag} {H H' : Hp} (hl : ∀ a xs, SqL K H a xs → SqL K H' a xs) (ht : ∀ a xs, SqT K H a xs → SqT K H' a xs) : ∀ (d : PyData) (v : V), Dp K H v d → Dp K H' v d
  | .none, _, h => by cases h; exact .non
  | .bool b, _, h => by cases h; exact .bl b
  | .int i, _, h => by cases h; exact .int i
  | .str x, _, h => by cases h; exact .str x
  | .list ds, _, h => by
    cases h with
    | lst hs ha => exact .lst (hl _ _ hs) (dp_extAll hl ht ds _ ha)
  | .tuple ds, _, h => by
    cases h with
    | tup hs ha => exact .tup (ht _ _ hs) (dp_extAll hl ht ds _ ha)
  | .dict _, _, h => by cases h
theorem dp_extAll {K : PySem.W.Frag} {H H' : Hp} (hl : ∀ a xs, SqL K H a xs → SqL K H' a xs) (ht : ∀ a xs, SqT K H a xs → SqT K H' a xs) : ∀ (ds : List PyData) (vs : List V), DpAll K H vs ds → DpAll K H' vs ds
  | [], _, h => by cases h; exact .nil
  | d :: ds, _, h => by
    cases h with
    | cons h1 h2 => exact .cons (dp_ext hl ht d _ h1) (dp_extAll hl ht ds _ h2)
end
theorem Mv.dp {v : V} {e : PyData} (m : Mv H H') (h : Dp K H v e) : Dp K H' v e := dp_ext (fun _ _ => m.sqL) (fun _ _ => m.sqT) _ _ h
theorem Mv.dpAll {vs : List V} {es : List PyData} (m : Mv H H') (h : DpAll K H vs es) : DpAll K H' vs es := dp_extAll (fun _ _ => m.sqL) (fun _ _ => m.sqT) _ _ h
end
/-! ### a dict that is locked while it is walked -/
structure Lk (d : Addr) (kvs : List (Key × V)) (H H' : Hp) : Prop where
  h : H d = some (.dK kvs)
  e : ∃ od, H' = upd H d (.frz od (.dK kvs))
section
variable [Lw] {K : PySem.W.Frag} {H H' H1 H2 : Hp} {a b p d : Addr} {xs : List V} {u o : HO} {kvs : List (Key × V)}
theorem Lk.ne (m : Lk d kvs H H') (h : H a = some u) (n : ∀ k, u ≠ .dK k) : H' a = some u := by
  obtain ⟨od, rfl⟩ := m.e
  rw [upd_ne fun z => n kvs (Option.some.inj (h.symm.trans (by rw [z]; exact m.h)))]
  exact h
theorem Lk.rd (m : Lk d kvs H H') (h : Rd H a u) : Rd H' a u := by
  obtain ⟨od, rfl⟩ := m.e
  by_cases z : a = d
  · subst z
    rcases h with h | ⟨o, h⟩
    · rw [m.h] at h
      cases h
      exact .inr ⟨od, upd_same⟩
    · rw [m.h] at h
      cases h
  · rcases h with h | ⟨o, h⟩
    · exact .inl (by rw [upd_ne z]; exact h)
    · exact .inr ⟨o, by rw [upd_ne z]; exact h⟩
theorem Lk.sqL (m : Lk d kvs H H') (h : SqL K H a xs) : SqL K H' a xs := by
  rcases h with h | h
  · exact .inl (m.rd h)
  · exact .inr h
theorem Lk.sqT (m : Lk d kvs H H') (h : SqT K H a xs) : SqT K H' a xs := by
  rcases h with h | h
  · exact .inl (m.rd h)
  · exact .inr h
theorem Lk.lst (m : Lk d kvs H H') (h : H a = some (.lst xs)) : H' a = some (.lst xs) := m.ne h fun _ z => nomatch z
theorem Lk.tup (m : Lk d kvs H H') (h : H a = some (.tup xs)) : H' a = some (.tup xs) := m.ne h fun _ z => nomatch z
theorem Lk.ins {C dx : Addr} {fs : List (Str × V)} (m : Lk d kvs H H') (h : H a = some (.ins C dx fs)) : H' a = some (.ins C dx fs) := m.ne h fun _ z => nomatch z
theorem Lk.exx {φ : Heap → Prop} (m : Lk d kvs H H') (h : H a = some (.ext φ)) : H' a = some (.ext φ) := m.ne h fun _ z => nomatch z
theorem Lk.dp {v : V} {e : PyData} (m : Lk d kvs H H') (h : Dp K H v e) : Dp K H' v e := dp_ext (fun _ _ => m.sqL) (fun _ _ => m.sqT) _ _ h
theorem Lk.dpAll {vs : List V} {es : List PyData} (m : Lk d kvs H H') (h : DpAll K H vs es) : DpAll K H' vs es := dp_extAll (fun _ _ => m.sqL) (fun _ _ => m.sqT) _ _ h
theorem Lk.tab {P : Addr} (m : Lk d kvs H H') (h : GxR.TabG H P) : GxR.TabG H' P := by
  obtain ⟨ps, h1, h2⟩ := h
  exact ⟨ps, m.ne h1 (fun _ z => nomatch z), h2⟩
/-- unlocked again -/
theorem Lk.back (m : Lk d kvs H H1) (n : Mv H1 H2) : Mv H (upd H2 d (.dK kvs)) := by
  obtain ⟨od, rfl⟩ := m.e
  have c : ∀ b o, H b = some o → b ≠ d → upd H d (.frz od (.dK kvs)) b = some o := fun b o e z => by
    rw [upd_ne z]
    exact e
  refine ⟨fun b u e nt => ?_, fun P h => ?_, fun P ps hP h => ?_, fun b h => ?_⟩
  · by_cases z : b = d
    · subst z
      rw [m.h] at e
      cases e
      exact upd_same
    · rw [upd_ne z]
      exact n.x b u (c b u e z) nt
  · obtain ⟨ps, h1, h2⟩ := h
    have z : P ≠ d := fun z => by
      rw [z, m.h] at h1
      cases h1
    obtain ⟨ps', h3, h4⟩ := n.t P ⟨ps, c P _ h1 z, h2⟩
    exact ⟨ps', by rw [upd_ne z]; exact h3, h4⟩
  · have z : P ≠ d := fun z => by
      rw [z, m.h] at h
      cases h
    rw [upd_ne z]
    exact n.l P ps hP (c _ _ h z)
  · by_cases z : b = d
    · rw [z, upd_same] at h
      cases h
    · rw [upd_ne z] at h
      have q := n.k b h
      rw [upd_ne z] at q
      exact q
end
end Mi

set_option Elab.async false
set_option linter.all false
set_option maxRecDepth 100000
set_option maxHeartbeats 2000000
namespace Mi
open PySem PySem.Spec PyProof.Rows L2
/-! ### the steps of a reading -/
section
variable {K : PySem.W.Frag} {σ : L2.St} {H : Hp} {Q : VK} {ta tb tc te : TE} {t u : TS} {r : R2} {nx bk ct : L2.St → Hp → Prop} {rt : VK} {i j : Nat} {v x y : V} {c c' : TT} {QB : Bool → Hp → Prop} {QL : List V → Hp → Prop} {tA tA' : TA}
theorem s_seq (h : t ⟨u ⟨nx, rt, bk, ct⟩, rt, bk, ct⟩ σ H) : tSeq t u ⟨nx, rt, bk, ct⟩ σ H := h
theorem s_next (h : nx σ H) : tNext ⟨nx, rt, bk, ct⟩ σ H := h
theorem s_break (h : bk σ H) : tBreak ⟨nx, rt, bk, ct⟩ σ H := h
theorem s_cont (h : ct σ H) : tCont ⟨nx, rt, bk, ct⟩ σ H := h
theorem s_asg {g : TG} (h : te σ H fun x H1 => g x σ H1 nx) : tAsg te g ⟨nx, rt, bk, ct⟩ σ H := h
theorem s_gN {N : L2.St → Hp → Prop} (h : N (σ.set i (some v)) H) : gName i v σ H N := h
theorem s_drop (h : te σ H fun _ H1 => nx σ H1) : tDrop te ⟨nx, rt, bk, ct⟩ σ H := h
theorem s_ret (h : te σ H rt) : tRet te ⟨nx, rt, bk, ct⟩ σ H := h
theorem s_retN (h : rt .non H) : tRetN ⟨nx, rt, bk, ct⟩ σ H := h
theorem s_ifS (h : c σ H fun b H1 => if b = true then t ⟨nx, rt, bk, ct⟩ σ H1 else u ⟨nx, rt, bk, ct⟩ σ H1) : tIfS c t u ⟨nx, rt, bk, ct⟩ σ H := h
theorem s_par (h : tA σ H fun vs H1 => ∃ v w, vs = [v, w] ∧ nx ((σ.set i (some v)).set j (some w)) H1) : tPar i j tA ⟨nx, rt, bk, ct⟩ σ H := h
theorem s_par2 {w : V} {P : V → V → Prop} (h : P v w) : ∃ v' w', [v, w] = [v', w'] ∧ P v' w' := ⟨v, w, rfl, h⟩
theorem s_par3 {l : Nat} (h : tA σ H fun vs H1 => ∃ u v w, vs = [u, v, w] ∧ nx (((σ.set i (some u)).set j (some v)).set l (some w)) H1) : tPar3 i j l tA ⟨nx, rt, bk, ct⟩ σ H := h
theorem s_par33 {w : V} {P : V → V → V → Prop} (h : P x v w) : ∃ u' v' w', [x, v, w] = [u', v', w'] ∧ P u' v' w' := ⟨x, v, w, rfl, h⟩
theorem s_aug {ti : TIp} (h1 : σ[i]? = some (some x)) (h : te σ H fun y H1 => ti x y H1 fun z H2 => nx (σ.set i (some z)) H2) : tAug i te ti ⟨nx, rt, bk, ct⟩ σ H := ⟨x, h1, h⟩
theorem s_var (h1 : σ[i]? = some (some v)) (h : Q v H) : tVar i σ H Q := ⟨v, h1, h⟩
theorem s_c (h : Q v H) : tC v σ H Q := h
theorem s_op (h : ta σ H fun x H1 => tb σ H1 fun y H2 => r x y H2 Q) : tOp r ta tb σ H Q := h
theorem s_un {q : V → Hp → VK → Prop} (h : ta σ H fun x H1 => q x H1 Q) : tUn q ta σ H Q := h
theorem s_cb {q : List V → Hp → VK → Prop} (h : tA σ H fun vs H1 => q vs H1 Q) : tCB q tA σ H Q := h
theorem s_nil (h : QL [] H) : tNil σ H QL := h
theorem s_cons (h : ta σ H fun x H1 => tA σ H1 fun xs H2 => QL (x :: xs) H2) : tCons ta tA σ H QL := h
theorem s_test (h : te σ H fun x H' => ∃ k, x = .bl k ∧ QB k H') : tTest te σ H QB := h
theorem s_B (h : te σ H fun x H1 => ∃ c, x = .bl c ∧ QB c H1) : tB te σ H QB := h
theorem s_exbl {P : Bool → Prop} {b : Bool} (h : P b) : ∃ k, V.bl b = .bl k ∧ P k := ⟨b, rfl, h⟩
theorem s_and (h : c σ H fun b H1 => if b = true then c' σ H1 QB else QB false H1) : tAnd c c' σ H QB := h
theorem s_or (h : c σ H fun b H1 => if b = true then QB true H1 else c' σ H1 QB) : tOr c c' σ H QB := h
theorem s_not (h : c σ H fun b H1 => QB (!b) H1) : tNot c σ H QB := h
theorem s_andV (h : ta σ H fun x H1 => ∃ c, x = .bl c ∧ if c = true then tb σ H1 Q else Q (.bl false) H1) : tAndV ta tb σ H Q := h
theorem s_orV (h : ta σ H fun x H1 => ∃ c, x = .bl c ∧ if c = true then Q (.bl true) H1 else tb σ H1 Q) : tOrV ta tb σ H Q := h
theorem s_notV (h : ta σ H fun x H1 => ∃ c, x = .bl c ∧ Q (.bl (!c)) H1) : tNotV ta σ H Q := h
theorem s_ifE (h : c σ H fun b H1 => if b = true then ta σ H1 Q else tb σ H1 Q) : tIf c ta tb σ H Q := h
theorem s_isN (h : ta σ H fun x H1 => Q (.bl (decide (x = .non))) H1) : tIsN ta σ H Q := h
theorem s_chain {r r' : R2} (h : ta σ H fun x H1 => tb σ H1 fun y H2 => r x y H2 fun z H3 => ∃ k, z = .bl k ∧ (if k = true then tc σ H3 fun w' H4 => r' y w' H4 Q else Q (.bl false) H3)) : tChain r r' ta tb tc σ H Q := h
theorem s_call {sp : Sp} {dvs : List V} {E : XK} (h : tA σ H fun vs H1 => sp (vs ++ dvs) H1 Q E) : tCall sp dvs E tA σ H Q := h
theorem s_sl {q : V → Option Int → Option Int → Hp → VK → Prop} {tl th : TO} (h : te σ H fun x H1 => tl σ H1 fun l H2 => th σ H2 fun u H3 => q x l u H3 Q) : tSl q te tl th σ H Q := h
theorem s_noP {QO : Option Int → Hp → Prop} (h : QO none H) : tNoPart σ H QO := h
theorem s_part {QO : Option Int → Hp → Prop} (h : te σ H fun x H1 => ∃ i, x = .int i ∧ QO (some i) H1) : tPart te σ H QO := h
theorem s_exint {P : Int → Prop} {k : Int} (h : P k) : ∃ i, V.int k = .int i ∧ P i := ⟨k, rfl, h⟩
theorem s_bm {T : String} {q : V → List V → Hp → VK → Prop} (h : te σ H fun x H1 => tyV K T x H1 ∧ tA σ H1 fun xs H2 => q x xs H2 Q) : tBM K T q te tA σ H Q := h
theorem s_bm0 {T : String} {q : V → List V → Hp → VK → Prop} (h : te σ H fun x H1 => tyV K T x H1 ∧ q x [] H1 Q) : tBM0 K T q te σ H Q := h
theorem s_fld {a C dx : Addr} {fs : List (Str × V)} {f : Str} (h1 : H a = some (.ins C dx fs)) (h2 : Cls K C) (h3 : NoAttr K C f) (h4 : fs.lookup f = some v) (h : Q v H) : ∃ a' C dx fs v, V.ref a = .ref a' ∧ H a' = some (.ins C dx fs) ∧ Cls K C ∧ NoAttr K C f ∧ fs.lookup f = some v ∧ Q v H := ⟨a, C, dx, fs, v, rfl, h1, h2, h3, h4, h⟩
theorem s_fldE {f : Str} (h : ta σ H fun x H1 => ∃ a C dx fs v, x = .ref a ∧ H1 a = some (.ins C dx fs) ∧ Cls K C ∧ NoAttr K C f ∧ fs.lookup f = some v ∧ Q v H1) : tFld K ta f σ H Q := h
theorem s_gTup {t : TGs} {n : Nat} {a : Addr} {xs : List V} {N : L2.St → Hp → Prop} (h1 : SqT K H a xs) (h2 : xs.length = n) (h : t xs σ H N) : gTup K n t (.ref a) σ H N := ⟨a, xs, rfl, h1, h2, h⟩
theorem s_gCons {t : TG} {u : TGs} {r : List V} {N : L2.St → Hp → Prop} (h : t v σ H fun σ' H' => u r σ' H' N) : gCons t u (v :: r) σ H N := ⟨v, r, rfl, h⟩
theorem s_gNil {N : L2.St → Hp → Prop} (h : N σ H) : gNil [] σ H N := ⟨rfl, h⟩
-- by values
theorem s_I0 {g : Int → Int → V} {a b : Int} (h : Q (g a b) H) : rI0 g (.int a) (.int b) H Q := ⟨a, b, rfl, rfl, h⟩
theorem s_I {C : Int → Int → Prop} {g : Int → Int → V} {a b : Int} (hc : C a b) (h : Q (g a b) H) : rI C g (.int a) (.int b) H Q := ⟨a, b, rfl, rfl, hc, h⟩
theorem s_U {g : Int → V} {a : Int} (h : Q (g a) H) : rU g (.int a) H Q := ⟨a, rfl, h⟩
theorem s_Eq (hs : scal x y = true) (h : Q (.bl (decide (x = y))) H) : rEq x y H Q := ⟨hs, h⟩
theorem s_Ne (hs : scal x y = true) (h : Q (.bl (!decide (x = y))) H) : rNe x y H Q := ⟨hs, h⟩
theorem s_ixL {p : Addr} {xs : List V} {k : Int} (h1 : SqL K H p xs) (h2 : atI xs k = some v) (h : Q v H) : rIxL K (.ref p) (.int k) H Q := ⟨p, xs, k, v, rfl, rfl, h1, h2, h⟩
theorem s_ixT {p : Addr} {xs : List V} {k : Int} (h1 : SqT K H p xs) (h2 : atI xs k = some v) (h : Q v H) : rIxT K (.ref p) (.int k) H Q := ⟨p, xs, k, v, rfl, rfl, h1, h2, h⟩
theorem s_lenL {p : Addr} {xs : List V} (h1 : SqL K H p xs) (h : Q (.int (xs.length : Nat)) H) : rLen K [.ref p] H Q := ⟨.ref p, xs.length, rfl, .inl ⟨_, h1, rfl⟩, h⟩
end
section
variable [Lw] {σ : L2.St} {H : Hp} {Q : VK} {xs : List V} {o : HO} {tA : TA}
theorem s_new (h : ∀ p H1, H p = none → Mv H H1 → H1 p = some o → Q (.ref p) H1) : ∀ p, H p = none → Q (.ref p) (upd H p o) := fun p hp => h p _ hp (.new hp) upd_same
theorem s_mk (hz : xs.length ≤ sizeLine) (h : ∀ p H1, H p = none → Mv H H1 → H1 p = some o → Q (.ref p) H1) : xs.length ≤ sizeLine ∧ ∀ p, H p = none → Q (.ref p) (upd H p o) := ⟨hz, s_new h⟩
theorem s_mk0 {A : Prop} (hz : xs.length ≤ sizeLine) (h : A) : xs.length ≤ sizeLine ∧ A := ⟨hz, h⟩
theorem s_all {A : Addr → Prop} (h : ∀ p, H p = none → A p) : ∀ p, H p = none → A p := h
theorem gen_upd {H H1 : Hp} {p : Addr} {o : HO} (hg : upd H p o = H1) (hn : H p = none) : Mv H H1 ∧ H1 p = some o := by
  subst hg
  exact ⟨.new hn, upd_same⟩
theorem s_tup {t : TA} (h : t σ H fun xs H1 => xs.length ≤ sizeLine ∧ ∀ p, H1 p = none → Q (.ref p) (upd H1 p (.tup xs))) : tTup t σ H Q := h
theorem s_lst {t : TA} (h : t σ H fun xs H1 => xs.length ≤ sizeLine ∧ ∀ p, H1 p = none → Q (.ref p) (upd H1 p (.lst xs))) : tLst t σ H Q := h
end
theorem ifT {c : Bool} {A B : Prop} (hc : c = true) (h : A) : if c = true then A else B := by
  rw [if_pos hc]
  exact h
theorem ifF {c : Bool} {A B : Prop} (hc : c = false) (h : B) : if c = true then A else B := by
  rw [hc, if_neg Bool.false_ne_true]
  exact h
/-- a def's rule, its code object known -/
theorem FunD.okC {P : Program} {w : World} {K : PySem.W.Frag} {mg : Str → Option Value} {base : Heap} {x qual : Str} {params : Arguments} {body : List Stmt} {scope : Scope} {dvs : List V} {kws : List (Str × V)} {fd : FuncData} {p : Str × Option Str} {CX : CXT} {N ps : List Str} {k : Nat} {sp : Sp}
    (F : FunD K x qual params body scope dvs kws (He.fAd K p) fd) (S : FnScope N ps scope) (len : ∀ vs H Q E, sp vs H Q E → vs.length = ps.length)
    (hbody : ∀ (A : Around) (outer : List Env) (s : Shared) (H : Hp) (vs : List V) (Q : VK) (E : XK), Room k (A.deeper (envOfC qual scope s.heap.objs.size (He.fAd K p) (.ref (He.codeOf K p)))) → sp vs H Q E →
      ∃ t, PSs (cxOf CX P w K mg base N qual scope (He.fAd K p) (.ref (He.codeOf K p)) A outer s H E) body t ∧ t { nx := fun _ H' => Q .non H', rt := Q } (L2.start N vs) H) : FnOk P w K mg base CX (k + 1) (He.fAd K p) fd ps sp := by
  obtain ⟨oc, od, dV, kV, doc, pm, an, cdv, ct, osl, rfl, lk, hcd, _, _⟩ := F.ex
  obtain ⟨c, rfl⟩ := He.codeIn_ref hcd
  have e : He.codeOf K p = c := He.codeOf_eq lk rfl
  rw [e] at hbody
  exact fn_of lk hcd S len fun A outer s H vs Q E hr hsp => hbody A outer s H vs Q E hr hsp
end Mi

set_option Elab.async false
set_option linter.all false
set_option maxRecDepth 100000
set_option maxHeartbeats 2000000
namespace Mi
open PySem PySem.Spec PyProof.Rows L2
/-! ### what the head tells, by names -/
structure Sy (fa : List He.Fa) (fn : List He.DefD) (tf : List He.Defn) (K : PySem.W.Frag) (mg : Str → Option Value) (base : Heap) : Prop where
  f : ∀ x ∈ fa, x.ok K = true
  d : ∀ x ∈ fn, ∃ fd, FunD K x.name x.qual x.params x.body x.scope (x.dvs K) (x.kws K) (He.fAd K x.at_) fd
  X : ∃ h : Heap, K.In h ∧ h.Ns mainGlobals mg
  tb : ∀ p ∈ tf, LamX.TabB base mg (He.cT K p).1 (He.cT K p).2
def hasF (q : He.Fa → Bool) (fa : List He.Fa) : Bool := fa.any q
theorem hasF_mem {q : He.Fa → Bool} {fa : List He.Fa} (h : hasF q fa = true) : ∃ x ∈ fa, q x = true := by
  obtain ⟨x, h1, h2⟩ := List.any_eq_true.mp h
  exact ⟨x, h1, h2⟩
def qGlo (x : Str) : He.Fa → Bool | .glo y => decide (y = x) | _ => false
def qFree (x : Str) : He.Fa → Bool | .free y => decide (y = x) | _ => false
def qInt (x : Str) (i : Int) : He.Fa → Bool | .int y j => decide (y = x) && decide (j = i) | _ => false
def qCls (x : Str) : He.Fa → Bool | .cls y => decide (y = x) | _ => false
def qNoat (x f : Str) : He.Fa → Bool | .noat y g => decide (y = x) && decide (g = f) | _ => false
def qMeth (x f : Str) : He.Fa → Bool | .meth y g => decide (y = x) && decide (g = f) | _ => false
def qMkr (x : Str) : He.Fa → Bool | .mkr y => decide (y = x) | _ => false
def qExc (x : Str) : He.Fa → Bool | .exc y => decide (y = x) | _ => false
def qExm (x z : Str) (b : Bool) : He.Fa → Bool | .exm y u c => decide (y = x) && (decide (u = z) && decide (c = b)) | _ => false
def qKeep (x : Str) : He.Fa → Bool | .keep y => decide (y = x) | _ => false
section
variable {fa : List He.Fa} {fn : List He.DefD} {tf : List He.Defn} {K : PySem.W.Frag} {mg : Str → Option Value} {base : Heap}
theorem Sy.glo (T : Sy fa fn tf K mg base) (x : Str) (hm : hasF (qGlo x) fa = true := by decide +kernel) : mg x = some (.ref (He.ga K x)) := by
  obtain ⟨f, h1, h2⟩ := hasF_mem hm
  obtain ⟨h, a, b⟩ := T.X
  cases f <;> first | (cases h2; done) | (cases (of_decide_eq_true h2 : _ = x); exact He.glo_ok a b (T.f _ h1))
theorem Sy.free (T : Sy fa fn tf K mg base) (x : Str) (hm : hasF (qFree x) fa = true := by decide +kernel) : mg x = none := by
  obtain ⟨f, h1, h2⟩ := hasF_mem hm
  obtain ⟨h, a, b⟩ := T.X
  cases f <;> first | (cases h2; done) | (cases (of_decide_eq_true h2 : _ = x); exact He.free_ok a b (T.f _ h1))
theorem Sy.int (T : Sy fa fn tf K mg base) (x : Str) (i : Int) (hm : hasF (qInt x i) fa = true := by decide +kernel) : ∃ t, mg x = some (.int i t) := by
  obtain ⟨f, h1, h2⟩ := hasF_mem hm
  obtain ⟨h, a, b⟩ := T.X
  cases f <;> first | (cases h2; done) | (obtain ⟨e1, e2⟩ := He.ba h2; cases (of_decide_eq_true e1 : _ = x); cases (of_decide_eq_true e2 : _ = i); exact He.int_ok a b (T.f _ h1))
theorem Sy.cls (T : Sy fa fn tf K mg base) (x : Str) (hm : hasF (qCls x) fa = true := by decide +kernel) : Cls K (He.ga K x) := by
  obtain ⟨f, h1, h2⟩ := hasF_mem hm
  cases f <;> first | (cases h2; done) | (cases (of_decide_eq_true h2 : _ = x); exact He.cls_ok (T.f _ h1))
theorem Sy.noat (T : Sy fa fn tf K mg base) (x f : Str) (hm : hasF (qNoat x f) fa = true := by decide +kernel) : NoAttr K (He.ga K x) f := by
  obtain ⟨f', h1, h2⟩ := hasF_mem hm
  cases f' <;> first | (cases h2; done) | (obtain ⟨e1, e2⟩ := He.ba h2; cases (of_decide_eq_true e1 : _ = x); cases (of_decide_eq_true e2 : _ = f); exact He.noat_ok (T.f _ h1))
theorem Sy.meth (T : Sy fa fn tf K mg base) (x m : Str) (hm : hasF (qMeth x m) fa = true := by decide +kernel) : Meth K (He.ga K x) m (He.ma K (He.ga K x) m) := by
  obtain ⟨f', h1, h2⟩ := hasF_mem hm
  cases f' <;> first | (cases h2; done) | (obtain ⟨e1, e2⟩ := He.ba h2; cases (of_decide_eq_true e1 : _ = x); cases (of_decide_eq_true e2 : _ = m); exact He.meth_ok (T.f _ h1))
theorem Sy.mkr (T : Sy fa fn tf K mg base) (x : Str) (hm : hasF (qMkr x) fa = true := by decide +kernel) : Mk K (He.ga K x) (He.ma K (He.ga K x) "__init__") := by
  obtain ⟨f, h1, h2⟩ := hasF_mem hm
  cases f <;> first | (cases h2; done) | (cases (of_decide_eq_true h2 : _ = x); exact He.mkr_ok (T.f _ h1))
theorem Sy.exc (T : Sy fa fn tf K mg base) (x : Str) (hm : hasF (qExc x) fa = true := by decide +kernel) : PySem.W.excIn K (He.ga K x) He.veBase "ValueError.__new__" = true ∧ PySem.W.keepIn K (.ref (He.ga K x)) = true ∧ PySem.W.subIn K (.ref (He.ga K x)) (.type "BaseException") = some true ∧ PySem.W.typeIn K (.ref (He.ga K x)) = some (.type "type") := by
  obtain ⟨f, h1, h2⟩ := hasF_mem hm
  cases f <;> first | (cases h2; done) | (cases (of_decide_eq_true h2 : _ = x); exact He.exc_ok (T.f _ h1))
theorem Sy.excX (T : Sy fa fn tf K mg base) (x : Str) (hm : hasF (qExc x) fa = true := by decide +kernel) : PySem.W.excIn K (He.ga K x) He.veBase "ValueError.__new__" = true := (T.exc x hm).1
theorem Sy.excK (T : Sy fa fn tf K mg base) (x : Str) (hm : hasF (qExc x) fa = true := by decide +kernel) : PySem.W.keepIn K (.ref (He.ga K x)) = true := (T.exc x hm).2.1
theorem Sy.excB (T : Sy fa fn tf K mg base) (x : Str) (hm : hasF (qExc x) fa = true := by decide +kernel) : PySem.W.subIn K (.ref (He.ga K x)) (.type "BaseException") = some true := (T.exc x hm).2.2.1
theorem Sy.excT (T : Sy fa fn tf K mg base) (x : Str) (hm : hasF (qExc x) fa = true := by decide +kernel) : PySem.W.typeIn K (.ref (He.ga K x)) = some (.type "type") := (T.exc x hm).2.2.2
theorem Sy.exm (T : Sy fa fn tf K mg base) (x y : Str) (b : Bool) (hm : hasF (qExm x y b) fa = true := by decide +kernel) : PySem.W.exmOne K (.ref (He.ga K x)) (.ref (He.ga K y)) = some b := by
  obtain ⟨f, h1, h2⟩ := hasF_mem hm
  cases f <;> first | (cases h2; done) | (obtain ⟨e1, e2⟩ := He.ba h2; obtain ⟨e3, e4⟩ := He.ba e2; cases (of_decide_eq_true e1 : _ = x); cases (of_decide_eq_true e3 : _ = y); cases (of_decide_eq_true e4 : _ = b); exact He.exm_ok (T.f _ h1))
theorem Sy.tabB (T : Sy fa fn tf K mg base) (p : He.Defn) (hm : decide (p ∈ tf) = true := by decide +kernel) : LamX.TabB base mg (He.cT K p).1 (He.cT K p).2 := T.tb p (of_decide_eq_true hm)
end
/-! ### calls of known defs -/
structure Cal (P : Program) (w : World) (K : PySem.W.Frag) (mg : Str → Option Value) (base : Heap) (CX : CXT) (k : Nat) (x : Str) (f : Addr) (fd : FuncData) (ps : List Str) (sp : Sp) : Prop where
  ok : FnOk P w K mg base CX k f fd ps sp
  m : mg x = some (.ref f)
  kp : PySem.W.keepIn K (.ref f) = true
  b : Binds K fd ps []
section
variable {X : Cx} {CX : CXT} {k : Nat} {f : Addr} {fd : FuncData} {ps : List Str} {sp : Sp} {E : XK} {x : Str} {p pos : Pos} {e : Expr} {es : List Expr} {t : TA}
theorem pe_cal (C : Cal X.prog X.w X.K X.mg X.base CX k x f fd ps sp) (hr : Room k X.A) (hg : Gl X x) (hx : Passes CX X E) (ha : PA X (e :: es) t) (hdb : (x == ("__debug__" : Str)) = false := by decide) (he : starEach (e :: es) X.env = (false, eval e X.env) :: starEach es X.env := by rfl) (hpl : (backTo pos (starEach es X.env)).any (·.1) = false := by rfl) :
    PE X (.Call (.Name x p) (e :: es) [] pos) (tCall sp [] E t) := pe_call C.ok hr hg C.m C.kp C.b .nil hx ha hdb he hpl
theorem pe_cal0 (C : Cal X.prog X.w X.K X.mg X.base CX k x f fd ps sp) (hr : Room k X.A) (hg : Gl X x) (hx : Passes CX X E) (hdb : (x == ("__debug__" : Str)) = false := by decide) :
    PE X (.Call (.Name x p) [] [] pos) (tCall sp [] E tNil) := pe_call0 C.ok hr hg C.m C.kp C.b .nil hx hdb
end
theorem Room.u1 {k : Nat} {A : Around} (r : Room k A) : A.units + 1 < cLine := by have := r.un; omega
theorem boot_max' : bootBuiltins "max" = some (.builtin "max") := by decide +kernel
theorem boot_min' : bootBuiltins "min" = some (.builtin "min") := by decide +kernel
/-- a method's statement -/
def clsBody : Stmt → List Stmt
  | .ClassDef _ _ _ b .. => b
  | _ => []
end Mi

set_option Elab.async false
set_option linter.all false
set_option maxRecDepth 100000
set_option maxHeartbeats 2000000
namespace Mi
open PySem PySem.Spec PyProof.Rows L2
/-! ### what is walked: a known row of values -/
abbrev Ov (J : It) (xs : List V) (G : Hp → Prop) : Prop := Walk J xs.length G (YAt xs)
def rangeL (lo : Int) (n : Nat) : List V := (List.range n).map fun i => .int (lo + (i : Nat))
theorem rangeL_length {lo : Int} {n : Nat} : (rangeL lo n).length = n := by simp [rangeL]
theorem rangeL_at {lo : Int} {n i : Nat} (h : i < n) : (rangeL lo n)[i]? = some (.int (lo + (i : Nat))) := by simp [rangeL, h]
theorem rangeL_get {lo : Int} {n i : Nat} {y : V} (h : (rangeL lo n)[i]? = some y) : i < n ∧ y = .int (lo + (i : Nat)) := by
  have hi : i < n := by
    have := (List.getElem?_eq_some_iff.mp h).1
    rw [rangeL_length] at this
    exact this
  rw [rangeL_at hi] at h
  exact ⟨hi, (Option.some.inj h).symm⟩
theorem ov_range {lo : Int} {n : Nat} : Ov (Itr lo n) (rangeL lo n) (fun _ => True) :=
  ⟨fun i _ hi _ => by rw [rangeL_length] at hi; exact hi, fun _ _ => by rw [rangeL_length]; exact Nat.le_refl _, fun i H x H' hi _ y => by
    rw [rangeL_length] at hi
    obtain ⟨h1, h2⟩ := y
    exact ⟨h1, by rw [rangeL_at hi, h2]⟩⟩
theorem ov_keys {d : Addr} {o : Obj} {kvs : List (Key × V)} : Ov (Itk d o kvs) (kvs.map fun kv => kV kv.1) (fun H => H d = some (.frz o (.dK kvs))) :=
  ⟨fun i _ hi q => ⟨q, by simpa using hi⟩, fun _ q => ⟨q, by simp⟩, fun i H x H' hi _ y => by
    obtain ⟨h1, k, v, h2, h3⟩ := y
    exact ⟨h1, by rw [List.getElem?_map, h2, h3]; rfl⟩⟩
def PiL (K : PySem.W.Frag) (x : V) (H : Hp) (R : It → Hp → Prop) : Prop := ∃ a, x = .ref a ∧ (∃ xs, SqL K H a xs) ∧ R (Itl K a) H
def PiT (K : PySem.W.Frag) (x : V) (H : Hp) (R : It → Hp → Prop) : Prop := ∃ a, x = .ref a ∧ (∃ xs, SqT K H a xs) ∧ R (Itt K a) H
def PiR1 (vs : List V) (H : Hp) (R : It → Hp → Prop) : Prop := ∃ j : Int, vs = [.int j] ∧ -(2 ^ 62) ≤ j ∧ j < 2 ^ 62 ∧ R (Itr 0 j.toNat) H
def PiR2 (vs : List V) (H : Hp) (R : It → Hp → Prop) : Prop := ∃ i j : Int, vs = [.int i, .int j] ∧ (-(2 ^ 62) ≤ i ∧ i < 2 ^ 62 ∧ -(2 ^ 62) ≤ j ∧ j < 2 ^ 62) ∧ R (Itr i (j - i).toNat) H
def PiK (x : V) (H : Hp) (R : It → Hp → Prop) : Prop := ∃ d o, x = .ref d ∧ ((∃ kvs, H d = some (.frz o (.dK kvs)) ∧ R (Itk d o kvs) H) ∨ ∃ kvs, H d = some (.frz o (.dT kvs)) ∧ R (Itkt d o kvs) H)
/-- what a for asks behind its iterator; a comprehension; a generator -/
def ForE (J : It) (g : TG) (tb : TS) (D : Ends) (σ : L2.St) (H1 : Hp) : Prop := ∃ W : Nat → Nat → L2.St → Hp → Prop, (∃ m, W 0 m σ H1) ∧ ∀ i m σ H, W i m σ H →
  (J.stop i H ∧ D.nx σ H) ∨ (J.go i H ∧ ∃ N : L2.St → Hp → Prop, (∀ σ' H', N σ' H' → ∃ m', m' < m ∧ W (i + 1) m' σ' H') ∧ ∀ x H', J.yld i H x H' → g x σ H' fun σ2 H2 => tb { D with nx := N, ct := N, bk := D.nx } σ2 H2)
def LcE (J : It) (g : TG) (tt : TT) (te : TE) (vs : List Nat) (σ : L2.St) (H1 : Hp) (Q : VK) : Prop := ∀ D, H1 D = none → ∃ W : Nat → Nat → Hp → Prop, (∃ m, W 0 m (upd H1 D (.lst []))) ∧ ∀ i m H, W i m H →
  (J.stop i H ∧ Q (.ref D) H) ∨ (J.go i H ∧ ∃ Nx : Hp → Prop, (∀ H', Nx H' → ∃ m', m' < m ∧ W (i + 1) m' H') ∧ ∀ x H', J.yld i H x H' → g x (wipe σ vs) H' fun σ2 H2 => wipe σ2 vs = wipe σ vs ∧ tt σ2 H2 fun b H3 =>
    if b = true then te σ2 H3 fun y H4 => ∃ acc, H4 D = some (.lst acc) ∧ acc.length < sizeLine ∧ Nx (upd H4 D (.lst (acc ++ [y]))) else Nx H3)
def DcE (J : It) (g : TG) (tt : TT) (tk tv : TE) (vs : List Nat) (σ : L2.St) (H1 : Hp) (Q : VK) : Prop := ∀ D, H1 D = none → ∃ W : Nat → Nat → Hp → Prop, (∃ m, W 0 m (upd H1 D (.dK []))) ∧ ∀ i m H, W i m H →
  (J.stop i H ∧ Q (.ref D) H) ∨ (J.go i H ∧ ∃ Nx : Hp → Prop, (∀ H', Nx H' → ∃ m', m' < m ∧ W (i + 1) m' H') ∧ ∀ x H', J.yld i H x H' → g x (wipe σ vs) H' fun σ2 H2 => wipe σ2 vs = wipe σ vs ∧ tt σ2 H2 fun b H3 =>
    if b = true then tk σ2 H3 fun y H4 => tv σ2 H4 fun z H5 => ∃ kvs k, y = kV k ∧ H5 D = some (.dK kvs) ∧ kvs.length < sizeLine ∧ Nx (upd H5 D (.dK (putK kvs k z))) else Nx H3)
def GnE {α : Type} (P : Addr) (J : It) (g : TG) (tt : TT) (te : TE) (vs : List Nat) (a0 : α) (take : VK → α → V → Hp → (α → Hp → Prop) → Prop) (fin : VK → α → Hp → Prop) (σ : L2.St) (H1 : Hp) (Q : VK) : Prop :=
  GxR.TabG H1 P ∧ ∀ H2, GxR.Tabbed P H1 H2 → ∃ W : Nat → Nat → α → Hp → Prop, (∃ m, W 0 m a0 H2) ∧ Turns (take Q) (fin Q) J g tt te (wipe σ vs) vs W
section
variable {K : PySem.W.Frag} {σ : L2.St} {H : Hp} {te tk tv : TE} {tA : TA} {R : It → Hp → Prop} {a d : Addr} {xs : List V} {wi : TI} {g : TG} {tt : TT} {tb : TS} {nx bk ct : L2.St → Hp → Prop} {rt Q : VK} {vs : List Nat}
theorem s_iL (h : te σ H fun x H1 => PiL K x H1 R) : iList K te σ H R := h
theorem s_iT (h : te σ H fun x H1 => PiT K x H1 R) : iTup K te σ H R := h
theorem s_iR1 (h : tA σ H fun vs H1 => PiR1 vs H1 R) : iRng1 tA σ H R := h
theorem s_iR2 (h : tA σ H fun vs H1 => PiR2 vs H1 R) : iRng2 tA σ H R := h
theorem s_iK (h : te σ H fun x H1 => PiK x H1 R) : iKeys te σ H R := h
theorem s_iL2 (h1 : SqL K H a xs) (h : ∀ J, Ov J xs (fun H => SqL K H a xs) → R J H) : PiL K (.ref a) H R := ⟨a, rfl, ⟨xs, h1⟩, h _ walk_list⟩
theorem s_iT2 (h1 : SqT K H a xs) (h : ∀ J, Ov J xs (fun H => SqT K H a xs) → R J H) : PiT K (.ref a) H R := ⟨a, rfl, ⟨xs, h1⟩, h _ walk_tup⟩
theorem s_iR12 {j : Int} (h1 : -(2 ^ 62) ≤ j ∧ j < 2 ^ 62) (h : ∀ J, Ov J (rangeL 0 j.toNat) (fun _ => True) → R J H) : PiR1 [.int j] H R := ⟨j, rfl, h1.1, h1.2, h _ ov_range⟩
theorem s_iR22 {i j : Int} (h1 : -(2 ^ 62) ≤ i ∧ i < 2 ^ 62 ∧ -(2 ^ 62) ≤ j ∧ j < 2 ^ 62) (h : ∀ J, Ov J (rangeL i (j - i).toNat) (fun _ => True) → R J H) : PiR2 [.int i, .int j] H R := ⟨i, j, rfl, h1, h _ ov_range⟩
theorem s_iK2 {o : Obj} {kvs : List (Key × V)} (h1 : H d = some (.frz o (.dK kvs))) (h : ∀ J, Ov J (kvs.map fun kv => kV kv.1) (fun H => H d = some (.frz o (.dK kvs))) → R J H) : PiK (.ref d) H R := ⟨d, o, rfl, .inl ⟨kvs, h1, h _ ov_keys⟩⟩
theorem s_for (h : wi σ H fun J H1 => ForE J g tb ⟨nx, rt, bk, ct⟩ σ H1) : tFor wi g tb ⟨nx, rt, bk, ct⟩ σ H := h
theorem s_lc (h : wi σ H fun J H1 => LcE J g tt te vs σ H1 Q) : tLc wi g tt te vs σ H Q := h
theorem s_dc (h : wi σ H fun J H1 => DcE J g tt tk tv vs σ H1 Q) : tDc wi g tt tk tv vs σ H Q := h
theorem s_gn {α : Type} {P : Addr} {a0 : α} {take : VK → α → V → Hp → (α → Hp → Prop) → Prop} {fin : VK → α → Hp → Prop} (h : wi σ H fun J H1 => GnE P J g tt te vs a0 take fin σ H1 Q) : tGen P wi g tt te vs a0 take fin σ H Q := h
theorem s_yes {QB : Bool → Hp → Prop} (h : QB true H) : tYes σ H QB := h
theorem s_lockK {kvs : List (Key × V)} (hd : H d = some (.dK kvs)) (h : ∀ od H1, Lk d kvs H H1 → H1 d = some (.frz od (.dK kvs)) → tb ⟨fun σ' H' => H' d = some (.frz od (.dK kvs)) ∧ nx σ' (upd H' d (.dK kvs)), fun v H' => H' d = some (.frz od (.dK kvs)) ∧ rt v (upd H' d (.dK kvs)), fun σ' H' => H' d = some (.frz od (.dK kvs)) ∧ bk σ' (upd H' d (.dK kvs)), fun σ' H' => H' d = some (.frz od (.dK kvs)) ∧ ct σ' (upd H' d (.dK kvs))⟩ σ H1) :
    tLock tb ⟨nx, rt, bk, ct⟩ σ H := ⟨d, _, hd, True.intro, fun od => h od _ ⟨hd, od, rfl⟩ upd_same⟩
theorem s_lockE {kvs : List (Key × V)} (hd : H d = some (.dK kvs)) (h : ∀ od H1, Lk d kvs H H1 → H1 d = some (.frz od (.dK kvs)) → te σ H1 fun v H' => H' d = some (.frz od (.dK kvs)) ∧ Q v (upd H' d (.dK kvs))) :
    tLockE te σ H Q := ⟨d, _, hd, True.intro, fun od => h od _ ⟨hd, od, rfl⟩ upd_same⟩
end
/-! ### the loops by an invariant -/
section
variable [Lw] {J : It} {xs : List V} {G : Hp → Prop} {g : TG} {tt : TT} {te tk tv : TE} {tb : TS} {nx bk ct : L2.St → Hp → Prop} {rt Q : VK} {vs : List Nat} {σ : L2.St} {B H1 : Hp} {n : Nat} {Y : Nat → Hp → V → Hp → Prop}
theorem forW (w : Walk J n G Y) (mB : Mv B H1) (hG : ∀ H', Mv B H' → G H') (Pv : Nat → L2.St → Hp → Prop) (h0 : Pv 0 σ H1)
    (hs : ∀ i y σ' H' H'', i < n → Mv B H' → Pv i σ' H' → Y i H' y H'' → g y σ' H'' fun σ2 H2 => tb ⟨fun σ3 H3 => Mv B H3 ∧ Pv (i + 1) σ3 H3, rt, nx, fun σ3 H3 => Mv B H3 ∧ Pv (i + 1) σ3 H3⟩ σ2 H2) (hd : ∀ σ' H', Mv B H' → Pv n σ' H' → nx σ' H') :
    ForE J g tb ⟨nx, rt, bk, ct⟩ σ H1 :=
  for_it (D := ⟨nx, rt, bk, ct⟩) w (fun i σ' H' => Mv B H' ∧ Pv i σ' H') ⟨mB, h0⟩ (fun _ _ H' _ p => hG H' p.1) (fun i x σ' H' H'' hi p y => hs i x σ' H' H'' hi p.1 p.2 y) fun σ' H' p => hd σ' H' p.1 p.2
theorem forE (w : Ov J xs G) (mB : Mv B H1) (hG : ∀ H', Mv B H' → G H') (Pv : Nat → L2.St → Hp → Prop) (h0 : Pv 0 σ H1)
    (hs : ∀ i y σ' H', xs[i]? = some y → Mv B H' → Pv i σ' H' → g y σ' H' fun σ2 H2 => tb ⟨fun σ3 H3 => Mv B H3 ∧ Pv (i + 1) σ3 H3, rt, nx, fun σ3 H3 => Mv B H3 ∧ Pv (i + 1) σ3 H3⟩ σ2 H2) (hd : ∀ σ' H', Mv B H' → Pv xs.length σ' H' → nx σ' H') :
    ForE J g tb ⟨nx, rt, bk, ct⟩ σ H1 :=
  forW w mB hG Pv h0 (fun i y σ' H' H'' hi m p ⟨e1, e2⟩ => by rw [e1]; exact hs i y σ' H' e2 m p) hd
/-- all but lists (and what tables hold) is kept -/
structure Nl (H H' : Hp) : Prop where
  k : ∀ b o, H b = some o → (∀ l, o ≠ .lst l) → H' b = some o
def NxL (D : Addr) (H1 : Hp) (Pv : Nat → List V → Hp → Prop) (i : Nat) (H5 : Hp) : Prop := ∃ acc, H5 D = some (.lst acc) ∧ Mv H1 H5 ∧ Pv i acc H5
def LcP (D : Addr) (H1 : Hp) (Pv : Nat → List V → Hp → Prop) (i : Nat) (z : V) (H4 : Hp) : Prop := ∃ acc, H4 D = some (.lst acc) ∧ acc.length < sizeLine ∧ NxL D H1 Pv i (upd H4 D (.lst (acc ++ [z])))
theorem nl_upd {D : Addr} {H4 : Hp} {acc l : List V} (h : H4 D = some (.lst acc)) : Nl H4 (upd H4 D (.lst l)) := ⟨fun b o e n => by
  rw [upd_ne fun z => n acc (Option.some.inj (e.symm.trans (by rw [z]; exact h)))]
  exact e⟩
theorem lcP {D : Addr} {H4 : Hp} {Pv : Nat → List V → Hp → Prop} {i : Nat} {z : V} {acc : List V} (hD : H1 D = none) (h1 : H4 D = some (.lst acc)) (h2 : acc.length < sizeLine) (m : Mv H1 H4) (h : ∀ H5, Mv H1 H5 → Nl H4 H5 → Pv i (acc ++ [z]) H5) : LcP D H1 Pv i z H4 :=
  ⟨acc, h1, h2, _, upd_same, m.put hD, h _ (m.put hD) (nl_upd h1)⟩
theorem lcE (w : Ov J xs G) (hG : ∀ H', Mv H1 H' → G H') (h : ∀ D, H1 D = none → ∃ Pv : Nat → List V → Hp → Prop, (∀ H', Mv H1 H' → Pv 0 [] H') ∧
    (∀ i y acc H', xs[i]? = some y → Mv H1 H' → H' D = some (.lst acc) → Pv i acc H' → g y (wipe σ vs) H' fun σ2 H2 => wipe σ2 vs = wipe σ vs ∧ tt σ2 H2 fun b H3 =>
      if b = true then te σ2 H3 (LcP D H1 Pv (i + 1)) else NxL D H1 Pv (i + 1) H3) ∧
    (∀ acc H', Mv H1 H' → H' D = some (.lst acc) → Pv xs.length acc H' → Q (.ref D) H')) : LcE J g tt te vs σ H1 Q := by
  intro D hD
  obtain ⟨Pv, h0, hs, hd⟩ := h D hD
  exact lc_it w (NxL D H1 Pv) ⟨[], upd_same, .new hD, h0 _ (.new hD)⟩ (fun i H' _ ⟨acc, _, m, _⟩ => hG H' m) (fun i x H' H'' hi ⟨acc, e, m, p⟩ ⟨e1, e2⟩ => by
    rw [e1]
    exact hs i x acc H' e2 m e p) fun H' ⟨acc, e, m, p⟩ => hd acc H' m e p
def NxD (D : Addr) (H1 : Hp) (Pv : Nat → List (Key × V) → Hp → Prop) (i : Nat) (H5 : Hp) : Prop := ∃ acc, H5 D = some (.dK acc) ∧ Mv H1 H5 ∧ Pv i acc H5
def DcP (D : Addr) (H1 : Hp) (Pv : Nat → List (Key × V) → Hp → Prop) (i : Nat) (y z : V) (H5 : Hp) : Prop := ∃ kvs k, y = kV k ∧ H5 D = some (.dK kvs) ∧ kvs.length < sizeLine ∧ NxD D H1 Pv i (upd H5 D (.dK (putK kvs k z)))
/-- all but dicts is kept -/
structure Nd (H H' : Hp) : Prop where
  k : ∀ b o, H b = some o → (∀ l, o ≠ .dK l) → H' b = some o
theorem nd_upd {D : Addr} {H4 : Hp} {acc l : List (Key × V)} (h : H4 D = some (.dK acc)) : Nd H4 (upd H4 D (.dK l)) := ⟨fun b o e n => by
  rw [upd_ne fun z => n acc (Option.some.inj (e.symm.trans (by rw [z]; exact h)))]
  exact e⟩
theorem dcP {D : Addr} {H4 : Hp} {Pv : Nat → List (Key × V) → Hp → Prop} {i : Nat} {k : Key} {z : V} {acc : List (Key × V)} (hD : H1 D = none) (h1 : H4 D = some (.dK acc)) (h2 : acc.length < sizeLine) (m : Mv H1 H4) (h : ∀ H5, Mv H1 H5 → Nd H4 H5 → Pv i (putK acc k z) H5) : DcP D H1 Pv i (kV k) z H4 :=
  ⟨acc, k, rfl, h1, h2, _, upd_same, m.put hD, h _ (m.put hD) (nd_upd h1)⟩
theorem dcE (w : Ov J xs G) (hG : ∀ H', Mv H1 H' → G H') (h : ∀ D, H1 D = none → ∃ Pv : Nat → List (Key × V) → Hp → Prop, (∀ H', Mv H1 H' → Pv 0 [] H') ∧
    (∀ i y acc H', xs[i]? = some y → Mv H1 H' → H' D = some (.dK acc) → Pv i acc H' → g y (wipe σ vs) H' fun σ2 H2 => wipe σ2 vs = wipe σ vs ∧ tt σ2 H2 fun b H3 =>
      if b = true then tk σ2 H3 fun y H4 => tv σ2 H4 (DcP D H1 Pv (i + 1) y) else NxD D H1 Pv (i + 1) H3) ∧
    (∀ acc H', Mv H1 H' → H' D = some (.dK acc) → Pv xs.length acc H' → Q (.ref D) H')) : DcE J g tt tk tv vs σ H1 Q := by
  intro D hD
  obtain ⟨Pv, h0, hs, hd⟩ := h D hD
  refine ⟨fun i m H' => m = xs.length - i ∧ i ≤ xs.length ∧ NxD D H1 Pv i H', ⟨xs.length, by simp, Nat.zero_le _, [], upd_same, .new hD, h0 _ (.new hD)⟩, ?_⟩
  rintro i m H' ⟨rfl, hi, acc, e, mv, p⟩
  by_cases hlt : i < xs.length
  · refine .inr ⟨w.goes i H' hlt (hG H' mv), NxD D H1 Pv (i + 1), fun H'' p' => ⟨xs.length - (i + 1), by omega, rfl, hlt, p'⟩, fun x H'' y => ?_⟩
    obtain ⟨e1, e2⟩ := w.yields i H' x H'' hlt (hG H' mv) y
    rw [e1]
    exact hs i x acc H' e2 mv e p
  · have q : i = xs.length := by omega
    subst q
    exact .inl ⟨w.stops H' (hG H' mv), hd acc H' mv e p⟩
theorem mv_tabbed {P : Addr} {H2 : Hp} (hP : ¬ Lw.L P) (h : GxR.Tabbed P H1 H2) (ht : GxR.TabG H1 P) : Mv H1 H2 := by
  obtain ⟨h1, h2⟩ := h
  refine ⟨fun b o e n => ?_, fun P' q => ?_, fun P' ps hP' q => ?_, fun b q => ?_⟩
  · obtain ⟨ps, t1, _⟩ := ht
    rw [h2 b fun z => n ps (Option.some.inj (e.symm.trans (by rw [z]; exact t1)))]
    exact e
  · by_cases z : P' = P
    · rw [z]
      exact h1
    · obtain ⟨ps, q1, q2⟩ := q
      exact ⟨ps, by rw [h2 P' z]; exact q1, q2⟩
  · rw [h2 _ fun z => hP (by rw [← z]; exact hP')]
    exact q
  · by_cases z : b = P
    · obtain ⟨ps, t1, _⟩ := h1
      rw [z, t1] at q
      cases q
    · rw [h2 b z] at q
      exact q
theorem gnE {α : Type} {P : Addr} {a0 : α} {take : VK → α → V → Hp → (α → Hp → Prop) → Prop} {fin : VK → α → Hp → Prop} (w : Ov J xs G) (hG : ∀ H', Mv H1 H' → G H') (hP : ¬ Lw.L P) (ht : GxR.TabG H1 P) (h : ∃ Pv : Nat → α → Hp → Prop, (∀ H', Mv H1 H' → Pv 0 a0 H') ∧
    (∀ i y a H', xs[i]? = some y → Mv H1 H' → Pv i a H' → g y (wipe σ vs) H' fun σ2 H2 => wipe σ2 vs = wipe σ vs ∧ tt σ2 H2 fun b H3 =>
      if b = true then te σ2 H3 fun z H4 => take Q a z H4 (fun a' H5 => Mv H1 H5 ∧ Pv (i + 1) a' H5) else Mv H1 H3 ∧ Pv (i + 1) a H3) ∧
    (∀ a H', Mv H1 H' → Pv xs.length a H' → fin Q a H')) : GnE P J g tt te vs a0 take fin σ H1 Q := by
  refine ⟨ht, fun H2 hT => ?_⟩
  obtain ⟨Pv, h0, hs, hd⟩ := h
  have m2 := mv_tabbed hP hT ht
  refine ⟨fun i m a H' => m = xs.length - i ∧ i ≤ xs.length ∧ Mv H1 H' ∧ Pv i a H', ⟨xs.length, by simp, Nat.zero_le _, m2, h0 H2 m2⟩, ?_⟩
  rintro i m a H' ⟨rfl, hi, mv, p⟩
  by_cases hlt : i < xs.length
  · refine .inr ⟨w.goes i H' hlt (hG H' mv), fun a' H5 => Mv H1 H5 ∧ Pv (i + 1) a' H5, fun a' H'' p' => ⟨xs.length - (i + 1), by omega, rfl, hlt, p'⟩, fun x H'' y => ?_⟩
    obtain ⟨e1, e2⟩ := w.yields i H' x H'' hlt (hG H' mv) y
    rw [e1]
    exact hs i x a H' e2 mv p
  · have q : i = xs.length := by omega
    subst q
    exact .inl ⟨w.stops H' (hG H' mv), hd a H' mv p⟩
def WhW (B : Hp) (Pv : Nat → L2.St → Hp → Prop) (m : Nat) (σ' : L2.St) (H' : Hp) : Prop := Mv B H' ∧ Pv m σ' H'
def WhP (tb : TS) (B : Hp) (Pv : Nat → L2.St → Hp → Prop) (rt : VK) (nx : L2.St → Hp → Prop) (m : Nat) (σ' : L2.St) (H2 : Hp) : Prop := ∃ N : L2.St → Hp → Prop, (∀ σ3 H3, N σ3 H3 → ∃ m', m' < m ∧ WhW B Pv m' σ3 H3) ∧ tb ⟨N, rt, nx, N⟩ σ' H2
theorem whP {Pv : Nat → L2.St → Hp → Prop} {m : Nat} {H2 : Hp} (h : tb ⟨fun σ3 H3 => Mv B H3 ∧ ∃ m', m' < m ∧ Pv m' σ3 H3, rt, nx, fun σ3 H3 => Mv B H3 ∧ ∃ m', m' < m ∧ Pv m' σ3 H3⟩ σ H2) : WhP tb B Pv rt nx m σ H2 :=
  ⟨_, fun σ3 H3 ⟨a, m', b, c⟩ => ⟨m', b, a, c⟩, h⟩
theorem whileE {c : TT} (B : Hp) (mB : Mv B H1) (Pv : Nat → L2.St → Hp → Prop) (h0 : ∃ m, Pv m σ H1) (hs : ∀ m σ' H', Mv B H' → Pv m σ' H' → c σ' H' fun b H2 => if b = true then WhP tb B Pv rt nx m σ' H2 else nx σ' H2) :
    tWhile c tb ⟨nx, rt, bk, ct⟩ σ H1 := by
  obtain ⟨m, h0⟩ := h0
  exact ⟨WhW B Pv, ⟨m, mB, h0⟩, fun m σ' H' ⟨mv, p⟩ => hs m σ' H' mv p⟩
end
section
variable [Lw] {H H' H1 H2 : Hp} {a : Addr} {xs : List V} {K : PySem.W.Frag}
theorem Nl.tup (m : Nl H H') (h : H a = some (.tup xs)) : H' a = some (.tup xs) := m.k _ _ h fun _ z => nomatch z
theorem Nl.dK {kvs : List (Key × V)} (m : Nl H H') (h : H a = some (.dK kvs)) : H' a = some (.dK kvs) := m.k _ _ h fun _ z => nomatch z
theorem Nl.exx {φ : Heap → Prop} (m : Nl H H') (h : H a = some (.ext φ)) : H' a = some (.ext φ) := m.k _ _ h fun _ z => nomatch z
theorem Nl.ins {C dx : Addr} {fs : List (Str × V)} (m : Nl H H') (h : H a = some (.ins C dx fs)) : H' a = some (.ins C dx fs) := m.k _ _ h fun _ z => nomatch z
theorem Nl.sqT (m : Nl H H') (h : SqT K H a xs) : SqT K H' a xs := by
  rcases h with (h | ⟨o, h⟩) | h
  · exact .inl (.inl (m.tup h))
  · exact .inl (.inr ⟨o, m.k _ _ h fun _ z => nomatch z⟩)
  · exact .inr h
theorem Nd.lst (m : Nd H H') (h : H a = some (.lst xs)) : H' a = some (.lst xs) := m.k _ _ h fun _ z => nomatch z
theorem Nd.tup (m : Nd H H') (h : H a = some (.tup xs)) : H' a = some (.tup xs) := m.k _ _ h fun _ z => nomatch z
theorem Nd.exx {φ : Heap → Prop} (m : Nd H H') (h : H a = some (.ext φ)) : H' a = some (.ext φ) := m.k _ _ h fun _ z => nomatch z
theorem Nd.ins {C dx : Addr} {fs : List (Str × V)} (m : Nd H H') (h : H a = some (.ins C dx fs)) : H' a = some (.ins C dx fs) := m.k _ _ h fun _ z => nomatch z
theorem Nd.sqT (m : Nd H H') (h : SqT K H a xs) : SqT K H' a xs := by
  rcases h with (h | ⟨o, h⟩) | h
  · exact .inl (.inl (m.tup h))
  · exact .inl (.inr ⟨o, m.k _ _ h fun _ z => nomatch z⟩)
  · exact .inr h
theorem Nd.sqL (m : Nd H H') (h : SqL K H a xs) : SqL K H' a xs := by
  rcases h with (h | ⟨o, h⟩) | h
  · exact .inl (.inl (m.lst h))
  · exact .inl (.inr ⟨o, m.k _ _ h fun _ z => nomatch z⟩)
  · exact .inr h
mutual
def noL : PyData → Bool
  | .list _ => false
  | .tuple ds => noLs ds
  | _ => true
def noLs : List PyData → Bool
  | [] => true
  | d :: ds => noL d && noLs ds
end
mutual
theorem nl_dp (m : Nl H H') : ∀ (d : PyData) (v : V), noL d = true → Dp K H v d → Dp K H' v d
  | .none, _, _, h => by cases h; exact .non
  | .bool b, _, _, h => by cases h; exact .bl b
  | .int i, _, _, h => by cases h; exact .int i
  | .str x, _, _, h => by cases h; exact .str x
  | .list ds, _, hn, h => by cases hn
  | .tuple ds, _, hn, h => by
    cases h with
    | tup hs ha => exact .tup (m.sqT hs) (nl_dps m ds _ hn ha)
  | .dict _, _, _, h => by cases h
theorem nl_dps (m : Nl H H') : ∀ (ds : List PyData) (vs : List V), noLs ds = true → DpAll K H vs ds → DpAll K H' vs ds
  | [], _, _, h => by cases h; exact .nil
  | d :: ds, _, hn, h => by
    have hn := Bool.and_eq_true_iff.mp (show (noL d && noLs ds) = true from hn)
    cases h with
    | cons h1 h2 => exact .cons (nl_dp m d _ hn.1 h1) (nl_dps m ds _ hn.2 h2)
end
theorem dpAll_append : ∀ {xs ys : List V} {ds es : List PyData}, DpAll K H xs ds → DpAll K H ys es → DpAll K H (xs ++ ys) (ds ++ es)
  | _, _, _, _, .nil, h => h
  | _, _, _, _, .cons a t, h => .cons a (dpAll_append t h)
theorem dpAll_length : ∀ {xs : List V} {ds : List PyData}, DpAll K H xs ds → xs.length = ds.length
  | _, _, .nil => rfl
  | _, _, .cons _ t => congrArg Nat.succ (dpAll_length t)
theorem dpAll_get : ∀ {xs : List V} {ds : List PyData}, DpAll K H xs ds → ∀ {i : Nat} {x : V}, xs[i]? = some x → ∃ d, ds[i]? = some d ∧ Dp K H x d
  | _, _, .nil, i, x, h => by simp at h
  | _, _, .cons (d := d) a t, 0, x, h => ⟨d, rfl, by cases h; exact a⟩
  | _, _, .cons a t, i + 1, x, h => by
    rw [List.getElem?_cons_succ] at h
    rw [List.getElem?_cons_succ]
    exact dpAll_get t h
theorem dpAll_strs : ∀ {l : List Str}, DpAll K H (l.map V.str) (l.map PyData.str)
  | [] => .nil
  | x :: l => .cons (.str x) dpAll_strs
theorem dpAll_ints : ∀ {l : List Int}, DpAll K H (l.map V.int) (l.map PyData.int)
  | [] => .nil
  | x :: l => .cons (.int x) dpAll_ints
theorem dp_strs_inv : ∀ {l : List Str} {xs : List V}, DpAll K H xs (l.map PyData.str) → xs = l.map V.str
  | [], _, .nil => rfl
  | x :: l, _, .cons a t => by
    cases a
    rw [dp_strs_inv t]
    rfl
theorem dp_tup_strs {a : V} {l : List Str} (h : Dp K H a (.tuple (l.map PyData.str))) : ∃ p, a = .ref p ∧ SqT K H p (l.map V.str) := by
  cases h with
  | tup hs ha =>
    rw [dp_strs_inv ha] at hs
    exact ⟨_, rfl, hs⟩
theorem Mv.dget {d : Addr} {y : V} {r : Option V} (m : Mv H H') (h : DGet H d y r) : DGet H' d y r := by
  rcases h with ⟨kvs, k, h, e1, e2⟩ | ⟨kvs, k, b, h, e1, h2, e2⟩
  · exact .inl ⟨kvs, k, m.rd (fun _ z => nomatch z) h, e1, e2⟩
  · exact .inr ⟨kvs, k, b, m.rd (fun _ z => nomatch z) h, e1, m.tup h2, e2⟩
theorem Lk.dget {d d' : Addr} {kvs : List (Key × V)} {y : V} {r : Option V} (m : Lk d' kvs H H') (h : DGet H d y r) : DGet H' d y r := by
  rcases h with ⟨kvs, k, h, e1, e2⟩ | ⟨kvs, k, b, h, e1, h2, e2⟩
  · exact .inl ⟨kvs, k, m.rd h, e1, e2⟩
  · exact .inr ⟨kvs, k, b, m.rd h, e1, m.tup h2, e2⟩
theorem Nl.dget {d : Addr} {y : V} {r : Option V} (m : Nl H H') (h : DGet H d y r) : DGet H' d y r := by
  rcases h with ⟨kvs, k, (h | ⟨o, h⟩), e1, e2⟩ | ⟨kvs, k, b, (h | ⟨o, h⟩), e1, h2, e2⟩
  · exact .inl ⟨kvs, k, .inl (m.k _ _ h fun _ z => nomatch z), e1, e2⟩
  · exact .inl ⟨kvs, k, .inr ⟨o, m.k _ _ h fun _ z => nomatch z⟩, e1, e2⟩
  · exact .inr ⟨kvs, k, b, .inl (m.k _ _ h fun _ z => nomatch z), e1, m.tup h2, e2⟩
  · exact .inr ⟨kvs, k, b, .inr ⟨o, m.k _ _ h fun _ z => nomatch z⟩, e1, m.tup h2, e2⟩
theorem s_slL {lo hi : Option Int} {Q : VK} (h1 : SqL K H a xs) (h : ∀ p, H p = none → Q (.ref p) (upd H p (.lst (cutV xs lo hi)))) : rSlL K (.ref a) lo hi H Q := ⟨a, xs, rfl, h1, h⟩
theorem s_eqD {x y : V} {d e : PyData} {Q : VK} (h1 : Dp K H x d) (h2 : Dp K H y e) (h3 : SeqAt.shaped d = true) (h4 : SeqAt.shaped e = true) (h : Q (.bl (PyData.eqv d e)) H) : rEqD K x y H Q := ⟨d, e, h1, h2, h3, h4, h⟩
theorem s_neD {x y : V} {d e : PyData} {Q : VK} (h1 : Dp K H x d) (h2 : Dp K H y e) (h3 : SeqAt.shaped d = true) (h4 : SeqAt.shaped e = true) (h : Q (.bl (!PyData.eqv d e)) H) : rNeD K x y H Q := ⟨d, e, h1, h2, h3, h4, h⟩
theorem s_wipe {σ1 σ2 : L2.St} {vs : List Nat} {A : Prop} (h1 : wipe σ2 vs = wipe σ1 vs) (h : A) : wipe σ2 vs = wipe σ1 vs ∧ A := ⟨h1, h⟩
theorem s_sFld {ta tv : TE} {f : Str} {σ : L2.St} {nx bk ct : L2.St → Hp → Prop} {rt : VK} (h : tv σ H fun y H1 => ta σ H1 fun x H2 => ∃ a C dx fs, x = .ref a ∧ H2 a = some (.ins C dx fs) ∧ Cls K C ∧ NoAttr K C f ∧ fs.length < 1000 ∧ nx σ (upd H2 a (.ins C dx (putF f y fs)))) : sFld K ta tv f ⟨nx, rt, bk, ct⟩ σ H := h
theorem s_sFld2 {C dx : Addr} {fs : List (Str × V)} {f : Str} {y : V} {N : Hp → Prop} (h1 : H a = some (.ins C dx fs)) (h2 : Cls K C) (h3 : NoAttr K C f) (h4 : fs.length < 1000) (h : N (upd H a (.ins C dx (putF f y fs)))) : ∃ a' C dx fs, V.ref a = .ref a' ∧ H a' = some (.ins C dx fs) ∧ Cls K C ∧ NoAttr K C f ∧ fs.length < 1000 ∧ N (upd H a' (.ins C dx (putF f y fs))) := ⟨a, C, dx, fs, rfl, h1, h2, h3, h4, h⟩
theorem passF {P : Program} {w : World} {X : Cx} : Passes (CX P w) X (fun _ _ _ => False) := fun _ _ _ _ _ _ _ ⟨_, _, _, _, _, _, _, _, _, _, _, _, h⟩ => h.elim
theorem s_mm {a b : Int} {P : Int → Int → Prop} (h : P a b) : ∃ i j, [V.int a, V.int b] = [V.int i, V.int j] ∧ P i j := ⟨a, b, rfl, h⟩
theorem s_ab {a : Int} {P : Int → Prop} (h : P a) : ∃ i, [V.int a] = [V.int i] ∧ P i := ⟨a, rfl, h⟩
theorem s_in1 {a : Int} {P : Int → Prop} {R : Prop} (h : P a) : (∃ i, [V.int a] = [V.int i] ∧ P i) ∨ R := .inl ⟨a, rfl, h⟩
theorem s_in2 {b : Bool} {P : Bool → Prop} {R : Prop} (h : P b) : R ∨ ∃ k, [V.bl b] = [V.bl k] ∧ P k := .inr ⟨b, rfl, h⟩
theorem s_lsL {p : Addr} {ys : List V} {P : List V → Prop} (h1 : SqL K H p ys) (h : P ys) : ∃ p' ys', [V.ref p] = [V.ref p'] ∧ (SqL K H p' ys' ∨ SqT K H p' ys') ∧ P ys' := ⟨p, ys, rfl, .inl h1, h⟩
theorem s_lsT {p : Addr} {ys : List V} {P : List V → Prop} (h1 : SqT K H p ys) (h : P ys) : ∃ p' ys', [V.ref p] = [V.ref p'] ∧ (SqL K H p' ys' ∨ SqT K H p' ys') ∧ P ys' := ⟨p, ys, rfl, .inr h1, h⟩
theorem s_tyL {p : Addr} {ys : List V} {A : Prop} (h1 : SqL K H p ys) (h : A) : tyV K "list" (.ref p) H ∧ A := ⟨.inl ⟨rfl, _, h1⟩, h⟩
theorem s_dgetE {td ty : TE} {σ : L2.St} {Q : VK} (h : td σ H fun x H1 => ty σ H1 fun y H2 => ∃ a v, x = .ref a ∧ DGet H2 a y (some v) ∧ Q v H2) : tDGet td ty σ H Q := h
theorem s_dget {Q : VK} {d : Addr} {y v : V} (h1 : DGet H d y (some v)) (h : Q v H) : ∃ a v, V.ref d = .ref a ∧ DGet H a y (some v) ∧ Q v H := ⟨d, v, rfl, h1, h⟩
end
theorem s_ifTT {A B : Prop} (h : A) : if true = true then A else B := h
theorem s_ifFF {A B : Prop} (h : B) : if false = true then A else B := h
theorem ite_dec {p : Prop} {_ : Decidable p} {A B : Prop} (h1 : p → A) (h2 : ¬ p → B) : if decide p = true then A else B := by
  by_cases h : p
  · rw [decide_eq_true h, if_pos rfl]
    exact h1 h
  · rw [decide_eq_false h, if_neg Bool.false_ne_true]
    exact h2 h
theorem ite_ndec {p : Prop} {_ : Decidable p} {A B : Prop} (h1 : ¬ p → A) (h2 : p → B) : if (!decide p) = true then A else B := by
  by_cases h : p
  · rw [decide_eq_true h]
    exact h2 h
  · rw [decide_eq_false h]
    exact h1 h
theorem map_get {α : Type} {f : α → V} {l : List α} {i : Nat} {y : V} (h : (l.map f)[i]? = some y) : ∃ x, l[i]? = some x ∧ y = f x := by
  rw [List.getElem?_map] at h
  cases e : l[i]? with
  | none =>
    rw [e] at h
    cases h
  | some x =>
    rw [e] at h
    exact ⟨x, rfl, (Option.some.inj h).symm⟩
theorem drop_get {α : Type} {l : List α} {i : Nat} {x : α} (h : l[i]? = some x) : l.drop i = x :: l.drop (i + 1) := by
  obtain ⟨hi, e⟩ := List.getElem?_eq_some_iff.mp h
  rw [List.drop_eq_getElem_cons hi, e]
theorem get_mem {α : Type} {l : List α} {i : Nat} {x : α} (h : l[i]? = some x) : x ∈ l := List.mem_of_getElem? h
end Mi

set_option Elab.async false
set_option linter.all false
set_option maxRecDepth 100000
set_option maxHeartbeats 2000000
namespace Mi
open PySem PySem.Spec PyProof.Rows L2
open AutoSeq1 (wpAny_loadPart')
/-! ### enumerate(tuple) -/
theorem meets_enumerate_newT (l : Addr) (items : Array Value) :
    Meets (Builtin.«enumerate.__new__» ⟨[.type "enumerate", .ref l], []⟩) (fun _ R s => s.heap.IsTuple l items ∧
      R (.ok (.ret (.ref (s.heap.push { cls := .type "tuple_iterator", data := .fields #[.ref l, .int 0 0] }).objs.size)))
        { s with heap := (s.heap.push { cls := .type "tuple_iterator", data := .fields #[.ref l, .int 0 0] }).push { cls := .type "enumerate", data := .fields #[.none, .bool false, .ref s.heap.objs.size, rawInt 0, .none, .none] } }) :=
  .of_wp fun prog w A R s h => by
    obtain ⟨hp, g, d, tk, os⟩ := s
    obtain ⟨hL, h⟩ := h
    have hsub := sub_enumerate
    obtain ⟨o, hl, hc, hd⟩ := id hL
    wp_walk using wpAny_loadPart' hl
    refine wpAny_stack_any fun st => wpAny_pure ?_
    split
    · rename_i c _ _ _ _ _
      cases (c == Value.type "enumerate")
      · wp_walk using wpAny_loadPart' hl, wpAny_pyIter_tuple hL
        exact ⟨_, rfl, h⟩
      · wp_walk using wpAny_loadPart' hl, wpAny_pyIter_tuple hL
        exact ⟨_, rfl, h⟩
    · wp_walk using wpAny_loadPart' hl, wpAny_pyIter_tuple hL
      exact ⟨_, rfl, h⟩
section
variable {prog : Program} {w : World} {A : Around} {E : Value → Shared → Prop} {s : Shared}
theorem call_enumerate_tuple {l : Addr} {items : Array Value} {Q : Value → Shared → Prop} (hL : s.heap.IsTuple l items)
    (h : ∀ h', IsEnum h' (s.heap.objs.size + 1) s.heap.objs.size 0 .none → h'.IsTupleIter s.heap.objs.size l 0 → h'.objs.size = s.heap.objs.size + 2 →
      (∀ b o, s.heap.get? b = some o → h'.get? b = some o) → Q (.ref (s.heap.objs.size + 1)) { s with heap := h' }) :
    wpAny (model prog w) A (call (.type "enumerate") [.ref l]) Q E s := by
  refine callType_new F.called_enumerate (by decide) (F.typeCall_enumerate_1 _) (F.newCall_enumerate_1 _) (fun obj => F.args_object_init_2 obj _) F.entry_enumerate_new
    (meets_enumerate_newT l items) ⟨hL, ?_⟩
  have hz : (s.heap.push { cls := .type "tuple_iterator", data := .fields #[.ref l, .int 0 0] }).objs.size = s.heap.objs.size + 1 := Heap.size_push ..
  show _ ∧ _
  rw [hz]
  have he : IsEnum ((s.heap.push { cls := .type "tuple_iterator", data := .fields #[.ref l, .int 0 0] }).push
      { cls := .type "enumerate", data := .fields #[.none, .bool false, .ref s.heap.objs.size, rawInt 0, .none, .none] }) (s.heap.objs.size + 1) s.heap.objs.size 0 .none := by
    have := Heap.get?_push_size (s.heap.push { cls := .type "tuple_iterator", data := .fields #[.ref l, .int 0 0] })
      (o := { cls := .type "enumerate", data := .fields #[.none, .bool false, .ref s.heap.objs.size, rawInt 0, .none, .none] }) rfl
    rw [hz] at this; exact this
  refine ⟨⟨_, he, rfl⟩, h _ he ⟨_, Heap.get?_push_of_some _ (Heap.get?_push_size _ rfl), rfl, rfl⟩ (by rw [Heap.size_push, hz]) fun b o x => Heap.get?_push_of_some _ (Heap.get?_push_of_some _ x)⟩
end
/-- the tuple at a, each item in a new pair -/
def IteT (K : PySem.W.Frag) (a : Addr) : It :=
  ⟨fun i H => ∃ (xs : List V) (x : V), SqT K H a xs ∧ xs[i]? = some x, fun i H v H' => ∃ T x, v = .ref T ∧ H T = none ∧ H' = upd H T (.tup [.int (i : Nat), x]) ∧ ∀ xs, SqT K H a xs → xs[i]? = some x, fun i H => ∃ xs : List V, SqT K H a xs ∧ xs.length ≤ i⟩
theorem turn_enumT {P : Program} {w : World} {K : PySem.W.Frag} {elts : List Expr} {kk : Nat} {tpos : Pos} (a e it : Addr) :
    Turn P w K (.Tuple elts kk tpos) (IteT K a) [e, it] e (fun i h => (∃ old, IsEnum h e it ((i : Nat) : Int) old) ∧ h.IsTupleIter it a i ∧ e ≠ it) where
  mem := by simp
  obj := fun i h st b hb => by
    obtain ⟨⟨old, he⟩, ⟨o, ho, hc, hd⟩, _⟩ := st
    have e' : b = e ∨ b = it := by simpa using hb
    rcases e' with z | z
    · rw [z]; exact ⟨_, he, fun v q => nomatch q⟩
    · rw [z]; exact ⟨o, ho, fun v q => by rw [hd] at q; cases q⟩
  keep := fun i h h' st k => let ⟨⟨old, he⟩, hi, hne⟩ := st; ⟨⟨old, k e (by simp) _ he⟩, hi.at fun o q => k it (by simp) o q, hne⟩
  item := by
    intro X hP hw hK hc i pins s σ H E I hf st hg
    subst hP hw hK
    obtain ⟨⟨old, he⟩, hit, hne⟩ := st
    obtain ⟨xs, x, hq, hx⟩ := hg
    obtain ⟨its, rv, p, hz⟩ := I.tuple hq
    have p : s.heap.IsTuple a its.toArray := p
    have hel : e < s.heap.objs.size := Heap.lt_size he
    have hil : it < s.heap.objs.size := by obtain ⟨_, q, _⟩ := hit; exact Heap.lt_size q
    have hlen := rv.length
    have hi : i < its.toArray.size := by
      have := (List.getElem?_eq_some_iff.mp hx).1
      simp; omega
    have ha : a ≠ it := fun z => by
      obtain ⟨o, q1, q2, _⟩ := p
      obtain ⟨o2, q3, q4, _⟩ := hit
      rw [z, q3] at q1
      cases q1
      rw [q2] at q4
      exact absurd (Value.type.inj q4) (by decide)
    have hae : e ≠ a := fun z => by
      obtain ⟨o, q1, q2, _⟩ := p
      have he2 := he
      unfold IsEnum at he2
      rw [← z, he2] at q1
      cases q1
      exact absurd (Value.type.inj q2) (by decide)
    refine wpAny_pyNext_enum_itemD (Draws.tuple (A := X.A.in1) (I.ok.hd hc) it a ha its.toArray) he ⟨hit, p⟩ hi hne (by simp [hne, hae]) fun u h' tk hu ho hit' hT hsz hk => ?_
    have hit' := hit'.1
    obtain ⟨u', hu', ru⟩ := rv.get hx
    have eu : u' = u := by
      have z : its.toArray[i]? = some u := hu
      rw [List.getElem?_toArray] at z
      rw [z] at hu'
      exact (Option.some.inj hu').symm
    rw [eu] at ru
    refine ⟨_, rfl, wpAny_letOwnedTupleGo_enum (s := { s with heap := h', toks := tk + 1 }) ho fun h'' he' sb => ?_⟩
    have hT2 : h''.get? s.heap.objs.size = some { cls := .type "tuple", data := .seq #[.int i tk, u] } := (sb.2 _ (Nat.ne_of_gt hel)).trans hT
    have new : ObjOk X.prog X.w (upd H s.heap.objs.size (.tup [.int (i : Nat), x])) h'' s.heap.objs.size (.tup [.int (i : Nat), x]) :=
      ⟨by show 2 ≤ sizeLine; decide, [.int i tk, u], .cons ⟨_, rfl⟩ (.cons ru .nil), ⟨_, hT2, rfl, _, rfl⟩⟩
    have I1 : Inv X pins σ (upd H s.heap.objs.size (.tup [.int (i : Nat), x])) { s with heap := h'', toks := tk + 1 } :=
      I.turnedNew (ch := [e, it]) (fun b ob hb q => (sb.2 b (fun z => hb (by simp [z]))).trans (hk b ob (fun z => hb (by simp [z])) (fun z => hb (by simp [z])) q)) hf (Nat.le_refl _) new
    refine ⟨.ref s.heap.objs.size, _, I1, rfl, ⟨_, x, rfl, I.hok.fresh (Nat.le_refl _), rfl, fun ys hy => by rw [I.tuple_inj hy hq]; exact hx⟩, ⟨⟨u, ?_⟩, hit'.at fun o q => (sb.2 it (Ne.symm hne)).trans q, hne⟩, fun b hb => ?_⟩
    · have e1 : ((i + 1 : Nat) : Int) = (i : Int) + 1 := by omega
      rw [e1]; exact he'
    · have hb' : b < s.heap.objs.size := by
        have e' : b = e ∨ b = it := by simpa using hb
        rcases e' with z | z
        · rw [z]; exact hel
        · rw [z]; exact hil
      rw [upd_ne (Nat.ne_of_lt hb')]
      exact (hf b hb).1
  done := by
    intro X hP hw hK hc i pins s σ H E I hf st hg
    subst hP hw hK
    obtain ⟨⟨old, he⟩, hit, hne⟩ := st
    obtain ⟨xs, hq, hx⟩ := hg
    obtain ⟨its, rv, p, hz⟩ := I.tuple hq
    have p : s.heap.IsTuple a its.toArray := p
    obtain ⟨f0, f1, f2, f3, f4, f5⟩ := hf it (by simp)
    have hl := rv.length
    have hT : s.TypeIs (.ref e) "enumerate" := ⟨_, he, rfl⟩
    unfold pyNext
    refine wpAny_bind (wpAny_attempt (wpAny_callSpecial?_slot (name := Str.ofString "__next__") hT F.slot_enumerate_next
      (wpAny_call_entry F.slot_enumerate_next hT F.entry_enumerate_next ?_ (F.args_enumerate_next_1 _))))
    show wpAny _ _ (field (.ref e) 2 >>= _) _ _ _
    refine wpAny_bind (wpAny_field he rfl (x := .ref it) rfl ?_)
    refine wpAny_bind (wpAny_nextOf_tuple_end (I.ok.hd hc) hit p (by simp; omega) fun h' x he' hx' => ?_)
    obtain ⟨o, ho, hc'⟩ := hx'
    refine wpAny_bind (wpAny_isInstance (T := "StopIteration") (b := true) ⟨o, ho, hc'⟩ isSubtype_stop ?_)
    exact wpAny_pure ⟨rfl, I.turned (t' := s.toks) (fun b o hb q => he' b o hb q) f0 f1 f3 f4 f5⟩
  self := fun A i s Q E st h => let ⟨⟨_, he⟩, _⟩ := st; wpAny_pyIter_enum he h
def iEnumT (K : PySem.W.Frag) (ta : TA) : TI := fun σ H R => ta σ H fun vs H1 => ∃ a xs, vs = [.ref a] ∧ SqT K H1 a xs ∧ R (IteT K a) H1
theorem pi_enumT {X : Cx} {e : Expr} {ta : TA} {p pos tpos : Pos} {elts : List Expr} {kk : Nat} (hg : Gl X "enumerate") (hm : X.mg "enumerate" = none) (ha : PA X [e] ta) (hs : starEach [e] X.env = [(false, eval e X.env)] := by rfl) :
    PI X (.Tuple elts kk tpos) (.Call (.Name "enumerate" p) [e] [] pos) (iEnumT X.K ta) := by
  refine ⟨fun pins s σ H R I h => ?_⟩
  refine Call_ (ld_blt I hg hm boot_enumerate (PyProof.Rows.callWith_type1 (thn (ha.run pos pins s σ H _ I h) fun us s1 ⟨vs, H1, I1, r1, q1⟩ => ?_) hs rfl))
  obtain ⟨a, xs, ex, hq, q⟩ := q1
  subst ex
  cases r1 with
  | cons r rr =>
    cases rr
    cases r
    obtain ⟨its, rv, p', hz⟩ := I1.tuple hq
    refine call_enumerate_tuple (show s1.heap.IsTuple a its.toArray from p') fun h' he hit hsz hk => wpAny_pyIter_enum he ?_
    have I2 : Inv X pins σ H1 { s1 with heap := h' } := I1.kept (t' := s1.toks) hk
    refine ⟨s1.heap.objs.size + 1, [s1.heap.objs.size + 1, s1.heap.objs.size], _, _, H1, rfl, I2, turn_enumT a (s1.heap.objs.size + 1) s1.heap.objs.size, ⟨⟨.none, he⟩, hit, Nat.succ_ne_self _⟩, fun b hb => ?_, q⟩
    have e' : b = s1.heap.objs.size + 1 ∨ b = s1.heap.objs.size := by simpa using hb
    have hle : s1.heap.objs.size ≤ b := by
      rcases e' with z | z
      · rw [z]; exact Nat.le_succ _
      · rw [z]; exact Nat.le_refl _
    exact I1.fpOk hle (I1.hok.fresh hle)
section
variable {K : PySem.W.Frag} {σ : L2.St} {H : Hp} {tA : TA} {R : It → Hp → Prop} {a : Addr} {xs : List V}
def PiE (K : PySem.W.Frag) (vs : List V) (H : Hp) (R : It → Hp → Prop) : Prop := ∃ a xs, vs = [.ref a] ∧ SqT K H a xs ∧ R (IteT K a) H
theorem walk_enumT : Walk (IteT K a) xs.length (fun H => SqT K H a xs) (YPair (fun i => some (.int (i : Nat))) (fun i => xs[i]?)) := by
  refine ⟨fun i _ hi q => ⟨xs, xs[i], q, by simp [hi]⟩, fun _ q => ⟨xs, q, Nat.le_refl _⟩, fun i H v H' _ q y => ?_⟩
  obtain ⟨T, x, h1, h2, h3, h4⟩ := y
  exact ⟨T, .int (i : Nat), x, h1, h2, h3, rfl, h4 xs q⟩
theorem s_iE (h : tA σ H fun vs H1 => PiE K vs H1 R) : iEnumT K tA σ H R := h
theorem s_iE2 (h1 : SqT K H a xs) (h : ∀ J, Walk J xs.length (fun H => SqT K H a xs) (YPair (fun i => some (.int (i : Nat))) (fun i => xs[i]?)) → R J H) : PiE K [.ref a] H R := ⟨a, xs, rfl, h1, h _ walk_enumT⟩
end
end Mi

set_option Elab.async false
set_option linter.all false
set_option maxRecDepth 100000
set_option maxHeartbeats 2000000
namespace Mi
open PySem PySem.Spec PyProof.Rows L2
def txOk (x : Str) : Bool := PyData.strOk x
theorem lay_all : ∀ {ds : List PyData}, (∀ d ∈ ds, d.canLay0 = true) → PyData.canLayAll0 ds = true
  | [], _ => rfl
  | d :: ds, h => by
    show (d.canLay0 && PyData.canLayAll0 ds) = true
    rw [h d List.mem_cons_self, lay_all fun x hx => h x (List.mem_cons_of_mem _ hx)]
    rfl
theorem depth_all {k : Nat} : ∀ {ds : List PyData}, (∀ d ∈ ds, d.depth ≤ k) → PyData.depthAll ds ≤ k
  | [], _ => Nat.zero_le _
  | d :: ds, h => by
    show max d.depth (PyData.depthAll ds) ≤ k
    have h1 := h d List.mem_cons_self
    have h2 := depth_all (ds := ds) fun x hx => h x (List.mem_cons_of_mem _ hx)
    omega
structure Sh (k : Nat) (d : PyData) : Prop where
  l : d.canLay0 = true
  d : d.depth ≤ k
theorem Sh.shaped {k : Nat} {d : PyData} (h : Sh k d) (hk : k ≤ 64) : SeqAt.shaped d = true := by
  unfold SeqAt.shaped
  rw [h.l, Bool.true_and, decide_eq_true_eq]
  exact Nat.le_trans h.d hk
theorem Sh.int {i : Int} : Sh 0 (.int i) := ⟨rfl, Nat.le_refl _⟩
theorem Sh.str {x : Str} (h : txOk x = true) : Sh 0 (.str x) := ⟨h, Nat.le_refl _⟩
theorem Sh.tup {k : Nat} {ds : List PyData} (h : ∀ d ∈ ds, Sh k d) : Sh (k + 1) (.tuple ds) := ⟨lay_all fun d hd => (h d hd).l, Nat.succ_le_succ (depth_all fun d hd => (h d hd).d)⟩
theorem Sh.lst {k : Nat} {ds : List PyData} (h : ∀ d ∈ ds, Sh k d) : Sh (k + 1) (.list ds) := ⟨lay_all fun d hd => (h d hd).l, Nat.succ_le_succ (depth_all fun d hd => (h d hd).d)⟩
theorem Sh.mono {j k : Nat} {d : PyData} (h : Sh j d) (hk : j ≤ k) : Sh k d := ⟨h.l, Nat.le_trans h.d hk⟩
theorem sh_strs {l : List Str} (h : ∀ x ∈ l, txOk x = true) : ∀ d ∈ l.map PyData.str, Sh 0 d := fun d hd => by
  obtain ⟨x, hx, rfl⟩ := List.mem_map.mp hd
  exact Sh.str (h x hx)
theorem Sh.refl {k : Nat} {d : PyData} (h : Sh k d) : PyData.eqv d d = true := SeqAt.eqv_refl d h.l
theorem noLs_all : ∀ {ds : List PyData}, (∀ d ∈ ds, noL d = true) → noLs ds = true
  | [], _ => rfl
  | d :: ds, h => by
    show (noL d && noLs ds) = true
    rw [h d List.mem_cons_self, noLs_all fun x hx => h x (List.mem_cons_of_mem _ hx)]
    rfl
theorem noL_strs {l : List Str} : noL (.tuple (l.map PyData.str)) = true := noLs_all fun d hd => by
  obtain ⟨x, hx, rfl⟩ := List.mem_map.mp hd
  rfl
section
variable [Lw] {K : PySem.W.Frag} {H : Hp} {Q : VK} {a b : Addr} {xs ys : List V}
theorem s_catA (h1 : SqT K H a xs) (h2 : SqT K H b ys) (hz : xs.length + ys.length ≤ sizeLine) (h : ∀ p H1, Mv H H1 → SqT K H1 p (xs ++ ys) → Q (.ref p) H1) : rCatA K (.ref a) (.ref b) H Q := by
  refine ⟨a, b, xs, ys, rfl, rfl, h1, h2, hz, fun e => ?_, fun _ e => ?_, fun _ _ p hp => ?_⟩
  · subst e
    exact h b H (.refl H) h2
  · subst e
    exact h a H (.refl H) (by rw [List.append_nil]; exact h1)
  · exact h p _ (.new hp) (SqT.of upd_same)
theorem cutV_whole {lo hi : Option Int} (h : HT.sIx xs.length 0 lo = 0 ∧ HT.sIx xs.length xs.length hi = xs.length) : cutV xs lo hi = xs := by
  unfold cutV
  rw [h.1, h.2, List.drop_zero, Nat.sub_zero, List.take_length]
theorem s_slA {lo hi : Option Int} (h1 : SqT K H a xs) (h : ∀ p H1, Mv H H1 → SqT K H1 p (cutV xs lo hi) → Q (.ref p) H1) : rSlA K (.ref a) lo hi H Q := by
  refine ⟨a, xs, rfl, h1, fun e => ?_, fun _ p hp => ?_⟩
  · exact h a H (.refl H) (by rw [cutV_whole e]; exact h1)
  · exact h p _ (.new hp) (SqT.of upd_same)
theorem s_tupOfL {p : Addr} {ys : List V} (h1 : SqL K H p ys) (h : ∀ l, H l = none → Q (.ref l) (upd H l (.tup ys))) : ∃ p' ys', [V.ref p] = [V.ref p'] ∧ ((SqL K H p' ys' ∧ ∀ l, H l = none → Q (.ref l) (upd H l (.tup ys'))) ∨ (SqT K H p' ys' ∧ Q (.ref p') H)) := ⟨p, ys, rfl, .inl ⟨h1, h⟩⟩
theorem s_tupOfT {p : Addr} {ys : List V} (h1 : SqT K H p ys) (h : Q (.ref p) H) : ∃ p' ys', [V.ref p] = [V.ref p'] ∧ ((SqL K H p' ys' ∧ ∀ l, H l = none → Q (.ref l) (upd H l (.tup ys'))) ∨ (SqT K H p' ys' ∧ Q (.ref p') H)) := ⟨p, ys, rfl, .inr ⟨h1, h⟩⟩
theorem s_ext2 {x y : List V} (h1 : H a = some (.lst x)) (h2 : H b = some (.lst y)) (hz : x.length + y.length ≤ sizeLine) (h : Q (.ref a) (upd H a (.lst (x ++ y)))) : rExt2 (.ref a) (.ref b) H Q := ⟨a, b, x, y, rfl, rfl, h1, h2, hz, h⟩
theorem s_cat {x y : List V} (h1 : H a = some (.lst x)) (h2 : H b = some (.lst y)) (hz : x.length + y.length ≤ sizeLine) (h : ∀ p, H p = none → Q (.ref p) (upd H p (.lst (x ++ y)))) : rCat (.ref a) (.ref b) H Q := ⟨a, b, x, y, rfl, rfl, h1, h2, hz, h⟩
theorem mv_free_ne {H H' : Hp} {p q : Addr} {u : HO} (m : Mv H H') (hp : H p = none) (hq : H q = some u) : q ≠ p := ne_of_none hq hp
end
/-! ### orders of names -/
def permsF : Nat → List Str → List (List Str)
  | 0, _ => [[]]
  | n + 1, ns => if ns = [] then [[]] else (List.range ns.length).flatMap fun i => (permsF n (ns.eraseIdx i)).map (ns.getD i Str.empty :: ·)
theorem permsF_nil {n : Nat} : permsF n [] = [[]] := by
  cases n with
  | zero => rfl
  | succ n => rw [permsF, if_pos rfl]
theorem permsF_succ {n : Nat} {ns : List Str} (h : ns ≠ []) : permsF (n + 1) ns = (List.range ns.length).flatMap fun i => (permsF n (ns.eraseIdx i)).map (ns.getD i Str.empty :: ·) := by
  rw [permsF, if_neg h]
theorem permsF_le : ∀ {n : Nat} {ns : List Str}, ns.length ≤ n → n ≤ 5 → (permsF n ns).length ≤ 5 ^ n
  | 0, _, _, _ => Nat.le_refl _
  | n + 1, ns, h, h5 => by
    by_cases e : ns = []
    · rw [e, permsF_nil]
      exact Nat.one_le_pow _ _ (by decide)
    rw [permsF_succ e, List.length_flatMap]
    have key : ∀ l : List Nat, (∀ i ∈ l, i < ns.length) → (l.map fun i => ((permsF n (ns.eraseIdx i)).map (ns.getD i Str.empty :: ·)).length).sum ≤ l.length * 5 ^ n := by
      intro l
      induction l with
      | nil => intro _; simp
      | cons i l ih =>
        intro hl
        have h1 := ih fun j hj => hl j (List.mem_cons_of_mem _ hj)
        have h2 : (permsF n (ns.eraseIdx i)).length ≤ 5 ^ n := permsF_le (by rw [List.length_eraseIdx_of_lt (hl i List.mem_cons_self)]; omega) (by omega)
        rw [List.map_cons, List.sum_cons, List.length_map, List.length_cons, Nat.add_mul]
        omega
    have h3 := key (List.range ns.length) fun i hi => List.mem_range.mp hi
    rw [List.length_range] at h3
    have h4 : ns.length * 5 ^ n ≤ 5 * 5 ^ n := Nat.mul_le_mul_right _ (by omega)
    rw [Nat.pow_succ, Nat.mul_comm (5 ^ n) 5]
    exact Nat.le_trans h3 h4
theorem permsF_mem : ∀ {n : Nat} {ns o : List Str}, o ∈ permsF n ns → ∀ x ∈ o, x ∈ ns
  | 0, _, o, h, x, hx => by
    rw [permsF, List.mem_singleton] at h
    rw [h] at hx
    cases hx
  | n + 1, ns, o, h, x, hx => by
    by_cases e : ns = []
    · rw [e, permsF_nil, List.mem_singleton] at h
      rw [h] at hx
      cases hx
    rw [permsF_succ e, List.mem_flatMap] at h
    obtain ⟨i, hi, h⟩ := h
    obtain ⟨o', h', rfl⟩ := List.mem_map.mp h
    rcases List.mem_cons.mp hx with rfl | hx
    · have hi := List.mem_range.mp hi
      rw [List.getD_eq_getElem?_getD, List.getElem?_eq_getElem hi]
      exact List.getElem_mem hi
    · exact List.mem_of_mem_eraseIdx (permsF_mem h' x hx)
theorem permsF_len : ∀ {n : Nat} {ns o : List Str}, o ∈ permsF n ns → o.length ≤ n
  | 0, _, o, h => by
    rw [permsF, List.mem_singleton] at h
    rw [h]
    exact Nat.le_refl _
  | n + 1, ns, o, h => by
    by_cases e : ns = []
    · rw [e, permsF_nil, List.mem_singleton] at h
      rw [h]
      exact Nat.zero_le _
    rw [permsF_succ e, List.mem_flatMap] at h
    obtain ⟨i, hi, h⟩ := h
    obtain ⟨o', h', rfl⟩ := List.mem_map.mp h
    exact Nat.succ_le_succ (permsF_len h')
theorem take_more {α : Type} {l : List α} {i : Nat} {x : α} (h : l[i]? = some x) : l.take (i + 1) = l.take i ++ [x] := by
  obtain ⟨hi, e⟩ := List.getElem?_eq_some_iff.mp h
  rw [List.take_succ_eq_append_getElem hi, e]
theorem noLs_ords {l : List (List Str)} {n : Str} : noLs (l.map fun o => .tuple ((n :: o).map .str)) = true := noLs_all fun d hd => by
  obtain ⟨x, hx, rfl⟩ := List.mem_map.mp hd
  exact noL_strs
theorem noLs_ords' {l : List (List Str)} : noLs (l.map fun o => .tuple (o.map .str)) = true := noLs_all fun d hd => by
  obtain ⟨x, hx, rfl⟩ := List.mem_map.mp hd
  exact noL_strs
theorem nl_all [Lw] {H H' : Hp} {K : PySem.W.Frag} (m : Nl H H') {ds : List PyData} {vs : List V} (hn : noLs ds = true) (h : DpAll K H vs ds) : DpAll K H' vs ds := nl_dps m ds vs hn h
theorem pow5 {m : Nat} (h : m ≤ 4) : 5 ^ m ≤ 625 := Nat.pow_le_pow_right (by decide) h
theorem permsF_pos : ∀ {n : Nat} {ns : List Str}, ns.length ≤ n → ∃ o, o ∈ permsF n ns
  | 0, _, _ => ⟨[], by rw [permsF]; exact List.mem_singleton.mpr rfl⟩
  | n + 1, ns, h => by
    by_cases e : ns = []
    · exact ⟨[], by rw [e, permsF_nil]; exact List.mem_singleton.mpr rfl⟩
    have hp := List.length_pos_iff.mpr e
    obtain ⟨o, ho⟩ := permsF_pos (n := n) (ns := ns.eraseIdx 0) (by rw [List.length_eraseIdx_of_lt hp]; omega)
    rw [permsF_succ e]
    exact ⟨_, List.mem_flatMap.mpr ⟨0, List.mem_range.mpr hp, List.mem_map.mpr ⟨o, ho, rfl⟩⟩⟩
theorem nodup_inj : ∀ {ns : List Str}, ns.Nodup → ∀ {i j : Nat} {n : Str}, ns[i]? = some n → ns[j]? = some n → i = j
  | [], _, i, j, n, h, _ => by simp at h
  | x :: ns, hn, 0, 0, n, _, _ => rfl
  | x :: ns, hn, 0, j + 1, n, h1, h2 => by
    cases h1
    exact absurd (get_mem (show ns[j]? = some x from h2)) (List.nodup_cons.mp hn).1
  | x :: ns, hn, i + 1, 0, n, h1, h2 => by
    cases h2
    exact absurd (get_mem (show ns[i]? = some x from h1)) (List.nodup_cons.mp hn).1
  | x :: ns, hn, i + 1, j + 1, n, h1, h2 => congrArg Nat.succ (nodup_inj (List.nodup_cons.mp hn).2 h1 h2)
abbrev ordD (o : List Str) : PyData := .tuple (o.map .str)
theorem sh_ord {n : Nat} {ns : List Str} (h : ∀ x ∈ ns, txOk x = true) : ∀ d ∈ (permsF n ns).map ordD, Sh 1 d := fun d hd => by
  obtain ⟨o, ho, rfl⟩ := List.mem_map.mp hd
  exact Sh.tup (sh_strs fun x hx => h x (permsF_mem ho x hx))
theorem erase_cut {ns : List Str} {i : Nat} (hi : i < ns.length) : cutV (ns.map V.str) none (some (i : Int)) ++ cutV (ns.map V.str) (some ((i : Int) + 1)) none = (ns.eraseIdx i).map V.str := by
  unfold cutV
  have e1 : ((i : Int) + 1) = ((i + 1 : Nat) : Int) := by omega
  rw [e1, HT.sIx_none, HT.sIx_none, HT.sIx_nat, HT.sIx_nat, List.length_map, List.drop_zero, Nat.sub_zero, Nat.min_eq_left (by omega), Nat.min_eq_left (by omega), List.eraseIdx_eq_take_drop_succ, List.map_append, List.map_take, List.map_drop]
  congr 1
  rw [List.take_of_length_le (by simp)]
end Mi

set_option Elab.async false
set_option linter.all false
set_option maxRecDepth 100000
set_option maxHeartbeats 2000000
namespace Mi
open PySem PySem.Spec PyProof.Rows L2
/-! ### the rules with the written part named -/
def rLenK (K : PySem.W.Frag) : List V → Hp → VK → Prop := fun xs H Q => ∃ p ys, xs = [.ref p] ∧ (SqL K H p ys ∨ SqT K H p ys) ∧ Q (.int ys.length) H
def rListK (K : PySem.W.Frag) : List V → Hp → VK → Prop := fun xs H Q => ∃ p ys, xs = [.ref p] ∧ (SqL K H p ys ∨ SqT K H p ys) ∧ ∀ l, H l = none → Q (.ref l) (upd H l (.lst ys))
def rTupK (K : PySem.W.Frag) : List V → Hp → VK → Prop := fun xs H Q => ∃ p ys, xs = [.ref p] ∧ ((SqL K H p ys ∧ ∀ l, H l = none → Q (.ref l) (upd H l (.tup ys))) ∨ (SqT K H p ys ∧ Q (.ref p) H))
section
variable {X : Cx} {K : PySem.W.Frag}
theorem op_catAK (h : X.K = K) : OpR X (binaryOp .Add) (rCatA K) := by subst h; exact op_catA
theorem op_eqDK (h : X.K = K) (hu : X.A.units + 64 < cLine) : OpR X (compareOp .Eq) (rEqD K) := by subst h; exact op_eqD hu
theorem op_neDK (h : X.K = K) (hu : X.A.units + 64 < cLine) : OpR X (compareOp .NotEq) (rNeD K) := by subst h; exact op_neD hu
theorem ix_listK (h : X.K = K) : IxR X (rIxL K) := by subst h; exact ix_list
theorem ix_tupK (h : X.K = K) : IxR X (rIxT K) := by subst h; exact ix_tup
theorem sl_listK (h : X.K = K) : SlR X (rSlL K) := by subst h; exact sl_list
theorem sl_tupAK (h : X.K = K) : SlR X (rSlA K) := by subst h; exact sl_tupA
theorem pe_fldK {e : Expr} {f : Str} {pos : Pos} {ta : TE} (h : X.K = K) (he : PE X e ta) (hb : attributeBase e f X.env (eval e X.env) = eval e X.env) : PE X (.Attribute e f pos) (tFld K ta f) := by subst h; exact pe_fld he hb
theorem pi_listK {tg l : Expr} {tl : TE} (h : X.K = K) (hl : PE X l tl) : PI X tg l (iList K tl) := by subst h; exact pi_list hl
theorem pi_tupK {tg l : Expr} {tl : TE} (h : X.K = K) (hl : PE X l tl) : PI X tg l (iTup K tl) := by subst h; exact pi_tup hl
theorem pg_tupK {es : List Expr} {k : Nat} {t : TGs} {n : Nat} {pos : Pos} (hK : X.K = K) (hc : X.calm = true) (h : PGs X es t) (hn : (assignEach es X.env).length = n := by rfl) (hst : (assignEach es X.env).findIdx? (·.1) = none := by rfl) : PG X (.Tuple es k pos) (gTup K n t) := by subst hK; exact pg_tup hc h hn hst
theorem pi_enumTK {e : Expr} {ta : TA} {p pos tpos : Pos} {elts : List Expr} {kk : Nat} (h : X.K = K) (hg : Gl X "enumerate") (hm : X.mg "enumerate" = none) (ha : PA X [e] ta) (hs : starEach [e] X.env = [(false, eval e X.env)] := by rfl) :
    PI X (.Tuple elts kk tpos) (.Call (.Name "enumerate" p) [e] [] pos) (iEnumT K ta) := by subst h; exact pi_enumT hg hm ha hs
theorem call_lenK (h : X.K = K) : CallR X (.builtin "len") (rLenK K) := by subst h; exact call_len_seq
theorem call_listK (h : X.K = K) : CallR X (.type "list") (rListK K) := by subst h; exact call_list_of
theorem call_tupleK (h : X.K = K) : CallR X (.type "tuple") (rTupK K) := by subst h; exact call_tuple_of
theorem cr_maxK (h : X.K = K) (hc : X.calm = true) : CallR X (.builtin "max") (rMax K) := by subst h; exact cr_max hc
theorem cr_minK (h : X.K = K) (hc : X.calm = true) : CallR X (.builtin "min") (rMin K) := by subst h; exact cr_min hc
theorem cr_sumK (h : X.K = K) (hc : X.calm = true) : CallR X (.builtin "sum") (rSum K) := by subst h; exact cr_sum hc
theorem mt_indexK (h : X.K = K) : MtR X "list.index" (rIndex K) := by subst h; exact mt_index
theorem pe_revLK {e : Expr} {te : TE} {k : Nat} {p1 p2 p3 pos : Pos} (h : X.K = K) (he : PE X e te) : PE X (.Subscript e (.Slice none none (some (.UnaryOp .USub (.Constant (.int 1) k p1) p2)) p3) pos) (tRevL K te) := by subst h; exact pe_revL he
end
section
variable {K : PySem.W.Frag} {σ : L2.St} {H : Hp} {Q : VK} {p : Addr} {ys : List V} {te : TE}
theorem s_lenKL (h1 : SqL K H p ys) (h : Q (.int ys.length) H) : rLenK K [.ref p] H Q := ⟨p, ys, rfl, .inl h1, h⟩
theorem s_lenKT (h1 : SqT K H p ys) (h : Q (.int ys.length) H) : rLenK K [.ref p] H Q := ⟨p, ys, rfl, .inr h1, h⟩
theorem s_listKL (h1 : SqL K H p ys) (h : ∀ l, H l = none → Q (.ref l) (upd H l (.lst ys))) : rListK K [.ref p] H Q := ⟨p, ys, rfl, .inl h1, h⟩
theorem s_listKT (h1 : SqT K H p ys) (h : ∀ l, H l = none → Q (.ref l) (upd H l (.lst ys))) : rListK K [.ref p] H Q := ⟨p, ys, rfl, .inr h1, h⟩
theorem s_tupKL (h1 : SqL K H p ys) (h : ∀ l, H l = none → Q (.ref l) (upd H l (.tup ys))) : rTupK K [.ref p] H Q := ⟨p, ys, rfl, .inl ⟨h1, h⟩⟩
theorem s_tupKT (h1 : SqT K H p ys) (h : Q (.ref p) H) : rTupK K [.ref p] H Q := ⟨p, ys, rfl, .inr ⟨h1, h⟩⟩
theorem s_revE (h : te σ H fun x H1 => ∃ a xs, x = .ref a ∧ SqL K H1 a xs ∧ ∀ p, H1 p = none → Q (.ref p) (upd H1 p (.lst xs.reverse))) : tRevL K te σ H Q := h
theorem s_rev {R : Addr → List V → Prop} (h1 : SqL K H p ys) (h : R p ys) : ∃ a xs, V.ref p = .ref a ∧ SqL K H a xs ∧ R a xs := ⟨p, ys, rfl, h1, h⟩
end
end Mi

set_option Elab.async false
set_option linter.all false
set_option maxRecDepth 100000
set_option maxHeartbeats 2000000
namespace Mi
open PySem PySem.Spec PyProof.Rows L2
/-! ### texts in order -/
def leS (x y : Str) : Bool := decide (x.cps.toList ≤ y.cps.toList)
theorem leS_trans (a b c : Str) (h1 : leS a b = true) (h2 : leS b c = true) : leS a c = true := decide_eq_true (List.le_trans (of_decide_eq_true h1) (of_decide_eq_true h2))
theorem leS_total (a b : Str) : (leS a b || leS b a) = true := by
  rcases List.le_total a.cps.toList b.cps.toList with h | h
  · rw [leS, decide_eq_true h]; rfl
  · rw [show leS b a = true from decide_eq_true h, Bool.or_true]
theorem str_ext {a b : Str} (h : a.cps.toList = b.cps.toList) : a = b := by
  cases a with
  | mk a => cases b with
    | mk b =>
      have : a = b := Array.toList_inj.mp h
      rw [this]
theorem leS_anti {a b : Str} (h1 : leS a b = true) (h2 : leS b a = true) : a = b := str_ext (List.le_antisymm (of_decide_eq_true h1) (of_decide_eq_true h2))
theorem uniq_leS {l1 l2 : List Str} (hp : l1.Perm l2) (h1 : l1.Pairwise fun a b => leS a b = true) (h2 : l2.Pairwise fun a b => leS a b = true) : l1 = l2 :=
  List.Perm.eq_of_pairwise (fun a b _ _ x y => leS_anti x y) h1 h2 hp
theorem ltCps_eq : ∀ a b : List Nat, ltCps a b = decide (a < b)
  | [], [] => by simp [ltCps]
  | [], _ :: _ => by simp [ltCps]
  | _ :: _, [] => by simp [ltCps]
  | a :: r, b :: t => by
    rw [ltCps, ltCps_eq r t]
    by_cases h : a < b
    · simp [h, List.cons_lt_cons_iff]
    · by_cases e : a = b
      · simp [e, List.cons_lt_cons_iff]
      · simp [h, e, List.cons_lt_cons_iff]
theorem rising_pairwise : ∀ (l : List Str) (p : Str), risingS p l = true → (p :: l).Pairwise fun a b => leS a b = true
  | [], p, _ => List.pairwise_singleton _ _
  | x :: r, p, h => by
    have h := Bool.and_eq_true_iff.mp (show (!ltCps x.cps.toList p.cps.toList && risingS x r) = true from h)
    have ih := rising_pairwise r x h.2
    have hpx : leS p x = true := by
      have z := h.1
      rw [ltCps_eq, Bool.not_eq_true', decide_eq_false_iff_not] at z
      exact decide_eq_true (List.not_lt.mp z)
    refine List.pairwise_cons.mpr ⟨fun y hy => ?_, ih⟩
    rcases List.mem_cons.mp hy with rfl | hy
    · exact hpx
    · exact leS_trans _ _ _ hpx ((List.pairwise_cons.mp ih).1 y hy)
theorem sortedS_pairwise {l : List Str} (h : sortedS l = true) : l.Pairwise fun a b => leS a b = true := by
  cases l with
  | nil => exact List.Pairwise.nil
  | cons x r => exact rising_pairwise r x h
theorem sortedV_strs {ns ns' : List Str} (hp : ns'.Perm ns) (hs : ns.Pairwise fun a b => leS a b = true) : sortedV (ns'.map fun x => (V.str x, PyData.str x)) = ns.map V.str := by
  unfold sortedV
  rw [← List.map_mergeSort (r := leS) (fun a _ b _ => ?_), List.map_map]
  · rw [uniq_leS (l1 := ns'.mergeSort leS) (l2 := ns) ((List.mergeSort_perm _ _).trans hp) (List.pairwise_mergeSort leS_trans leS_total _) hs]
    rfl
  · show leS a b = PySem.W.dataLe false (fun q : V × PyData => q.2) (V.str a, PyData.str a) (V.str b, PyData.str b)
    rw [PySem.W.dataLe_eq]
    show leS a b = !PySem.W.dataLt (.str b) (.str a)
    rw [PySem.W.dataLt_str, PySem.W.not_lt_str]
    rfl
theorem sortP_strs {K : PySem.W.Frag} {H : Hp} {ns : List Str} : SortP K H (ns.map V.str) (ns.map fun x => (V.str x, PyData.str x)) := by
  refine ⟨by rw [List.map_map]; rfl, fun q hq => ?_, fun q hq => ?_, ?_, .inr fun d hd => ?_⟩
  · obtain ⟨x, _, rfl⟩ := List.mem_map.mp hq
    exact .str x
  · obtain ⟨x, _, rfl⟩ := List.mem_map.mp hq
    rfl
  · rw [List.map_map]
    intro d hd d' hd'
    obtain ⟨x, _, rfl⟩ := List.mem_map.mp hd
    obtain ⟨y, _, rfl⟩ := List.mem_map.mp hd'
    rfl
  · rw [List.map_map] at hd
    obtain ⟨x, _, rfl⟩ := List.mem_map.mp hd
    exact ⟨fun z => (nomatch z), fun xs z => nomatch z⟩
end Mi

set_option Elab.async false
set_option linter.all false
set_option maxRecDepth 100000
set_option maxHeartbeats 2000000
namespace Mi
open PySem PySem.Spec PyProof.Rows L2
/-! ### told otherwise -/
def Plain : HO → Prop
  | .lst _ => True
  | .ext _ => True
  | _ => False
section
variable {X : Cx} {pins : List (Addr × Obj)} {σ : L2.St} {H : Hp} {s : Shared} {p : Addr}
theorem recast {o o' : HO} (I : Inv X pins σ H s) (hp : H p = some o) (n1 : Plain o) (n2 : Plain o') (ok : ObjOk X.prog X.w (upd H p o') s.heap p o') : Inv X pins σ (upd H p o') s := by
  have nf : ∀ b u, H b = some u → ¬ Plain u → b ≠ p := fun b u e n z => by
    rw [z, hp] at e
    rw [← Option.some.inj e] at n
    exact n n1
  refine I.step (h' := s.heap) (g' := s.gens) (d' := s.drawn) (t' := s.toks) (ch := []) (fun b hb => absurd hb (by simp)) (fun b o _ _ _ q _ => q) (fun b o _ _ _ q _ => ⟨o.slots, q⟩) (fun b u _ _ n => ?_) (fun b o _ q => ⟨o, q⟩)
    (fun b xs q => ?_) (fun b o u q => ?_) (fun b ps q => ⟨#[], ?_⟩) (fun m hm => hm) (fun b u q => ?_) I.bare
  · by_cases z : b = p
    · rw [z, hp] at n
      cases n
    · rw [upd_ne z]
      exact n
  · rw [upd_ne (nf b _ q fun z => z)]
    exact q
  · rw [upd_ne (nf b _ q fun z => z)]
    exact q
  · rw [upd_ne (nf b _ q fun z => z), q]
    simp
  · by_cases hb : b = p
    · rw [hb, upd_same] at q
      cases q
      rw [hb]
      exact ok
    · rw [upd_ne hb] at q
      exact (I.hok b u q).stay (fun _ _ _ y => y) (fun d y => by rw [upd_ne (nf d _ y fun z => z)]; exact y) fun d xs y => by rw [upd_ne (nf d _ y fun z => z)]; exact y
end
/-! ### the law's dice: a list of three ints, whatever they are -/
abbrev DiceO (p : Addr) : HO := .ext fun h => ∃ (its : List Value) (x y z : Int) (n : Nat), Vals [.int x, .int y, .int z] its ∧ h.get? p = some { cls := .type "list", data := .seq its.toArray n }
theorem upd_back {H : Hp} {p : Addr} {o : HO} (h : H p = some o) : upd H p o = H := by
  funext b
  by_cases z : b = p
  · rw [z, upd_same, h]
  · rw [upd_ne z]
section
variable {X : Cx} {pins : List (Addr × Obj)} {σ : L2.St} {H : Hp} {s : Shared} {p : Addr}
theorem dice_open (I : Inv X pins σ H s) (hp : H p = some (DiceO p)) : ∃ x y z, Inv X pins σ (upd H p (.lst [.int x, .int y, .int z])) s := by
  obtain ⟨⟨its, x, y, z, n, rv, ho⟩, _, _⟩ := I.hok p _ hp
  exact ⟨x, y, z, recast I hp True.intro True.intro ⟨by show 3 ≤ sizeLine; decide, its, n, rv, ho⟩⟩
theorem dice_shut {x y z : Int} (I : Inv X pins σ H s) (hp : H p = some (.lst [.int x, .int y, .int z])) : Inv X pins σ (upd H p (DiceO p)) s := by
  obtain ⟨_, its, n, rv, ho⟩ := I.hok p _ hp
  exact recast I hp True.intro True.intro ⟨⟨its, x, y, z, n, rv, ho⟩, ⟨_, ho⟩, fun h1 h2 ⟨its, x, y, z, n, rv, h⟩ k => ⟨its, x, y, z, n, rv, k _ h⟩⟩
end
def spDice [Lw] : Sp := fun vs H Q _ => ∃ c : Int, vs = [.int c] ∧ ∀ (p : Addr) (x y z : Int) (H' : Hp), H p = none → Mv H H' → H' p = some (.lst [.int x, .int y, .int z]) → Q (.ref p) H'
def spRoll : Sp := fun vs H Q _ => ∃ (p : Addr) (n x y z : Int), vs = [.ref p, .int n] ∧ H p = some (.lst [.int x, .int y, .int z]) ∧ 0 < n ∧ n ≤ 100000000 ∧ ∀ k x' y' z' : Int, 0 ≤ k → k < n → Q (.int k) (upd H p (.lst [.int x', .int y', .int z']))
def tSeal (t : TE) : TE := fun σ H Q => t σ H fun v H1 => ∃ p x y z, v = .ref p ∧ H1 p = some (.lst [.int x, .int y, .int z]) ∧ Q v (upd H1 p (DiceO p))
def tRoll (t : TA) : TE := fun σ H Q => t σ H fun vs H1 => ∃ (p : Addr) (n : Int), vs = [.ref p, .int n] ∧ H1 p = some (DiceO p) ∧ (0 < n ∧ n ≤ 100000000) ∧ ∀ k : Int, 0 ≤ k → k < n → Q (.int k) H1
section
variable {X : Cx} {k : Nat} {f : Addr} {fd : FuncData} {ps : List Str} {x : Str} {p pos : Pos} {e : Expr} {es : List Expr} {t : TA} {te : TE}
theorem pe_seal (h : PE X e te) : PE X e (tSeal te) := by
  refine ⟨fun pins s σ H Q I hw => thn (h.run pins s σ H _ I hw) fun u s1 ⟨v, H1, I1, r1, p, x, y, z, e1, e2, q⟩ => ?_⟩
  exact ⟨v, _, dice_shut I1 e2, r1, q⟩
theorem pe_roll (C : Cal X.prog X.w X.K X.mg X.base CX0 k x f fd ps spRoll) (hr : Room k X.A) (hg : Gl X x) (ha : PA X (e :: es) t) (hdb : (x == ("__debug__" : Str)) = false := by decide) (he : starEach (e :: es) X.env = (false, eval e X.env) :: starEach es X.env := by rfl) (hpl : (backTo pos (starEach es X.env)).any (·.1) = false := by rfl) :
    PE X (.Call (.Name x p) (e :: es) [] pos) (tRoll t) := by
  refine ⟨fun pins s σ H Q I h => ?_⟩
  refine wpAny_Call_Name_kw (ld_glob I hg C.m ?_ hdb)
  refine PySem.W.callWith_K (h₀ := X.base) I.ok.mod.kin C.kp (thn (ha.run pos pins s σ H _ I h) fun us s1 hh => ?_) he hpl
  obtain ⟨vs, H1, I1, r1, p, n, rfl, hp, h0, q⟩ := hh
  refine ⟨I1.kIn, ?_⟩
  obtain ⟨x, y, z, J⟩ := dice_open I1 hp
  refine thn (run_fn (Q := fun v H' => ∃ k x' y' z' : Int, v = .int k ∧ 0 ≤ k ∧ k < n ∧ H' = upd (upd H1 p (.lst [.int x, .int y, .int z])) p (.lst [.int x', .int y', .int z'])) (E := fun _ _ _ => False) C.ok hr C.b .nil pass0 J r1 ?_) fun u s' ⟨v, H', J', rv, k, x', y', z', ev, k0, k1, eH⟩ => ?_
  · exact ⟨p, n, x, y, z, rfl, upd_same, h0.1, h0.2, fun k x' y' z' k0 k1 => ⟨k, x', y', z', rfl, k0, k1, rfl⟩⟩
  · rw [eH, upd_upd] at J'
    have J2 := dice_shut J' upd_same
    rw [upd_upd, upd_back hp] at J2
    rw [ev] at rv
    exact ⟨.int k, H1, J2, rv, q k k0 k1⟩
end
section
variable {σ : L2.St} {H : Hp} {Q : VK} {tA : TA} {te : TE} {v : V}
theorem s_seal (h : te σ H fun v H1 => ∃ p x y z, v = .ref p ∧ H1 p = some (.lst [.int x, .int y, .int z]) ∧ Q v (upd H1 p (DiceO p))) : tSeal te σ H Q := h
theorem s_rollE (h : tA σ H fun vs H1 => ∃ (p : Addr) (n : Int), vs = [.ref p, .int n] ∧ H1 p = some (DiceO p) ∧ (0 < n ∧ n ≤ 100000000) ∧ ∀ k : Int, 0 ≤ k → k < n → Q (.int k) H1) : tRoll tA σ H Q := h
theorem s_roll {p : Addr} {n : Int} {R : Int → Prop} (h1 : H p = some (DiceO p)) (h2 : 0 < n ∧ n ≤ 100000000) (h : ∀ k : Int, 0 ≤ k → k < n → R k) : ∃ (p' : Addr) (n' : Int), [V.ref p, V.int n] = [.ref p', .int n'] ∧ H p' = some (DiceO p') ∧ (0 < n' ∧ n' ≤ 100000000) ∧ ∀ k : Int, 0 ≤ k → k < n' → R k := ⟨p, n, rfl, h1, h2, h⟩
theorem s_gSub {to ti : TE} {t : TSet} {N : L2.St → Hp → Prop} (h : to σ H fun o H1 => ti σ H1 fun i H2 => t o i v H2 fun H3 => N σ H3) : gSub to ti t v σ H N := h
theorem s_setL {p : Addr} {xs : List V} {k : Int} {j : Nat} {N : Hp → Prop} (h1 : H p = some (.lst xs)) (h2 : ixN xs.length k = some j) (h : N (upd H p (.lst (xs.set j v)))) : rSetL (.ref p) (.int k) v H N := ⟨p, xs, k, j, rfl, rfl, h1, h2, h⟩
end
end Mi

set_option Elab.async false
set_option linter.all false
set_option maxRecDepth 100000
set_option maxHeartbeats 2000000
namespace Mi
open PySem PySem.Spec PyProof.Rows L2
/-! ### rows of keys -/
theorem putK_new {κ : Type} [DecidableEq κ] {kvs : List (κ × V)} {k : κ} {v : V} (h : ∀ q ∈ kvs, q.1 ≠ k) : putK kvs k v = kvs ++ [(k, v)] := by
  unfold putK
  rw [if_neg]
  intro z
  obtain ⟨q, h1, h2⟩ := List.any_eq_true.mp z
  exact h q h1 (of_decide_eq_true h2)
theorem paired_get {α β : Type} {R : α → β → Prop} : ∀ {xs : List α} {ys : List β}, xs.length = ys.length → (∀ (i : Nat) (x : α) (y : β), xs[i]? = some x → ys[i]? = some y → R x y) → Paired R xs ys
  | [], [], _, _ => .nil
  | [], _ :: _, h, _ => by simp at h
  | _ :: _, [], h, _ => by simp at h
  | x :: xs, y :: ys, h, hr => .cons (hr 0 x y rfl rfl) (paired_get (by simpa using h) fun i a b e1 e2 => hr (i + 1) a b e1 e2)
theorem valV_get {kvs : List (Key × V)} (h : (kvs.map (·.1)).Nodup) : ∀ {i : Nat} {q : Key × V}, kvs[i]? = some q → valV kvs q.1 = some q.2 := by
  induction kvs with
  | nil => intro i q e; simp at e
  | cons p r ih =>
    intro i q e
    rw [List.map_cons, List.nodup_cons] at h
    cases i with
    | zero =>
      cases e
      exact valV_pos rfl
    | succ i =>
      rw [List.getElem?_cons_succ] at e
      have hne : p.1 ≠ q.1 := fun z => h.1 (z ▸ List.mem_map.mpr ⟨q, get_mem e, rfl⟩)
      have := ih h.2 e
      unfold valV at this ⊢
      rw [List.find?_cons_of_neg (by simpa using hne)]
      exact this
theorem lookup_get {α : Type} {kvs : List (Str × α)} (h : (kvs.map (·.1)).Nodup) : ∀ {i : Nat} {q : Str × α}, kvs[i]? = some q → kvs.lookup q.1 = some q.2 := by
  induction kvs with
  | nil => intro i q e; simp at e
  | cons p r ih =>
    intro i q e
    rw [List.map_cons, List.nodup_cons] at h
    obtain ⟨k, v⟩ := p
    cases i with
    | zero =>
      cases e
      simp [List.lookup]
    | succ i =>
      rw [List.getElem?_cons_succ] at e
      have hne : q.1 ≠ k := fun z => h.1 (z ▸ List.mem_map.mpr ⟨q, get_mem e, rfl⟩)
      have hb : (q.1 == k) = false := by simpa using hne
      rw [List.lookup_cons, hb]
      exact ih h.2 e
def rDictPK (K : PySem.W.Frag) : List V → Hp → VK → Prop := fun xs H Q => ∃ (a : Addr) (ps : List Addr) (kvs : List (Key × V)), xs = [.ref a] ∧ SqL K H a (ps.map V.ref) ∧ Paired (fun p kv => SqT K H p [kV kv.1, kv.2]) ps kvs ∧ ∀ p, H p = none → Q (.ref p) (upd H p (.dK (mergeK [] kvs)))
def rSortedDK : List V → Hp → VK → Prop := fun xs H Q => ∃ (a : Addr) (kvs : List (Key × V)) (ks : List Str), xs = [.ref a] ∧ Rd H a (.dK kvs) ∧ kvs.map (·.1) = ks.map Sum.inr ∧ ks.length < 64 ∧ ∀ ys p, ys.Perm ks → sortedS ys = true → H p = none → Q (.ref p) (upd H p (.lst (ys.map V.str)))
theorem call_dictPK {X : Cx} {K : PySem.W.Frag} (h : X.K = K) (hc : X.calm = true) : CallR X (.type "dict") (rDictPK K) := by subst h; exact call_dictP hc
theorem call_sortedDK {X : Cx} (hc : X.calm = true) : CallR X (.builtin "sorted") rSortedDK := call_sortedD hc
section
variable [Lw] {K : PySem.W.Frag} {H : Hp} {Q : VK}
theorem s_dictP {a : Addr} {ps : List Addr} {kvs : List (Key × V)} (h1 : SqL K H a (ps.map V.ref)) (h2 : Paired (fun p kv => SqT K H p [kV kv.1, kv.2]) ps kvs) (h3 : (kvs.map (·.1)).Nodup) (h : ∀ p, H p = none → Q (.ref p) (upd H p (.dK kvs))) :
    rDictPK K [V.ref a] H Q := by
  have e : ∀ (l acc : List (Key × V)), ((acc ++ l).map (·.1)).Nodup → mergeK acc l = acc ++ l := by
    intro l
    induction l with
    | nil => intro acc _; rw [List.append_nil]; rfl
    | cons q l ih =>
      intro acc hn
      show mergeK (putK acc q.1 q.2) l = _
      have hn2 := hn
      rw [List.map_append, List.map_cons] at hn2
      have hd := (List.nodup_append.mp hn2).2.2
      rw [putK_new fun r hr z => hd r.1 (List.mem_map.mpr ⟨r, hr, rfl⟩) q.1 List.mem_cons_self z]
      rw [ih (acc ++ [(q.1, q.2)]) (by rw [List.append_assoc]; exact hn), List.append_assoc]
      rfl
  refine ⟨a, ps, kvs, rfl, h1, h2, fun p hp => ?_⟩
  rw [e kvs [] h3]
  exact h p hp
theorem s_sortedD {a : Addr} {kvs : List (Key × V)} {ks : List Str} (h1 : Rd H a (.dK kvs)) (h2 : kvs.map (·.1) = ks.map Sum.inr) (h3 : ks.length < 64) (h4 : ks.Pairwise fun a b => leS a b = true) (h : ∀ p, H p = none → Q (.ref p) (upd H p (.lst (ks.map V.str)))) :
    rSortedDK [V.ref a] H Q := by
  refine ⟨a, kvs, ks, rfl, h1, h2, h3, fun ys p hp hs hn => ?_⟩
  rw [uniq_leS hp (sortedS_pairwise hs) h4]
  exact h p hn
theorem s_maxI {a : Addr} {ns : List Int} {M : Int} (h1 : SqL K H a (ns.map V.int)) (h2 : M ∈ ns) (h3 : ∀ y ∈ ns, y ≤ M) (h : Q (.int M) H) : rMax K [.ref a] H Q := by
  refine ⟨a, ns, rfl, h1, List.length_pos_of_mem h2, fun m hm hall => ?_⟩
  have : m = M := Int.le_antisymm (h3 m hm) (hall M h2)
  rw [this]
  exact h
theorem s_indexI {a : Addr} {ns : List Int} {M : Int} {j : Nat} (h1 : SqL K H a (ns.map V.int)) (h2 : ns[j]? = some M) (h3 : ∀ (m : Nat) (z : Int), m < j → ns[m]? = some z → z < M) (h : Q (.int (j : Nat)) H) : rIndex K (.ref a) [.int M] H Q := by
  refine ⟨a, ns.map V.int, .int M, j, .int M, rfl, rfl, h1, rfl, ?_, by rw [List.getElem?_map, h2]; rfl, ?_, fun m z' hm hz => ?_, h⟩
  · rw [List.all_eq_true]
    intro x hx
    obtain ⟨i, _, rfl⟩ := List.mem_map.mp hx
    rfl
  · simp [eqV]
  · obtain ⟨i, hi, rfl⟩ := map_get hz
    have := h3 m i hm hi
    simp [eqV]
    omega
end
end Mi

set_option Elab.async false
set_option linter.all false
set_option maxRecDepth 100000
set_option maxHeartbeats 2000000
namespace Mi
open PySem PySem.Spec PyProof.Rows L2
/-! ### all but what stands at S is as before -/
structure Kx [Lw] (S : List Addr) (H H' : Hp) : Prop where
  x : ∀ b o, b ∉ S → H b = some o → (∀ ps, o ≠ .tbl ps) → H' b = some o
  t : ∀ P, GxR.TabG H P → GxR.TabG H' P
  l : ∀ P ps, Lw.L P → H P = some (.tbl ps) → H' P = some (.tbl ps)
  k : ∀ b, H' b = none → H b = none
/-- what is an instance, a list, a dict -/
def isIns : HO → Bool | .ins _ _ _ => true | _ => false
def isLst : HO → Bool | .lst _ => true | _ => false
def isDct : HO → Bool | .dK _ => true | .dT _ => true | _ => false
section
variable [Lw] {K : PySem.W.Frag} {S S1 S2 : List Addr} {H H1 H2 H' : Hp} {a p : Addr} {o u : HO} {xs : List V}
theorem Kx.of (m : Mv H H') : Kx S H H' := ⟨fun b o _ e n => m.x b o e n, m.t, m.l, m.k⟩
theorem Kx.mv (m : Kx [] H H') : Mv H H' := ⟨fun b o e n => m.x b o (by simp) e n, m.t, m.l, m.k⟩
theorem Kx.refl : Kx S H H := .of (.refl H)
theorem Kx.trans (m : Kx S H H1) (n : Kx S H1 H2) : Kx S H H2 := ⟨fun b o hb e t => n.x b o hb (m.x b o hb e t) t, fun P h => n.t P (m.t P h), fun P ps hP h => n.l P ps hP (m.l P ps hP h), fun b h => m.k b (n.k b h)⟩
theorem Kx.sub (m : Kx S H H') (h : ∀ b ∈ S, b ∈ S1) : Kx S1 H H' := ⟨fun b o hb e t => m.x b o (fun z => hb (h b z)) e t, m.t, m.l, m.k⟩
theorem Kx.put (h : H p = some o) (n : ∀ ps, o ≠ .tbl ps) (hp : p ∈ S) : Kx S H (upd H p u) := by
  have c : ∀ b ps, H b = some (.tbl ps) → b ≠ p := fun b ps e z => by
    rw [z, h] at e
    exact n ps (Option.some.inj e)
  refine ⟨fun b v hb e t => ?_, fun P q => ?_, fun P ps hP q => ?_, fun b e => ?_⟩
  · rw [upd_ne fun z : b = p => hb (by rw [z]; exact hp)]
    exact e
  · obtain ⟨ps, q1, q2⟩ := q
    exact ⟨ps, by rw [upd_ne (c _ _ q1)]; exact q1, q2⟩
  · rw [upd_ne (c _ _ q)]
    exact q
  · by_cases z : b = p
    · rw [z, upd_same] at e
      cases e
    · rw [upd_ne z] at e
      exact e
theorem Kx.free (m : Kx S H H') (h : H' p = none) : H p = none := m.k p h
theorem Kx.at (m : Kx S H H') (hb : a ∉ S) (h : H a = some u) (n : ∀ ps, u ≠ .tbl ps) : H' a = some u := m.x a u hb h n
theorem Kx.lst (m : Kx S H H') (hb : a ∉ S) (h : H a = some (.lst xs)) : H' a = some (.lst xs) := m.x a _ hb h fun _ z => nomatch z
theorem Kx.tup (m : Kx S H H') (hb : a ∉ S) (h : H a = some (.tup xs)) : H' a = some (.tup xs) := m.x a _ hb h fun _ z => nomatch z
theorem Kx.dK {kvs : List (Key × V)} (m : Kx S H H') (hb : a ∉ S) (h : H a = some (.dK kvs)) : H' a = some (.dK kvs) := m.x a _ hb h fun _ z => nomatch z
theorem Kx.ins {C dx : Addr} {fs : List (Str × V)} (m : Kx S H H') (hb : a ∉ S) (h : H a = some (.ins C dx fs)) : H' a = some (.ins C dx fs) := m.x a _ hb h fun _ z => nomatch z
theorem Kx.exx {φ : Heap → Prop} (m : Kx S H H') (hb : a ∉ S) (h : H a = some (.ext φ)) : H' a = some (.ext φ) := m.x a _ hb h fun _ z => nomatch z
/-- what is of another kind than all at S is not at S -/
theorem notin_kind (q : HO → Bool) (hS : ∀ b ∈ S, ∃ o, H b = some o ∧ q o = true) (h : H a = some u) (hu : q u = false) : a ∉ S := fun z => by
  obtain ⟨o, e, qo⟩ := hS a z
  rw [h] at e
  cases e
  rw [hu] at qo
  cases qo
/-- a fresh place is not at S -/
theorem notin_fresh (hS : ∀ b ∈ S, ∃ o, H b = some o) (h : H a = none) : a ∉ S := fun z => by
  obtain ⟨o, e⟩ := hS a z
  rw [h] at e
  cases e
theorem Kx.sqT (m : Kx S H H') (hS : ∀ b ∈ S, ∃ o, H b = some o ∧ (∀ ys, o ≠ .tup ys) ∧ (∀ ob ys, o ≠ .frz ob (.tup ys))) (h : SqT K H a xs) : SqT K H' a xs := by
  rcases h with (h | ⟨ob, h⟩) | h
  · refine .inl (.inl (m.tup (fun z => ?_) h))
    obtain ⟨o, e, n, _⟩ := hS a z
    rw [h] at e
    exact n xs (Option.some.inj e).symm
  · refine .inl (.inr ⟨ob, m.x a _ (fun z => ?_) h fun _ z => nomatch z⟩)
    obtain ⟨o, e, _, n⟩ := hS a z
    rw [h] at e
    exact n ob xs (Option.some.inj e).symm
  · exact .inr h
end
/-! ### a range by steps -/
def rangeC (lo c : Int) (n : Nat) : List V := (List.range n).map fun i => .int (lo + (i : Nat) * c)
theorem rangeC_length {lo c : Int} {n : Nat} : (rangeC lo c n).length = n := by simp [rangeC]
theorem rangeC_at {lo c : Int} {n i : Nat} (h : i < n) : (rangeC lo c n)[i]? = some (.int (lo + (i : Nat) * c)) := by simp [rangeC, h]
theorem rangeC_get {lo c : Int} {n i : Nat} {y : V} (h : (rangeC lo c n)[i]? = some y) : i < n ∧ y = .int (lo + (i : Nat) * c) := by
  have hi : i < n := by
    have := (List.getElem?_eq_some_iff.mp h).1
    rw [rangeC_length] at this
    exact this
  rw [rangeC_at hi] at h
  exact ⟨hi, (Option.some.inj h).symm⟩
theorem ov_rangeC {lo c : Int} {n : Nat} : Ov (Itc lo c n) (rangeC lo c n) (fun _ => True) :=
  ⟨fun i _ hi _ => by rw [rangeC_length] at hi; exact hi, fun _ _ => by rw [rangeC_length]; exact Nat.le_refl _, fun i H x H' hi _ y => by
    rw [rangeC_length] at hi
    obtain ⟨h1, h2⟩ := y
    exact ⟨h1, by rw [rangeC_at hi, h2]⟩⟩
def PiR3 (vs : List V) (H : Hp) (R : It → Hp → Prop) : Prop := ∃ (i j c : Int) (n : Nat), vs = [.int i, .int j, .int c] ∧ RgC i j c n ∧ R (Itc i c n) H
section
variable {σ : L2.St} {H : Hp} {tA : TA} {R : It → Hp → Prop}
theorem s_iR3 (h : tA σ H fun vs H1 => PiR3 vs H1 R) : iRng3 tA σ H R := h
theorem s_iR3d {i j c : Int} (h1 : -(2 ^ 62) ≤ i ∧ i < 2 ^ 62 ∧ -(2 ^ 62) ≤ j ∧ j < 2 ^ 62) (hc : c = -1) (h : ∀ J, Ov J (rangeC i (-1) (i - j).toNat) (fun _ => True) → R J H) : PiR3 [.int i, .int j, .int c] H R := by
  subst hc
  exact ⟨i, j, -1, _, rfl, RgC.neg h1.1 h1.2.1 h1.2.2.1 h1.2.2.2, h _ ov_rangeC⟩
end
end Mi

set_option Elab.async false
set_option linter.all false
set_option maxRecDepth 100000
set_option maxHeartbeats 2000000
namespace Mi
open PySem PySem.Spec PyProof.Rows L2
/-! ### a footprint: what stands at known places -/
abbrev Ck := List Addr × List HO
abbrev ck (a : Addr) (o : HO) : Ck := ([a], [o])
abbrev Ens := List (Addr × HO)
def fl (S : List Ck) : Ens := S.flatMap fun c => c.1.zip c.2
def immut : HO → Bool
  | .tup _ => true
  | .own _ => true
  | .met _ _ => true
  | .rng _ _ => true
  | .ext _ => true
  | .xd _ => true
  | .frz _ (.tup _) => true
  | _ => false
def isTbl : HO → Bool
  | .tbl _ => true
  | _ => false
theorem fl_nil : fl [] = [] := rfl
theorem fl_cons {c : Ck} {S : List Ck} : fl (c :: S) = c.1.zip c.2 ++ fl S := rfl
theorem fl_app {S T : List Ck} : fl (S ++ T) = fl S ++ fl T := by unfold fl; rw [List.flatMap_append]
/-- where it stands -/
inductive At : List Ck → Addr → HO → Prop
  | at {as : List Addr} {os : List HO} {S : List Ck} {i : Nat} {a : Addr} {o : HO} (h1 : as[i]? = some a) (h2 : os[i]? = some o) : At ((as, os) :: S) a o
  | there {c : Ck} {S : List Ck} {a : Addr} {o : HO} (h : At S a o) : At (c :: S) a o
theorem At.here {S : List Ck} {a : Addr} {o : HO} : At (ck a o :: S) a o := .at (i := 0) rfl rfl
theorem At.mem {S : List Ck} {a : Addr} {o : HO} (h : At S a o) : (a, o) ∈ fl S := by
  induction h with
  | @«at» as os S i a o h1 h2 =>
    rw [fl_cons]
    refine List.mem_append_left _ (List.mem_of_getElem? (i := i) ?_)
    rw [List.getElem?_zip_eq_some]
    exact ⟨h1, h2⟩
  | there _ ih =>
    rw [fl_cons]
    exact List.mem_append_right _ ih
/-- one thing changed in its place -/
inductive Rp : List Ck → Addr → HO → HO → List Ck → Prop
  | at {as : List Addr} {os : List HO} {S : List Ck} {i : Nat} {a : Addr} {o o' : HO} (h1 : as[i]? = some a) (h2 : os[i]? = some o) : Rp ((as, os) :: S) a o o' ((as, os.set i o') :: S)
  | there {c : Ck} {S S' : List Ck} {a : Addr} {o o' : HO} (h : Rp S a o o' S') : Rp (c :: S) a o o' (c :: S')
theorem Rp.here {S : List Ck} {a : Addr} {o o' : HO} : Rp (ck a o :: S) a o o' (ck a o' :: S) := .at (i := 0) rfl rfl
theorem zip_set_map {as : List Addr} {os : List HO} {i : Nat} {o' : HO} : (as.zip (os.set i o')).map (·.1) = (as.zip os).map (·.1) := by
  induction as generalizing os i with
  | nil => rfl
  | cons a as ih =>
    cases os with
    | nil => rfl
    | cons o os =>
      cases i with
      | zero => rfl
      | succ i =>
        rw [List.set_cons_succ, List.zip_cons_cons, List.zip_cons_cons, List.map_cons, List.map_cons, ih]
theorem Rp.adr {S S' : List Ck} {a : Addr} {o o' : HO} (h : Rp S a o o' S') : (fl S').map (·.1) = (fl S).map (·.1) := by
  induction h with
  | «at» h1 h2 =>
    rw [fl_cons, fl_cons, List.map_append, List.map_append, zip_set_map]
  | there _ ih =>
    rw [fl_cons, fl_cons, List.map_append, List.map_append, ih]
theorem Rp.get {S S' : List Ck} {a : Addr} {o o' : HO} (h : Rp S a o o' S') : At S a o := by
  induction h with
  | «at» h1 h2 => exact .at h1 h2
  | there _ ih => exact .there ih
theorem nodup_app {α : Type} {x y : List α} (h : (x ++ y).Nodup) : ∀ {a}, a ∈ x → a ∈ y → False := fun h1 h2 => (List.nodup_append.mp h).2.2 _ h1 _ h2 rfl
theorem zip_mem {as : List Addr} {os : List HO} {q : Addr × HO} (h : q ∈ as.zip os) : ∃ i : Nat, as[i]? = some q.1 ∧ os[i]? = some q.2 := by
  obtain ⟨i, hi⟩ := List.mem_iff_getElem?.mp h
  have hi := List.getElem?_zip_eq_some.mp hi
  exact ⟨i, hi.1, hi.2⟩
theorem zip_inj {as : List Addr} {os : List HO} (h : ((as.zip os).map (·.1)).Nodup) {i j : Nat} {a : Addr} {o u : HO} (h1 : as[i]? = some a) (h2 : os[i]? = some o) (h3 : as[j]? = some a) (h4 : os[j]? = some u) : i = j := by
  have e1 : ((as.zip os).map (·.1))[i]? = some a := by
    rw [List.getElem?_map, List.getElem?_zip_eq_some (z := (a, o)) |>.mpr ⟨h1, h2⟩]
    rfl
  have e2 : ((as.zip os).map (·.1))[j]? = some a := by
    rw [List.getElem?_map, List.getElem?_zip_eq_some (z := (a, u)) |>.mpr ⟨h3, h4⟩]
    rfl
  obtain ⟨hi, f1⟩ := List.getElem?_eq_some_iff.mp e1
  obtain ⟨hj, f2⟩ := List.getElem?_eq_some_iff.mp e2
  exact (List.getElem_inj h).mp (f1.trans f2.symm)
theorem Rp.mem {S S' : List Ck} {a : Addr} {o o' : HO} (h : Rp S a o o' S') (nd : ((fl S).map (·.1)).Nodup) : ∀ q ∈ fl S', q = (a, o') ∨ (q.1 ≠ a ∧ q ∈ fl S) := by
  induction h with
  | @«at» as os S i a o o' h1 h2 =>
    intro q hq
    rw [fl_cons, List.map_append] at nd
    rw [fl_cons] at hq
    have ha : a ∈ (as.zip os).map (·.1) := List.mem_map.mpr ⟨(a, o), List.mem_of_getElem? (i := i) (by rw [List.getElem?_zip_eq_some]; exact ⟨h1, h2⟩), rfl⟩
    rcases List.mem_append.mp hq with hq | hq
    · obtain ⟨j, e1, e2⟩ := zip_mem hq
      by_cases z : i = j
      · subst z
        rw [List.getElem?_set_self (List.getElem?_eq_some_iff.mp h2).1] at e2
        rw [h1] at e1
        exact .inl (Prod.ext (Option.some.inj e1).symm (Option.some.inj e2).symm)
      · rw [List.getElem?_set_ne z] at e2
        refine .inr ⟨fun y => z ?_, ?_⟩
        · rw [y] at e1
          exact zip_inj (List.nodup_append.mp nd).1 h1 h2 e1 e2
        · rw [fl_cons]
          exact List.mem_append_left _ (List.mem_of_getElem? (i := j) (by rw [List.getElem?_zip_eq_some]; exact ⟨e1, e2⟩))
    · refine .inr ⟨fun y => ?_, by rw [fl_cons]; exact List.mem_append_right _ hq⟩
      exact nodup_app nd ha (y ▸ List.mem_map.mpr ⟨q, hq, rfl⟩)
  | @there c S S' a o o' h ih =>
    intro q hq
    rw [fl_cons, List.map_append] at nd
    rw [fl_cons] at hq
    have ha : a ∈ (fl S).map (·.1) := List.mem_map.mpr ⟨(a, o), h.get.mem, rfl⟩
    rcases List.mem_append.mp hq with hq | hq
    · refine .inr ⟨fun y => ?_, by rw [fl_cons]; exact List.mem_append_left _ hq⟩
      exact nodup_app nd (y ▸ List.mem_map.mpr ⟨q, hq, rfl⟩) ha
    · rcases ih (List.nodup_append.mp nd).2.1 q hq with e | ⟨e1, e2⟩
      · exact .inl e
      · exact .inr ⟨e1, by rw [fl_cons]; exact List.mem_append_right _ e2⟩
/-- S: of old; N: new since B -/
structure Fp [Lw] (B : Hp) (S N : List Ck) (H : Hp) : Prop where
  nd : ((fl (S ++ N)).map (·.1)).Nodup
  «at» : ∀ q ∈ fl (S ++ N), H q.1 = some q.2 ∧ isTbl q.2 = false
  nw : ∀ q ∈ fl N, B q.1 = none
  x : ∀ b o, b ∉ (fl S).map (·.1) → B b = some o → isTbl o = false → H b = some o
  im : ∀ b o, B b = some o → immut o = true → H b = some o
  t : ∀ P, GxR.TabG B P → GxR.TabG H P
  l : ∀ P, Lw.L P → LamX.TabS B P (Lw.q P) → LamX.TabS H P (Lw.q P)
  k : ∀ b, H b = none → B b = none
section
variable [Lw] {K : PySem.W.Frag} {B H H1 H2 : Hp} {S S' N N' M T : List Ck} {a p : Addr} {o o' u : HO} {xs : List V}
theorem Fp.refl : Fp B [] [] B := ⟨List.nodup_nil, fun _ h => by simp [fl] at h, fun _ h => by simp [fl] at h, fun _ _ _ h _ => h, fun _ _ h _ => h, fun _ h => h, fun _ _ h => h, fun _ h => h⟩
theorem Fp.getS (F : Fp B S N H) (m : At S a o) : H a = some o := (F.at _ (by rw [fl_app]; exact List.mem_append_left _ m.mem)).1
theorem Fp.getN (F : Fp B S N H) (m : At N a o) : H a = some o := (F.at _ (by rw [fl_app]; exact List.mem_append_right _ m.mem)).1
theorem Fp.imm (F : Fp B S N H) (h : B a = some o) (hi : immut o = true) : H a = some o := F.im a o h hi
theorem Fp.tup (F : Fp B S N H) (h : B a = some (.tup xs)) : H a = some (.tup xs) := F.im a _ h rfl
theorem Fp.exx {φ : Heap → Prop} (F : Fp B S N H) (h : B a = some (.ext φ)) : H a = some (.ext φ) := F.im a _ h rfl
theorem Fp.sqT (F : Fp B S N H) (h : SqT K B a xs) : SqT K H a xs := by
  rcases h with (h | ⟨ob, h⟩) | h
  · exact .inl (.inl (F.im a _ h rfl))
  · exact .inl (.inr ⟨ob, F.im a _ h rfl⟩)
  · exact .inr h
theorem Fp.tab {P : Addr} (F : Fp B S N H) (h : GxR.TabG B P) : GxR.TabG H P := F.t P h
theorem Fp.free (F : Fp B S N H) (h : H p = none) : B p = none := F.k p h
omit [Lw] in
theorem fresh_notin {L : List Ck} (F : ∀ q ∈ fl L, H q.1 = some q.2 ∧ isTbl q.2 = false) (hp : H p = none) : p ∉ (fl L).map (·.1) := fun z => by
  obtain ⟨q, h1, h2⟩ := List.mem_map.mp z
  have h3 : q.1 = p := h2
  have := (F q h1).1
  rw [h3, hp] at this
  cases this
theorem tabS_mv {P : Addr} (m : Mv H H1) (hP : Lw.L P) (h : LamX.TabS H P (Lw.q P)) : LamX.TabS H1 P (Lw.q P) := by
  obtain ⟨ps, h1, h2, h3⟩ := h
  refine ⟨ps, m.l P ps hP h1, h2, fun pos cv hc => ?_⟩
  obtain ⟨c, e1, e2⟩ := h3 pos cv hc
  exact ⟨c, e1, m.x c _ e2 fun _ z => nomatch z⟩
theorem Fp.mv (F : Fp B S N H) (m : Mv H H1) : Fp B S N H1 := by
  have nt : ∀ o : HO, isTbl o = false → ∀ ps, o ≠ .tbl ps := fun o h ps z => by rw [z] at h; cases h
  have ni : ∀ o : HO, immut o = true → ∀ ps, o ≠ .tbl ps := fun o h ps z => by rw [z] at h; cases h
  exact ⟨F.nd, fun q hq => ⟨m.x _ _ (F.at q hq).1 (nt _ (F.at q hq).2), (F.at q hq).2⟩, F.nw, fun b o h1 h2 h3 => m.x _ _ (F.x b o h1 h2 h3) (nt o h3), fun b o h1 h2 => m.x _ _ (F.im b o h1 h2) (ni o h2), fun P h => m.t P (F.t P h), fun P hP h => tabS_mv m hP (F.l P hP h), fun b h => F.k b (m.k b h)⟩
omit [Lw] in
theorem fl_new {S N : List Ck} {p : Addr} {o : HO} : ∀ q, q ∈ fl (S ++ ck p o :: N) ↔ q = (p, o) ∨ q ∈ fl (S ++ N) := fun q => by
  rw [fl_app, fl_app, fl_cons, List.mem_append, List.mem_append, List.mem_append]
  show q ∈ fl S ∨ q ∈ [(p, o)] ∨ q ∈ fl N ↔ _
  rw [List.mem_singleton]
  constructor
  · rintro (h | h | h)
    · exact .inr (.inl h)
    · exact .inl h
    · exact .inr (.inr h)
  · rintro (h | h | h)
    · exact .inr (.inl h)
    · exact .inl h
    · exact .inr (.inr h)
omit [Lw] in
theorem nodup_mid {x y : List Addr} {p : Addr} (h : (x ++ y).Nodup) (hp : p ∉ x ++ y) : (x ++ p :: y).Nodup := by
  rw [List.nodup_append] at h ⊢
  refine ⟨h.1, List.nodup_cons.mpr ⟨fun z => hp (List.mem_append_right _ z), h.2.1⟩, fun a ha b hb e => ?_⟩
  rcases List.mem_cons.mp hb with rfl | hb
  · exact hp (List.mem_append_left _ (e ▸ ha))
  · exact h.2.2 a ha b hb e
theorem Fp.new (F : Fp B S N H) (hp : H p = none) (ho : isTbl o = false) : Fp B S (ck p o :: N) (upd H p o) := by
  have np := fresh_notin F.at hp
  have hn : ∀ b v, H b = some v → upd H p o b = some v := fun b v e => by
    rw [upd_ne fun z => by rw [z, hp] at e; cases e]
    exact e
  refine ⟨?_, fun q hq => ?_, fun q hq => ?_, fun b v h1 h2 h3 => hn _ _ (F.x b v h1 h2 h3), fun b v h1 h2 => hn _ _ (F.im b v h1 h2), fun P h => ?_, fun P hP h => (F.l P hP h).ext hn, fun b h => ?_⟩
  · have e : (fl (S ++ ck p o :: N)).map (·.1) = (fl S).map (·.1) ++ p :: (fl N).map (·.1) := by
      rw [fl_app, fl_cons, List.map_append, List.map_append]
      rfl
    rw [e]
    have nd := F.nd
    rw [fl_app, List.map_append] at nd np
    exact nodup_mid nd np
  · rcases (fl_new q).mp hq with rfl | hq
    · exact ⟨upd_same, ho⟩
    · exact ⟨hn _ _ (F.at q hq).1, (F.at q hq).2⟩
  · rw [fl_cons] at hq
    rcases List.mem_append.mp hq with hq | hq
    · have : q = (p, o) := List.mem_singleton.mp hq
      subst this
      exact F.k p hp
    · exact F.nw q hq
  · obtain ⟨ps, h1, h2⟩ := F.t P h
    exact ⟨ps, hn _ _ h1, h2⟩
  · by_cases z : b = p
    · rw [z]
      exact F.k p hp
    · rw [upd_ne z] at h
      exact F.k b h
theorem Fp.put_core (F : Fp B S N H) (ha : H a = some o) (hi : immut o = false) (ho : isTbl o = false) (ho' : isTbl o' = false) (nd : ((fl (S' ++ N')).map (·.1)).Nodup) (hm : ∀ q ∈ fl (S' ++ N'), q = (a, o') ∨ (q.1 ≠ a ∧ q ∈ fl (S ++ N)))
    (hnw : ∀ q ∈ fl N', B q.1 = none) (hS : ∀ b, b ∉ (fl S').map (·.1) → b ∉ (fl S).map (·.1)) (hx : ∀ v, a ∉ (fl S').map (·.1) → B a = some v → False) : Fp B S' N' (upd H a o') := by
  have nt : ∀ b ps, H b = some (.tbl ps) → b ≠ a := fun b ps e z => by
    rw [z, ha] at e
    rw [Option.some.inj e] at ho
    cases ho
  refine ⟨nd, fun q hq => ?_, hnw, fun b v h1 h2 h3 => ?_, fun b v h1 h2 => ?_, fun P h => ?_, fun P hP h => ?_, fun b h => ?_⟩
  · rcases hm q hq with rfl | ⟨h1, h2⟩
    · exact ⟨upd_same, ho'⟩
    · exact ⟨by rw [upd_ne h1]; exact (F.at q h2).1, (F.at q h2).2⟩
  · rw [upd_ne fun z : b = a => hx v (by rw [← z]; exact h1) (by rw [← z]; exact h2)]
    exact F.x b v (hS b h1) h2 h3
  · have e := F.im b v h1 h2
    rw [upd_ne fun z => ?_]
    · exact e
    · rw [z, ha] at e
      rw [Option.some.inj e, h2] at hi
      cases hi
  · obtain ⟨ps, h1, h2⟩ := F.t P h
    exact ⟨ps, by rw [upd_ne (nt _ _ h1)]; exact h1, h2⟩
  · obtain ⟨ps, h1, h2, h3⟩ := F.l P hP h
    refine ⟨ps, by rw [upd_ne (nt _ _ h1)]; exact h1, h2, fun pos cv hc => ?_⟩
    obtain ⟨c, e1, e2⟩ := h3 pos cv hc
    refine ⟨c, e1, ?_⟩
    rw [upd_ne fun z => ?_]
    · exact e2
    · rw [z, ha] at e2
      rw [Option.some.inj e2] at hi
      cases hi
  · by_cases z : b = a
    · rw [z, upd_same] at h
      cases h
    · rw [upd_ne z] at h
      exact F.k b h
theorem Fp.putS (F : Fp B S N H) (r : Rp S a o o' S') (hi : immut o = false) (ho' : isTbl o' = false) : Fp B S' N (upd H a o') := by
  have nd := F.nd
  rw [fl_app, List.map_append] at nd
  have ha := F.getS r.get
  have ho := (F.at _ (by rw [fl_app]; exact List.mem_append_left _ r.get.mem)).2
  have haS : a ∈ (fl S).map (·.1) := List.mem_map.mpr ⟨_, r.get.mem, rfl⟩
  refine F.put_core ha hi ho ho' (by rw [fl_app, List.map_append, r.adr]; exact nd) (fun q hq => ?_) F.nw (fun b h => by rw [r.adr] at h; exact h) (fun v h _ => h (by rw [r.adr]; exact haS))
  rw [fl_app] at hq ⊢
  rcases List.mem_append.mp hq with hq | hq
  · rcases r.mem (List.nodup_append.mp nd).1 q hq with e | ⟨e1, e2⟩
    · exact .inl e
    · exact .inr ⟨e1, List.mem_append_left _ e2⟩
  · exact .inr ⟨fun z => nodup_app nd haS (z ▸ List.mem_map.mpr ⟨q, hq, rfl⟩), List.mem_append_right _ hq⟩
theorem Fp.putN (F : Fp B S N H) (r : Rp N a o o' N') (hi : immut o = false) (ho' : isTbl o' = false) : Fp B S N' (upd H a o') := by
  have nd := F.nd
  rw [fl_app, List.map_append] at nd
  have ha := F.getN r.get
  have ho := (F.at _ (by rw [fl_app]; exact List.mem_append_right _ r.get.mem)).2
  have haN : a ∈ (fl N).map (·.1) := List.mem_map.mpr ⟨_, r.get.mem, rfl⟩
  have hB : B a = none := F.nw _ r.get.mem
  refine F.put_core ha hi ho ho' (by rw [fl_app, List.map_append, r.adr]; exact nd) (fun q hq => ?_) (fun q hq => ?_) (fun b h => h) (fun v _ h => by rw [hB] at h; cases h)
  · rw [fl_app] at hq ⊢
    rcases List.mem_append.mp hq with hq | hq
    · exact .inr ⟨fun z => nodup_app nd (List.mem_map.mpr ⟨q, hq, rfl⟩) (z ▸ haN), List.mem_append_left _ hq⟩
    · rcases r.mem (List.nodup_append.mp nd).2.1 q hq with e | ⟨e1, e2⟩
      · exact .inl e
      · exact .inr ⟨e1, List.mem_append_right _ e2⟩
  · rcases r.mem (List.nodup_append.mp nd).2.1 q hq with rfl | ⟨_, e2⟩
    · exact hB
    · exact F.nw q e2
/-- chunks in another order, or fewer new ones -/
theorem Fp.fewer (F : Fp B S N H) (h : (fl N').Sublist (fl N)) : Fp B S N' H := by
  have hs : (fl (S ++ N')).Sublist (fl (S ++ N)) := by
    rw [fl_app, fl_app]
    exact List.Sublist.append (List.Sublist.refl _) h
  exact ⟨(hs.map _).nodup F.nd, fun q hq => F.at q (hs.subset hq), fun q hq => F.nw q (h.subset hq), F.x, F.im, F.t, F.l, F.k⟩
/-- which of the new ones are kept -/
inductive Kp : List Ck → List Ck → Prop
  | nil {N : List Ck} : Kp N []
  | keep {c : Ck} {N N' : List Ck} (h : Kp N N') : Kp (c :: N) (c :: N')
  | drop {c : Ck} {N N' : List Ck} (h : Kp N N') : Kp (c :: N) N'
omit [Lw] in
theorem Kp.sub {N N' : List Ck} (h : Kp N N') : (fl N').Sublist (fl N) := by
  induction h with
  | nil => exact List.nil_sublist _
  | keep _ ih => rw [fl_cons, fl_cons]; exact List.Sublist.append (List.Sublist.refl _) ih
  | drop _ ih => rw [fl_cons]; exact ih.trans (List.sublist_append_right _ _)
theorem Fp.kp (F : Fp B S N H) (h : Kp N N') : Fp B S N' H := F.fewer h.sub
/-- one more of old -/
theorem Fp.own (F : Fp B S N H) (h : H a = some o) (ht : isTbl o = false) (hn : a ∉ (fl (S ++ N)).map (·.1)) : Fp B (ck a o :: S) N H := by
  refine ⟨?_, fun q hq => ?_, F.nw, fun b v h1 h2 h3 => F.x b v (fun z => h1 ?_) h2 h3, F.im, F.t, F.l, F.k⟩
  · rw [List.cons_append, fl_cons]
    exact List.nodup_cons.mpr ⟨hn, F.nd⟩
  · rw [List.cons_append, fl_cons] at hq
    rcases List.mem_append.mp hq with hq | hq
    · have : q = (a, o) := List.mem_singleton.mp hq
      subst this
      exact ⟨h, ht⟩
    · exact F.at q hq
  · rw [fl_cons, List.map_append]
    exact List.mem_append_right _ z
/-! ### calls -/
/-- one chunk taken out -/
inductive Dl : List Ck → Ck → List Ck → Prop
  | here {c : Ck} {L : List Ck} : Dl (c :: L) c L
  | there {c d : Ck} {L L' : List Ck} (h : Dl L c L') : Dl (d :: L) c (d :: L')
omit [Lw] in
theorem Dl.perm {L L' : List Ck} {c : Ck} (h : Dl L c L') : (fl L).Perm (c.1.zip c.2 ++ fl L') := by
  induction h with
  | here => rw [fl_cons]
  | @there c d L L' h ih =>
    rw [fl_cons, fl_cons]
    refine (List.Perm.append_left _ ih).trans ?_
    rw [← List.append_assoc, ← List.append_assoc]
    exact List.Perm.append_right _ List.perm_append_comm
/-- distinct chunks, in any order -/
inductive Pk : List Ck → List Ck → Prop
  | nil {L : List Ck} : Pk L []
  | cons {L L' T : List Ck} {c : Ck} (d : Dl L c L') (h : Pk L' T) : Pk L (c :: T)
omit [Lw] in
theorem Pk.perm {L T : List Ck} (h : Pk L T) : ∃ R, (fl L).Perm (fl T ++ R) := by
  induction h with
  | @nil L => exact ⟨fl L, by rw [fl_nil, List.nil_append]⟩
  | @cons L L' T c d h ih =>
    obtain ⟨R, hR⟩ := ih
    refine ⟨R, d.perm.trans ?_⟩
    rw [fl_cons, List.append_assoc]
    exact List.Perm.append_left _ hR
theorem Fp.pick (F : Fp B S N H) (h : Pk (S ++ N) T) : Fp H T [] H := by
  obtain ⟨R, hR⟩ := h.perm
  have nd := (hR.map (·.1)).nodup F.nd
  rw [List.map_append] at nd
  refine ⟨by rw [List.append_nil]; exact (List.nodup_append.mp nd).1, fun q hq => F.at q ?_, fun q hq => by simp [fl] at hq, fun _ _ _ h _ => h, fun _ _ h _ => h, fun _ h => h, fun _ _ h => h, fun _ h => h⟩
  rw [List.append_nil] at hq
  exact hR.symm.subset (List.mem_append_left _ hq)
/-- a chunk changed in its place -/
inductive Rc : List Ck → List Addr → List HO → List HO → List Ck → Prop
  | here {as : List Addr} {os os' : List HO} {S : List Ck} : Rc ((as, os) :: S) as os os' ((as, os') :: S)
  | there {c : Ck} {S S' : List Ck} {as : List Addr} {os os' : List HO} (h : Rc S as os os' S') : Rc (c :: S) as os os' (c :: S')
/-- several chunks changed; those that were, those that are -/
inductive Rs : List Ck → List Ck → List Ck → List Ck → List Ck → List Ck → Prop
  | nil {S N : List Ck} : Rs S N [] [] S N
  | os {S N S1 S' N' T T' : List Ck} {as : List Addr} {os os' : List HO} (r : Rc S as os os' S1) (hl : os'.length = os.length) (h : Rs S1 N T T' S' N') : Rs S N ((as, os) :: T) ((as, os') :: T') S' N'
  | on {S N N1 S' N' T T' : List Ck} {as : List Addr} {os os' : List HO} (r : Rc N as os os' N1) (hl : os'.length = os.length) (h : Rs S N1 T T' S' N') : Rs S N ((as, os) :: T) ((as, os') :: T') S' N'
omit [Lw] in
theorem zip_len_map {as : List Addr} : ∀ {os os' : List HO}, os'.length = os.length → (as.zip os').map (·.1) = (as.zip os).map (·.1) := by
  induction as with
  | nil => intro _ _ _; rfl
  | cons a as ih =>
    intro os os' h
    cases os with
    | nil => rw [List.length_eq_zero_iff.mp h]
    | cons o os =>
      cases os' with
      | nil => cases h
      | cons o' os' =>
        rw [List.zip_cons_cons, List.zip_cons_cons, List.map_cons, List.map_cons, ih (by simpa using h)]
omit [Lw] in
theorem Rc.adr {S S' : List Ck} {as : List Addr} {os os' : List HO} (h : Rc S as os os' S') (hl : os'.length = os.length) : (fl S').map (·.1) = (fl S).map (·.1) := by
  induction h with
  | here => rw [fl_cons, fl_cons, List.map_append, List.map_append, zip_len_map hl]
  | there _ ih => rw [fl_cons, fl_cons, List.map_append, List.map_append, ih hl]
omit [Lw] in
theorem Rc.mem {S S' : List Ck} {as : List Addr} {os os' : List HO} (h : Rc S as os os' S') : ∀ q ∈ fl S', q ∈ as.zip os' ∨ q ∈ fl S := by
  induction h with
  | here =>
    intro q hq
    rw [fl_cons] at hq ⊢
    rcases List.mem_append.mp hq with hq | hq
    · exact .inl hq
    · exact .inr (List.mem_append_right _ hq)
  | there _ ih =>
    intro q hq
    rw [fl_cons] at hq ⊢
    rcases List.mem_append.mp hq with hq | hq
    · exact .inr (List.mem_append_left _ hq)
    · rcases ih q hq with h | h
      · exact .inl h
      · exact .inr (List.mem_append_right _ h)
omit [Lw] in
theorem Rc.has {S S' : List Ck} {as : List Addr} {os os' : List HO} (h : Rc S as os os' S') : ∀ q ∈ as.zip os, q ∈ fl S := by
  induction h with
  | here => intro q hq; rw [fl_cons]; exact List.mem_append_left _ hq
  | there _ ih => intro q hq; rw [fl_cons]; exact List.mem_append_right _ (ih q hq)
omit [Lw] in
theorem Rs.adr {S N T T' S' N' : List Ck} (h : Rs S N T T' S' N') : (fl S').map (·.1) = (fl S).map (·.1) ∧ (fl N').map (·.1) = (fl N).map (·.1) := by
  induction h with
  | nil => exact ⟨rfl, rfl⟩
  | os r hl _ ih => exact ⟨ih.1.trans (r.adr hl), ih.2⟩
  | on r hl _ ih => exact ⟨ih.1, ih.2.trans (r.adr hl)⟩
end
theorem Rc.mem' {S S' : List Ck} {as : List Addr} {os os' : List HO} (h : Rc S as os os' S') (nd : ((fl S).map (·.1)).Nodup) : ∀ q ∈ fl S', q ∈ as.zip os' ∨ (q ∈ fl S ∧ q.1 ∉ (as.zip os).map (·.1)) := by
  induction h with
  | here =>
    intro q hq
    rw [fl_cons] at hq ⊢
    rw [fl_cons, List.map_append] at nd
    rcases List.mem_append.mp hq with hq | hq
    · exact .inl hq
    · exact .inr ⟨List.mem_append_right _ hq, fun z => nodup_app nd z (List.mem_map.mpr ⟨q, hq, rfl⟩)⟩
  | there hh ih =>
    intro q hq
    rw [fl_cons] at hq ⊢
    rw [fl_cons, List.map_append] at nd
    rcases List.mem_append.mp hq with hq | hq
    · refine .inr ⟨List.mem_append_left _ hq, fun z => ?_⟩
      obtain ⟨r, h1, h2⟩ := List.mem_map.mp z
      exact nodup_app nd (List.mem_map.mpr ⟨q, hq, rfl⟩) (List.mem_map.mpr ⟨r, hh.has r h1, h2⟩)
    · rcases ih (List.nodup_append.mp nd).2.1 q hq with h | ⟨h1, h2⟩
      · exact .inl h
      · exact .inr ⟨List.mem_append_right _ h1, h2⟩
theorem nd_app {S N : List Ck} (h : ((fl (S ++ N)).map (·.1)).Nodup) : ((fl S).map (·.1) ++ (fl N).map (·.1)).Nodup := by
  rw [fl_app, List.map_append] at h
  exact h
theorem Rs.mem {S N T T' S' N' : List Ck} (h : Rs S N T T' S' N') (nd : ((fl (S ++ N)).map (·.1)).Nodup) : ∀ q ∈ fl (S' ++ N'), q ∈ fl T' ∨ (q ∈ fl (S ++ N) ∧ q.1 ∉ (fl T').map (·.1)) := by
  induction h with
  | nil => exact fun q hq => .inr ⟨hq, by simp [fl]⟩
  | os r hl hh ih =>
    intro q hq
    have nd1 := nd_app nd
    rcases ih (by rw [fl_app, List.map_append, r.adr hl]; exact nd1) q hq with h | ⟨h, h'⟩
    · exact .inl (by rw [fl_cons]; exact List.mem_append_right _ h)
    · rw [fl_app] at h ⊢
      rcases List.mem_append.mp h with h | h
      · rcases r.mem' (List.nodup_append.mp nd1).1 q h with h | ⟨h, h2⟩
        · exact .inl (by rw [fl_cons]; exact List.mem_append_left _ h)
        · refine .inr ⟨List.mem_append_left _ h, fun z => ?_⟩
          rw [fl_cons, List.map_append, zip_len_map hl] at z
          rcases List.mem_append.mp z with z | z
          · exact h2 z
          · exact h' z
      · refine .inr ⟨List.mem_append_right _ h, fun z => ?_⟩
        rw [fl_cons, List.map_append, zip_len_map hl] at z
        rcases List.mem_append.mp z with z | z
        · obtain ⟨r1, h1, h2⟩ := List.mem_map.mp z
          exact nodup_app nd1 (List.mem_map.mpr ⟨r1, r.has r1 h1, h2⟩) (List.mem_map.mpr ⟨q, h, rfl⟩)
        · exact h' z
  | on r hl hh ih =>
    intro q hq
    have nd1 := nd_app nd
    rcases ih (by rw [fl_app, List.map_append, r.adr hl]; exact nd1) q hq with h | ⟨h, h'⟩
    · exact .inl (by rw [fl_cons]; exact List.mem_append_right _ h)
    · rw [fl_app] at h ⊢
      rcases List.mem_append.mp h with h | h
      · refine .inr ⟨List.mem_append_left _ h, fun z => ?_⟩
        rw [fl_cons, List.map_append, zip_len_map hl] at z
        rcases List.mem_append.mp z with z | z
        · obtain ⟨r1, h1, h2⟩ := List.mem_map.mp z
          exact nodup_app nd1 (List.mem_map.mpr ⟨q, h, rfl⟩) (List.mem_map.mpr ⟨r1, r.has r1 h1, h2⟩)
        · exact h' z
      · rcases r.mem' (List.nodup_append.mp nd1).2.1 q h with h | ⟨h, h2⟩
        · exact .inl (by rw [fl_cons]; exact List.mem_append_left _ h)
        · refine .inr ⟨List.mem_append_right _ h, fun z => ?_⟩
          rw [fl_cons, List.map_append, zip_len_map hl] at z
          rcases List.mem_append.mp z with z | z
          · exact h2 z
          · exact h' z
theorem Rs.old {S N T T' S' N' : List Ck} (h : Rs S N T T' S' N') : ∀ b ∈ (fl T').map (·.1), b ∈ (fl (S ++ N)).map (·.1) := by
  induction h with
  | nil => intro b hb; simp [fl] at hb
  | os r hl hh ih =>
    intro b hb
    rw [fl_cons, List.map_append, zip_len_map hl] at hb
    rcases List.mem_append.mp hb with hb | hb
    · obtain ⟨q, h1, h2⟩ := List.mem_map.mp hb
      rw [fl_app]
      exact List.mem_map.mpr ⟨q, List.mem_append_left _ (r.has q h1), h2⟩
    · have := ih b hb
      rw [fl_app, List.map_append, r.adr hl, ← List.map_append, ← fl_app] at this
      exact this
  | on r hl hh ih =>
    intro b hb
    rw [fl_cons, List.map_append, zip_len_map hl] at hb
    rcases List.mem_append.mp hb with hb | hb
    · obtain ⟨q, h1, h2⟩ := List.mem_map.mp hb
      rw [fl_app]
      exact List.mem_map.mpr ⟨q, List.mem_append_right _ (r.has q h1), h2⟩
    · have := ih b hb
      rw [fl_app, List.map_append, r.adr hl, ← List.map_append, ← fl_app] at this
      exact this
section
variable [Lw] {K : PySem.W.Frag} {B H H1 H2 : Hp} {S S' N N' M T T' : List Ck} {a p : Addr} {o o' u : HO} {xs : List V}
theorem Fp.call (F : Fp B S N H) (r : Rs S N T T' S' N') (G : Fp H T' M H1) : Fp B S' (M ++ N') H1 := by
  have nd1 := nd_app F.nd
  have nd2 := nd_app G.nd
  have hM : ∀ q ∈ fl M, q.1 ∉ (fl (S ++ N)).map (·.1) := fun q hq => fresh_notin F.at (G.nw q hq)
  have hM' : ∀ b, b ∈ (fl M).map (·.1) → b ∉ (fl (S ++ N)).map (·.1) := fun b hb => by
    obtain ⟨q, h1, rfl⟩ := List.mem_map.mp hb
    exact hM q h1
  refine ⟨?_, fun q hq => ?_, fun q hq => ?_, fun b o h1 h2 h3 => ?_, fun b o h1 h2 => G.im b o (F.im b o h1 h2) h2, fun P h => G.t P (F.t P h), fun P hP h => G.l P hP (F.l P hP h), fun b h => F.k b (G.k b h)⟩
  · rw [fl_app, fl_app, List.map_append, List.map_append, r.adr.1, r.adr.2, List.nodup_append]
    have e := List.nodup_append.mp nd1
    refine ⟨e.1, List.nodup_append.mpr ⟨(List.nodup_append.mp nd2).2.1, e.2.1, fun a ha b hb z => ?_⟩, fun a ha b hb z => ?_⟩
    · subst z
      exact hM' a ha (by rw [fl_app, List.map_append]; exact List.mem_append_right _ hb)
    · subst z
      rcases List.mem_append.mp hb with hb | hb
      · exact hM' a hb (by rw [fl_app, List.map_append]; exact List.mem_append_left _ ha)
      · exact e.2.2 a ha a hb rfl
  · have old : ∀ q ∈ fl (S' ++ N'), H1 q.1 = some q.2 ∧ isTbl q.2 = false := fun q hq => by
      rcases r.mem F.nd q hq with h | ⟨h1, h2⟩
      · exact G.at q (by rw [fl_app]; exact List.mem_append_left _ h)
      · exact ⟨G.x q.1 q.2 h2 (F.at q h1).1 (F.at q h1).2, (F.at q h1).2⟩
    rw [fl_app, fl_app] at hq
    rcases List.mem_append.mp hq with hq | hq
    · exact old q (by rw [fl_app]; exact List.mem_append_left _ hq)
    · rcases List.mem_append.mp hq with hq | hq
      · exact G.at q (by rw [fl_app]; exact List.mem_append_right _ hq)
      · exact old q (by rw [fl_app]; exact List.mem_append_right _ hq)
  · rw [fl_app] at hq
    rcases List.mem_append.mp hq with hq | hq
    · exact F.k _ (G.nw q hq)
    · have : q.1 ∈ (fl N).map (·.1) := r.adr.2 ▸ List.mem_map.mpr ⟨q, hq, rfl⟩
      obtain ⟨q2, h1, h2⟩ := List.mem_map.mp this
      have h2 : q2.1 = q.1 := h2
      rw [← h2]
      exact F.nw q2 h1
  · rw [r.adr.1] at h1
    refine G.x b o (fun z => ?_) (F.x b o h1 h2 h3) h3
    have := r.old b z
    rw [fl_app, List.map_append] at this
    rcases List.mem_append.mp this with h | h
    · exact h1 h
    · obtain ⟨q, e1, e2⟩ := List.mem_map.mp h
      have e2 : q.1 = b := e2
      have := F.nw q e1
      rw [e2, h2] at this
      cases this
end
end Mi

set_option Elab.async false
set_option linter.all false
set_option maxRecDepth 100000
set_option maxHeartbeats 2000000
namespace Mi
open PySem PySem.Spec PyProof.Rows L2
/-- changed in its place, of old or new -/
inductive Re : List Ck → List Ck → Addr → HO → HO → List Ck → List Ck → Prop
  | n {S N N' : List Ck} {a : Addr} {o o' : HO} (r : Rp N a o o' N') : Re S N a o o' S N'
  | s {S N S' : List Ck} {a : Addr} {o o' : HO} (r : Rp S a o o' S') : Re S N a o o' S' N
theorem atI_nat1 {α : Type} {xs : List α} {j : Nat} {v : α} (h : xs[j + 1]? = some v) : atI xs ((j : Int) + 1) = some v := atI_nat (j := j + 1) h
theorem atI0 {α : Type} {x : α} {xs : List α} : atI (x :: xs) 0 = some x := atI_nat (j := 0) rfl
theorem atI1 {α : Type} {a x : α} {xs : List α} : atI (a :: x :: xs) 1 = some x := atI_nat (j := 1) rfl
theorem atI2 {α : Type} {a b x : α} {xs : List α} : atI (a :: b :: x :: xs) 2 = some x := atI_nat (j := 2) rfl
theorem atI3 {α : Type} {a b c x : α} {xs : List α} : atI (a :: b :: c :: x :: xs) 3 = some x := atI_nat (j := 3) rfl
theorem atI4 {α : Type} {a b c d x : α} {xs : List α} : atI (a :: b :: c :: d :: x :: xs) 4 = some x := atI_nat (j := 4) rfl
theorem len_le {n : Nat} (h : n ≤ 1000000) : n ≤ sizeLine := Nat.le_trans h (by decide)
theorem len_lt {n : Nat} (h : n ≤ 1000000) : n < sizeLine := Nat.lt_of_le_of_lt h (by decide)
theorem get_set_self {α : Type} {os : List α} {i : Nat} {o o' : α} (h : os[i]? = some o) : (os.set i o')[i]? = some o' := by rw [List.getElem?_set_self (List.getElem?_eq_some_iff.mp h).1]
theorem get_set_ne {α : Type} {os : List α} {i j : Nat} {o o' : α} (hne : i ≠ j) (h : os[j]? = some o) : (os.set i o')[j]? = some o := by rw [List.getElem?_set_ne hne]; exact h
theorem At.set {as : List Addr} {os : List HO} {S : List Ck} {i : Nat} {a : Addr} {o o' : HO} (h1 : as[i]? = some a) (h2 : os[i]? = some o) : At ((as, os.set i o') :: S) a o' := .at h1 (by rw [List.getElem?_set_self (List.getElem?_eq_some_iff.mp h2).1])
theorem At.setne {as : List Addr} {os : List HO} {S : List Ck} {i j : Nat} {a : Addr} {o o' : HO} (h1 : as[j]? = some a) (h2 : os[j]? = some o) (h : i ≠ j) : At ((as, os.set i o') :: S) a o := .at h1 (by rw [List.getElem?_set_ne h]; exact h2)
theorem Rp.set {as : List Addr} {os : List HO} {S : List Ck} {i : Nat} {a : Addr} {o o1 o' : HO} (h1 : as[i]? = some a) (h2 : os[i]? = some o) : Rp ((as, os.set i o1) :: S) a o1 o' ((as, os.set i o') :: S) := by
  have := Rp.at (S := S) (o' := o') h1 (show (os.set i o1)[i]? = some o1 by rw [List.getElem?_set_self (List.getElem?_eq_some_iff.mp h2).1])
  rw [List.set_set] at this
  exact this
theorem Rp.setne {as : List Addr} {os : List HO} {S : List Ck} {i j : Nat} {a : Addr} {o o1 o' : HO} (h1 : as[j]? = some a) (h2 : os[j]? = some o) (h : i ≠ j) : Rp ((as, os.set i o1) :: S) a o o' ((as, (os.set i o1).set j o') :: S) := .at h1 (by rw [List.getElem?_set_ne h]; exact h2)
section
variable [Lw] {K : PySem.W.Frag} {B H H1 H2 : Hp} {S S' N N' M T : List Ck} {a b p d : Addr} {o o' u : HO} {xs ys : List V} {Q : VK} {σ : L2.St} {v y z : V}
theorem Fp.re (F : Fp B S N H) (r : Re S N a o o' S' N') (hi : immut o = false) (ho' : isTbl o' = false) : Fp B S' N' (upd H a o') := by
  cases r with
  | n r => exact F.putN r hi ho'
  | s r => exact F.putS r hi ho'
theorem Fp.got (F : Fp B S N H) (r : Re S N a o o' S' N') : H a = some o := by
  cases r with
  | n r => exact F.getN r.get
  | s r => exact F.getS r.get
theorem Fp.new' (F : Fp B S N H) (hp : H p = none) (hg : upd H p o = H1) (ho : isTbl o = false) : Fp B S (ck p o :: N) H1 := by
  subst hg
  exact F.new hp ho
theorem Fp.re' (F : Fp B S N H) (hg : upd H a o' = H1) (r : Re S N a o o' S' N') (hi : immut o = false) (ho' : isTbl o' = false) : Fp B S' N' H1 := by
  subst hg
  exact F.re r hi ho'
theorem Fp.keep (F : Fp B [] N H) (h : B a = some o) (ht : isTbl o = false) : H a = some o := F.x a o (by simp [fl]) h ht
theorem Fp.keepL (F : Fp B [] N H) (h : SqL K B a xs) : SqL K H a xs := by
  rcases h with (h | ⟨ob, h⟩) | h
  · exact .inl (.inl (F.keep h rfl))
  · exact .inl (.inr ⟨ob, F.keep h rfl⟩)
  · exact .inr h
theorem Fp.eqo {as : List Addr} {os os' : List HO} (F : Fp B ((as, os) :: S) N H) (e : os = os') : Fp B ((as, os') :: S) N H := by
  rw [← e]
  exact F
theorem Fp.back (F : Fp B S N H) (G : Fp B S [] B) : Fp B [] N H := by
  refine ⟨?_, fun q hq => F.at q (by rw [fl_app]; exact List.mem_append_right _ hq), F.nw, fun b o _ h2 h3 => ?_, F.im, F.t, F.l, F.k⟩
  · exact (List.nodup_append.mp (nd_app F.nd)).2.1
  · by_cases hb : b ∈ (fl S).map (·.1)
    · obtain ⟨q, h1, rfl⟩ := List.mem_map.mp hb
      have e1 := (F.at q (by rw [fl_app]; exact List.mem_append_left _ h1)).1
      have e2 := (G.at q (by rw [fl_app]; exact List.mem_append_left _ h1)).1
      rw [e1, ← e2]
      exact h2
    · exact F.x b o hb h2 h3
/-- a dict's entry put, entry by entry -/
def putR (k : Key) (v : V) : List (Key × V) → List (Key × V)
  | [] => [(k, v)]
  | (g, x) :: r => if g = k then (g, v) :: r.map (fun kv => if kv.1 = k then (kv.1, v) else kv) else (g, x) :: putR k v r
omit [Lw] in
theorem putK_putR {k : Key} {v : V} : ∀ kvs : List (Key × V), putK kvs k v = putR k v kvs
  | [] => rfl
  | (g, x) :: r => by
    have ih := putK_putR (k := k) (v := v) r
    unfold putK at ih ⊢
    unfold putR
    by_cases h : g = k
    · simp [h]
    · rw [if_neg h]
      simp only [List.any_cons, decide_eq_false h, Bool.false_or, List.map_cons, if_neg h]
      split
      · rename_i hh
        rw [if_pos hh] at ih
        rw [ih]
      · rename_i hh
        rw [if_neg hh] at ih
        rw [List.cons_append, ih]
/-! ### new things -/
def NewP (o : HO) (Q : VK) (H : Hp) : Prop := ∀ p, H p = none → Q (.ref p) (upd H p o)
theorem newF (F : Fp B S N H) (ho : isTbl o = false) (h : ∀ p H', Fp B S (ck p o :: N) H' → Q (.ref p) H') : NewP o Q H := fun p hp => h p _ (F.new hp ho)
theorem f_tup {t : TA} (h : t σ H fun xs H1 => xs.length ≤ sizeLine ∧ NewP (.tup xs) Q H1) : tTup t σ H Q := h
theorem f_lst {t : TA} (h : t σ H fun xs H1 => xs.length ≤ sizeLine ∧ NewP (.lst xs) Q H1) : tLst t σ H Q := h
theorem f_listKL (h1 : SqL K H p ys) (h : NewP (.lst ys) Q H) : rListK K [.ref p] H Q := s_listKL h1 h
theorem f_listKT (h1 : SqT K H p ys) (h : NewP (.lst ys) Q H) : rListK K [.ref p] H Q := s_listKT h1 h
theorem f_tupKL (h1 : SqL K H p ys) (h : NewP (.tup ys) Q H) : rTupK K [.ref p] H Q := s_tupKL h1 h
theorem f_slL {lo hi : Option Int} (h1 : SqL K H a xs) (h : NewP (.lst (cutV xs lo hi)) Q H) : rSlL K (.ref a) lo hi H Q := ⟨a, xs, rfl, h1, h⟩
theorem f_cat {x y : List V} (h1 : H a = some (.lst x)) (h2 : H b = some (.lst y)) (hz : x.length + y.length ≤ sizeLine) (h : NewP (.lst (x ++ y)) Q H) : rCat (.ref a) (.ref b) H Q := ⟨a, b, x, y, rfl, rfl, h1, h2, hz, h⟩
/-! ### stores -/
def FldP (K : PySem.W.Frag) (f : Str) (y : V) (Nx : Hp → Prop) (v : V) (H : Hp) : Prop := ∃ a C dx fs, v = .ref a ∧ H a = some (.ins C dx fs) ∧ Cls K C ∧ NoAttr K C f ∧ fs.length < 1000 ∧ Nx (upd H a (.ins C dx (putF f y fs)))
theorem f_sFld {ta tv : TE} {f : Str} {nx bk ct : L2.St → Hp → Prop} {rt : VK} (h : tv σ H fun y H1 => ta σ H1 (FldP K f y (nx σ))) : sFld K ta tv f ⟨nx, rt, bk, ct⟩ σ H := h
theorem f_fld {C dx : Addr} {fs fs' : List (Str × V)} {f : Str} {Nx : Hp → Prop} (F : Fp B S N H) (R : Re S N a (.ins C dx fs) (.ins C dx fs') S' N') (h2 : Cls K C) (h3 : NoAttr K C f) (h4 : fs.length < 1000) (hp : putF f y fs = fs') (h : ∀ H', Fp B S' N' H' → Nx H') : FldP K f y Nx (.ref a) H := by
  subst hp
  exact ⟨a, C, dx, fs, rfl, F.got R, h2, h3, h4, h _ (F.re R rfl rfl)⟩
def FldQ (a C : Addr) (f : Str) (Nx : Hp → Prop) (z : V) (H : Hp) : Prop := ∃ dx' fs', H a = some (.ins C dx' fs') ∧ fs'.length < 1000 ∧ Nx (upd H a (.ins C dx' (putF f z fs')))
def AugP (K : PySem.W.Frag) (f : Str) (tv : TE) (rd : V → V → Hp → VK → Prop) (σ : L2.St) (Nx : Hp → Prop) (x : V) (H1 : Hp) : Prop := ∃ a C dx fs v, x = .ref a ∧ H1 a = some (.ins C dx fs) ∧ Cls K C ∧ NoAttr K C f ∧ fs.lookup f = some v ∧ tv σ H1 fun y H2 => rd v y H2 (FldQ a C f Nx)
theorem f_sAug {ta tv : TE} {rd : V → V → Hp → VK → Prop} {f : Str} {nx bk ct : L2.St → Hp → Prop} {rt : VK} (h : ta σ H (AugP K f tv rd σ (nx σ))) : sFldAug K ta tv rd f ⟨nx, rt, bk, ct⟩ σ H := h
theorem f_aug {C dx : Addr} {fs : List (Str × V)} {f : Str} {tv : TE} {rd : V → V → Hp → VK → Prop} {Nx : Hp → Prop} (h1 : H a = some (.ins C dx fs)) (h2 : Cls K C) (h3 : NoAttr K C f) (h4 : fs.lookup f = some v) (h : tv σ H fun y H2 => rd v y H2 (FldQ a C f Nx)) : AugP K f tv rd σ Nx (.ref a) H := ⟨a, C, dx, fs, v, rfl, h1, h2, h3, h4, h⟩
theorem f_fldq {C dx : Addr} {fs fs' : List (Str × V)} {f : Str} {Nx : Hp → Prop} (F : Fp B S N H) (R : Re S N a (.ins C dx fs) (.ins C dx fs') S' N') (h4 : fs.length < 1000) (hp : putF f z fs = fs') (h : ∀ H', Fp B S' N' H' → Nx H') : FldQ a C f Nx z H := by
  subst hp
  exact ⟨dx, fs, F.got R, h4, h _ (F.re R rfl rfl)⟩
theorem f_radd {i j : Int} (h : Q (.int (i + j)) H) : rAdd (.int i) (.int j) H Q := ⟨i, j, rfl, rfl, h⟩
theorem f_rsub {i j : Int} (h : Q (.int (i - j)) H) : rSub (.int i) (.int j) H Q := ⟨i, j, rfl, rfl, h⟩
theorem f_setL {k : Int} {j : Nat} {Nx : Hp → Prop} (F : Fp B S N H) (R : Re S N p (.lst xs) (.lst (xs.set j v)) S' N') (h2 : ixN xs.length k = some j) (h : ∀ H', Fp B S' N' H' → Nx H') : rSetL (.ref p) (.int k) v H Nx := ⟨p, xs, k, j, rfl, rfl, F.got R, h2, h _ (F.re R rfl rfl)⟩
def DPutP (y v : V) (Nx : Hp → Prop) (x : V) (H : Hp) : Prop := ∃ a H4, x = .ref a ∧ DPut H a y v H4 ∧ Nx H4
theorem f_sDPut {td ty tv : TE} {nx bk ct : L2.St → Hp → Prop} {rt : VK} (h : tv σ H fun v H1 => td σ H1 fun x H2 => ty σ H2 fun y H3 => DPutP y v (nx σ) x H3) : sDPut td ty tv ⟨nx, rt, bk, ct⟩ σ H := h
theorem f_dputS {k : Str} {kvs kvs' : List (Key × V)} {Nx : Hp → Prop} (F : Fp B S N H) (R : Re S N d (.dK kvs) (.dK kvs') S' N') (hl : kvs.length < sizeLine) (hp : putR (Sum.inr k) v kvs = kvs') (h : ∀ H', Fp B S' N' H' → Nx H') : DPutP (.str k) v Nx (.ref d) H := by
  rw [← putK_putR] at hp
  subst hp
  exact ⟨d, _, rfl, DPut.k (k := (Sum.inr k : Key)) (F.got R) hl, h _ (F.re R rfl rfl)⟩
theorem f_dputI {k : Int} {kvs : List (Key × V)} {Nx : Hp → Prop} (F : Fp B S N H) (R : Re S N d (.dK kvs) (.dK (putK kvs (Sum.inl k) v)) S' N') (hl : kvs.length < sizeLine) (h : ∀ H', Fp B S' N' H' → Nx H') : DPutP (.int k) v Nx (.ref d) H := ⟨d, _, rfl, DPut.k (k := (Sum.inl k : Key)) (F.got R) hl, h _ (F.re R rfl rfl)⟩
def DPutQ (a : Addr) (y : V) (Nx : Hp → Prop) (z : V) (H : Hp) : Prop := ∃ H5, DPut H a y z H5 ∧ Nx H5
def DAugP (tv : TE) (rd : V → V → Hp → VK → Prop) (σ : L2.St) (Nx : Hp → Prop) (x y : V) (H2 : Hp) : Prop := ∃ a v, x = .ref a ∧ DGet H2 a y (some v) ∧ tv σ H2 fun y2 H3 => rd v y2 H3 (DPutQ a y Nx)
theorem f_sDAug {td ty tv : TE} {rd : V → V → Hp → VK → Prop} {nx bk ct : L2.St → Hp → Prop} {rt : VK} (h : td σ H fun x H1 => ty σ H1 fun y H2 => DAugP tv rd σ (nx σ) x y H2) : sDAug td ty tv rd ⟨nx, rt, bk, ct⟩ σ H := h
theorem f_daug {tv : TE} {rd : V → V → Hp → VK → Prop} {Nx : Hp → Prop} (h1 : DGet H d y (some v)) (h : tv σ H fun y2 H3 => rd v y2 H3 (DPutQ d y Nx)) : DAugP tv rd σ Nx (.ref d) y H := ⟨d, v, rfl, h1, h⟩
theorem f_dputqS {k : Str} {kvs kvs' : List (Key × V)} {Nx : Hp → Prop} (F : Fp B S N H) (R : Re S N d (.dK kvs) (.dK kvs') S' N') (hl : kvs.length < sizeLine) (hp : putR (Sum.inr k) v kvs = kvs') (h : ∀ H', Fp B S' N' H' → Nx H') : DPutQ d (.str k) Nx v H := by
  rw [← putK_putR] at hp
  subst hp
  exact ⟨_, DPut.k (k := (Sum.inr k : Key)) (F.got R) hl, h _ (F.re R rfl rfl)⟩
def valR (k : Key) : List (Key × V) → Option V
  | [] => none
  | (g, x) :: r => if g = k then some x else valR k r
omit [Lw] in
theorem valV_valR {k : Key} : ∀ kvs : List (Key × V), valV kvs k = valR k kvs
  | [] => rfl
  | (g, x) :: r => by
    have ih := valV_valR (k := k) r
    unfold valV at ih ⊢
    unfold valR
    by_cases h : g = k
    · rw [if_pos h, List.find?_cons_of_pos (by simpa using h)]
      rfl
    · rw [if_neg h, List.find?_cons_of_neg (by simpa using h)]
      exact ih
theorem f_dgetS {k : Str} {kvs : List (Key × V)} (h1 : Rd H d (.dK kvs)) (h2 : valR (Sum.inr k : Key) kvs = some v) : DGet H d (.str k) (some v) := .inl ⟨kvs, Sum.inr k, h1, rfl, by rw [valV_valR]; exact h2.symm⟩
theorem f_dgetI {k : Int} {kvs : List (Key × V)} (h1 : Rd H d (.dK kvs)) (h2 : valV kvs (Sum.inl k : Key) = some v) : DGet H d (.int k) (some v) := .inl ⟨kvs, Sum.inl k, h1, rfl, h2.symm⟩
theorem f_append (F : Fp B S N H) (R : Re S N p (.lst xs) (.lst (xs ++ [v])) S' N') (hz : xs.length < sizeLine) (h : ∀ H', Fp B S' N' H' → Q .non H') : rAppend (.ref p) [v] H Q := ⟨p, xs, v, rfl, rfl, F.got R, hz, h _ (F.re R rfl rfl)⟩
theorem f_ext2 {zs : List V} (h2 : H b = some (.lst zs)) (F : Fp B S N H) (R : Re S N p (.lst xs) (.lst (xs ++ zs)) S' N') (hz : xs.length + zs.length ≤ sizeLine) (h : ∀ H', Fp B S' N' H' → Q (.ref p) H') : rExt2 (.ref p) (.ref b) H Q := ⟨p, b, xs, zs, rfl, rfl, F.got R, h2, hz, h _ (F.re R rfl rfl)⟩
def SubP (t : TSet) (v o : V) (i : V) (Nx : Hp → Prop) (H : Hp) : Prop := t o i v H Nx
theorem f_gSub {to ti : TE} {t : TSet} {Nx : L2.St → Hp → Prop} (h : to σ H fun o H1 => ti σ H1 fun i H2 => t o i v H2 (Nx σ)) : gSub to ti t v σ H Nx := h
/-! ### dicts written out -/
def cvK : V × V → Key × V
  | (.str x, v) => (Sum.inr x, v)
  | (.int i, v) => (Sum.inl i, v)
  | (_, v) => (Sum.inl 0, v)
def DispQ (p : Addr) (Q : VK) (ps : List (V × V)) (H2 : Hp) : Prop := H2 p = some (.dK []) ∧ ∃ kvs : List (Key × V), ps = kvs.map (fun kv => (kV kv.1, kv.2)) ∧ kvs.length ≤ 15 ∧ Q (.ref p) (upd H2 p (.dK (mergeK [] kvs)))
theorem f_disp {trs : List (TE × TE)} (F : Fp B S N H) (h : ∀ p H', Fp B S (ck p (.dK []) :: N) H' → tPairs trs σ H' (DispQ p Q)) : tDisp trs σ H Q := fun p hp => h p _ (F.new hp rfl)
theorem f_dispQ {kvs : List (Key × V)} {ps : List (V × V)} (F : Fp B S N H) (R : Re S N p (.dK []) (.dK kvs) S' N') (e : ps.map cvK = kvs) (e2 : ps = kvs.map (fun kv => (kV kv.1, kv.2))) (hl : kvs.length ≤ 15) (hm : mergeK [] kvs = kvs) (h : ∀ H', Fp B S' N' H' → Q (.ref p) H') : DispQ p Q ps H :=
  ⟨F.got R, kvs, e2, hl, by rw [hm]; exact h _ (F.re R rfl rfl)⟩
theorem f_pairC {tk tv : TE} {r : List (TE × TE)} {QP : List (V × V) → Hp → Prop} (h : tk σ H fun x H1 => tv σ H1 fun y H2 => tPairs r σ H2 fun ps H3 => QP ((x, y) :: ps) H3) : tPairs ((tk, tv) :: r) σ H QP := h
theorem f_pairN {QP : List (V × V) → Hp → Prop} (h : QP [] H) : tPairs [] σ H QP := h
theorem f_dnew (F : Fp B S N H) (h : ∀ p H', Fp B S (ck p (.dK []) :: N) H' → Q (.ref p) H') : NewP (.dK []) Q H := fun p hp => h p _ (F.new hp rfl)
/-! ### making -/
def MkP (C : Addr) (sp : Sp) (dvs : List V) (E : XK) (Q : VK) (vs : List V) (H1 : Hp) : Prop := ∀ x dx, H1 x = none → H1 dx = none → dx ≠ x → sp (.ref x :: (vs ++ dvs)) (upd (upd H1 dx (.own x)) x (.ins C dx [])) (fun v H2 => v = .non ∧ Q (.ref x) H2) E
theorem f_makeE {C : Addr} {sp : Sp} {dvs : List V} {E : XK} {t : TA} (h : t σ H fun vs H1 => MkP C sp dvs E Q vs H1) : tMake C sp dvs E t σ H Q := h
theorem f_mk {C : Addr} {sp : Sp} {dvs vs : List V} {E : XK} (F : Fp B S N H) (h : ∀ x dx H', Fp B S (ck x (.ins C dx []) :: N) H' → sp (.ref x :: (vs ++ dvs)) H' (fun v H2 => v = .non ∧ Q (.ref x) H2) E) : MkP C sp dvs E Q vs H := by
  intro x dx hx hdx hne
  refine h x dx _ ?_
  have F1 := (F.new hdx (o := .own x) rfl).new (p := x) (o := .ins C dx []) (by rw [upd_ne (Ne.symm hne)]; exact hx) rfl
  exact F1.kp (.keep (.drop (by
    have key : ∀ L : List Ck, Kp L L := fun L => by
      induction L with
      | nil => exact .nil
      | cons c L ih => exact .keep ih
    exact key N)))
theorem Fp.one (h : H a = some o) (ht : isTbl o = false) : Fp H [ck a o] [] H := Fp.refl.own h ht (by simp [fl])
/-! ### loops -/
variable {J : It} {G : Hp → Prop} {g : TG} {tt : TT} {te tk tv : TE} {tb : TS} {nx bk ct : L2.St → Hp → Prop} {rt : VK} {vs : List Nat} {n : Nat} {Y : Nat → Hp → V → Hp → Prop}
theorem forSW (w : Walk J n G Y) (Pv : Nat → L2.St → Hp → Prop) (h0 : Pv 0 σ H1) (hG : ∀ i σ' H', Pv i σ' H' → G H')
    (hs : ∀ i y σ' H' H'', i < n → Pv i σ' H' → Y i H' y H'' → g y σ' H'' fun σ2 H2 => tb ⟨Pv (i + 1), rt, nx, Pv (i + 1)⟩ σ2 H2) (hd : ∀ σ' H', Pv n σ' H' → nx σ' H') :
    ForE J g tb ⟨nx, rt, bk, ct⟩ σ H1 :=
  for_it (D := ⟨nx, rt, bk, ct⟩) w Pv h0 (fun i _ H' _ p => hG i _ H' p) (fun i x σ' H' H'' hi p y => hs i x σ' H' H'' hi p y) hd
theorem forS (w : Ov J xs G) (Pv : Nat → L2.St → Hp → Prop) (h0 : Pv 0 σ H1) (hG : ∀ i σ' H', Pv i σ' H' → G H')
    (hs : ∀ i y σ' H', xs[i]? = some y → Pv i σ' H' → g y σ' H' fun σ2 H2 => tb ⟨Pv (i + 1), rt, nx, Pv (i + 1)⟩ σ2 H2) (hd : ∀ σ' H', Pv xs.length σ' H' → nx σ' H') :
    ForE J g tb ⟨nx, rt, bk, ct⟩ σ H1 :=
  forSW w Pv h0 hG (fun i y σ' H' H'' hi p ⟨e1, e2⟩ => by rw [e1]; exact hs i y σ' H' e2 p) hd
def WhQ (tb : TS) (Pv : Nat → L2.St → Hp → Prop) (rt : VK) (nx : L2.St → Hp → Prop) (m : Nat) (σ' : L2.St) (H2 : Hp) : Prop := ∃ N : L2.St → Hp → Prop, (∀ σ3 H3, N σ3 H3 → ∃ m', m' < m ∧ Pv m' σ3 H3) ∧ tb ⟨N, rt, nx, N⟩ σ' H2
theorem whQ {Pv : Nat → L2.St → Hp → Prop} {m : Nat} (h : tb ⟨fun σ3 H3 => ∃ m', m' < m ∧ Pv m' σ3 H3, rt, nx, fun σ3 H3 => ∃ m', m' < m ∧ Pv m' σ3 H3⟩ σ H2) : WhQ tb Pv rt nx m σ H2 := ⟨_, fun _ _ h => h, h⟩
theorem whileS {c : TT} (Pv : Nat → L2.St → Hp → Prop) (h0 : ∃ m, Pv m σ H1) (hs : ∀ m σ' H', Pv m σ' H' → c σ' H' fun b H2 => if b = true then WhQ tb Pv rt nx m σ' H2 else nx σ' H2) :
    tWhile c tb ⟨nx, rt, bk, ct⟩ σ H1 := ⟨Pv, h0, hs⟩
def LcQ (D : Addr) (P : Hp → Prop) (z : V) (H4 : Hp) : Prop := ∃ acc, H4 D = some (.lst acc) ∧ acc.length < sizeLine ∧ P (upd H4 D (.lst (acc ++ [z])))
theorem lcQ {P : Hp → Prop} {acc : List V} (F : Fp B S N H) (R : Re S N d (.lst acc) (.lst (acc ++ [z])) S' N') (hl : acc.length < sizeLine) (h : ∀ H', Fp B S' N' H' → P H') : LcQ d P z H := ⟨acc, F.got R, hl, h _ (F.re R rfl rfl)⟩
theorem lcSW (w : Walk J n G Y) (F : Fp B S N H1) (Pv : Addr → Nat → Hp → Prop) (h0 : ∀ D H', Fp B S (ck D (.lst []) :: N) H' → Pv D 0 H') (hG : ∀ D i H', Pv D i H' → G H')
    (hs : ∀ D i y H' H'', i < n → Pv D i H' → Y i H' y H'' → g y (wipe σ vs) H'' fun σ2 H2 => wipe σ2 vs = wipe σ vs ∧ tt σ2 H2 fun b H3 =>
      if b = true then te σ2 H3 (LcQ D (Pv D (i + 1))) else Pv D (i + 1) H3)
    (hd : ∀ D H', Pv D n H' → Q (.ref D) H') : LcE J g tt te vs σ H1 Q := by
  intro D hD
  exact lc_it w (Pv D) (h0 D _ (F.new hD rfl)) (fun i H' _ p => hG D i H' p) (fun i x H' H'' hi p y => hs D i x H' H'' hi p y) fun H' p => hd D H' p
theorem lcS (w : Ov J xs G) (F : Fp B S N H1) (Pv : Addr → Nat → Hp → Prop) (h0 : ∀ D H', Fp B S (ck D (.lst []) :: N) H' → Pv D 0 H') (hG : ∀ D i H', Pv D i H' → G H')
    (hs : ∀ D i y H', xs[i]? = some y → Pv D i H' → g y (wipe σ vs) H' fun σ2 H2 => wipe σ2 vs = wipe σ vs ∧ tt σ2 H2 fun b H3 =>
      if b = true then te σ2 H3 (LcQ D (Pv D (i + 1))) else Pv D (i + 1) H3)
    (hd : ∀ D H', Pv D xs.length H' → Q (.ref D) H') : LcE J g tt te vs σ H1 Q :=
  lcSW w F Pv h0 hG (fun D i x H' H'' hi p ⟨e1, e2⟩ => by rw [e1]; exact hs D i x H' e2 p) hd
def DcQ (D : Addr) (P : Hp → Prop) (y z : V) (H5 : Hp) : Prop := ∃ kvs k, y = kV k ∧ H5 D = some (.dK kvs) ∧ kvs.length < sizeLine ∧ P (upd H5 D (.dK (putK kvs k z)))
theorem dcQS {P : Hp → Prop} {kvs kvs' : List (Key × V)} {k : Str} (F : Fp B S N H) (R : Re S N d (.dK kvs) (.dK kvs') S' N') (hl : kvs.length < sizeLine) (hp : putR (Sum.inr k) z kvs = kvs') (h : ∀ H', Fp B S' N' H' → P H') : DcQ d P (.str k) z H := by
  rw [← putK_putR] at hp
  subst hp
  exact ⟨kvs, Sum.inr k, rfl, F.got R, hl, h _ (F.re R rfl rfl)⟩
theorem dcS (w : Ov J xs G) (F : Fp B S N H1) (Pv : Addr → Nat → Hp → Prop) (h0 : ∀ D H', Fp B S (ck D (.dK []) :: N) H' → Pv D 0 H') (hG : ∀ D i H', Pv D i H' → G H')
    (hs : ∀ D i y H', xs[i]? = some y → Pv D i H' → g y (wipe σ vs) H' fun σ2 H2 => wipe σ2 vs = wipe σ vs ∧ tt σ2 H2 fun b H3 =>
      if b = true then tk σ2 H3 fun y H4 => tv σ2 H4 (DcQ D (Pv D (i + 1)) y) else Pv D (i + 1) H3)
    (hd : ∀ D H', Pv D xs.length H' → Q (.ref D) H') : DcE J g tt tk tv vs σ H1 Q := by
  intro D hD
  refine ⟨fun i m H' => m = xs.length - i ∧ i ≤ xs.length ∧ Pv D i H', ⟨xs.length, by simp, Nat.zero_le _, h0 D _ (F.new hD rfl)⟩, ?_⟩
  rintro i m H' ⟨rfl, hi, p⟩
  by_cases hlt : i < xs.length
  · refine .inr ⟨w.goes i H' hlt (hG D i H' p), Pv D (i + 1), fun H'' p' => ⟨xs.length - (i + 1), by omega, rfl, hlt, p'⟩, fun x H'' y => ?_⟩
    obtain ⟨e1, e2⟩ := w.yields i H' x H'' hlt (hG D i H' p) y
    rw [e1]
    exact hs D i x H' e2 p
  · have q : i = xs.length := by omega
    subst q
    exact .inl ⟨w.stops H' (hG D _ H' p), hd D H' p⟩
theorem gnSW {α : Type} {P : Addr} {a0 : α} {take : VK → α → V → Hp → (α → Hp → Prop) → Prop} {fin : VK → α → Hp → Prop} (w : Walk J n G Y) (F : Fp B S N H1) (hP : ¬ Lw.L P) (ht : GxR.TabG B P) (Pv : Nat → α → Hp → Prop) (h0 : ∀ H', Fp B S N H' → Pv 0 a0 H') (hG : ∀ i a H', Pv i a H' → G H')
    (hs : ∀ i y a H' H'', i < n → Pv i a H' → Y i H' y H'' → g y (wipe σ vs) H'' fun σ2 H2 => wipe σ2 vs = wipe σ vs ∧ tt σ2 H2 fun b H3 =>
      if b = true then te σ2 H3 fun z H4 => take Q a z H4 (Pv (i + 1)) else Pv (i + 1) a H3)
    (hd : ∀ a H', Pv n a H' → fin Q a H') : GnE P J g tt te vs a0 take fin σ H1 Q := by
  refine ⟨F.tab ht, fun H2 hT => ?_⟩
  have m2 := mv_tabbed hP hT (F.tab ht)
  refine ⟨fun i m a H' => m = n - i ∧ i ≤ n ∧ Pv i a H', ⟨n, by simp, Nat.zero_le _, h0 H2 (F.mv m2)⟩, ?_⟩
  rintro i m a H' ⟨rfl, hi, p⟩
  by_cases hlt : i < n
  · refine .inr ⟨w.goes i H' hlt (hG i a H' p), Pv (i + 1), fun a' H'' p' => ⟨n - (i + 1), by omega, rfl, hlt, p'⟩, fun x H'' y => ?_⟩
    exact hs i x a H' H'' hlt p (w.yields i H' x H'' hlt (hG i a H' p) y)
  · have q : i = n := by omega
    subst q
    exact .inl ⟨w.stops H' (hG _ a H' p), hd a H' p⟩
theorem gnS {α : Type} {P : Addr} {a0 : α} {take : VK → α → V → Hp → (α → Hp → Prop) → Prop} {fin : VK → α → Hp → Prop} (w : Ov J xs G) (F : Fp B S N H1) (hP : ¬ Lw.L P) (ht : GxR.TabG B P) (Pv : Nat → α → Hp → Prop) (h0 : ∀ H', Fp B S N H' → Pv 0 a0 H') (hG : ∀ i a H', Pv i a H' → G H')
    (hs : ∀ i y a H', xs[i]? = some y → Pv i a H' → g y (wipe σ vs) H' fun σ2 H2 => wipe σ2 vs = wipe σ vs ∧ tt σ2 H2 fun b H3 =>
      if b = true then te σ2 H3 fun z H4 => take Q a z H4 (Pv (i + 1)) else Pv (i + 1) a H3)
    (hd : ∀ a H', Pv xs.length a H' → fin Q a H') : GnE P J g tt te vs a0 take fin σ H1 Q :=
  gnSW w F hP ht Pv h0 hG (fun i x a H' H'' hi p ⟨e1, e2⟩ => by rw [e1]; exact hs i x a H' e2 p) hd
/-- a dict that is walked -/
theorem f_lock {Sf Nf : Obj → List Ck} {kvs : List (Key × V)} (F : Fp B S N H) (ha : H d = some (.dK kvs)) (R : ∀ od, Re S N d (.dK kvs) (.frz od (.dK kvs)) (Sf od) (Nf od)) (h : ∀ od H1, Fp B (Sf od) (Nf od) H1 → tb ⟨fun σ' H' => H' d = some (.frz od (.dK kvs)) ∧ nx σ' (upd H' d (.dK kvs)), fun v H' => H' d = some (.frz od (.dK kvs)) ∧ rt v (upd H' d (.dK kvs)), fun σ' H' => H' d = some (.frz od (.dK kvs)) ∧ bk σ' (upd H' d (.dK kvs)), fun σ' H' => H' d = some (.frz od (.dK kvs)) ∧ ct σ' (upd H' d (.dK kvs))⟩ σ H1) :
    tLock tb ⟨nx, rt, bk, ct⟩ σ H := ⟨d, _, ha, True.intro, fun od => h od _ (F.re (R od) rfl rfl)⟩
def UnlP (d : Addr) (u : HO) (od : Obj) (Nx : Hp → Prop) (H : Hp) : Prop := H d = some (.frz od u) ∧ Nx (upd H d u)
theorem f_unl {kvs : List (Key × V)} {od : Obj} {Nx : Hp → Prop} (F : Fp B S N H) (R : Re S N d (.frz od (.dK kvs)) (.dK kvs) S' N') (h : ∀ H', Fp B S' N' H' → Nx H') : UnlP d (.dK kvs) od Nx H := ⟨F.got R, h _ (F.re R rfl rfl)⟩
/-! ### calls -/
inductive Pq : List Ck → List Ck → List Ck → Prop
  | nil {S N : List Ck} : Pq S N []
  | s {S S' N T : List Ck} {c : Ck} (d : Dl S c S') (h : Pq S' N T) : Pq S N (c :: T)
  | n {S N N' T : List Ck} {c : Ck} (d : Dl N c N') (h : Pq S N' T) : Pq S N (c :: T)
omit [Lw] in
theorem Dl.app {L L' R : List Ck} {c : Ck} (h : Dl L c L') : Dl (L ++ R) c (L' ++ R) := by
  induction h with
  | here => exact .here
  | there _ ih => exact .there ih
omit [Lw] in
theorem Dl.app' {L L' : List Ck} {c : Ck} (h : Dl L c L') : ∀ R : List Ck, Dl (R ++ L) c (R ++ L')
  | [] => h
  | _ :: R => .there (Dl.app' h R)
omit [Lw] in
theorem Pq.pk {S N T : List Ck} (h : Pq S N T) : Pk (S ++ N) T := by
  induction h with
  | nil => exact .nil
  | s d _ ih => exact .cons d.app ih
  | n d _ ih => exact .cons (d.app' _) ih
theorem Fp.pq (F : Fp B S N H) (h : Pq S N T) : Fp H T [] H := F.pick h.pk
variable {T' : List Ck} {c c1 c2 c3 : Ck}
theorem Fp.call0 (F : Fp B S N H) (G : Fp H T' [] H1) (r : Rs S N T T' S' N') : Fp B S' N' H1 := F.call r G
theorem Fp.call1 (F : Fp B S N H) (G : Fp H T' [c] H1) (r : Rs S N T T' S' N') : Fp B S' (c :: N') H1 := F.call r G
theorem Fp.call2 (F : Fp B S N H) (G : Fp H T' [c, c1] H1) (r : Rs S N T T' S' N') : Fp B S' (c :: c1 :: N') H1 := F.call r G
theorem Fp.call3 (F : Fp B S N H) (G : Fp H T' [c, c1, c2] H1) (r : Rs S N T T' S' N') : Fp B S' (c :: c1 :: c2 :: N') H1 := F.call r G
theorem Fp.up (F : Fp B S N H) {R : Hp → Prop} (hp : H p = none) (ho : isTbl o = false) (h : ∀ H', Fp B S (ck p o :: N) H' → R H') : R (upd H p o) := h _ (F.new hp ho)
end
end Mi

set_option Elab.async false
set_option linter.all false
set_option maxRecDepth 100000
set_option maxHeartbeats 2000000
namespace Mi
open PySem PySem.Spec PyProof.Rows L2
open PySem.W (dataLt alike rcLt_alike rcGt_alike)
/-! ### min, max over a generator expression of data -/
def bestO (lt : PyData → PyData → Bool) (K : PySem.W.Frag) : Option V → V → Hp → (Option V → Hp → Prop) → Prop := fun o y H N => match o with
  | none => N (some y) H
  | some x => ∃ d e, Dp K H y d ∧ Dp K H x e ∧ alike d e = true ∧ d ≠ .none ∧ d.depth ≤ 8 ∧ N (if lt d e = true then some y else some x) H
def conM (lt : PyData → PyData → Bool) (K : PySem.W.Frag) (S : Addr) (Qm : V → Hp → Prop) : Con (Option V) where
  ad := [S]
  CO := fun o cs => ∃ acc c, cs = [(S, lstObj acc c)] ∧ (match o with | none => acc = #[] | some x => ∃ u, RelV x u ∧ acc = #[u, u])
  adr := fun _ cs ⟨t, c, h, _⟩ => by
    rw [h]
    rfl
  nc := fun _ cs ⟨t, c, h, _⟩ p hp v z => by
    rw [h] at hp
    rw [List.mem_singleton.mp hp] at z
    cases z
  one := fun a b cs ⟨t, c, h, r⟩ ⟨t', c', h', r'⟩ => by
    rw [h] at h'
    injection h' with h1 _
    injection h1 with _ h2
    injection h2 with _ _ h3
    injection h3 with h4 _
    subst h4
    cases a with
    | none => cases b with
      | none => rfl
      | some y =>
        obtain ⟨u, _, e⟩ := r'
        have r : t = #[] := r
        rw [r] at e
        cases e
    | some x => cases b with
      | none =>
        obtain ⟨u, _, e⟩ := r
        have r' : t = #[] := r'
        rw [r'] at e
        cases e
      | some y =>
        obtain ⟨u, q, e⟩ := r
        obtain ⟨u', q', e'⟩ := r'
        rw [e] at e'
        have e' := congrArg Array.toList e'
        injection e' with e1 _
        subst e1
        rw [relV_one q q']
  take := bestO lt K
  fin := fun o H => ∃ x, o = some x ∧ Qm x H
def takeM (lt : PyData → PyData → Bool) (K : PySem.W.Frag) : VK → Option V → V → Hp → (Option V → Hp → Prop) → Prop := fun _ => bestO lt K
def finM : VK → Option V → Hp → Prop := fun Q o H => ∃ x, o = some x ∧ Q x H
def ltMin : PyData → PyData → Bool := fun d e => dataLt d e
def ltMax : PyData → PyData → Bool := fun d e => dataLt e d
theorem ltD2 {a b c d : Int} : dataLt (.tuple [.int a, .int b]) (.tuple [.int c, .int d]) = decide (a < c ∨ (a = c ∧ b < d)) := PySem.W.dataLt_ii a b c d
section
variable {X : Cx} {gp : List (Addr × Obj)} {fp : List Addr} {A : Around} {ga : Addr} {gi : Nat} {R : Result → Shared → Prop}
theorem loop_min {S : Addr} {Qm : V → Hp → Prop} (hh : A.handled = none) (hd : A.depth < recursionLimit) (hu : A.in1.units + 8 < cLine) (L : Lies X (conM ltMin X.K S Qm).ad fp gp) (hgp : ∀ p ∈ gp, p.1 ∉ (conM ltMin X.K S Qm).ad) (G : GenIn gp ga gi)
    (hR : ∀ x u acc c σ H s', RelV x u → Inv X ((S, lstObj acc c) :: gp) σ H s' → Qm x H → R (.ok (.ret u)) s') :
    ∀ (n : Nat) (s s' : Shared) (Nn : Option V → Prop) (o : Option V) (acc : Array Value) (c : Nat), Susp (conM ltMin X.K S Qm) X gp A.in1 gi n Nn s → Nn o → (match o with | none => acc = #[] | some x => ∃ u, RelV x u ∧ acc = #[u, u]) → Wkn [S] [(S, lstObj acc c)] s s' → s'.gens = s.gens →
      codeAny (model X.prog X.w) A (.builtin "min.loop" ⟨[.ref ga, .none, .ref S], []⟩) R s' := by
  have hname : (toString "min" ++ toString ".loop" : String) = "min.loop" := by decide
  intro n
  induction n with
  | zero =>
    intro s s' Nn o acc c Su hN ho wk hgen
    obtain ⟨gs, a0, cs0, σ, H, hgs, I, c0, go⟩ := Su
    exact (show False from go o _ s' hN ⟨acc, c, rfl, ho⟩ wk).elim
  | succ k ih =>
    intro s s' Nn o acc c Su hN ho wk hgen
    have hS : s'.heap.get? S = some (lstObj acc c) := wk.has (S, lstObj acc c) (List.mem_singleton.mpr rfl)
    refine codeAny_builtin F.entry_min_loop ?_
    rw [Around.under_plainId F.plain_min_loop _]
    show wpAny _ A.in1 (seqItems? (.ref S) >>= _) _ _ s'
    refine wpAny_bind (wpAny_seqItems hS rfl ?_)
    cases o with
    | none =>
      obtain rfl : acc = #[] := ho
      show wpAny _ A.in1 (tryCatch (pyNext (.ref ga)) _ >>= _) _ _ s'
      refine wpAny_bind (wpAny_tryCatch (next_susp (Ac := A.in1) (a := none) hh hd L hgp G Su hN ⟨#[], c, rfl, rfl⟩ wk hgen (fun v s2 y σ H Nx n' en ry I tk S2 => ?_) fun s2 σ H I fn => ?_))
      · obtain rfl : k = n' := by omega
        have hS2 : s2.heap.get? S = some (lstObj #[] c) := (I.pin (S, lstObj #[] c) (List.mem_append_right _ (List.mem_append_left _ (List.mem_singleton.mpr rfl)))).1
        show wpAny _ A.in1 (updateSeq S (fun _ => #[v, v]) >>= _) _ _ _
        refine wpAny_bind ?_
        refine wpAny_updateSeq hS2 rfl ?_
        rw [hname]
        refine wpAny_pure ⟨plainId_quiet F.plain_min_loop _, ?_⟩
        obtain ⟨c2, hc2⟩ : ∃ c2, Obj.mapSeq (fun _ => #[v, v]) (lstObj #[] c) = lstObj #[v, v] c2 := ⟨_, rfl⟩
        refine ih s2 _ _ (some y) #[v, v] c2 S2 tk ⟨v, ry, rfl⟩ ⟨rfl, I.bare, fun b o hb e => ?_, fun p hp => ?_⟩ rfl
        · exact (Heap.get?_update_other _ _ (fun z : S = b => hb (by rw [z]; exact List.mem_singleton.mpr rfl))).trans e
        · rw [List.mem_singleton.mp hp, ← hc2]
          exact Heap.get?_update_self (Obj.mapSeq fun _ => #[v, v]) hS2 rfl
      · obtain ⟨x, e, _⟩ := fn
        cases e
    | some x =>
      obtain ⟨ux, rx, rfl⟩ := ho
      show wpAny _ A.in1 (tryCatch (pyNext (.ref ga)) _ >>= _) _ _ s'
      refine wpAny_bind (wpAny_tryCatch (next_susp (Ac := A.in1) (a := some x) hh hd L hgp G Su hN ⟨#[ux, ux], c, rfl, ux, rx, rfl⟩ wk hgen (fun v s2 y σ H Nx n' en ry I tk S2 => ?_) fun s2 σ H I fn => ?_))
      · obtain rfl : k = n' := by omega
        obtain ⟨d, e, hy, hx, hal, hnn, hdp, q⟩ := tk
        have hS2 : s2.heap.get? S = some (lstObj #[ux, ux] c) := (I.pin (S, lstObj #[ux, ux] c) (List.mem_append_right _ (List.mem_append_left _ (List.mem_singleton.mpr rfl)))).1
        obtain ⟨as1, r1⟩ := Dp.reads I d y v hy ry
        obtain ⟨as2, r2⟩ := Dp.reads I e x ux hx rx
        show wpAny _ A.in1 (tryCatch (holding [v, v] (richCompare .Lt v ux >>= _)) _ >>= _) _ _ _
        refine wpAny_bind (wpAny_tryCatch (wpAny_holding (wpAny_bind (rcLt_alike d e A.in1 s2 v ux as1 as2 r1 r2 hal hnn (by omega) X.prog X.w _ _ ?_))))
        refine wpAny_bind (wpAny_holding (wpAny_truthy_bool ?_))
        refine wpAny_bind (wpAny_letGo (wpAny_pure ?_))
        have q : Nx (if dataLt d e = true then some y else some x) H := q
        cases hb : dataLt d e with
        | true =>
          rw [hb] at q
          simp only [if_true] at q ⊢
          refine wpAny_bind ?_
          refine wpAny_updateSeq hS2 rfl (wpAny_bind (wpAny_letGo ?_))
          rw [hname]
          refine wpAny_pure ⟨plainId_quiet F.plain_min_loop _, ?_⟩
          obtain ⟨c2, hc2⟩ : ∃ c2, Obj.mapSeq (fun _ => #[v, v]) (lstObj #[ux, ux] c) = lstObj #[v, v] c2 := ⟨_, rfl⟩
          refine ih s2 _ _ (some y) #[v, v] c2 S2 q ⟨v, ry, rfl⟩ ⟨rfl, I.bare, fun b o hb e => ?_, fun p hp => ?_⟩ rfl
          · exact (Heap.get?_update_other _ _ (fun z : S = b => hb (by rw [z]; exact List.mem_singleton.mpr rfl))).trans e
          · rw [List.mem_singleton.mp hp, ← hc2]
            exact Heap.get?_update_self (Obj.mapSeq fun _ => #[v, v]) hS2 rfl
        | false =>
          rw [hb] at q
          simp only [Bool.false_eq_true, if_false] at q ⊢
          refine wpAny_bind (wpAny_letGo ?_)
          rw [hname]
          refine wpAny_pure ⟨plainId_quiet F.plain_min_loop _, ?_⟩
          refine ih s2 _ _ (some x) #[ux, ux] c S2 q ⟨ux, rx, rfl⟩ ⟨rfl, I.bare, fun b o _ e => e, fun p hp => ?_⟩ rfl
          rw [List.mem_singleton.mp hp]
          exact hS2
      · obtain ⟨x', e, q⟩ := fn
        cases e
        have hS2 : s2.heap.get? S = some (lstObj #[ux, ux] c) := (I.pin (S, lstObj #[ux, ux] c) (List.mem_append_right _ (List.mem_append_left _ (List.mem_singleton.mpr rfl)))).1
        show wpAny _ A.in1 (updateSeq S (fun _ => #[]) >>= _) _ _ _
        refine wpAny_bind ?_
        refine wpAny_updateSeq hS2 rfl (wpAny_bind (wpAny_letGo (wpAny_pure ?_)))
        obtain ⟨c2, hc2⟩ : ∃ c2, Obj.mapSeq (fun _ => #[]) (lstObj #[ux, ux] c) = lstObj #[] c2 := ⟨_, rfl⟩
        have I2 := woken (C := conM ltMin X.K S Qm) (a := some x) (a' := none) (cs := [(S, lstObj #[ux, ux] c)]) (cs' := [(S, lstObj #[] c2)]) (s' := { s2 with heap := s2.heap.update S (Obj.mapSeq fun _ => #[]) }) L hgp I ⟨_, _, rfl, ux, rx, rfl⟩ ⟨_, _, rfl, rfl⟩ ⟨rfl, I.bare, fun b o hb e => ?_, fun p hp => ?_⟩
        · exact hR x ux #[] c2 σ H _ rx I2 q
        · exact (Heap.get?_update_other _ _ (fun z : S = b => hb (by rw [z]; exact List.mem_singleton.mpr rfl))).trans e
        · rw [List.mem_singleton.mp hp, ← hc2]
          exact Heap.get?_update_self (Obj.mapSeq fun _ => #[]) hS2 rfl
end
section
variable {X : Cx} {pins : List (Addr × Obj)} {σ : L2.St} {s6 : Shared} {elt tg iter : Expr} {ifs : List Expr} {scope : Scope} {gpos : Pos} {own : List (Str × Nat)} {J : It} {H2 : Hp} {ga : Addr} {g : TG} {tt : TT} {te : TE} {k : Nat} {A : Around} {E : Value → Shared → Prop}
theorem draw_min {Qm : V → Hp → Prop} (Fr : Fresh X pins σ elt tg iter ifs scope gpos J H2 ga s6) (hr : Room (k + 2) A) (hF : A.frames = some X.stack) (GP : GenP X k elt tg ifs scope own g tt te) {W : Nat → Nat → Option V → Hp → Prop} {m : Nat} (w : W 0 m none H2)
    (turn : Turns (conM ltMin X.K 0 Qm).take (conM ltMin X.K 0 Qm).fin J g tt te (wipe σ (own.map (·.2))) (own.map (·.2)) W) :
    wpAny (model X.prog X.w) A (call (.builtin "min") [.ref ga]) (fun u s' => ∃ x H', RelV x u ∧ Inv X pins σ H' s' ∧ Qm x H') E s6 := by
  have hname : (toString "min" ++ toString ".loop" : String) = "min.loop" := by decide
  have hun := hr.in1.un
  refine call_function_tree F.kind_min F.plain_min F.entry_min (F.args_min1 _) ?_
  show wpAny _ A.in1 (Builtin.Builtins.bindParams "min" ["key", "default"] 0 ⟨[], []⟩ >>= _) _ _ s6
  refine wpAny_bind (wpAny_of_eq (show Builtin.Builtins.bindParams "min" ["key", "default"] 0 ⟨[], []⟩ = pure [none, none] from rfl) ?_)
  refine wpAny_bind (wpAny_pure ?_)
  obtain ⟨gi, hg⟩ := fresh_gen Fr
  refine wpAny_bind (wpAny_pyIter_gen hg ?_)
  refine wpAny_bind (wpAny_newObj_type ?_)
  rw [hname]
  obtain ⟨Xg, gp, fp, gi', e1, e2, e3, L, hgp, G, Su, back⟩ := fresh_susp (C := conM ltMin X.K s6.heap.objs.size Qm) (s7 := { s6 with heap := s6.heap.push { cls := .type "list", data := .seq ([] : List Value).toArray } }) Fr hr.in1 hF GP.ok GP.nd GP.pg GP.pt GP.pe rfl rfl
    (fun b o e => Heap.get?_push_of_some _ e) (fun b hb => by rw [List.mem_singleton.mp hb]; exact Nat.le_refl _) (a0 := none) (cs := [(s6.heap.objs.size, lstObj #[] 0)]) ⟨_, _, rfl, rfl⟩ (fun p hp => by rw [List.mem_singleton.mp hp]; exact Heap.get?_push_size _ rfl) w turn
  have eK : Xg.K = X.K := e3
  rw [← e1, ← e2]
  rw [← eK] at L hgp Su
  refine wpAny_pure ⟨plainId_quiet F.plain_min_loop _, loop_min (S := s6.heap.objs.size) hr.hd hr.depth (by omega) L hgp G (fun x u acc c σ' H' s' r I q => ⟨x, H', r, back _ _ _ _ I, q⟩) _ _ _ _ none #[] 0 Su rfl rfl ⟨rfl, susp_bare Su, fun b o _ e => e, fun p hp => ?_⟩ rfl⟩
  rw [List.mem_singleton.mp hp]
  exact Heap.get?_push_size _ rfl
end
section
variable {X : Cx} {elt tg iter : Expr} {ifs : List Expr} {scope : Scope} {gpos p pos : Pos} {own : List (Str × Nat)} {g : TG} {tt : TT} {te : TE} {wi : TI} {k : Nat} {c P : Addr} {nm : Str}
theorem boot_min1 : bootBuiltins "min" = some (.builtin "min") := by decide +kernel
theorem pe_minG {K : PySem.W.Frag} (hK : X.K = K) (G : GenC X k c P elt tg iter ifs scope own wi g tt te) (hg : Gl X "min") (hm : X.mg "min" = none) (he : starEach [.GeneratorExp elt [⟨tg, iter, ifs, 0⟩] scope gpos] X.env = (false, eval (.GeneratorExp elt [⟨tg, iter, ifs, 0⟩] scope gpos) X.env) :: starEach [] X.env := by rfl) :
    PE X (.Call (.Name "min" p) [.GeneratorExp elt [⟨tg, iter, ifs, 0⟩] scope gpos] [] pos) (tGen P wi g tt te (own.map (·.2)) none (takeM ltMin K) finM) := by
  subst hK
  refine ⟨fun pins s σ H Q I h => ?_⟩
  refine wpAny_Call_Name_kw (ld_blt I hg hm boot_min1 ?_)
  refine PyProof.Rows.callWith_builtin1 (starG he G I h fun J H2 ga s6 W m Fr w turn => ?_) he (by rfl)
  refine thn (draw_min (Qm := fun x H => Q x H) Fr (G.hr.mono (by omega)) (fresh_frames Fr) G.p w turn) fun u s' ⟨x, H', eu, I', q⟩ => ?_
  exact ⟨x, H', I', eu, q⟩
end
section
variable {X : Cx} {gp : List (Addr × Obj)} {fp : List Addr} {A : Around} {ga : Addr} {gi : Nat} {R : Result → Shared → Prop}
theorem loop_max {S : Addr} {Qm : V → Hp → Prop} (hh : A.handled = none) (hd : A.depth < recursionLimit) (hu : A.in1.units + 8 < cLine) (L : Lies X (conM ltMax X.K S Qm).ad fp gp) (hgp : ∀ p ∈ gp, p.1 ∉ (conM ltMax X.K S Qm).ad) (G : GenIn gp ga gi)
    (hR : ∀ x u acc c σ H s', RelV x u → Inv X ((S, lstObj acc c) :: gp) σ H s' → Qm x H → R (.ok (.ret u)) s') :
    ∀ (n : Nat) (s s' : Shared) (Nn : Option V → Prop) (o : Option V) (acc : Array Value) (c : Nat), Susp (conM ltMax X.K S Qm) X gp A.in1 gi n Nn s → Nn o → (match o with | none => acc = #[] | some x => ∃ u, RelV x u ∧ acc = #[u, u]) → Wkn [S] [(S, lstObj acc c)] s s' → s'.gens = s.gens →
      codeAny (model X.prog X.w) A (.builtin "max.loop" ⟨[.ref ga, .none, .ref S], []⟩) R s' := by
  have hname : (toString "max" ++ toString ".loop" : String) = "max.loop" := by decide
  intro n
  induction n with
  | zero =>
    intro s s' Nn o acc c Su hN ho wk hgen
    obtain ⟨gs, a0, cs0, σ, H, hgs, I, c0, go⟩ := Su
    exact (show False from go o _ s' hN ⟨acc, c, rfl, ho⟩ wk).elim
  | succ k ih =>
    intro s s' Nn o acc c Su hN ho wk hgen
    have hS : s'.heap.get? S = some (lstObj acc c) := wk.has (S, lstObj acc c) (List.mem_singleton.mpr rfl)
    refine codeAny_builtin F.entry_max_loop ?_
    rw [Around.under_plainId F.plain_max_loop _]
    show wpAny _ A.in1 (seqItems? (.ref S) >>= _) _ _ s'
    refine wpAny_bind (wpAny_seqItems hS rfl ?_)
    cases o with
    | none =>
      obtain rfl : acc = #[] := ho
      show wpAny _ A.in1 (tryCatch (pyNext (.ref ga)) _ >>= _) _ _ s'
      refine wpAny_bind (wpAny_tryCatch (next_susp (Ac := A.in1) (a := none) hh hd L hgp G Su hN ⟨#[], c, rfl, rfl⟩ wk hgen (fun v s2 y σ H Nx n' en ry I tk S2 => ?_) fun s2 σ H I fn => ?_))
      · obtain rfl : k = n' := by omega
        have hS2 : s2.heap.get? S = some (lstObj #[] c) := (I.pin (S, lstObj #[] c) (List.mem_append_right _ (List.mem_append_left _ (List.mem_singleton.mpr rfl)))).1
        show wpAny _ A.in1 (updateSeq S (fun _ => #[v, v]) >>= _) _ _ _
        refine wpAny_bind ?_
        refine wpAny_updateSeq hS2 rfl ?_
        rw [hname]
        refine wpAny_pure ⟨plainId_quiet F.plain_max_loop _, ?_⟩
        obtain ⟨c2, hc2⟩ : ∃ c2, Obj.mapSeq (fun _ => #[v, v]) (lstObj #[] c) = lstObj #[v, v] c2 := ⟨_, rfl⟩
        refine ih s2 _ _ (some y) #[v, v] c2 S2 tk ⟨v, ry, rfl⟩ ⟨rfl, I.bare, fun b o hb e => ?_, fun p hp => ?_⟩ rfl
        · exact (Heap.get?_update_other _ _ (fun z : S = b => hb (by rw [z]; exact List.mem_singleton.mpr rfl))).trans e
        · rw [List.mem_singleton.mp hp, ← hc2]
          exact Heap.get?_update_self (Obj.mapSeq fun _ => #[v, v]) hS2 rfl
      · obtain ⟨x, e, _⟩ := fn
        cases e
    | some x =>
      obtain ⟨ux, rx, rfl⟩ := ho
      show wpAny _ A.in1 (tryCatch (pyNext (.ref ga)) _ >>= _) _ _ s'
      refine wpAny_bind (wpAny_tryCatch (next_susp (Ac := A.in1) (a := some x) hh hd L hgp G Su hN ⟨#[ux, ux], c, rfl, ux, rx, rfl⟩ wk hgen (fun v s2 y σ H Nx n' en ry I tk S2 => ?_) fun s2 σ H I fn => ?_))
      · obtain rfl : k = n' := by omega
        obtain ⟨d, e, hy, hx, hal, hnn, hdp, q⟩ := tk
        have hS2 : s2.heap.get? S = some (lstObj #[ux, ux] c) := (I.pin (S, lstObj #[ux, ux] c) (List.mem_append_right _ (List.mem_append_left _ (List.mem_singleton.mpr rfl)))).1
        obtain ⟨as1, r1⟩ := Dp.reads I d y v hy ry
        obtain ⟨as2, r2⟩ := Dp.reads I e x ux hx rx
        show wpAny _ A.in1 (tryCatch (holding [v, v] (richCompare .Gt v ux >>= _)) _ >>= _) _ _ _
        refine wpAny_bind (wpAny_tryCatch (wpAny_holding (wpAny_bind (rcGt_alike d e A.in1 s2 v ux as1 as2 r1 r2 hal hnn (by omega) X.prog X.w _ _ ?_))))
        refine wpAny_bind (wpAny_holding (wpAny_truthy_bool ?_))
        refine wpAny_bind (wpAny_letGo (wpAny_pure ?_))
        have q : Nx (if dataLt e d = true then some y else some x) H := q
        cases hb : dataLt e d with
        | true =>
          rw [hb] at q
          simp only [if_true] at q ⊢
          refine wpAny_bind ?_
          refine wpAny_updateSeq hS2 rfl (wpAny_bind (wpAny_letGo ?_))
          rw [hname]
          refine wpAny_pure ⟨plainId_quiet F.plain_max_loop _, ?_⟩
          obtain ⟨c2, hc2⟩ : ∃ c2, Obj.mapSeq (fun _ => #[v, v]) (lstObj #[ux, ux] c) = lstObj #[v, v] c2 := ⟨_, rfl⟩
          refine ih s2 _ _ (some y) #[v, v] c2 S2 q ⟨v, ry, rfl⟩ ⟨rfl, I.bare, fun b o hb e => ?_, fun p hp => ?_⟩ rfl
          · exact (Heap.get?_update_other _ _ (fun z : S = b => hb (by rw [z]; exact List.mem_singleton.mpr rfl))).trans e
          · rw [List.mem_singleton.mp hp, ← hc2]
            exact Heap.get?_update_self (Obj.mapSeq fun _ => #[v, v]) hS2 rfl
        | false =>
          rw [hb] at q
          simp only [Bool.false_eq_true, if_false] at q ⊢
          refine wpAny_bind (wpAny_letGo ?_)
          rw [hname]
          refine wpAny_pure ⟨plainId_quiet F.plain_max_loop _, ?_⟩
          refine ih s2 _ _ (some x) #[ux, ux] c S2 q ⟨ux, rx, rfl⟩ ⟨rfl, I.bare, fun b o _ e => e, fun p hp => ?_⟩ rfl
          rw [List.mem_singleton.mp hp]
          exact hS2
      · obtain ⟨x', e, q⟩ := fn
        cases e
        have hS2 : s2.heap.get? S = some (lstObj #[ux, ux] c) := (I.pin (S, lstObj #[ux, ux] c) (List.mem_append_right _ (List.mem_append_left _ (List.mem_singleton.mpr rfl)))).1
        show wpAny _ A.in1 (updateSeq S (fun _ => #[]) >>= _) _ _ _
        refine wpAny_bind ?_
        refine wpAny_updateSeq hS2 rfl (wpAny_bind (wpAny_letGo (wpAny_pure ?_)))
        obtain ⟨c2, hc2⟩ : ∃ c2, Obj.mapSeq (fun _ => #[]) (lstObj #[ux, ux] c) = lstObj #[] c2 := ⟨_, rfl⟩
        have I2 := woken (C := conM ltMax X.K S Qm) (a := some x) (a' := none) (cs := [(S, lstObj #[ux, ux] c)]) (cs' := [(S, lstObj #[] c2)]) (s' := { s2 with heap := s2.heap.update S (Obj.mapSeq fun _ => #[]) }) L hgp I ⟨_, _, rfl, ux, rx, rfl⟩ ⟨_, _, rfl, rfl⟩ ⟨rfl, I.bare, fun b o hb e => ?_, fun p hp => ?_⟩
        · exact hR x ux #[] c2 σ H _ rx I2 q
        · exact (Heap.get?_update_other _ _ (fun z : S = b => hb (by rw [z]; exact List.mem_singleton.mpr rfl))).trans e
        · rw [List.mem_singleton.mp hp, ← hc2]
          exact Heap.get?_update_self (Obj.mapSeq fun _ => #[]) hS2 rfl
end
section
variable {X : Cx} {pins : List (Addr × Obj)} {σ : L2.St} {s6 : Shared} {elt tg iter : Expr} {ifs : List Expr} {scope : Scope} {gpos : Pos} {own : List (Str × Nat)} {J : It} {H2 : Hp} {ga : Addr} {g : TG} {tt : TT} {te : TE} {k : Nat} {A : Around} {E : Value → Shared → Prop}
theorem draw_max {Qm : V → Hp → Prop} (Fr : Fresh X pins σ elt tg iter ifs scope gpos J H2 ga s6) (hr : Room (k + 2) A) (hF : A.frames = some X.stack) (GP : GenP X k elt tg ifs scope own g tt te) {W : Nat → Nat → Option V → Hp → Prop} {m : Nat} (w : W 0 m none H2)
    (turn : Turns (conM ltMax X.K 0 Qm).take (conM ltMax X.K 0 Qm).fin J g tt te (wipe σ (own.map (·.2))) (own.map (·.2)) W) :
    wpAny (model X.prog X.w) A (call (.builtin "max") [.ref ga]) (fun u s' => ∃ x H', RelV x u ∧ Inv X pins σ H' s' ∧ Qm x H') E s6 := by
  have hname : (toString "max" ++ toString ".loop" : String) = "max.loop" := by decide
  have hun := hr.in1.un
  refine call_function_tree F.kind_max F.plain_max F.entry_max (F.args_max1 _) ?_
  show wpAny _ A.in1 (Builtin.Builtins.bindParams "max" ["key", "default"] 0 ⟨[], []⟩ >>= _) _ _ s6
  refine wpAny_bind (wpAny_of_eq (show Builtin.Builtins.bindParams "max" ["key", "default"] 0 ⟨[], []⟩ = pure [none, none] from rfl) ?_)
  refine wpAny_bind (wpAny_pure ?_)
  obtain ⟨gi, hg⟩ := fresh_gen Fr
  refine wpAny_bind (wpAny_pyIter_gen hg ?_)
  refine wpAny_bind (wpAny_newObj_type ?_)
  rw [hname]
  obtain ⟨Xg, gp, fp, gi', e1, e2, e3, L, hgp, G, Su, back⟩ := fresh_susp (C := conM ltMax X.K s6.heap.objs.size Qm) (s7 := { s6 with heap := s6.heap.push { cls := .type "list", data := .seq ([] : List Value).toArray } }) Fr hr.in1 hF GP.ok GP.nd GP.pg GP.pt GP.pe rfl rfl
    (fun b o e => Heap.get?_push_of_some _ e) (fun b hb => by rw [List.mem_singleton.mp hb]; exact Nat.le_refl _) (a0 := none) (cs := [(s6.heap.objs.size, lstObj #[] 0)]) ⟨_, _, rfl, rfl⟩ (fun p hp => by rw [List.mem_singleton.mp hp]; exact Heap.get?_push_size _ rfl) w turn
  have eK : Xg.K = X.K := e3
  rw [← e1, ← e2]
  rw [← eK] at L hgp Su
  refine wpAny_pure ⟨plainId_quiet F.plain_max_loop _, loop_max (S := s6.heap.objs.size) hr.hd hr.depth (by omega) L hgp G (fun x u acc c σ' H' s' r I q => ⟨x, H', r, back _ _ _ _ I, q⟩) _ _ _ _ none #[] 0 Su rfl rfl ⟨rfl, susp_bare Su, fun b o _ e => e, fun p hp => ?_⟩ rfl⟩
  rw [List.mem_singleton.mp hp]
  exact Heap.get?_push_size _ rfl
end
section
variable {X : Cx} {elt tg iter : Expr} {ifs : List Expr} {scope : Scope} {gpos p pos : Pos} {own : List (Str × Nat)} {g : TG} {tt : TT} {te : TE} {wi : TI} {k : Nat} {c P : Addr} {nm : Str}
theorem boot_max1 : bootBuiltins "max" = some (.builtin "max") := by decide +kernel
theorem pe_maxG {K : PySem.W.Frag} (hK : X.K = K) (G : GenC X k c P elt tg iter ifs scope own wi g tt te) (hg : Gl X "max") (hm : X.mg "max" = none) (he : starEach [.GeneratorExp elt [⟨tg, iter, ifs, 0⟩] scope gpos] X.env = (false, eval (.GeneratorExp elt [⟨tg, iter, ifs, 0⟩] scope gpos) X.env) :: starEach [] X.env := by rfl) :
    PE X (.Call (.Name "max" p) [.GeneratorExp elt [⟨tg, iter, ifs, 0⟩] scope gpos] [] pos) (tGen P wi g tt te (own.map (·.2)) none (takeM ltMax K) finM) := by
  subst hK
  refine ⟨fun pins s σ H Q I h => ?_⟩
  refine wpAny_Call_Name_kw (ld_blt I hg hm boot_max1 ?_)
  refine PyProof.Rows.callWith_builtin1 (starG he G I h fun J H2 ga s6 W m Fr w turn => ?_) he (by rfl)
  refine thn (draw_max (Qm := fun x H => Q x H) Fr (G.hr.mono (by omega)) (fresh_frames Fr) G.p w turn) fun u s' ⟨x, H', eu, I', q⟩ => ?_
  exact ⟨x, H', I', eu, q⟩
end
end Mi

set_option Elab.async false
set_option linter.all false
set_option maxRecDepth 100000
set_option maxHeartbeats 2000000
namespace Mi
open PySem PySem.Spec PyProof.Rows L2 RZ
/-! ### calls of known methods -/
structure Mtd (P : Program) (w : World) (K : PySem.W.Frag) (mg : Str → Option Value) (base : Heap) (CX : CXT) (k : Nat) (C : Addr) (m : Str) (f : Addr) (fd : FuncData) (ps : List Str) (sp : Sp) : Prop where
  ok : FnOk P w K mg base CX k f fd ps sp
  c : Cls K C
  m : Meth K C m f
  b : Binds K fd ps []
/-- a class that may be made -/
structure Cmk (P : Program) (w : World) (K : PySem.W.Frag) (mg : Str → Option Value) (base : Heap) (CX : CXT) (k : Nat) (x : Str) (C f : Addr) (fd : FuncData) (ps : List Str) (sp : Sp) : Prop where
  ok : FnOk P w K mg base CX k f fd ps sp
  M : Mk K C f
  g : mg x = some (.ref C)
  b : Binds K fd ps []
section
variable {X : Cx} {CX : CXT} {k : Nat} {C f : Addr} {fd : FuncData} {ps : List Str} {sp : Sp} {E : XK} {m x : Str} {p apos pos : Pos} {o e : Expr} {es : List Expr} {t : TA} {ta : TE}
theorem pe_mtd {pl : Sem Bool} (he : PE X o ta) (M : Mtd X.prog X.w X.K X.mg X.base CX k C m f fd ps sp) (hr : Room k X.A) (hx : Passes CX X E) (ha : PA X (e :: es) t)
    (hst : starEach (e :: es) X.env = (false, eval e X.env) :: starEach es X.env := by rfl) (hpl : (backTo pos (starEach es X.env)).any (·.1) = false := by rfl)
    (ht : eval (.Call (.Attribute o m apos) (e :: es) [] pos) X.env = (do
      let ov ← eval o X.env
      standAt apos.atName
      let (f, first) ← holding [ov] (getMethod ov m pl)
      callWith pos f first (backTo pos (starEach (e :: es) X.env)) (backToKw pos (keywordEach [] X.env))) := by rfl) :
    PE X (.Call (.Attribute o m apos) (e :: es) [] pos) (tMeth C m sp [] E ta t) := pe_meth he M.c M.m M.ok hr M.b .nil hx ha hst hpl ht
theorem pe_mtd0 {pl : Sem Bool} (he : PE X o ta) (M : Mtd X.prog X.w X.K X.mg X.base CX k C m f fd ps sp) (hr : Room k X.A) (hx : Passes CX X E)
    (ht : eval (.Call (.Attribute o m apos) [] [] pos) X.env = (do
      let ov ← eval o X.env
      standAt apos.atName
      let (f, first) ← holding [ov] (getMethod ov m pl)
      callWith pos f first (backTo pos (starEach [] X.env)) (backToKw pos (keywordEach [] X.env))) := by rfl) :
    PE X (.Call (.Attribute o m apos) [] [] pos) (tMeth C m sp [] E ta tNil) := pe_meth0 he M.c M.m M.ok hr M.b .nil hx ht
theorem pe_cmk (M : Cmk X.prog X.w X.K X.mg X.base CX k x C f fd ps sp) (hr : Room (k + 1) X.A) (hg : Gl X x) (hx : Passes CX X E) (ha : PA X (e :: es) t)
    (hdb : (x == ("__debug__" : Str)) = false := by decide) (he : starEach (e :: es) X.env = (false, eval e X.env) :: starEach es X.env := by rfl) (hpl : (backTo pos (starEach es X.env)).any (·.1) = false := by rfl) :
    PE X (.Call (.Name x p) (e :: es) [] pos) (tMake C sp [] E t) := pe_make M.M M.ok hr hg M.g M.b .nil hx ha hdb he hpl
theorem pe_cmk0 (M : Cmk X.prog X.w X.K X.mg X.base CX k x C f fd ps sp) (hr : Room (k + 1) X.A) (hg : Gl X x) (hx : Passes CX X E)
    (hdb : (x == ("__debug__" : Str)) = false := by decide) : PE X (.Call (.Name x p) [] [] pos) (tMake C sp [] E tNil) := pe_make0 M.M M.ok hr hg M.g M.b .nil hx hdb
theorem pi_zipK {e2 : Expr} {ta : TA} {tpos : Pos} {elts : List Expr} {kk : Nat} {K : PySem.W.Frag} (hK : X.K = K) (hg : Gl X "zip") (hm : X.mg "zip" = none) (ha : PA X [e, e2] ta)
    (hs : starEach [e, e2] X.env = (false, eval e X.env) :: starEach [e2] X.env := by rfl) (hpl : (backTo pos (starEach [e2] X.env)).any (·.1) = false := by rfl) :
    PI X (.Tuple elts kk tpos) (.Call (.Name "zip" p) [e, e2] [] pos) (iZipA K ta) := by subst hK; exact pi_zipA hg hm ha hs hpl
theorem pi_enumK {ta : TA} {tpos : Pos} {elts : List Expr} {kk : Nat} {K : PySem.W.Frag} (hK : X.K = K) (hg : Gl X "enumerate") (hm : X.mg "enumerate" = none) (ha : PA X [e] ta)
    (hs : starEach [e] X.env = [(false, eval e X.env)] := by rfl) : PI X (.Tuple elts kk tpos) (.Call (.Name "enumerate" p) [e] [] pos) (iEnum K ta) := by subst hK; exact pi_enum hg hm ha hs
end
/-! ### what is walked -/
def PiEL (K : PySem.W.Frag) (vs : List V) (H : Hp) (R : It → Hp → Prop) : Prop := ∃ a xs, vs = [.ref a] ∧ SqL K H a xs ∧ R (Ite K a) H
def PiZ (K : PySem.W.Frag) (vs : List V) (H : Hp) (R : It → Hp → Prop) : Prop := ∃ a b xs ys, vs = [.ref a, .ref b] ∧ ((SqL K H a xs ∧ SqL K H b ys ∧ R (Itz K a b) H) ∨ (SqT K H a xs ∧ SqT K H b ys ∧ R (ItzT K a b) H))
def PiI (x : V) (H : Hp) (R : It → Hp → Prop) : Prop := ∃ d o kvs, x = .ref d ∧ H d = some (.frz o (.dK kvs)) ∧ R (Iti d o kvs) H
section
variable {K : PySem.W.Frag} {σ : L2.St} {H : Hp} {tA : TA} {te : TE} {R : It → Hp → Prop} {a b : Addr} {xs ys : List V}
theorem walk_zipT {n : Nat} (hn : n = min xs.length ys.length) : Walk (ItzT K a b) n (fun H => SqT K H a xs ∧ SqT K H b ys) (YPair (fun i => xs[i]?) (fun i => ys[i]?)) := by
  subst hn
  refine ⟨fun i _ hi q => ?_, fun _ q => ⟨xs, ys, q.1, q.2, by omega⟩, fun i H v H' _ q y => ?_⟩
  · have h1 : i < xs.length := by omega
    have h2 : i < ys.length := by omega
    exact ⟨xs, ys, xs[i], ys[i], q.1, q.2, by simp [h1], by simp [h2]⟩
  · obtain ⟨T, x, z, h1, h2, h3, h4, h5⟩ := y
    exact ⟨T, x, z, h1, h2, h3, h4 xs q.1, h5 ys q.2⟩
theorem s_iEL (h : tA σ H fun vs H1 => PiEL K vs H1 R) : iEnum K tA σ H R := h
theorem s_iEL2 (h1 : SqL K H a xs) (h : ∀ J, Walk J xs.length (fun H => SqL K H a xs) (YPair (fun i => some (.int (i : Nat))) (fun i => xs[i]?)) → R J H) : PiEL K [.ref a] H R := ⟨a, xs, rfl, h1, h _ walk_enum⟩
theorem s_iZ (h : tA σ H fun vs H1 => PiZ K vs H1 R) : iZipA K tA σ H R := h
theorem s_iZL {n : Nat} (h1 : SqL K H a xs) (h2 : SqL K H b ys) (hx : xs.length = n) (hy : ys.length = n) (h : ∀ J, Walk J n (fun H => SqL K H a xs ∧ SqL K H b ys) (YPair (fun i => xs[i]?) (fun i => ys[i]?)) → R J H) : PiZ K [.ref a, .ref b] H R := ⟨a, b, xs, ys, rfl, .inl ⟨h1, h2, h _ (walk_zip (by omega))⟩⟩
theorem s_iZT {n : Nat} (h1 : SqT K H a xs) (h2 : SqT K H b ys) (hx : xs.length = n) (hy : ys.length = n) (h : ∀ J, Walk J n (fun H => SqT K H a xs ∧ SqT K H b ys) (YPair (fun i => xs[i]?) (fun i => ys[i]?)) → R J H) : PiZ K [.ref a, .ref b] H R := ⟨a, b, xs, ys, rfl, .inr ⟨h1, h2, h _ (walk_zipT (by omega))⟩⟩
theorem s_iI (h : te σ H fun x H1 => PiI x H1 R) : iItems te σ H R := h
theorem s_iI2 {o : Obj} {kvs : List (Key × V)} (h1 : H a = some (.frz o (.dK kvs))) (h : ∀ J, Walk J kvs.length (fun H => H a = some (.frz o (.dK kvs))) (YPair (fun i => kvs[i]?.map fun kv => kV kv.1) (fun i => kvs[i]?.map Prod.snd)) → R J H) : PiI (.ref a) H R := ⟨a, o, kvs, rfl, h1, h _ walk_items⟩
end
section
variable [Lw] {K : PySem.W.Frag} {B H H1 H2 : Hp} {S S' N N' M T : List Ck} {a b p d : Addr} {o o' u : HO} {xs ys : List V} {Q : VK} {σ : L2.St} {v y z : V}
/-! ### methods -/
def MeP (C : Addr) (m : Str) (sp : Sp) (E : XK) (t : TA) (σ : L2.St) (Q : VK) (x : V) (H1 : Hp) : Prop := ∃ a dx fs, x = .ref a ∧ H1 a = some (.ins C dx fs) ∧ fs.lookup m = none ∧ t σ H1 fun vs H2 => sp (x :: (vs ++ [])) H2 Q E
theorem f_methE {C : Addr} {m : Str} {sp : Sp} {E : XK} {ta : TE} {t : TA} (h : ta σ H (MeP C m sp E t σ Q)) : tMeth C m sp [] E ta t σ H Q := h
theorem f_meth {C dx : Addr} {m : Str} {sp : Sp} {E : XK} {t : TA} {fs : List (Str × V)} (h1 : H a = some (.ins C dx fs)) (h2 : fs.lookup m = none) (h : t σ H fun vs H2 => sp (.ref a :: vs) H2 Q E) : MeP C m sp E t σ Q (.ref a) H := by
  refine ⟨a, dx, fs, rfl, h1, h2, ?_⟩
  have e : (fun (vs : List V) H2 => sp (.ref a :: (vs ++ [])) H2 Q E) = fun vs H2 => sp (.ref a :: vs) H2 Q E := by
    funext vs H2
    rw [List.append_nil]
  rw [e]
  exact h
theorem f_rep {k : Int} (h1 : H a = some (.lst xs)) (hk : 0 ≤ k ∧ k ≤ 100000) (hz : xs.length ≤ 10) (h : NewP (.lst (List.replicate k.toNat xs).flatten) Q H) : rRep (.ref a) (.int k) H Q := by
  refine ⟨a, k, xs, rfl, rfl, h1, by omega, by omega, ?_, h⟩
  refine Nat.le_trans (Nat.mul_le_mul hz (show k.toNat ≤ 100000 by omega)) (by decide)
theorem rep1 {k : Nat} {x : V} : (List.replicate k [x]).flatten = List.replicate k x := by
  induction k with
  | zero => rfl
  | succ k ih => rw [List.replicate_succ, List.flatten_cons, ih, List.replicate_succ]; rfl
theorem f_rep1 {k : Int} {x : V} (h1 : H a = some (.lst [x])) (hk : 0 ≤ k ∧ k ≤ 100000) (h : NewP (.lst (List.replicate k.toNat x)) Q H) : rRep (.ref a) (.int k) H Q :=
  f_rep h1 hk (by simp) (by rw [rep1]; exact h)
/-! ### tuples joined: the new one may be an old one -/
inductive TupIs (K : PySem.W.Frag) (H : Hp) : Addr → List V → Prop
  | mk {a : Addr} {xs : List V} (h : SqT K H a xs) : TupIs K H a xs
theorem f_catA (F : Fp B S N H) (h1 : SqT K H a xs) (h2 : SqT K H b ys) (hz : xs.length + ys.length ≤ sizeLine) (h : ∀ p H' N', (N' = N ∨ N' = ck p (.tup (xs ++ ys)) :: N) → Fp B S N' H' → SqT K H' p (xs ++ ys) → Q (.ref p) H') : rCatA K (.ref a) (.ref b) H Q := by
  refine ⟨a, b, xs, ys, rfl, rfl, h1, h2, hz, fun e => ?_, fun _ e => ?_, fun _ _ p hp => ?_⟩
  · subst e
    exact h b H N (.inl rfl) F h2
  · subst e
    exact h a H N (.inl rfl) F (by rw [List.append_nil]; exact h1)
  · exact h p _ _ (.inr rfl) (F.new hp rfl) (SqT.of upd_same)
/-! ### a row of new things grows -/
theorem Fp.permN (F : Fp B S N H) (h : (fl N').Perm (fl N)) : Fp B S N' H := by
  have hp : (fl (S ++ N')).Perm (fl (S ++ N)) := by
    rw [fl_app, fl_app]
    exact List.Perm.append_left _ h
  exact ⟨(hp.map _).nodup_iff.mpr F.nd, fun q hq => F.at q (hp.subset hq), fun q hq => F.nw q (h.subset hq), F.x, F.im, F.t, F.l, F.k⟩
theorem zip_snoc {as : List Addr} {os : List HO} (hl : as.length = os.length) : (as ++ [a]).zip (os ++ [o]) = as.zip os ++ [(a, o)] := by
  rw [List.zip_append hl]
  rfl
theorem Fp.snoc1 {as : List Addr} {os : List HO} (hl : as.length = os.length) (F : Fp B S (ck a o :: (as, os) :: N) H) : Fp B S ((as ++ [a], os ++ [o]) :: N) H := by
  refine F.permN ?_
  rw [fl_cons, fl_cons, fl_cons]
  show (((as ++ [a]).zip (os ++ [o])) ++ fl N).Perm ([(a, o)] ++ (as.zip os ++ fl N))
  rw [zip_snoc hl, ← List.append_assoc]
  exact List.Perm.append_right _ List.perm_append_comm
theorem Fp.snoc2 {as : List Addr} {os : List HO} {c : Ck} (hl : as.length = os.length) (F : Fp B S (ck a o :: c :: (as, os) :: N) H) : Fp B S (c :: (as ++ [a], os ++ [o]) :: N) H := by
  refine F.permN ?_
  rw [fl_cons, fl_cons, fl_cons, fl_cons, fl_cons]
  show ((c.1.zip c.2) ++ (((as ++ [a]).zip (os ++ [o])) ++ fl N)).Perm ([(a, o)] ++ ((c.1.zip c.2) ++ (as.zip os ++ fl N)))
  rw [zip_snoc hl]
  refine List.Perm.trans ?_ (List.perm_append_comm (l₁ := (c.1.zip c.2) ++ (as.zip os ++ fl N)) (l₂ := [(a, o)]))
  rw [List.append_assoc, List.append_assoc, List.append_assoc]
  exact List.Perm.append_left _ (List.Perm.append_left _ List.perm_append_comm)
theorem Fp.swap {c1 c2 : Ck} (F : Fp B S (c1 :: c2 :: N) H) : Fp B S (c2 :: c1 :: N) H := by
  refine F.permN ?_
  rw [fl_cons, fl_cons, fl_cons, fl_cons, ← List.append_assoc, ← List.append_assoc]
  exact List.Perm.append_right _ List.perm_append_comm
theorem Fp.nil (F : Fp B S N H) : Fp B S (([], []) :: N) H := F.permN (by rw [fl_cons]; exact List.Perm.refl _)
omit [Lw] in
theorem Kp.rf : ∀ {N : List Ck}, Kp N N
  | [] => .nil
  | _ :: _ => .keep Kp.rf
end
theorem seq_cut {t u : TS} {nx bk ct : L2.St → Hp → Prop} {rt : VK} {σ : L2.St} {H : Hp} (P : L2.St → Hp → Prop) (hB : ∀ σ' H', P σ' H' → u ⟨nx, rt, bk, ct⟩ σ' H') (hA : (∀ σ' H', P σ' H' → u ⟨nx, rt, bk, ct⟩ σ' H') → tSeq t u ⟨nx, rt, bk, ct⟩ σ H) : tSeq t u ⟨nx, rt, bk, ct⟩ σ H := hA hB
end Mi

set_option Elab.async false
set_option linter.all false
set_option maxRecDepth 100000
set_option maxHeartbeats 2000000
namespace Mi
open PySem PySem.Spec PyProof.Rows L2
section
variable {X : Cx}
theorem ps_setDc {i : Nat} {y : Str} {py : Pos} {kx vx tg iter : Expr} {ifs : List Expr} {scope : Scope} {own : List (Str × Nat)} {pos spos : Pos} {wi : TI} {g : TG} {tt : TT} {tk tv : TE} (hc : X.calm = true) (hN : X.N.Nodup) (hy : X.N[i]? = some y) (hyl : X.env.scope.names.lookup y = some .local)
    (hsw : swapsWith (.DictComp kx vx [⟨tg, iter, ifs, 0⟩] scope pos) (some (.Name y py)) spos.line X.env = pure true) (hi : PI X tg iter wi) (ok : BlkOk X.N X.env.scope scope own)
    (hg : ∀ (s : Shared) (H : Hp) (C : Addr) (cl : List (Str × Addr)) (fp : List Addr), PG (X.blk s H scope (compEnvC scope cl C X.env) fp) tg g) (ht : ∀ (s : Shared) (H : Hp) (C : Addr) (cl : List (Str × Addr)) (fp : List Addr), PTs (X.blk s H scope (compEnvC scope cl C X.env) fp) ifs tt)
    (hk : ∀ (s : Shared) (H : Hp) (C : Addr) (cl : List (Str × Addr)) (fp : List Addr), PE (X.blk s H scope (compEnvC scope cl C X.env) fp) kx tk)
    (he : ∀ (s : Shared) (H : Hp) (C : Addr) (cl : List (Str × Addr)) (fp : List Addr), PE (X.blk s H scope (compEnvC scope cl C X.env) fp) vx tv) (hs : ∀ x, foldedSetIterable iter X.env x = pure x := by intro _; rfl) :
    PS X (.Assign [.Name y py] (.DictComp kx vx [⟨tg, iter, ifs, 0⟩] scope pos) spos) (tAsg (tDc wi g tt tk tv (own.map (·.2))) (gName i)) := by
  refine ⟨fun pins s σ H D I h => ?_⟩
  rw [exec_Assign_Name_used _ _ _ _ hsw]
  refine wpAny_bind (wpAny_standAt (wpAny_bind ?_))
  have h : tDc wi g tt tk tv (own.map (·.2)) σ H (fun x H1 => gName i x σ H1 D.nx) := h
  refine wpAny_bind (thn (dc_core (Qf := fun _ s' => SP X pins D .next s') hc hN I hi ok hg ht hk he hs h fun L C s' m H' I' q hn f => ?_) fun _ s' hq => wpAny_pure (wpAny_pure hq))
  show wpAny _ _ (assign (.Name y py) X.env (.ref L)) _ _ _
  refine wpAny_assign_Name (store_ok2 (v := V.ref L) I' hN hy (.inl hyl) rfl (fun s2 I2 ⟨a, sb, ha⟩ => ?_) (.inr hyl))
  obtain ⟨f0, f1, f2, f3, f4, f5⟩ := f
  have haC : C ≠ a := by
    rcases ha with z | z
    · rw [z]; exact f1
    · exact fun e => f4 y a z e.symm
  refine ⟨m, hn.sameBut sb haC, fun h3 sb3 => ?_⟩
  exact ⟨_, H', I2.turned (t' := s2.toks) (fun b o hb e => (sb3.2 b hb).trans e) f0 f1 f3 f4 f5, q⟩
theorem sw_trueD {kx vx : Expr} {gs : List Comprehension} {scope : Scope} {pos py : Pos} {y : Str} {l : Nat} {env : Env} (hk : env.scope.kind = .function) (hy : env.scope.names.lookup y = some .local) (hl : (py.line == pos.line) = true)
    (ha : (scope.names.any fun (n, k) => n == y && (k == .local || k == .cell)) = false) : swapsWith (.DictComp kx vx gs scope pos) (some (.Name y py)) l env = pure true := by
  have ky : env.kindOf y = some .local := hy
  have hb : env.blockKind = .function := by unfold Env.blockKind; rw [hk]; rfl
  unfold swapsWith
  simp only [hb, ky, ha, Expr.pos, hl]
  rfl
end
section
variable {σ : L2.St} {H : Hp} {wi : TI} {g : TG} {tt : TT} {tk tv : TE} {vs : List Nat} {Q : VK}
end
/-! ### a dict filled in order -/
theorem putR_new {k : Key} {v : V} : ∀ {kvs : List (Key × V)}, k ∉ kvs.map (·.1) → putR k v kvs = kvs ++ [(k, v)]
  | [], _ => rfl
  | (g, x) :: r, h => by
    rw [List.map_cons, List.mem_cons, not_or] at h
    rw [putR, if_neg (Ne.symm h.1), putR_new h.2, List.cons_append]
theorem putR_old {k : Key} {v : V} : ∀ {kvs : List (Key × V)}, k ∈ kvs.map (·.1) → (putR k v kvs).map (·.1) = kvs.map (·.1)
  | [], h => by simp at h
  | (g, x) :: r, h => by
    unfold putR
    by_cases e : g = k
    · rw [if_pos e, List.map_cons, List.map_cons, List.map_map]
      congr 1
      refine List.map_congr_left fun q _ => ?_
      show (if q.1 = k then (q.1, v) else q).1 = q.1
      split <;> rfl
    · rw [if_neg e, List.map_cons, List.map_cons]
      rw [List.map_cons, List.mem_cons] at h
      rw [putR_old (h.resolve_left (Ne.symm e))]
theorem putR_mem {k j : Key} {v : V} {kvs : List (Key × V)} : j ∈ (putR k v kvs).map (·.1) ↔ j = k ∨ j ∈ kvs.map (·.1) := by
  by_cases h : k ∈ kvs.map (·.1)
  · rw [putR_old h]
    constructor
    · exact .inr
    · rintro (rfl | h2)
      · exact h
      · exact h2
  · rw [putR_new h, List.map_append, List.mem_append]
    constructor
    · rintro (h2 | h2)
      · exact .inr h2
      · exact .inl (List.mem_singleton.mp h2)
    · rintro (h2 | h2)
      · exact .inr (List.mem_singleton.mpr h2)
      · exact .inl h2
theorem putR_lenO {k : Key} {v : V} {kvs : List (Key × V)} (h : k ∈ kvs.map (·.1)) : (putR k v kvs).length = kvs.length := by
  have := congrArg List.length (putR_old (v := v) h)
  rw [List.length_map, List.length_map] at this
  exact this
theorem putR_lenN {k : Key} {v : V} {kvs : List (Key × V)} (h : k ∉ kvs.map (·.1)) : (putR k v kvs).length = kvs.length + 1 := by
  rw [putR_new h, List.length_append]
  rfl
theorem putR_lenL {k : Key} {v : V} {kvs : List (Key × V)} : (putR k v kvs).length ≤ kvs.length + 1 := by
  by_cases h : k ∈ kvs.map (·.1)
  · rw [putR_lenO h]
    omega
  · rw [putR_lenN h]
    omega
def dk (l : List (Str × V)) : List (Key × V) := l.foldl (fun acc p => putR (Sum.inr p.1) p.2 acc) []
theorem dk_snoc {l : List (Str × V)} {p : Str × V} : dk (l ++ [p]) = putR (Sum.inr p.1) p.2 (dk l) := by
  unfold dk
  rw [List.foldl_append]
  rfl
theorem snoc_ind {α : Type} {P : List α → Prop} (h0 : P []) (h1 : ∀ l a, P l → P (l ++ [a])) (l : List α) : P l := by
  have : ∀ n, ∀ l : List α, l.length = n → P l := by
    intro n
    induction n with
    | zero => intro l h; rw [List.length_eq_zero_iff.mp h]; exact h0
    | succ n ih =>
      intro l h
      have hne : l ≠ [] := fun z => by rw [z] at h; cases h
      rw [← List.dropLast_concat_getLast hne]
      exact h1 _ _ (ih _ (by rw [List.length_dropLast, h]; rfl))
  exact this _ l rfl
theorem dk_mem {k : Str} : ∀ l : List (Str × V), (Sum.inr k : Key) ∈ (dk l).map (·.1) ↔ k ∈ l.map (·.1) := by
  intro l
  induction l using snoc_ind with
  | h0 => simp [dk]
  | h1 l p ih =>
    rw [dk_snoc, putR_mem, ih, List.map_append, List.mem_append]
    constructor
    · rintro (h | h)
      · exact .inr (List.mem_singleton.mpr (Sum.inr.inj h))
      · exact .inl h
    · rintro (h | h)
      · exact .inr h
      · exact .inl (by rw [List.mem_singleton.mp h])
theorem dk_len_le : ∀ l : List (Str × V), (dk l).length ≤ l.length := by
  intro l
  induction l using snoc_ind with
  | h0 => exact Nat.le_refl _
  | h1 l p ih =>
    rw [dk_snoc, List.length_append, List.length_singleton]
    have := putR_lenL (k := Sum.inr p.1) (v := p.2) (kvs := dk l)
    omega
theorem nodup_snoc {α : Type} {l : List α} {a : α} : (l ++ [a]).Nodup ↔ l.Nodup ∧ a ∉ l := by
  rw [List.nodup_append]
  constructor
  · rintro ⟨h1, _, h3⟩
    exact ⟨h1, fun h => h3 a h a (List.mem_singleton.mpr rfl) rfl⟩
  · rintro ⟨h1, h2⟩
    exact ⟨h1, List.nodup_cons.mpr ⟨by simp, List.nodup_nil⟩, fun x hx y hy e => h2 (by rw [← List.mem_singleton.mp hy, ← e]; exact hx)⟩
theorem dk_nodup : ∀ l : List (Str × V), (l.map (·.1)).Nodup → dk l = l.map fun p => (Sum.inr p.1, p.2) := by
  intro l
  induction l using snoc_ind with
  | h0 => intro _; rfl
  | h1 l p ih =>
    intro h
    rw [List.map_append] at h
    obtain ⟨h1, h2⟩ := nodup_snoc.mp h
    rw [dk_snoc, putR_new (by rw [dk_mem]; exact h2), ih h1, List.map_append]
    rfl
theorem dk_len_lt : ∀ l : List (Str × V), ¬ (l.map (·.1)).Nodup → (dk l).length < l.length := by
  intro l
  induction l using snoc_ind with
  | h0 => intro h; exact absurd List.nodup_nil h
  | h1 l p ih =>
    intro h
    rw [List.map_append] at h
    have hle := dk_len_le l
    rw [dk_snoc, List.length_append, List.length_singleton]
    by_cases hp : p.1 ∈ l.map (·.1)
    · rw [putR_lenO ((dk_mem l).mpr hp)]
      omega
    · rw [putR_lenN fun z => hp ((dk_mem l).mp z)]
      have := ih fun h1 => h (nodup_snoc.mpr ⟨h1, hp⟩)
      omega
theorem dk_len {l : List (Str × V)} : (dk l).length < l.length ↔ ¬ (l.map (·.1)).Nodup := by
  constructor
  · intro h h2
    rw [dk_nodup l h2, List.length_map] at h
    omega
  · exact dk_len_lt l
theorem s_lenD {H : Hp} {a : Addr} {kvs : List (Key × V)} {R : Addr → List (Key × V) → Prop} (h1 : H a = some (.dK kvs)) (h : R a kvs) : ∃ a' kvs', [V.ref a] = [V.ref a'] ∧ H a' = some (.dK kvs') ∧ R a' kvs' := ⟨a, kvs, rfl, h1, h⟩
theorem ite_dec' {α : Type} {p : Prop} {_ : Decidable p} {R : α → Prop} {x y : α} (h1 : p → R x) (h2 : ¬ p → R y) : R (if decide p = true then x else y) := by
  by_cases h : p
  · rw [decide_eq_true h, if_pos rfl]
    exact h1 h
  · rw [decide_eq_false h, if_neg Bool.false_ne_true]
    exact h2 h
theorem ixN_nat {n k : Nat} (h : k < n) : ixN n (k : Int) = some k := by
  unfold ixN
  rw [if_pos (by omega), if_pos (by omega), Int.toNat_natCast]
theorem ixN_nat1 {n k : Nat} (h : k + 1 < n) : ixN n ((k : Int) + 1) = some (k + 1) := ixN_nat (k := k + 1) h
theorem ixN_0 {n : Nat} (h : 0 < n) : ixN n 0 = some 0 := ixN_nat (k := 0) h
theorem ixN_1 {n : Nat} (h : 1 < n) : ixN n 1 = some 1 := ixN_nat (k := 1) h
theorem ixN_2 {n : Nat} (h : 2 < n) : ixN n 2 = some 2 := ixN_nat (k := 2) h
theorem set_mid {α : Type} {k : Nat} {z x y : α} {t : List α} : (List.replicate k z ++ ([x] ++ t)).set k y = List.replicate k z ++ ([y] ++ t) := by
  rw [List.set_append_right _ _ (by simp)]
  simp
theorem map_get_some {α β : Type} {g : α → β} {l : List α} {i : Nat} {x : α} (h : l[i]? = some x) : (l.map g)[i]? = some (g x) := by rw [List.getElem?_map, h]; rfl
theorem wipe1 {σ : L2.St} {i : Nat} {v : Option V} : wipe ((wipe σ [i]).set i v) [i] = wipe σ [i] := by
  show ((σ.set i none).set i v).set i none = σ.set i none
  rw [List.set_set, List.set_set]
end Mi

set_option Elab.async false
set_option linter.all false
set_option maxRecDepth 100000
set_option maxHeartbeats 2000000
namespace Mi
open PySem PySem.Spec PyProof.Rows L2 LamX
/-! ### a row of lambdas that all raise -/
/-- all but tables stands as before; tables but P's may have grown -/
structure Bx (P : Addr) (B H : Hp) : Prop where
  x : ∀ b o, B b = some o → isTbl o = false → H b = some o
  t : ∀ P', P' ≠ P → GxR.TabG B P' → GxR.TabG H P'
section
variable {P : Addr} {B H H1 H2 : Hp} {a b : Addr} {o : HO} {xs : List V} {K : PySem.W.Frag}
theorem ntbl {o : HO} (h : isTbl o = false) : ∀ ps, o ≠ .tbl ps := fun ps z => by
  rw [z] at h
  cases h
theorem Bx.refl : Bx P B B := ⟨fun _ _ h _ => h, fun _ _ h => h⟩
theorem Bx.trans (x : Bx P B H) (y : Bx P H H1) : Bx P B H1 := ⟨fun b o h t => y.x b o (x.x b o h t) t, fun P' n h => y.t P' n (x.t P' n h)⟩
theorem Bx.mv [Lw] (m : Mv B H) : Bx P B H := ⟨fun b o h t => m.x b o h (ntbl t), fun P' _ h => m.t P' h⟩
theorem Bx.fp [Lw] {N : List Ck} (F : Fp B [] N H) : Bx P B H := ⟨fun b o h t => F.keep h t, fun P' _ h => F.t P' h⟩
theorem Bx.sqT (x : Bx P B H) (h : SqT K B a xs) : SqT K H a xs := by
  rcases h with (h | ⟨ob, h⟩) | h
  · exact .inl (.inl (x.x _ _ h rfl))
  · exact .inl (.inr ⟨ob, x.x _ _ h rfl⟩)
  · exact .inr h
end
/-- the lambdas made so far -/
structure LS (X : Cx) (T : List (Addr × Str)) (P : Addr) (B : Hp) (Ls : List (Addr × LamD)) (H : Hp) : Prop where
  bx : Bx P B H
  ex : ExtN B H
  tb : Tabs T H
  ls : ∀ p ∈ Ls, LamIs X p.2 p.1 H ∧ (∀ o, B p.1 = some o → isTbl o = true) ∧ (p.1 ≠ P → ¬ GxR.TabG B p.1)
section
variable {X : Cx} {T : List (Addr × Str)} {P : Addr} {B H H1 : Hp} {Ls : List (Addr × LamD)} {D : LamD} {σ : L2.St} {Q : VK}
theorem lamIs_ext' {f : Addr} (e : ExtN H H1) (h : LamIs X D f H) : LamIs X D f H1 := by
  obtain ⟨c', pm, ctv, h1, h2⟩ := h
  exact ⟨c', pm, ctv, e _ _ h1 fun _ z => (nomatch z), e _ _ h2 fun _ z => nomatch z⟩
theorem extN_of {e : ExtN H H1} {b : Addr} {o : HO} (h : H b = some o) (t : isTbl o = false) : H1 b = some o := e b o h (ntbl t)
theorem LS.start (h : Tabs T B) : LS X T P B [] B := ⟨.refl, fun _ _ h _ => h, h, fun p hp => by cases hp⟩
theorem LS.ofBx (L : LS X T P B Ls H) (e : Bx P H H1) (ht : ∀ q ∈ T, TabS H1 q.1 q.2) : LS X T P B Ls H1 :=
  have ex : ExtN H H1 := fun b o h n => e.x b o h (by
    cases o with
    | tbl ps => exact absurd rfl (n ps)
    | _ => rfl)
  ⟨L.bx.trans e, fun b o h n => ex b o (L.ex b o h n) n, ht, fun p hp => ⟨lamIs_ext' ex (L.ls p hp).1, (L.ls p hp).2⟩⟩
/-- one more -/
theorem f_mkLam (L : LS X T P B Ls H) (h : ∀ f H1, LS X T P B (Ls ++ [(f, D)]) H1 → Q (.ref f) H1) : tMkLam X T P D σ H Q := by
  refine ⟨L.tb, fun f H1 e k hT hn hl => h f H1 ⟨L.bx.trans ⟨fun b o hb t => e b o hb (ntbl t), fun P' hP ⟨ps, h1, h2⟩ => ⟨ps, k _ _ hP h1, h2⟩⟩, fun b o hb n => e b o (L.ex b o hb n) n, hT, fun p hp => ?_⟩⟩
  rcases List.mem_append.mp hp with hp | hp
  · exact ⟨lamIs_ext' e (L.ls p hp).1, (L.ls p hp).2⟩
  · rw [List.mem_singleton.mp hp]
    refine ⟨hl, fun o hb => ?_, fun hne ht => ?_⟩
    · cases t : isTbl o with
      | true => rfl
      | false =>
        rw [L.bx.x f o hb t] at hn
        cases hn
    · obtain ⟨ps, h1, _⟩ := L.bx.t f hne ht
      rw [hn] at h1
      cases h1
theorem Bx.rm {f : Addr} (x : Bx P B H) (h1 : ∀ o, B f = some o → isTbl o = true) (h2 : f ≠ P → ¬ GxR.TabG B f) : Bx P B (rm H f) := by
  refine ⟨fun b o hb t => ?_, fun P' n ht => ?_⟩
  · rw [rm_ne fun z : b = f => by
      have := h1 o (by rw [← z]; exact hb)
      rw [t] at this
      cases this]
    exact x.x b o hb t
  · have hne : P' ≠ f := fun z => h2 (by rw [← z]; exact n) (by rw [← z]; exact ht)
    obtain ⟨ps, q1, q2⟩ := x.t P' n ht
    exact ⟨ps, by rw [rm_ne hne]; exact q1, q2⟩
theorem codeO_ne_lam {f c : Addr} {q q' : Str} {p : Arguments} {bd : Expr} {sc : Scope} {cl : List (Str × Addr)} {pm ct : Value} {c' : Addr} (h1 : H f = some (LamO f q p bd sc cl pm c' ct)) (h2 : H c = some (CodeO c q')) : c ≠ f := fun z => by
  rw [z, h1] at h2
  have e := HO.ext.inj (Option.some.inj h2)
  have hh : ({ objs := Array.replicate (f + 1) (PySem.W.kla_obj "<lambda>" q p bd sc cl pm c' ct), life := {} } : Heap).get? f = some (PySem.W.kla_obj "<lambda>" q p bd sc cl pm c' ct) := by
    unfold Heap.get?
    have : (Array.replicate (f + 1) (PySem.W.kla_obj "<lambda>" q p bd sc cl pm c' ct))[f]? = some (PySem.W.kla_obj "<lambda>" q p bd sc cl pm c' ct) := by simp
    dsimp only
    rw [this]
  have h3 := (congrFun e _).mp hh
  obtain ⟨oc, vs, t, e1, e2, _⟩ := h3
  rw [hh] at e1
  rw [← Option.some.inj e1] at e2
  cases e2
section
variable [Lw]
/-- the lambda is known again -/
theorem fp_rm {H' : Hp} {f : Addr} {q : Str} {p : Arguments} {bd : Expr} {sc : Scope} {cl : List (Str × Addr)} {pm ct : Value} {c' : Addr} (hf : H f = some (LamO f q p bd sc cl pm c' ct)) (F : Fp (rm H f) [] [] H') (hn : H' f = none) : Fp H [] [] (upd H' f (LamO f q p bd sc cl pm c' ct)) := by
  have up : ∀ b o, H' b = some o → upd H' f (LamO f q p bd sc cl pm c' ct) b = some o := fun b o e => by
    rw [upd_ne (ne_of_none e hn)]
    exact e
  have xx : ∀ b o, H b = some o → (b ≠ f → upd H' f (LamO f q p bd sc cl pm c' ct) b = some o) → upd H' f (LamO f q p bd sc cl pm c' ct) b = some o := fun b o e g => by
    by_cases z : b = f
    · rw [z, hf] at e
      rw [z, upd_same]
      exact e
    · exact g z
  refine ⟨List.nodup_nil, fun q hq => by simp [fl] at hq, fun q hq => by simp [fl] at hq, fun b o _ e t => xx b o e fun z => up b o (F.keep (by rw [rm_ne z]; exact e) t), fun b o e t => xx b o e fun z => up b o (F.im b o (by rw [rm_ne z]; exact e) t), fun P' ⟨ps, h1, h2⟩ => ?_, fun P' hP ⟨ps, h1, h2, h3⟩ => ?_, fun b e => ?_⟩
  · have z : P' ≠ f := fun z => by
      rw [z, hf] at h1
      cases h1
    obtain ⟨ps', q1, q2⟩ := F.t P' ⟨ps, by rw [rm_ne z]; exact h1, h2⟩
    exact ⟨ps', up _ _ q1, q2⟩
  · have z : P' ≠ f := fun z => by
      rw [z, hf] at h1
      cases h1
    refine (F.l P' hP ⟨ps, by rw [rm_ne z]; exact h1, h2, fun pos cv hc => ?_⟩).ext up
    obtain ⟨c, e1, e2⟩ := h3 pos cv hc
    exact ⟨c, e1, by rw [rm_ne (codeO_ne_lam hf e2)]; exact e2⟩
  · by_cases z : b = f
    · rw [z, upd_same] at e
      cases e
    · rw [upd_ne z] at e
      have := F.k b e
      rw [rm_ne z] at this
      exact this
theorem LS.fp {H' : Hp} {N : List Ck} (L : LS X T P B Ls H) (F : Fp H [] N H') (hT : ∀ p ∈ T, Lw.L p.1 ∧ Lw.q p.1 = p.2) : LS X T P B Ls H' :=
  ⟨L.bx.trans (Bx.fp F), fun b o e n => F.keep (L.ex b o e n) (by
    cases o with
    | tbl ps => exact absurd rfl (n ps)
    | _ => rfl), fun p hp => by
      obtain ⟨h1, h2⟩ := hT p hp
      have := L.tb p hp
      rw [← h2] at this ⊢
      exact F.l p.1 h1 this, fun p hp => ⟨lamIs_ext' (fun b o e n => F.keep e (by
        cases o with
        | tbl ps => exact absurd rfl (n ps)
        | _ => rfl)) (L.ls p hp).1, (L.ls p hp).2⟩⟩
/-- a lambda that raises the wanted error, wherever B stands -/
def LamBad (K : PySem.W.Frag) (CS P : Addr) (D : LamD) (σ : L2.St) (B : Hp) : Prop := ∀ (H' : Hp) (E : XK) (Q' : VK), Bx P B H' → (∀ cls d N H'', PySem.W.exmOne K cls (.ref CS) = some true → Fp H' [] N H'' → E cls d H'') → D.t E σ H' Q'
def tBadC (X : Cx) (k i : Nat) (K : PySem.W.Frag) (CS : Addr) (ret : Str) (σ0 : L2.St) : TT := tTest (tOp rNe (tTold X k i σ0 (TTold K CS ret)) (tC (.str ret)))
/-- the whole row: what is not refused is none -/
theorem bad_run {k i : Nat} {K : PySem.W.Frag} {CS : Addr} {ret : Str} {te : TE} {vs : List Nat} {J : It} {G : Hp → Prop} {B0 : Hp} {S N : List Ck} (w : Ov J (Ls.map fun p => V.ref p.1) G) (F : Fp B0 S N H) (hG : ∀ N' H', Fp H [] N' H' → G H') (L : LS X T P B Ls H) (hO : ∀ p ∈ Ls, LamOk X k p.2) (hB : ∀ p ∈ Ls, LamBad K CS P p.2 σ B)
    (hi : i < σ.length) (hvs : vs = [i]) (h : ∀ D N' H', Fp H [] (ck D (.lst []) :: N') H' → Q (.ref D) H') : LcE J (gName i) (tBadC X k i K CS ret σ) te vs σ H Q := by
  subst hvs
  refine lcS w (Fp.refl (B := H)) (fun D j H' => Fp H [] [ck D (.lst [])] H') (fun D H' F => F) (fun D j H' F => hG _ _ F) (fun D j y H2 hy F2 => ?_) (fun D H' F => h D [] H' F)
  obtain ⟨p, hp, rfl⟩ := map_get hy
  have hpm := get_mem hp
  obtain ⟨hl, hn1, hn2⟩ := L.ls p hpm
  have hl2 : LamIs X p.2 p.1 H2 := lamIs_ext' (fun b o e n => F2.keep e (by
    cases o with
    | tbl ps => exact absurd rfl (n ps)
    | _ => rfl)) hl
  obtain ⟨c', pm, ctv, hf, hc⟩ := id hl2
  show wipe ((wipe σ [i]).set i (some (.ref p.1))) [i] = wipe σ [i] ∧ _
  refine ⟨?_, ?_⟩
  · show ((σ.set i none).set i _).set i none = σ.set i none
    rw [List.set_set, List.set_set]
  show ∃ (f : Addr) (D : LamD) (φ : Heap → Prop), ((wipe σ [i]).set i (some (.ref p.1)))[i]? = some (some (.ref f)) ∧ _
  refine ⟨p.1, p.2, _, ?_, hO p hpm, hl2, hf, ?_⟩
  · exact List.getElem?_set_self (by rw [wipe_length]; exact hi)
  refine hB p hpm (rm H2 p.1) _ _ ((L.bx.trans (Bx.fp F2)).rm hn1 hn2) fun cls d N'' H'' hc F3 => ?_
  refine ⟨true, hc, fun _ hfn => ?_, fun z => nomatch z⟩
  have F4 := fp_rm hf (F3.kp .nil) hfn
  refine ⟨rfl, !decide (V.str ret = V.str ret), rfl, ?_⟩
  rw [show (!decide (V.str ret = V.str ret)) = false by simp]
  exact F2.call .nil F4
end
/-! ### a lambda written in the call -/
def tLamF (T : List (Addr × Str)) (P : Addr) (TT : (XK → Hp → VK → Prop) → Hp → VK → Prop) (t : XK → TE) : TE := fun σ H Q => Tabs T H ∧ ∀ H1, ExtN H H1 → (∀ b o, b ≠ P → H b = some o → H1 b = some o) → Tabs T H1 → TT (fun E H' Q' => t E σ H' Q') H1 Q
theorem Fp.lam [Lw] {S N : List Ck} {q : Str} (F : Fp B S N H) (e : ExtN H H1) (k : ∀ b o, b ≠ P → H b = some o → H1 b = some o) (hP : TabS H1 P q) (hq : Lw.L P → Lw.q P = q) : Fp B S N H1 := by
  have ex : ∀ b o, H b = some o → isTbl o = false → H1 b = some o := fun b o h t => e b o h (ntbl t)
  refine ⟨F.nd, fun q hq => ⟨ex _ _ (F.at q hq).1 (F.at q hq).2, (F.at q hq).2⟩, F.nw, fun b o h1 h2 h3 => ex _ _ (F.x b o h1 h2 h3) h3, fun b o h1 h2 => ex _ _ (F.im b o h1 h2) ?_, fun P' h => ?_, fun P' hP' h => ?_, fun b h => F.k b ?_⟩
  · cases o <;> first | rfl | cases h2
  · obtain ⟨ps, h1, h2⟩ := F.t P' h
    by_cases z : P' = P
    · obtain ⟨ps', q1, q2, _⟩ := hP
      exact ⟨ps', by rw [z]; exact q1, q2⟩
    · exact ⟨ps, k _ _ z h1, h2⟩
  · by_cases z : P' = P
    · rw [z] at hP' ⊢
      rw [hq hP']
      exact hP
    · obtain ⟨ps, h1, h2, h3⟩ := F.l P' hP' h
      refine ⟨ps, k _ _ z h1, h2, fun pos cv hc => ?_⟩
      obtain ⟨c, e1, e2⟩ := h3 pos cv hc
      exact ⟨c, e1, ex _ _ e2 rfl⟩
  · cases hb : H b with
    | none => rfl
    | some o =>
      by_cases z : b = P
      · obtain ⟨ps', q1, _⟩ := hP
        rw [z, q1] at h
        cases h
      · rw [k b o z hb] at h
        cases h
theorem f_lam [Lw] {S N : List Ck} {q : Str} {TT : (XK → Hp → VK → Prop) → Hp → VK → Prop} {t : XK → TE} (F : Fp B S N H) (hL : Lw.L P) (hq : Lw.q P = q) (hT : TabS B P q) (h : ∀ H1, Fp B S N H1 → TT (fun E H' Q' => t E σ H' Q') H1 Q) : tLamF [(P, q)] P TT t σ H Q := by
  have hT1 : TabS H P q := by
    rw [← hq]
    exact F.l P hL (by rw [hq]; exact hT)
  refine ⟨fun p hp => by rw [List.mem_singleton.mp hp]; exact hT1, fun H1 e k hT2 => h H1 (F.lam e k (hT2 _ (List.mem_singleton_self _)) fun _ => hq)⟩
theorem told_in {K : PySem.W.Frag} {CS : Addr} {ret : Str} {t : XK → TE} (h : t (fun cls _ H' => ∃ b, PySem.W.exmOne K cls (.ref CS) = some b ∧ (b = true → Q (.str ret) H') ∧ (b = false → False)) σ H Q) : TTold K CS ret (fun E H' Q' => t E σ H' Q') H Q := h
end
section
variable {X : Cx} {pins : List (Addr × Obj)} {σ : L2.St} {H : Hp} {s : Shared}
/-- a lambda is made: its code object is new, or found -/
theorem lam_make3 {T : List (Addr × Str)} {c P : Addr} {params : Arguments} {body : Expr} {scope : Scope} {pos : Pos} {E : Value → Shared → Prop} {Q : Value → Shared → Prop} (I : Inv X pins σ H s) (TB : TabB X.base X.mg c P) (hcode : X.env.code = .ref c)
    (hm : (P, X.env.qual ++ "<lambda>") ∈ T) (hu : ∀ p ∈ T, p.1 = P → p.2 = X.env.qual ++ "<lambda>") (hT : Tabs T H) (hdef : defaultsOf params X.env = ([], [])) (hfree : ∀ y ∈ scope.names, y.2 = .free → ∃ c, X.env.cells.lookup y.1 = some c)
    (h : ∀ (f c' : Addr) (pm ctv : Value) (H1 : Hp) (s' : Shared), Inv X pins σ H1 s' → ExtN H H1 → (∀ b o, b ≠ P → H b = some o → H1 b = some o) → Tabs T H1 →
      s'.heap.get? f = some (PySem.W.kla_obj "<lambda>" (X.env.qual ++ "<lambda>") params body scope (cloFrom X.env.cells scope.names []) pm c' ctv) → H1 f = none → f ∉ frs X.stack → H1 c' = some (CodeO c' (X.env.qual ++ "<lambda>")) → Q (.ref f) s') :
    wpAny (model X.prog X.w) X.A (eval (.Lambda params body scope pos) X.env) Q E s := by
  obtain ⟨tb, hP, ht, ha⟩ := hT _ hm
  refine PySem.W.kla_eval hdef ?_
  have atP : s.heap.BuiltinsAt X.mg P := TB.bm.keeps I.bk
  have getP : s.heap.get? P = some { cls := .none, data := .fields tb } := I.hok P _ hP
  have young : ∀ f, s.heap.objs.size ≤ f → f ∉ frs X.stack := fun f hf z => by
    rcases List.mem_cons.mp (I.stkSub _ z) with e | e
    · exact Nat.lt_irrefl _ (Nat.lt_of_lt_of_le (e ▸ I.lt) hf)
    · exact I.nofs hf e
  cases hc : codeAmong pos tb.toList with
  | none =>
    refine PySem.W.kla_makeFunction (mg := X.mg) (c := c) (P := P) (ps := tb) (closure_ok hfree) I.ok.glob (I.mod.glob.keeps I.bk) hcode (TB.code.keeps I.bk) getP ht hc TB.gP atP fun c' ctv g' tk hx hge hlt hrec htb => ?_
    obtain ⟨c2, oc, vs, t, e2, hoc, hd, hv⟩ := hrec
    cases e2
    have hsz : s.heap.objs.size ≤ g'.objs.size := Nat.le_trans hge (Nat.le_of_lt hlt)
    have newC : H c' = none := I.hok.fresh hge
    have J := inv_table (t' := tk) (more := #[rawInt pos.line, rawInt pos.col, .ref c']) (h' := g'.push (PySem.W.kla_obj "<lambda>" (X.env.qual ++ "<lambda>") params body scope (cloFrom X.env.cells scope.names []) ((X.mg "__name__").getD .none) c' ctv)) I hP
      (fun b o hb e => Heap.get?_push_of_some _ (hx b o hb e)) (Heap.get?_push_of_some _ htb) hge ⟨oc, vs, t, Heap.get?_push_of_some _ hoc, hd, hv⟩
    have kk : ∀ b o, b ≠ P → H b = some o → upd (upd H P (.tbl (tb ++ #[rawInt pos.line, rawInt pos.col, .ref c']))) c' (CodeO c' (X.env.qual ++ "<lambda>")) b = some o := fun b o hb e => by
      rw [upd_ne (ne_of_none e newC), upd_ne hb]
      exact e
    have ee : ExtN H (upd (upd H P (.tbl (tb ++ #[rawInt pos.line, rawInt pos.col, .ref c']))) c' (CodeO c' (X.env.qual ++ "<lambda>"))) := fun b o e n => kk b o (fun z => n tb (Option.some.inj (e.symm.trans (by rw [z]; exact hP)))) e
    have eL : (tb ++ #[rawInt pos.line, rawInt pos.col, .ref c']).toList = tb.toList ++ [rawInt pos.line, rawInt pos.col, .ref c'] := by simp
    refine h g'.objs.size c' ((X.mg "__name__").getD .none) ctv _ _ J ee kk (fun p hp => ?_) (Heap.get?_push_size _ rfl) ?_ (young _ hsz) upd_same
    · by_cases hb : p.1 = P
      · rw [hu p hp hb, hb]
        refine ⟨_, by rw [upd_ne (ne_of_none hP newC), upd_same], by rw [eL]; exact PySem.TriplesOk_snoc _ _ _ _ ht, fun p' cv hcv => ?_⟩
        rw [eL] at hcv
        rcases among_app _ ht hcv with z | z
        · obtain ⟨c0, q1, q2⟩ := ha p' cv z
          exact ⟨c0, q1, ee _ _ q2 codeO_ne⟩
        · exact ⟨c', z, upd_same⟩
      · obtain ⟨tb', a1, a2, a3⟩ := hT p hp
        refine ⟨tb', kk _ _ hb a1, a2, fun p' cv hcv => ?_⟩
        obtain ⟨c0, q1, q2⟩ := a3 p' cv hcv
        exact ⟨c0, q1, ee _ _ q2 codeO_ne⟩
    · rw [upd_ne (Nat.ne_of_gt hlt), upd_ne (Nat.ne_of_gt (Nat.lt_of_lt_of_le (Heap.lt_size getP) hsz))]
      exact I.hok.fresh hsz
  | some cv =>
    obtain ⟨c', e, hco⟩ := ha pos cv hc
    subst e
    refine PySem.W.kla_makeFunctionHit (mg := X.mg) (c := c) (P := P) (ps := tb) (closure_ok hfree) I.ok.glob (I.mod.glob.keeps I.bk) hcode (TB.code.keeps I.bk) getP ht hc atP fun ctv g' tk hx hsz => ?_
    have J : Inv X pins σ H { s with heap := g'.push (PySem.W.kla_obj "<lambda>" (X.env.qual ++ "<lambda>") params body scope (cloFrom X.env.cells scope.names []) ((X.mg "__name__").getD .none) c' ctv), toks := tk } := I.kept fun b o e => Heap.get?_push_of_some _ (hx b o e)
    exact h g'.objs.size c' ((X.mg "__name__").getD .none) ctv H _ J (ExtN.refl H) (fun _ _ _ e => e) hT (Heap.get?_push_size _ rfl) (I.hok.fresh hsz) (young _ hsz) hco
end
section
variable {X : Cx}
/-- x(lambda: ..), all but the table kept -/
theorem pe_lamF {T : List (Addr × Str)} {TT : (XK → Hp → VK → Prop) → Hp → VK → Prop} {x a : Str} {g c P : Addr} {k : Nat} {pg : Arguments} {bg : List Stmt} {sg : Scope} {dV kV doc pm cdv ct oc : Value} {an od : Option Addr} {osl : Array (Option Value)} {Ng : List Str}
    {D : LamD} {p lpos pos : Pos} (hg : Gl X x) (hm : X.mg x = some (.ref g)) (hk : PySem.W.keepIn X.K (.ref g) = true)
    (lk : X.K.lookup g = some ⟨oc, od, .func (PySem.W.fnOf x x pg bg sg dV kV doc pm an cdv ct), osl⟩) (hcg : PySem.W.codeIn X.K cdv x = true) (hb : L2.Binds X.K (PySem.W.fnOf x x pg bg sg dV kV doc pm an cdv ct) [a] []) (Sg : FnScope Ng [a] sg) (hNg : Ng[0]? = some a) (hva : Vis sg a)
    (hG : GivesTo X Ng x sg g cdv bg a (X.env.qual ++ "<lambda>") TT)
    (TB : TabB X.base X.mg c P) (hcode : X.env.code = .ref c) (hmT : (P, X.env.qual ++ "<lambda>") ∈ T) (hu : ∀ p ∈ T, p.1 = P → p.2 = X.env.qual ++ "<lambda>") (hr : Room (k + 2) X.A) (hdef : defaultsOf D.params X.env = ([], []))
    (O : LamOk X k D) (hdb : (x == ("__debug__" : Str)) = false := by decide) (hd : (a == ("__debug__" : Str)) = false := by decide) (hcd : (a == ("__classdict__" : Str)) = false := by decide) :
    PE X (.Call (.Name x p) [.Lambda D.params D.body D.scope lpos] [] pos) (tLamF T P TT D.t) := by
  refine ⟨fun pins s σ H Q I h => ?_⟩
  obtain ⟨hT, h⟩ := h
  refine wpAny_Call_Name_kw (ld_glob I hg hm ?_ hdb)
  refine PySem.W.callWith_K (h₀ := X.base) I.ok.mod.kin hk ?_ (by rfl) (by rfl)
  show wpAny _ _ (spliced ((false, eval (.Lambda D.params D.body D.scope lpos) X.env) :: backTo pos (starEach [] X.env))) _ _ s
  refine Calls.spliced_cons (lam_make3 I TB hcode hmT hu hT hdef (O.L.has I.ok) fun f c' pm' ctv H1 s' J eN eK T1 hf hfn hfr hco => ?_)
  refine Calls.spliced_nil ⟨J.kIn, ?_⟩
  have rc : codeAny (model X.prog X.w) X.A (.call (.ref g) ⟨[.ref f], []⟩) (CR C8.CX0 X.stack X.prog X.w H1 s' Q C8.E0) s' := by
    refine run_ofS (N := Ng) (ps := [a]) (us := [.ref f]) (vs := [.ref f]) lk hcg Sg hr J.env0 (hb s' [.ref f] J.kIn rfl) (.cons rfl .nil) rfl fun hr' => ?_
    obtain ⟨t', ht', hq'⟩ := hG f c' s' H1 Q (fun E H' Q' => D.t E σ H' Q') (fun W pn xe E p1 p2 tk hW => pe_act (i := 0) J O.L hf hfn hfr (O.bind _ _ _ _ _) tk hW hr' (fun A outer s H hr2 => O.body A outer s H E f c' hr2) hNg hva hd hcd) hco (h H1 eN eK T1)
    exact ⟨t', ht'.nox, hq'⟩
  refine wpAny_call (codeAny_mono rc fun r s2 hq => ?_)
  cases r with
  | error e => exact (show False from hq).elim
  | ok fl =>
    cases fl with
    | ret u => exact J.after hq
    | next => exact False.elim hq
    | brk => exact False.elim hq
    | cont => exact False.elim hq
end
def lamP : Expr → Arguments
  | .Lambda p _ _ _ => p
  | _ => { posonlyargs := [], args := [], vararg := none, kwonlyargs := [], kw_defaults := [], kwarg := none, defaults := [] }
def lamB : Expr → Expr
  | .Lambda _ b _ _ => b
  | e => e
def lamS : Expr → Scope
  | .Lambda _ _ s _ => s
  | _ => { kind := .function, names := [], isGenerator := false, isCoroutine := false, more := [] }
end Mi

set_option Elab.async false
set_option linter.all false
set_option maxRecDepth 100000
set_option maxHeartbeats 2000000
namespace Mi
open PySem PySem.Spec PyProof.Rows L2
section
variable [Lw] {K : PySem.W.Frag} {H : Hp} {Q : VK} {x y : V} {d e : PyData} {k : Nat} {a b : Addr} {α : Type} {l l2 : List α} {g : α → Int} {g2 : α → Str}
theorem dpAll_mapI : ∀ {l : List α}, DpAll K H (l.map fun x => V.int (g x)) (l.map fun x => PyData.int (g x))
  | [] => .nil
  | x :: l => .cons (.int _) dpAll_mapI
theorem dpAll_mapS : ∀ {l : List α}, DpAll K H (l.map fun x => V.str (g2 x)) (l.map fun x => PyData.str (g2 x))
  | [] => .nil
  | x :: l => .cons (.str _) dpAll_mapS
theorem sh_mapI : Sh 1 (.list (l.map fun x => PyData.int (g x))) := Sh.lst fun d hd => by
  obtain ⟨x, _, rfl⟩ := List.mem_map.mp hd
  exact Sh.int
theorem sh_ints {ns : List Int} : Sh 1 (.list (ns.map PyData.int)) := sh_mapI (g := fun x => x)
theorem ne_same (h1 : Dp K H x d) (h2 : Dp K H y d) (hs : Sh k d) (hk : k ≤ 64) (h : Q (.bl false) H) : rNeD K x y H Q := by
  refine s_neD h1 h2 (hs.shaped hk) (hs.shaped hk) ?_
  rw [hs.refl]
  exact h
theorem eq_same (h1 : Dp K H x d) (h2 : Dp K H y d) (hs : Sh k d) (hk : k ≤ 64) (h : Q (.bl true) H) : rEqD K x y H Q := by
  refine s_eqD h1 h2 (hs.shaped hk) (hs.shaped hk) ?_
  rw [hs.refl]
  exact h
theorem ne_ints (h1 : SqL K H a (l.map fun x => V.int (g x))) (h2 : SqL K H b (l.map fun x => V.int (g x))) (h : Q (.bl false) H) : rNeD K (.ref a) (.ref b) H Q := ne_same (.lst h1 dpAll_mapI) (.lst h2 dpAll_mapI) sh_mapI (by decide) h
theorem eq_nil (h1 : SqL K H a []) (h2 : SqL K H b []) (h : Q (.bl true) H) : rEqD K (.ref a) (.ref b) H Q := eq_same (d := .list []) (k := 1) (.lst h1 .nil) (.lst h2 .nil) ⟨rfl, Nat.le_refl _⟩ (by decide) h
theorem ne_nil (h1 : SqL K H a []) (h2 : SqL K H b []) (h : Q (.bl false) H) : rNeD K (.ref a) (.ref b) H Q := ne_same (d := .list []) (k := 1) (.lst h1 .nil) (.lst h2 .nil) ⟨rfl, Nat.le_refl _⟩ (by decide) h
theorem f_sum {ns : List Int} (h1 : SqL K H a (ns.map V.int)) (h : Q (.int ns.sum) H) : rSum K [.ref a] H Q := ⟨a, ns, rfl, h1, h⟩
theorem f_sumM (h1 : SqL K H a (l.map fun x => V.int (g x))) (h : Q (.int (l.map g).sum) H) : rSum K [.ref a] H Q := ⟨a, l.map g, rfl, by rw [List.map_map]; exact h1, h⟩
theorem ne_some {ns : List Int} (h1 : SqL K H a (ns.map V.int)) (hn : ns ≠ []) (h2 : SqL K H b []) (h : Q (.bl true) H) : rNeD K (.ref a) (.ref b) H Q := by
  refine s_neD (d := .list (ns.map .int)) (e := .list []) (.lst h1 dpAll_ints) (.lst h2 .nil) (sh_ints.shaped (by decide)) rfl ?_
  cases ns with
  | nil => exact absurd rfl hn
  | cons x l => exact h
theorem f_minI {ns : List Int} {M : Int} (h1 : SqL K H a (ns.map V.int)) (h2 : M ∈ ns) (h3 : ∀ y ∈ ns, M ≤ y) (h : Q (.int M) H) : rMin K [.ref a] H Q := by
  refine ⟨a, ns, rfl, h1, List.length_pos_of_mem h2, fun m hm hall => ?_⟩
  have : m = M := Int.le_antisymm (hall M h2) (h3 m hm)
  rw [this]
  exact h
theorem f_maxI {ns : List Int} {M : Int} (h1 : SqL K H a (ns.map V.int)) (h2 : M ∈ ns) (h3 : ∀ y ∈ ns, y ≤ M) (h : Q (.int M) H) : rMax K [.ref a] H Q := s_maxI h1 h2 h3 h
theorem f_index {ns : List Int} {M : Int} {j : Nat} (h1 : SqL K H a (ns.map V.int)) (h2 : ns[j]? = some M) (h3 : ∀ (m : Nat) (z : Int), m < j → ns[m]? = some z → z ≠ M) (h : Q (.int (j : Nat)) H) : rIndex K (.ref a) [.int M] H Q := by
  refine ⟨a, ns.map V.int, .int M, j, .int M, rfl, rfl, h1, rfl, ?_, by rw [List.getElem?_map, h2]; rfl, ?_, fun m z' hm hz => ?_, h⟩
  · rw [List.all_eq_true]
    intro x hx
    obtain ⟨i, _, rfl⟩ := List.mem_map.mp hx
    rfl
  · simp [eqV]
  · obtain ⟨i, hi, rfl⟩ := map_get hz
    have := h3 m i hm hi
    simpa [eqV] using this
end
theorem Kp.app {L : List Ck} : ∀ N : List Ck, Kp (N ++ L) L
  | [] => Kp.rf
  | _ :: N => .drop (Kp.app N)
section
variable [Lw] {B H H1 : Hp} {S N M : List Ck}
/-- a callee that changed nothing of ours, what is new of it forgotten -/
theorem Fp.call_ (F : Fp B S N H) (G : Fp H [] M H1) : Fp B S N H1 := (F.call .nil G).kp (Kp.app M)
end
end Mi

set_option Elab.async false
set_option linter.all false
set_option maxRecDepth 100000
set_option maxHeartbeats 2000000
namespace Mi
open PySem PySem.Spec PyProof.Rows L2
/-! ### sorted, min, max over a list of data -/
structure SortD (K : PySem.W.Frag) (H : Hp) (ps : List (V × PyData)) : Prop where
  d : ∀ q ∈ ps, Dp K H q.1 q.2
  f : ∀ q ∈ ps, q.2.depth ≤ 60
  al : PySem.W.AllAlike (ps.map (·.2))
  so : PySem.W.Sortable (ps.map (·.2))
theorem each_data {X : Cx} {pins : List (Addr × Obj)} {σ : L2.St} {H : Hp} {s : Shared} (I : Inv X pins σ H s) : ∀ {ps : List (V × PyData)} {us : List Value}, Vals (ps.map (·.1)) us → (∀ q ∈ ps, Dp X.K H q.1 q.2) →
    PySem.W.EachIs (fun (u : Value) (q : V × PyData) => L2.RelV q.1 u) us ps ∧ PySem.W.EachIs (fun (u : Value) (q : V × PyData) => ∃ as, Reads s.heap u q.2 as) us ps
  | [], _, .nil, _ => ⟨.nil, .nil⟩
  | q :: ps, _, .cons r t, hd => by
    obtain ⟨h1, h2⟩ := each_data I t (fun x hx => hd x (List.mem_cons_of_mem _ hx))
    obtain ⟨as, ra⟩ := Dp.reads I q.2 q.1 _ (hd q List.mem_cons_self) r
    exact ⟨.cons r h1, .cons ⟨as, ra⟩ h2⟩
def rSortedT (K : PySem.W.Frag) : List V → Hp → VK → Prop := fun vs H Q => ∃ (a : Addr) (ps : List (V × PyData)), vs = [.ref a] ∧ SqL K H a (ps.map (·.1)) ∧ SortD K H ps ∧ ∀ p, H p = none → Q (.ref p) (upd H p (.lst (sortedV ps)))
theorem cr_sortedT {X : Cx} (hu : X.A.units + 64 < cLine) : CallR X (.builtin "sorted") (rSortedT X.K) := by
  intro pins s σ H vs us Q I r h
  obtain ⟨a, ps, rfl, hs, S, q⟩ := h
  obtain ⟨its, rv, hl, hz⟩ := I.list hs
  rw [Vals.ref1 r]
  obtain ⟨e1, e2⟩ := each_data I rv S.d
  have hz' : ps.length ≤ sizeLine := by rw [List.length_map] at hz; exact hz
  refine PySem.W.sorted_data (enc := fun z : V × PyData => z.2) (vs := its) hl.isList e1 e2 S.al S.so hz' (fun b hb => ?_) fun out ho eo => ?_
  · have := S.f b hb
    omega
  · obtain ⟨ep, he'⟩ := PyProof.Rows.sortedAll_at s.heap its out.toArray
    have hv : Vals (sortedV ps) out := vals_each eo
    have hlen : (sortedV ps).length ≤ sizeLine := by
      rw [hv.length, ho]
      exact hz'
    exact ⟨.ref _, upd H (s.heap.objs.size + 1) (.lst (sortedV ps)), I.laid (t' := s.toks) (fun _ _ => PyProof.Rows.sortedAll_old) (Nat.le_succ _) ⟨hlen, out, ep, hv, he'⟩, rfl, q _ (I.hok.fresh (Nat.le_succ _))⟩
theorem call_sortedTK {X : Cx} {K : PySem.W.Frag} (h : X.K = K) (hu : X.A.units + 64 < cLine) : CallR X (.builtin "sorted") (rSortedT K) := by subst h; exact cr_sortedT hu
def rMinD (K : PySem.W.Frag) : List V → Hp → VK → Prop := fun vs H Q => ∃ (a : Addr) (q0 : V × PyData) (ps : List (V × PyData)), vs = [.ref a] ∧ SqL K H a ((q0 :: ps).map (·.1)) ∧ SortD K H (q0 :: ps) ∧ (∀ q ∈ q0 :: ps, q.2 ≠ .none) ∧
  ∀ q ∈ q0 :: ps, q.2 = PySem.W.minD q0.2 (ps.map (·.2)) → Q q.1 H
theorem dpAll_of {K : PySem.W.Frag} {H : Hp} : ∀ {ps : List (V × PyData)}, (∀ q ∈ ps, Dp K H q.1 q.2) → DpAll K H (ps.map (·.1)) (ps.map (·.2))
  | [], _ => .nil
  | q :: ps, h => .cons (h q List.mem_cons_self) (dpAll_of fun x hx => h x (List.mem_cons_of_mem _ hx))
theorem depthAll_le {k : Nat} : ∀ {ds : List PyData}, (∀ d ∈ ds, d.depth ≤ k) → PyData.depthAll ds ≤ k
  | [], _ => Nat.zero_le _
  | d :: ds, h => by
    have h1 := h d List.mem_cons_self
    have h2 := depthAll_le (ds := ds) fun x hx => h x (List.mem_cons_of_mem _ hx)
    simp only [PyData.depthAll]
    omega
theorem cr_minD {X : Cx} (hc : X.calm = true) (hu : X.A.units + 64 < cLine) : CallR X (.builtin "min") (rMinD X.K) := by
  intro pins s σ H vs us Q I r h
  obtain ⟨a, q0, ps, rfl, hs, S, hnn, q⟩ := h
  obtain ⟨its, rv, hl, hz⟩ := I.list hs
  rw [Vals.ref1 r]
  have rv0 := rv
  obtain ⟨as, ra⟩ := Dp.readsAll I ((q0 :: ps).map (·.2)) ((q0 :: ps).map (·.1)) its (dpAll_of S.d) rv
  have hd : PyData.depthAll ((q0 :: ps).map (·.2)) ≤ 60 := depthAll_le fun d hd => by
    obtain ⟨z, hz, rfl⟩ := List.mem_map.mp hd
    exact S.f z hz
  refine PySem.W.min_list_data (I.ok.hd hc) hl.isList (x := q0.2) (xs := ps.map (·.2)) (by simpa using ra) ⟨fun x hx y hy => S.al x (by simpa using hx) y (by simpa using hy), fun x hx => ?_⟩ ?_ fun i v h' tk bs hv hr hk => ?_
  · have hx' : x ∈ (q0 :: ps).map (·.2) := by simpa using hx
    obtain ⟨z, hz, rfl⟩ := List.mem_map.mp hx'
    exact hnn z hz
  · have hd' : PyData.depthAll (q0.2 :: ps.map (·.2)) ≤ 60 := by simpa using hd
    omega
  · have hi : its[i]? = some v := by simpa using hv
    have hlen := rv0.length
    have hlt : i < ((q0 :: ps).map (·.1)).length := by rw [hlen]; exact (List.getElem?_eq_some_iff.mp hi).1
    rw [List.length_map] at hlt
    have hg : (q0 :: ps)[i]? = some (q0 :: ps)[i] := List.getElem?_eq_getElem hlt
    generalize (q0 :: ps)[i] = z at hg
    have hm := get_mem hg
    obtain ⟨u, hu1, hu2⟩ := rv0.get (i := i) (x := z.1) (by rw [List.getElem?_map, hg]; rfl)
    rw [hi] at hu1
    cases hu1
    obtain ⟨as2, ra2⟩ := Dp.reads I z.2 z.1 _ (S.d z hm) hu2
    have e := (PySem.Reads.unique (PyProof.Rows.Reads.keeps hk ra2) _ _ hr).1
    exact ⟨z.1, H, I.kept hk, hu2, q z hm e⟩
theorem call_minDK {X : Cx} {K : PySem.W.Frag} (h : X.K = K) (hc : X.calm = true) (hu : X.A.units + 64 < cLine) : CallR X (.builtin "min") (rMinD K) := by subst h; exact cr_minD hc hu
/-! ### dicts compared: either alike, or one of them empty -/
def rNeDE : R2 := fun x y H Q => ∃ a b ks ls, x = .ref a ∧ y = .ref b ∧ H a = some (.dK ks) ∧ H b = some (.dK ls) ∧ ((ks = ls ∧ (ks.map (·.1)).Nodup ∧ (∀ p ∈ ks, flatB p.2 = true) ∧ Q (.bl false) H) ∨ (ks.length ≠ ls.length ∧ Q (.bl true) H))
def rEqDE : R2 := fun x y H Q => ∃ a b ks ls, x = .ref a ∧ y = .ref b ∧ H a = some (.dK ks) ∧ H b = some (.dK ls) ∧ ((ks = ls ∧ (ks.map (·.1)).Nodup ∧ (∀ p ∈ ks, flatB p.2 = true) ∧ Q (.bl true) H) ∨ (ks.length ≠ ls.length ∧ Q (.bl false) H))
theorem op_ne_dictC {X : Cx} (hu : X.A.units < cLine) : OpR X (compareOp .NotEq) rNeDE := by
  intro pins s σ H x y v u Q I rx ry h
  obtain ⟨a, b, ks, ls, rfl, rfl, ea, eb, h⟩ := h
  obtain rfl : v = Value.ref a := rx
  obtain rfl : u = Value.ref b := ry
  obtain ⟨_, ya, va, ra, da⟩ := (show ObjOk X.prog X.w H s.heap a (.dK ks) from I.hok a _ ea)
  obtain ⟨_, yb, vb, rb, db⟩ := (show ObjOk X.prog X.w H s.heap b (.dK ls) from I.hok b _ eb)
  have l1 := ra.length
  have l2 := rb.length
  rcases h with ⟨rfl, nd, fl, q⟩ | ⟨hne, q⟩
  · have hl : va.length = vb.length := by omega
    exact PySem.W.keq_ne (knd := mixKind X.prog X.w) (r := true) ya yb da db hu (fun _ => hits_all rb ra fun p hp => ⟨val_nodup nd p hp, fl p hp⟩) (fin_bl I q (by simp [hl]))
  · have hl : ¬ va.length = vb.length := by omega
    exact PySem.W.keq_ne (knd := mixKind X.prog X.w) (r := true) ya yb da db hu (fun z => absurd z hl) (fin_bl I q (by simp [hl]))
theorem op_eq_dictC {X : Cx} (hu : X.A.units < cLine) : OpR X (compareOp .Eq) rEqDE := by
  intro pins s σ H x y v u Q I rx ry h
  obtain ⟨a, b, ks, ls, rfl, rfl, ea, eb, h⟩ := h
  obtain rfl : v = Value.ref a := rx
  obtain rfl : u = Value.ref b := ry
  obtain ⟨_, ya, va, ra, da⟩ := (show ObjOk X.prog X.w H s.heap a (.dK ks) from I.hok a _ ea)
  obtain ⟨_, yb, vb, rb, db⟩ := (show ObjOk X.prog X.w H s.heap b (.dK ls) from I.hok b _ eb)
  have l1 := ra.length
  have l2 := rb.length
  rcases h with ⟨rfl, nd, fl, q⟩ | ⟨hne, q⟩
  · have hl : va.length = vb.length := by omega
    exact PySem.W.keq_eq (knd := mixKind X.prog X.w) (r := true) ya yb da db hu (fun _ => hits_all rb ra fun p hp => ⟨val_nodup nd p hp, fl p hp⟩) (fin_bl I q (by simp [hl]))
  · have hl : ¬ va.length = vb.length := by omega
    exact PySem.W.keq_eq (knd := mixKind X.prog X.w) (r := true) ya yb da db hu (fun z => absurd z hl) (fin_bl I q (by simp [hl]))
/-! ### the least of data that stand for something ordered -/
structure Ord (α : Type) (enc : α → PyData) (lt : α → α → Prop) : Prop where
  is : ∀ x y, PySem.W.dataLt (enc x) (enc y) = true ↔ lt x y
  irr : ∀ x, ¬ lt x x
  tr : ∀ x y z, ¬ lt x y → ¬ lt y z → ¬ lt x z
  as : ∀ x y, lt x y → ¬ lt y x
theorem minD_least {α : Type} {enc : α → PyData} {lt : α → α → Prop} (O : Ord α enc lt) : ∀ (xs : List α) (x : α), ∃ m, m ∈ x :: xs ∧ PySem.W.minD (enc x) (xs.map enc) = enc m ∧ ∀ y ∈ x :: xs, ¬ lt y m
  | [], x => ⟨x, List.mem_cons_self, rfl, fun y hy => by rw [List.mem_singleton.mp hy]; exact O.irr x⟩
  | z :: xs, x => by
    unfold PySem.W.minD
    rw [List.map_cons, List.foldl_cons]
    by_cases h : lt z x
    · rw [(O.is z x).mpr h, if_pos rfl]
      obtain ⟨m, h1, h2, h3⟩ := minD_least O xs z
      refine ⟨m, List.mem_cons_of_mem _ h1, h2, fun y hy => ?_⟩
      rcases List.mem_cons.mp hy with rfl | hy
      · exact O.tr _ _ _ (O.as _ _ h) (h3 z List.mem_cons_self)
      · exact h3 y hy
    · have hf : PySem.W.dataLt (enc z) (enc x) = false := by
        cases e : PySem.W.dataLt (enc z) (enc x)
        · rfl
        · exact absurd ((O.is z x).mp e) h
      rw [hf, if_neg Bool.false_ne_true]
      obtain ⟨m, h1, h2, h3⟩ := minD_least O xs x
      refine ⟨m, ?_, h2, fun y hy => ?_⟩
      · rcases List.mem_cons.mp h1 with rfl | h1
        · exact List.mem_cons_self
        · exact List.mem_cons_of_mem _ (List.mem_cons_of_mem _ h1)
      · rcases List.mem_cons.mp hy with rfl | hy
        · exact h3 _ List.mem_cons_self
        · rcases List.mem_cons.mp hy with rfl | hy
          · exact O.tr _ _ _ h (h3 x List.mem_cons_self)
          · exact h3 y (List.mem_cons_of_mem _ hy)
end Mi

set_option Elab.async false
set_option linter.all false
set_option maxRecDepth 100000
set_option maxHeartbeats 2000000
namespace Mi
open PySem PySem.Spec PyProof.Rows L2
section
variable [Lw] {K : PySem.W.Frag} {B H H1 H2 : Hp} {S S' N N' M T : List Ck} {a b p d : Addr} {o o' u : HO} {xs ys : List V} {Q : VK} {σ : L2.St} {v y z : V}
/-! ### a dict that is walked -/
theorem f_lockS {Sf Nf : Obj → List Ck} {kvs : List (Key × V)} {tb : TS} {nx bk ct : L2.St → Hp → Prop} {rt : VK} (d : Addr) (F : Fp B S N H) (R : ∀ od, Re S N d (.dK kvs) (.frz od (.dK kvs)) (Sf od) (Nf od))
    (h : ∀ od H1, Fp B (Sf od) (Nf od) H1 → tb ⟨fun σ' => UnlP d (.dK kvs) od (nx σ'), fun v => UnlP d (.dK kvs) od (rt v), fun σ' => UnlP d (.dK kvs) od (bk σ'), fun σ' => UnlP d (.dK kvs) od (ct σ')⟩ σ H1) :
    tLock tb ⟨nx, rt, bk, ct⟩ σ H := ⟨d, _, F.got (R (default)), True.intro, fun od => h od _ (F.re (R od) rfl rfl)⟩
theorem f_lockE {Sf Nf : Obj → List Ck} {kvs : List (Key × V)} {te : TE} (d : Addr) (F : Fp B S N H) (R : ∀ od, Re S N d (.dK kvs) (.frz od (.dK kvs)) (Sf od) (Nf od))
    (h : ∀ od H1, Fp B (Sf od) (Nf od) H1 → te σ H1 fun v => UnlP d (.dK kvs) od (Q v)) :
    tLockE te σ H Q := ⟨d, _, F.got (R (default)), True.intro, fun od => h od _ (F.re (R od) rfl rfl)⟩
/-! ### rows of keys from a list of things -/
variable {α : Type} {n : α → Str} {e : α → V} {us : List α}
omit [Lw] in
theorem valR_map (hn : (us.map n).Nodup) : ∀ {i : Nat} {x : α}, us[i]? = some x → valR (Sum.inr (n x)) (us.map fun x => (Sum.inr (n x), e x)) = some (e x) := by
  induction us with
  | nil => intro i x h; simp at h
  | cons y r ih =>
    intro i x h
    rw [List.map_cons, List.nodup_cons] at hn
    rw [List.map_cons]
    unfold valR
    cases i with
    | zero =>
      cases h
      rw [if_pos rfl]
    | succ i =>
      rw [List.getElem?_cons_succ] at h
      rw [if_neg fun z => hn.1 (by injection z with z; rw [z]; exact List.mem_map.mpr ⟨x, get_mem h, rfl⟩)]
      exact ih hn.2 h
omit [Lw] in
theorem valR_none {k : Str} (h : k ∉ us.map n) : valR (Sum.inr k) (us.map fun x => (Sum.inr (n x), e x)) = none := by
  induction us with
  | nil => rfl
  | cons y r ih =>
    rw [List.map_cons, List.mem_cons, not_or] at h
    rw [List.map_cons]
    unfold valR
    rw [if_neg fun z => h.1 (by injection z with z; exact z.symm)]
    exact ih h.2
omit [Lw] in
theorem putR_map {e' : α → V} (hn : (us.map n).Nodup) {x : α} (hx : x ∈ us) (h1 : e' x = v) (h2 : ∀ y ∈ us, n y ≠ n x → e' y = e y) : putR (Sum.inr (n x)) v (us.map fun x => (Sum.inr (n x), e x)) = us.map fun x => (Sum.inr (n x), e' x) := by
  induction us with
  | nil => simp at hx
  | cons y r ih =>
    rw [List.map_cons, List.nodup_cons] at hn
    rw [List.map_cons, List.map_cons]
    unfold putR
    rcases List.mem_cons.mp hx with rfl | hx
    · rw [if_pos rfl, h1, List.map_map]
      congr 1
      refine List.map_congr_left fun q hq => ?_
      have hne : n q ≠ n x := fun z => hn.1 (z ▸ List.mem_map.mpr ⟨q, hq, rfl⟩)
      dsimp only [Function.comp]
      rw [if_neg fun z => hne (by injection z), h2 q (List.mem_cons_of_mem _ hq) hne]
    · have hne : n y ≠ n x := fun z => hn.1 (z ▸ List.mem_map.mpr ⟨x, hx, rfl⟩)
      rw [if_neg fun z => hne (by injection z), h2 y List.mem_cons_self hne, ih hn.2 hx fun q hq => h2 q (List.mem_cons_of_mem _ hq)]
omit [Lw] in
theorem nodup_map_inj {x y : α} (hn : (us.map n).Nodup) (hx : x ∈ us) (hy : y ∈ us) (h : n x = n y) : x = y := by
  obtain ⟨i, hi⟩ := List.mem_iff_getElem?.mp hx
  obtain ⟨j, hj⟩ := List.mem_iff_getElem?.mp hy
  have e1 : (us.map n)[i]? = some (n x) := by rw [List.getElem?_map, hi]; rfl
  have e2 : (us.map n)[j]? = some (n x) := by rw [List.getElem?_map, hj, h]; rfl
  have := nodup_inj hn e1 e2
  subst this
  rw [hi] at hj
  exact Option.some.inj hj
omit [Lw] in
theorem _root_.L2.Rd.frz {o : Obj} (h : H a = some (.frz o u)) : Rd H a u := .inr ⟨o, h⟩
theorem f_dgetM {kvs : List (Key × V)} {k : Str} (h1 : H a = some (.dK kvs)) (h2 : valR (Sum.inr k) kvs = some v) : DGet H a (.str k) (some v) := f_dgetS (.inl h1) h2
end
end Mi

set_option Elab.async false
set_option linter.all false
set_option maxRecDepth 100000
set_option maxHeartbeats 2000000
namespace Mi
open PySem PySem.Spec PyProof.Rows L2 PySem.W
/-! ### the order of data -/
theorem dlt_trans {x y z : PyData} (h1 : dataLt x y = true) (h2 : dataLt y z = true) : dataLt x z = true := lex_trans _ _ _ h1 h2
theorem dlt_irr (x : PyData) : dataLt x x = false := lex_irrefl _
theorem dlt_asym {x y : PyData} (h : dataLt x y = true) : dataLt y x = false := by
  cases e : dataLt y x
  · rfl
  · have := dlt_trans h e
    rw [dlt_irr] at this
    cases this
theorem dnl_trans {x y z : PyData} (h1 : dataLt x y = false) (h2 : dataLt y z = false) : dataLt x z = false := by
  cases e : dataLt x z
  · rfl
  · cases e2 : dataLt y x
    · have et : keyToks x = keyToks y := lex_total _ _ h1 e2
      unfold dataLt at h2 e
      rw [et, h2] at e
      cases e
    · have := dlt_trans e2 e
      rw [h2] at this
      cases this
theorem minD_mem : ∀ (xs : List PyData) (x : PyData), minD x xs ∈ x :: xs ∧ ∀ y ∈ x :: xs, dataLt y (minD x xs) = false
  | [], x => ⟨List.mem_cons_self, fun y hy => by rw [List.mem_singleton.mp hy]; exact dlt_irr x⟩
  | z :: xs, x => by
    unfold minD
    rw [List.foldl_cons]
    cases h : dataLt z x
    · rw [if_neg Bool.false_ne_true]
      obtain ⟨h1, h3⟩ := minD_mem xs x
      refine ⟨?_, fun y hy => ?_⟩
      · rcases List.mem_cons.mp h1 with e | h1
        · unfold minD at e; rw [e]; exact List.mem_cons_self
        · exact List.mem_cons_of_mem _ (List.mem_cons_of_mem _ h1)
      · rcases List.mem_cons.mp hy with rfl | hy
        · exact h3 _ List.mem_cons_self
        · rcases List.mem_cons.mp hy with rfl | hy
          · exact dnl_trans h (h3 x List.mem_cons_self)
          · exact h3 y (List.mem_cons_of_mem _ hy)
    · rw [if_pos rfl]
      obtain ⟨h1, h3⟩ := minD_mem xs z
      refine ⟨List.mem_cons_of_mem _ h1, fun y hy => ?_⟩
      rcases List.mem_cons.mp hy with rfl | hy
      · exact dnl_trans (dlt_asym h) (h3 z List.mem_cons_self)
      · exact h3 y hy
theorem sorted_head {ps : List (V × PyData)} (h : ps ≠ []) : ∃ z r, ps.mergeSort (dataLe false fun q => q.2) = z :: r ∧ z ∈ ps ∧ ∀ q ∈ ps, dataLt q.2 z.2 = false := by
  have pw := List.pairwise_mergeSort (le := dataLe false fun q : V × PyData => q.2) (fun a b c h1 h2 => by
    simp only [dataLe_eq, cond_false, Bool.not_eq_true'] at h1 h2 ⊢
    exact dnl_trans h2 h1) (fun a b => by
    simp only [dataLe_eq, cond_false, Bool.or_eq_true, Bool.not_eq_true']
    cases e : dataLt b.2 a.2
    · exact .inl rfl
    · exact .inr (dlt_asym e)) ps
  have pm := List.mergeSort_perm ps (dataLe false fun q : V × PyData => q.2)
  generalize ps.mergeSort (dataLe false fun q => q.2) = l at pw pm
  cases l with
  | nil => exact absurd pm.symm.eq_nil h
  | cons z r =>
    refine ⟨z, r, rfl, pm.mem_iff.mp List.mem_cons_self, fun q hq => ?_⟩
    rcases List.mem_cons.mp (pm.mem_iff.mpr hq) with rfl | hq
    · exact dlt_irr _
    · have := (List.pairwise_cons.mp pw).1 q hq
      simpa only [dataLe_eq, cond_false, Bool.not_eq_true'] using this
theorem dlt_is_uniq {a c : Int} {x y : Str} (h1 : dataLt (.tuple [.int a, .str x]) (.tuple [.int c, .str y]) = false) (h2 : dataLt (.tuple [.int c, .str y]) (.tuple [.int a, .str x]) = false) : x = y := by
  rw [dataLt_pair rfl rfl] at h1 h2
  by_cases hx : x = y
  · exact hx
  exfalso
  have ne1 : PyData.eqv (.str x) (.str y) = false := by simp [PyData.eqv, hx]
  have ne2 : PyData.eqv (.str y) (.str x) = false := by simp [PyData.eqv, Ne.symm hx]
  rw [ne1] at h1
  rw [ne2] at h2
  rw [dataLt_int, dataLt_str] at h1 h2
  by_cases hac : a = c
  · subst hac
    have er : PyData.eqv (.int a) (.int a) = true := by simp [PyData.eqv]
    rw [er] at h1 h2
    simp only [if_true, Bool.false_eq_true, if_false, decide_eq_false_iff_not] at h1 h2
    exact hx (str_of_cps (List.le_antisymm (List.not_lt.mp h2) (List.not_lt.mp h1)))
  · have e1 : PyData.eqv (.int a) (.int c) = false := by simp [PyData.eqv, hac]
    have e2 : PyData.eqv (.int c) (.int a) = false := by simp [PyData.eqv, Ne.symm hac]
    rw [e1] at h1
    rw [e2] at h2
    simp only [Bool.false_eq_true, if_false, decide_eq_false_iff_not] at h1 h2
    omega
theorem map_getG {α β : Type} {g : α → β} {l : List α} {i : Nat} {y : β} (h : (l.map g)[i]? = some y) : ∃ x, l[i]? = some x ∧ y = g x := by
  rw [List.getElem?_map] at h
  cases e : l[i]? with
  | none => rw [e] at h; cases h
  | some p => rw [e] at h; exact ⟨p, rfl, (Option.some.inj h).symm⟩
theorem op_inSK {X : Cx} {K : PySem.W.Frag} (h : X.K = K) : OpR X (compareOp .In) (rIn K false) := by subst h; exact op_in_seq
def stB (i : Nat) : Stmt → Stmt
  | .For _ _ b _ _ => b.getD i (.Pass ⟨0, 0, 0, 0⟩)
  | .If _ b _ _ => b.getD i (.Pass ⟨0, 0, 0, 0⟩)
  | x => x
def stE (i : Nat) : Stmt → Stmt
  | .If _ _ b _ => b.getD i (.Pass ⟨0, 0, 0, 0⟩)
  | x => x
def stT : Stmt → Expr
  | .If t _ _ _ => t
  | .Assign _ v _ => v
  | _ => .Constant .none 0 ⟨0, 0, 0, 0⟩
def exA (i : Nat) : Expr → Expr
  | .Compare l _ cs _ => match i with
    | 0 => l
    | j + 1 => cs.getD j l
  | .Call _ as _ _ => as.getD i (.Constant .none 0 ⟨0, 0, 0, 0⟩)
  | .BoolOp _ es _ => es.getD i (.Constant .none 0 ⟨0, 0, 0, 0⟩)
  | e => e
section
variable [Lw] {K : PySem.W.Frag} {B H : Hp} {Q : VK} {a b : Addr} {xs : List V}
theorem ne_someD {ds : List PyData} {k : Nat} (h1 : SqL K H a xs) (hd : DpAll K H xs ds) (hs : ∀ d ∈ ds, Sh k d) (hk : k < 64) (hn : xs ≠ []) (h2 : SqL K H b []) (h : Q (.bl true) H) : rNeD K (.ref a) (.ref b) H Q := by
  refine s_neD (d := .list ds) (e := .list []) (.lst h1 hd) (.lst h2 .nil) ((Sh.lst hs).shaped hk) rfl ?_
  cases hd with
  | nil => exact absurd rfl hn
  | cons h1 h2 => exact h
def DInP (neg : Bool) (y : V) (Q : VK) (x : V) (H2 : Hp) : Prop := ∃ a o, x = .ref a ∧ DGet H2 a y o ∧ Q (.bl (if neg then !o.isSome else o.isSome)) H2
theorem f_sDNi {ty td : TE} {σ : L2.St} (h : ty σ H fun y H1 => td σ H1 (DInP true y Q)) : tDNotIn ty td σ H Q := h
theorem f_sDIn {ty td : TE} {σ : L2.St} (h : ty σ H fun y H1 => td σ H1 (DInP false y Q)) : tDIn ty td σ H Q := h
theorem f_dni {kvs : List (Key × V)} {k : Str} (h1 : Rd H a (.dK kvs)) (h2 : valR (Sum.inr k) kvs = none) (h : Q (.bl true) H) : DInP true (.str k) Q (.ref a) H := ⟨a, none, rfl, .inl ⟨kvs, Sum.inr k, h1, rfl, by rw [valV_valR]; exact h2.symm⟩, h⟩
theorem f_dni' {kvs : List (Key × V)} {k : Str} {v : V} (h1 : Rd H a (.dK kvs)) (h2 : valR (Sum.inr k) kvs = some v) (h : Q (.bl false) H) : DInP true (.str k) Q (.ref a) H := ⟨a, some v, rfl, .inl ⟨kvs, Sum.inr k, h1, rfl, by rw [valV_valR]; exact h2.symm⟩, h⟩
theorem f_din {kvs : List (Key × V)} {k : Str} {v : V} (h1 : Rd H a (.dK kvs)) (h2 : valR (Sum.inr k) kvs = some v) (h : Q (.bl true) H) : DInP false (.str k) Q (.ref a) H := ⟨a, some v, rfl, .inl ⟨kvs, Sum.inr k, h1, rfl, by rw [valV_valR]; exact h2.symm⟩, h⟩
theorem f_din' {kvs : List (Key × V)} {k : Str} (h1 : Rd H a (.dK kvs)) (h2 : valR (Sum.inr k) kvs = none) (h : Q (.bl false) H) : DInP false (.str k) Q (.ref a) H := ⟨a, none, rfl, .inl ⟨kvs, Sum.inr k, h1, rfl, by rw [valV_valR]; exact h2.symm⟩, h⟩
theorem f_sortedD {kvs : List (Key × V)} {ks : List Str} (h1 : Rd H a (.dK kvs)) (h2 : kvs.map (·.1) = ks.map Sum.inr) (h3 : ks.length < 64) (h4 : ks.Pairwise fun a b => leS a b = true) (h : NewP (.lst (ks.map V.str)) Q H) : rSortedDK [V.ref a] H Q := s_sortedD h1 h2 h3 h4 h
theorem f_sortedT {ps : List (V × PyData)} (h1 : SqL K H a (ps.map (·.1))) (S : SortD K H ps) (h : NewP (.lst (sortedV ps)) Q H) : rSortedT K [.ref a] H Q := ⟨a, ps, rfl, h1, S, h⟩
theorem f_dictT {α : Type} {n : α → Str} {e : α → V} {us : List α} {ts : List Addr} (h1 : SqL K H a (ts.map V.ref)) (hl : ts.length = us.length) (h2 : ∀ {i : Nat} {t : Addr} {x : α}, ts[i]? = some t → us[i]? = some x → H t = some (.tup [.str (n x), e x])) (h3 : (us.map n).Nodup)
    (h : NewP (.dK (us.map fun x => (Sum.inr (n x), e x))) Q H) : rDictPK K [.ref a] H Q := by
  refine s_dictP h1 (paired_get (by rw [List.length_map]; exact hl) fun i t y ht hy => ?_) ?_ h
  · obtain ⟨x, hx, rfl⟩ := map_getG hy
    exact SqT.of (h2 ht hx)
  · rw [List.map_map]
    have : ((fun q : Key × V => q.1) ∘ fun x => ((Sum.inr (n x) : Key), e x)) = (fun z : Str => (Sum.inr z : Key)) ∘ n := rfl
    rw [this, ← List.map_map]
    exact List.Pairwise.map _ (fun a b hab z => hab (by injection z)) h3
omit [Lw] in
theorem mergeK_dk : ∀ (l : List (Str × V)) (acc : List (Key × V)), mergeK acc (l.map fun p => ((Sum.inr p.1 : Key), p.2)) = l.foldl (fun acc p => putR (Sum.inr p.1) p.2 acc) acc
  | [], _ => rfl
  | p :: l, acc => by
    have := mergeK_dk l (putR (Sum.inr p.1) p.2 acc)
    rw [List.map_cons, List.foldl_cons, ← this]
    show mergeK (putK acc (Sum.inr p.1) p.2) _ = _
    rw [putK_putR]
theorem f_dictTD {us : List (Str × V)} {ts : List Addr} (h1 : SqL K H a (ts.map V.ref)) (hl : ts.length = us.length) (h2 : ∀ {i : Nat} {t : Addr} {x : Str × V}, ts[i]? = some t → us[i]? = some x → H t = some (.tup [.str x.1, x.2])) (h : NewP (.dK (dk us)) Q H) : rDictPK K [.ref a] H Q := by
  refine ⟨a, ts, us.map fun p => ((Sum.inr p.1 : Key), p.2), rfl, h1, paired_get (by rw [List.length_map]; exact hl) fun i t y ht hy => ?_, fun p hp => ?_⟩
  · obtain ⟨x, hx, rfl⟩ := map_getG hy
    exact SqT.of (h2 ht hx)
  · rw [mergeK_dk]
    exact h p hp
theorem ne_dEmpty {kvs : List (Key × V)} (h1 : H a = some (.dK kvs)) (h2 : H b = some (.dK [])) (hn : kvs ≠ []) (h : Q (.bl true) H) : rNeDE (.ref a) (.ref b) H Q := ⟨a, b, kvs, [], rfl, rfl, h1, h2, .inr ⟨fun z => hn (List.eq_nil_of_length_eq_zero z), h⟩⟩
theorem ne_dSame {kvs : List (Key × V)} (h1 : H a = some (.dK kvs)) (h2 : H b = some (.dK kvs)) (hn : (kvs.map (·.1)).Nodup) (hf : ∀ p ∈ kvs, flatB p.2 = true) (h : Q (.bl false) H) : rNeDE (.ref a) (.ref b) H Q := ⟨a, b, kvs, kvs, rfl, rfl, h1, h2, .inl ⟨rfl, hn, hf, h⟩⟩
theorem f_dnewK {σ : L2.St} (h : NewP (.dK []) Q H) : tDNewK σ H Q := h
theorem f_rSetD {o i v : V} {Nx : Hp → Prop} (h : DPutP i v Nx o H) : rSetD o i v H Nx := h
theorem f_finS {i : Int} (h : Q (.int i) H) : finS Q i H := h
theorem f_finB {u : Unit} (h : Q (.bl false) H) : finB true Q u H := h
theorem f_finB' {u : Unit} (h : Q (.bl true) H) : finB false Q u H := h
theorem inV_strs {x : Str} {xs : List Str} : inV (.str x) (xs.map V.str) = decide (x ∈ xs) := by
  unfold inV
  rw [List.any_map]
  by_cases h : x ∈ xs
  · rw [decide_eq_true h, List.any_eq_true]
    exact ⟨x, h, by simp [eqV]⟩
  · rw [decide_eq_false h, List.any_eq_false]
    intro y hy z
    have : y = x := by simpa [eqV] using z
    exact h (this ▸ hy)
theorem f_inS {x : Str} {xs : List Str} (h1 : SqL K H a (xs.map V.str)) (h : Q (.bl (decide (x ∈ xs))) H) : rIn K false (.str x) (.ref a) H Q := ⟨a, _, rfl, .inl h1, rfl, by rw [List.all_eq_true]; intro y hy; obtain ⟨z, _, rfl⟩ := List.mem_map.mp hy; rfl, by rw [inV_strs]; exact h⟩
theorem Fp.snocL {S N : List Ck} {o : HO} {as : List Addr} {os : List HO} (L : List Ck) (hl : as.length = os.length) (F : Fp B S (ck a o :: (L ++ (as, os) :: N)) H) : Fp B S (L ++ (as ++ [a], os ++ [o]) :: N) H := F.permN (by
  rw [fl_app, fl_cons, fl_cons, fl_app, fl_cons, zip_snoc hl]
  show (fl L ++ (as.zip os ++ [(a, o)] ++ fl N)).Perm ((a, o) :: (fl L ++ (as.zip os ++ fl N)))
  rw [List.append_assoc (as.zip os), ← List.append_assoc (fl L), ← List.append_assoc (fl L)]
  exact List.perm_middle)
theorem f_minD {ps : List (V × PyData)} (h1 : SqL K H a (ps.map (·.1))) (S : SortD K H ps) (hn : ∀ q ∈ ps, q.2 ≠ .none) (hne : ps ≠ []) (h : ∀ q ∈ ps, (∀ q' ∈ ps, dataLt q'.2 q.2 = false) → Q q.1 H) : rMinD K [.ref a] H Q := by
  cases ps with
  | nil => exact absurd rfl hne
  | cons q0 ps =>
    refine ⟨a, q0, ps, rfl, h1, S, hn, fun q hq e => h q hq fun q' hq' => ?_⟩
    rw [e]
    exact (minD_mem (ps.map (·.2)) q0.2).2 _ (by
      rcases List.mem_cons.mp hq' with rfl | hq'
      · exact List.mem_cons_self
      · exact List.mem_cons_of_mem _ (List.mem_map.mpr ⟨q', hq', rfl⟩))
end
end Mi

set_option Elab.async false
set_option linter.all false
set_option maxRecDepth 100000
set_option maxHeartbeats 2000000
namespace Mi
open PySem PySem.Spec PyProof.Rows L2
/-! ### a block of a def as a theorem of its own -/
def stBs : Stmt → List Stmt
  | .For _ _ b _ _ => b
  | .While _ b _ _ => b
  | .If _ b _ _ => b
  | _ => []
def stEs : Stmt → List Stmt
  | .If _ _ b _ => b
  | _ => []
def nthS (l : List Stmt) (i : Nat) : Stmt := l.getD i (.Pass ⟨0, 0, 0, 0⟩)
theorem pss_weak {X : Cx} {st : List Stmt} {t t' : TS} (h : PSs X st t) (w : ∀ D σ H, t' D σ H → t D σ H) : PSs X st t' := ⟨fun pins s σ H D I hw => h.run pins s σ H D I (w D σ H hw)⟩
theorem ps_weak {X : Cx} {st : Stmt} {t t' : TS} (h : PS X st t) (w : ∀ D σ H, t' D σ H → t D σ H) : PS X st t' := ⟨fun pins s σ H D I hw => h.run pins s σ H D I (w D σ H hw)⟩
theorem pe_weak {X : Cx} {e : Expr} {t t' : TE} (h : PE X e t) (w : ∀ σ H Q, t' σ H Q → t σ H Q) : PE X e t' := ⟨fun pins s σ H Q I hw => h.run pins s σ H Q I (w σ H Q hw)⟩
/-- what a block does: from Pre to Post (a: what both speak of) -/
def tCt {α : Type} (Pre Post : α → L2.St → Hp → Prop) : TS := fun D σ H => ∃ a, Pre a σ H ∧ ∀ σ' H', Post a σ' H' → D.nx σ' H'
theorem s_ct {α : Type} {Pre Post : α → L2.St → Hp → Prop} {nx bk ct : L2.St → Hp → Prop} {rt : VK} {σ : L2.St} {H : Hp} (a : α) (h : Pre a σ H) (q : ∀ σ' H', Post a σ' H' → nx σ' H') : tCt Pre Post ⟨nx, rt, bk, ct⟩ σ H := ⟨a, h, q⟩
theorem s_same {x : V} {A B : Prop} (h : B) : if (!decide (x = x)) = true then A else B := by
  rw [decide_eq_true rfl, Bool.not_true, if_neg Bool.false_ne_true]
  exact h
theorem s_sameE {x : V} {A B : Prop} (h : A) : if decide (x = x) = true then A else B := by
  rw [decide_eq_true rfl, if_pos rfl]
  exact h
section
variable [Lw] {K : PySem.W.Frag} {H : Hp} {Q : VK} {a b : Addr} {xs : List V}
theorem eq_someD {ds : List PyData} {k : Nat} (h1 : SqL K H a xs) (hd : DpAll K H xs ds) (hs : ∀ d ∈ ds, Sh k d) (hk : k < 64) (hn : xs ≠ []) (h2 : SqL K H b []) (h : Q (.bl false) H) : rEqD K (.ref a) (.ref b) H Q := by
  refine s_eqD (d := .list ds) (e := .list []) (.lst h1 hd) (.lst h2 .nil) ((Sh.lst hs).shaped hk) rfl ?_
  cases hd with
  | nil => exact absurd rfl hn
  | cons h1 h2 => exact h
end
/-- the state told as a plain row again -/
theorem s_gNn {i : Nat} {v : V} {σ σ' : L2.St} {H : Hp} {N : L2.St → Hp → Prop} (e : σ.set i (some v) = σ') (h : N σ' H) : gName i v σ H N := by
  subst e
  exact h
/-- a statement, then the rest from P on -/
theorem seqP {t u : TS} {nx bk ct : L2.St → Hp → Prop} {rt : VK} {σ : L2.St} {H : Hp} (P : L2.St → Hp → Prop) (hB : ∀ σ' H', P σ' H' → u ⟨nx, rt, bk, ct⟩ σ' H') (hA : ∀ nx' : L2.St → Hp → Prop, (∀ σ' H', P σ' H' → nx' σ' H') → t ⟨nx', rt, bk, ct⟩ σ H) : tSeq t u ⟨nx, rt, bk, ct⟩ σ H := hA _ hB
theorem s_bb1 {x : V} {A B : Prop} (h : B) : if decide (V.bl (decide (x = x)) = V.bl false) = true then A else B := by
  rw [show decide (V.bl (decide (x = x)) = V.bl false) = false by simp, if_neg Bool.false_ne_true]
  exact h
theorem s_bb2 {y : Str} {A B : Prop} (h : B) : if decide (V.bl (decide (V.non = V.str y)) = V.bl true) = true then A else B := by
  rw [show decide (V.bl (decide (V.non = V.str y)) = V.bl true) = false by simp, if_neg Bool.false_ne_true]
  exact h
end Mi

set_option Elab.async false
set_option linter.all false
set_option maxRecDepth 100000
set_option maxHeartbeats 2000000
namespace Mi
open PySem PySem.Spec PyProof.Rows L2 PySem.W
/-! ### dict(rows) where the keys are tuples -/
theorem itk_keep {prog : Program} {w : World} {κ : Type} [DecidableEq κ] {knd : KeyKind prog w κ} {h h' : Heap} {ks : List κ} {a : Addr} (x : (tupleKind knd).is h ks a) (k : ∀ o, h.get? a = some o → h'.get? a = some o) : (tupleKind knd).is h' ks a :=
  let ⟨o, i, n, h1, r⟩ := x
  ⟨o, i, n, k o h1, r⟩
section
variable {prog : Program} {w : World} {A : Around}
abbrev TKd (prog : Program) (w : World) := tupleKind (mixKind prog w)
theorem dictH_keep {h h' : Heap} {d : Addr} {xs : List (List Key × Addr × Value)} (x : h.DictOfH (TKd prog w) d xs) (k : ∀ b o, (b = d ∨ b ∈ xs.map (·.2.1)) → h.get? b = some o → h'.get? b = some o) : h'.DictOfH (TKd prog w) d xs := by
  obtain ⟨o, es, ep, h1, h2, h3, h4, h5, h6⟩ := x
  exact ⟨o, es, ep, k _ _ (.inl rfl) h1, h2, h3, h4, fun y hy => itk_keep (h5 y hy) fun o e => k _ _ (.inr (List.mem_map.mpr ⟨y, hy, rfl⟩)) e, h6⟩
def mergedH (acc rest : List (List Key × Addr × Value)) : List (List Key × Addr × Value) := rest.foldl (fun acc q => storedH acc q.1 q.2.1 q.2.2) acc
theorem storedH_len {acc : List (List Key × Addr × Value)} {k : List Key} {b : Addr} {v : Value} : (storedH acc k b v).length ≤ acc.length + 1 := by
  unfold storedH
  split
  · rw [List.length_map]; omega
  · rw [List.length_append, List.length_singleton]; omega
theorem storedH_adr {acc : List (List Key × Addr × Value)} {k : List Key} {b : Addr} {v : Value} : ∀ x ∈ (storedH acc k b v).map (·.2.1), x ∈ acc.map (·.2.1) ∨ x = b := by
  intro x hx
  unfold storedH at hx
  split at hx
  · rw [List.map_map] at hx
    obtain ⟨y, hy, rfl⟩ := List.mem_map.mp hx
    refine .inl (List.mem_map.mpr ⟨y, hy, ?_⟩)
    show y.2.1 = (putAt k v y).2.1
    unfold putAt
    split <;> rfl
  · rw [List.map_append] at hx
    rcases List.mem_append.mp hx with hx | hx
    · exact .inl hx
    · exact .inr (List.mem_singleton.mp hx)
theorem upd_loopT {R : Result → Shared → Prop} {S I l : Addr} {items : Array Value} {res : Value} (hh : A.handled = none) (hu : A.units + 1 < cLine) (hlI : l ≠ I) (hSI : S ≠ I) (hSl : S ≠ l) :
    ∀ (rest : List (List Key × Addr × Value)) (i : Nat) (acc : List (List Key × Addr × Value)) (ix : Int) (t : Tok) (s : Shared), items.size = i + rest.length → acc.length + rest.length ≤ sizeLine →
      (∀ (j : Nat) (q : List Key × Addr × Value), rest[j]? = some q → ∃ (b : Addr), items[i + j]? = some (.ref b) ∧ b ≠ S ∧ b ≠ I ∧ q.2.1 ≠ S ∧ q.2.1 ≠ I ∧ IsTup s.heap b #[.ref q.2.1, q.2.2] ∧ (TKd prog w).is s.heap q.1 q.2.1) →
      (∀ x ∈ acc.map (·.2.1), x ≠ S ∧ x ≠ I) →
      s.heap.IsListIter I l i → s.heap.IsList l items → s.heap.DictOfH (TKd prog w) S acc →
      (∀ h' tk, h'.DictOfH (TKd prog w) S (mergedH acc rest) → (∀ b o, b ≠ S → b ≠ I → s.heap.get? b = some o → h'.get? b = some o) → R (.ok (.ret res)) { s with heap := h', toks := tk }) →
      codeAny (model prog w) A (.builtin "dict.update.loop" ⟨[.ref S, .ref I, .int ix t, res], []⟩) R s
  | [], i, acc, ix, t, s, hsz, hln, ht, hacc, hit, hl, hm, hR => by
    refine codeAny_builtin ud_entry ?_
    rw [Around.under_plainId ud_plain _]
    show wpAny _ A.in1 (pyNext (.ref I) >>= _) _ _ s
    refine wpAny_bind (wpAny_pyNext_list_end (A := A.in1) hh hit hl (by first | exact Array.getElem?_eq_none (Nat.le_of_eq hsz) | (simp at hsz; simp; omega)) fun h' he => ?_)
    show wpAny _ A.in1 (Builtin.Dict.addKeywords S [] >>= _) _ _ _
    refine wpAny_bind (wpAny_pure (wpAny_pure ?_))
    refine hR h' s.toks (dictH_keep hm fun b o hb e => he b o ?_ e) fun b o _ hb e => he b o hb e
    rcases hb with rfl | hb
    · exact hSI
    · exact (hacc b hb).2
  | q :: rest, i, acc, ix, t, s, hsz, hln, ht, hacc, hit, hl, hm, hR => by
    obtain ⟨b, hb, hbS, hbI, hqS, hqI, htup, hk⟩ := ht 0 q rfl
    rw [List.length_cons] at hsz hln
    refine codeAny_builtin ud_entry ?_
    rw [Around.under_plainId ud_plain _]
    show wpAny _ A.in1 (pyNext (.ref I) >>= _) _ _ s
    refine wpAny_bind (wpAny_pyNext_list_item (x := .ref b) hit hl (by simpa using hb) fun h1 hit1 hs1 => ?_)
    have ht1 : IsTup h1 b #[.ref q.2.1, q.2.2] := htup.extBut hs1.extBut hbI
    have hl1 : h1.IsList l items := hl.extBut hs1.extBut hlI
    have hm1 : h1.DictOfH (TKd prog w) S acc := dictH_keep hm fun c o hc e => hs1.extBut c o (by
      rcases hc with rfl | hc
      · exact hSI
      · exact (hacc c hc).2) e
    have hk1 : (TKd prog w).is h1 q.1 q.2.1 := itk_keep hk fun o e => hs1.extBut _ o hqI e
    obtain ⟨o, ho, hc, n, hd⟩ := id ht1
    show wpAny _ A.in1 (holding [Value.ref b] _ >>= _) _ _ _
    refine wpAny_bind (wpAny_holding ?_)
    refine wpAny_bind (wpAny_tryCatch ?_)
    unfold Builtin.Dict.pairItems
    refine wpAny_bind (wpAny_typeOf (T := "tuple") ⟨o, ho, hc⟩ ?_)
    rw [if_pos (by first | decide | rfl | simp)]
    refine wpAny_bind (wpAny_seqItems ho hd (wpAny_pure ?_))
    show wpAny _ A.in1 (holding [Value.ref q.2.1, q.2.2] (dictSet S (Value.ref q.2.1) q.2.2)) _ _ _
    refine wpAny_holding (wpAny_dictSet_heap (knd := TKd prog w) (k := q.1) (s := { s with heap := h1 }) (by exact hu) hk1 hm1 (fun h2 hm2 hs2 => ?_) (by omega))
    refine wpAny_pure ⟨plainId_quiet ud_plain _, upd_loopT (items := items) hh hu hlI hSI hSl rest (i + 1) (storedH acc q.1 q.2.1 q.2.2) (ix + 1) 0 _ (show items.size = i + 1 + rest.length by omega) ?_ (fun j q' e => ?_) ?_ ?_ ?_ hm2 fun h' tk hd' k => ?_⟩
    · have z := storedH_len (acc := acc) (k := q.1) (b := q.2.1) (v := q.2.2)
      omega
    · obtain ⟨b', hb', hbS', hbI', hqS', hqI', htup', hk'⟩ := ht (j + 1) q' (by simpa using e)
      refine ⟨b', ?_, hbS', hbI', hqS', hqI', (htup'.extBut hs1.extBut hbI').extBut hs2.extBut hbS', itk_keep (itk_keep hk' fun o e => hs1.extBut _ o hqI' e) fun o e => hs2.extBut _ o hqS' e⟩
      rw [show i + 1 + j = i + (j + 1) by omega]
      exact hb'
    · intro x hx
      rcases storedH_adr x hx with h | h
      · exact hacc x h
      · rw [h]; exact ⟨hqS, hqI⟩
    · exact hit1.at fun o' e => hs2.extBut I o' (Ne.symm hSI) e
    · exact hl1.extBut hs2.extBut (Ne.symm hSl)
    · exact hR h' tk hd' fun c oc h3 h4 e => k c oc h3 h4 (hs2.extBut c oc h3 (hs1.extBut c oc h4 e))
theorem call_dict_pairsT {E : Value → Shared → Prop} {s : Shared} {l : Addr} {ol : Obj} {items : Array Value} {n : Nat} {prs : List (List Key × Addr × Value)} {Q : Value → Shared → Prop} (hh : A.handled = none) (hu : A.units + 2 < cLine) (hl : s.heap.get? l = some ol) (hc : ol.cls = .type "list") (hd : ol.dict = none)
    (hdat : ol.data = .seq items n) (hsz : items.size = prs.length) (hln : prs.length ≤ sizeLine)
    (ht : ∀ (j : Nat) (q : List Key × Addr × Value), prs[j]? = some q → ∃ (b : Addr), items[j]? = some (.ref b) ∧ IsTup s.heap b #[.ref q.2.1, q.2.2] ∧ (TKd prog w).is s.heap q.1 q.2.1)
    (h : ∀ h' tk, h'.DictOfH (TKd prog w) s.heap.objs.size (mergedH [] prs) → (∀ b o, s.heap.get? b = some o → h'.get? b = some o) → Q (.ref s.heap.objs.size) { s with heap := h', toks := tk }) :
    wpAny (model prog w) A (call (.type "dict") [.ref l]) Q E s := by
  refine callType_codes (Q₁ := fun obj s₁ => obj = .ref s.heap.objs.size ∧ s₁ = { s with heap := s.heap.push { cls := .type "dict", data := .dict #[] } }) PySem.F.kt_called_dict (PySem.F.kt_typeCall_dict_1 _) PySem.F.entry_dict_init (kt_code_dict_new _ ⟨rfl, rfl⟩) ?_
  rintro obj s₁ ⟨rfl, rfl⟩
  have hnew : (s.heap.push { cls := .type "dict", data := .dict #[] }).DictOfH (TKd prog w) s.heap.objs.size [] := Heap.DictOfH.new s.heap
  have k0 : ∀ b o, s.heap.get? b = some o → (s.heap.push { cls := .type "dict", data := .dict #[] }).get? b = some o := fun b o e => Heap.get?_push_of_some _ e
  refine ⟨hnew.typeIs, PySem.F.args_dict_init_2 _ _, ?_⟩
  unfold Builtin.«dict.__init__»
  refine wpAny_bind ?_
  unfold Builtin.Dict.selfAndRest
  refine wpAny_bind (wpAny_notOrdered_dict hnew.typeIs ?_)
  show wpAny _ _ (pure (s.heap.objs.size, [Value.ref l])) _ _ _
  refine wpAny_pure ?_
  show wpAny _ _ (Builtin.Dict.updateFrom "dict.__init__" s.heap.objs.size (.ref l) [] .none) _ _ _
  unfold Builtin.Dict.updateFrom
  refine wpAny_bind (wpAny_typeOf (T := "list") ⟨ol, k0 _ _ hl, hc⟩ ?_)
  rw [if_pos (by first | decide | rfl | simp)]
  refine wpAny_bind (miss_list (k0 _ _ hl) hc hdat hd hh fun h1 tk1 hk1 => ?_)
  rw [if_pos (show (none : Option Value).isNone = true from rfl)]
  refine wpAny_bind (wpAny_rule ?_)
  have hl1 : h1.IsList l items := ⟨ol, hk1 _ _ (k0 _ _ hl), hc, n, hdat⟩
  have hS1 : s.heap.objs.size < h1.objs.size := by
    have e : (s.heap.push { cls := .type "dict", data := .dict #[] }).get? s.heap.objs.size = some { cls := .type "dict", data := .dict #[] } := Heap.get?_push_size _ rfl
    exact Heap.lt_size (hk1 _ _ e)
  refine wpAny_bind (wpAny_pyIter_list hl1 ?_)
  have k2 : ∀ b o, h1.get? b = some o → (h1.push { cls := .type "list_iterator", data := .fields #[.ref l, .int 0 0] }).get? b = some o := fun b o e => Heap.get?_push_of_some _ e
  have hlt : l < s.heap.objs.size := Heap.lt_size hl
  have key := upd_loopT (prog := prog) (w := w) (A := A.in1) (R := wants (fun r s₂ => r = .none ∧ Q (.ref s.heap.objs.size) s₂) E) (S := s.heap.objs.size) (I := h1.objs.size) (l := l) (items := items) (res := Value.none) hh (by exact hu)
    (Nat.ne_of_lt (Nat.lt_trans hlt hS1)) (Nat.ne_of_lt hS1) (Nat.ne_of_gt hlt) prs 0 [] 0 0
    { s with heap := h1.push { cls := .type "list_iterator", data := .fields #[.ref l, .int 0 0] }, toks := tk1 } (by rw [hsz, Nat.zero_add]) (by rw [List.length_nil, Nat.zero_add]; exact hln)
    (fun j q e => by
      obtain ⟨b, e1, e2, e3⟩ := ht j q e
      have hb : b < s.heap.objs.size := e2.lt
      have hq : q.2.1 < s.heap.objs.size := let ⟨_, _, _, e, _⟩ := e3; Heap.lt_size e
      exact ⟨b, by rw [Nat.zero_add]; exact e1, Nat.ne_of_lt hb, Nat.ne_of_lt (Nat.lt_trans hb hS1), Nat.ne_of_lt hq, Nat.ne_of_lt (Nat.lt_trans hq hS1), e2.keeps fun c o z => k2 _ _ (hk1 _ _ (k0 _ _ z)), itk_keep e3 fun o z => k2 _ _ (hk1 _ _ (k0 _ _ z))⟩)
    (fun x hx => by simp at hx)
    ⟨_, Heap.get?_push_size _ rfl, rfl, rfl⟩ (hl1.at fun o e => k2 _ _ e) (dictH_keep (dictH_keep hnew fun c o _ e => hk1 _ _ e) fun c o _ e => k2 _ _ e)
    (fun h' tk hd' k => ⟨rfl, h h' tk hd' fun b o e => k b o (Nat.ne_of_lt (Heap.lt_size e)) (Nat.ne_of_lt (Nat.lt_trans (Heap.lt_size e) hS1)) (k2 _ _ (hk1 _ _ (k0 _ _ e)))⟩)
  first
    | exact wpAny_pure ⟨plainId_quiet ud_plain _, key⟩
    | exact wpAny_bind (wpAny_pure (wpAny_pure ⟨plainId_quiet ud_plain _, key⟩))
end
def mergeT (kvs more : List (List Key × V)) : List (List Key × V) := more.foldl (fun acc kv => putK acc kv.1 kv.2) kvs
theorem KT.merge {H : Hp} : ∀ {more : List (List Key × V)} {rs : List (List Key × Addr × Value)} {kvs : List (List Key × V)} {vs : List (List Key × Addr × Value)}, KT H more rs → KT H kvs vs → KT H (mergeT kvs more) (mergedH vs rs) := by
  intro more rs kvs vs r
  unfold KT at r
  induction r generalizing kvs vs with
  | nil => intro q; exact q
  | @cons p q ps qs h t ih =>
    intro r0
    have e : KT H (putK kvs p.1 p.2) (storedH vs q.1 q.2.1 q.2.2) := by
      have := KT.put r0 p.1 h.2.1 h.2.2
      rw [← h.1]
      exact this
    exact ih e
theorem length_mergeT : ∀ (more kvs : List (List Key × V)), (mergeT kvs more).length ≤ kvs.length + more.length
  | [], kvs => by show kvs.length ≤ kvs.length + 0; omega
  | p :: r, kvs => by
    have h1 := length_mergeT r (putK kvs p.1 p.2)
    have h2 := length_putK kvs p.1 p.2
    show (mergeT (putK kvs p.1 p.2) r).length ≤ _
    rw [List.length_cons]; omega
/-- a row of pairs whose first is a tuple -/
structure PrT (K : PySem.W.Frag) (H : Hp) (p : Addr) (kv : List Key × V) : Prop where
  ex : ∃ b, SqT K H p [.ref b, kv.2] ∧ H b = some (.tup (kv.1.map kV))
theorem pairs_ofT {X : Cx} {pins : List (Addr × Obj)} {σ : L2.St} {H : Hp} {s : Shared} (I : Inv X pins σ H s) : ∀ {ps : List Addr} {kvs : List (List Key × V)}, Paired (PrT X.K H) ps kvs →
    ∃ prs : List (List Key × Addr × Value), KT H kvs prs ∧ prs.length = ps.length ∧ ∀ (j : Nat) (q : List Key × Addr × Value), prs[j]? = some q → ∃ (b : Addr), ps[j]? = some b ∧ IsTup s.heap b #[.ref q.2.1, q.2.2] ∧ (TKd X.prog X.w).is s.heap q.1 q.2.1
  | _, _, .nil => ⟨[], .nil, rfl, fun j q e => by simp at e⟩
  | _, _, .cons (a := p) (b := kv) h t => by
    obtain ⟨prs, r, hl, hp⟩ := pairs_ofT I t
    obtain ⟨kb, h1, h2⟩ := h.ex
    obtain ⟨its, rv, ht, _⟩ := I.tuple h1
    obtain ⟨u, y, ei, ru, ry⟩ := vals2 rv
    subst ei
    obtain rfl : u = Value.ref kb := ru
    refine ⟨(kv.1, kb, y) :: prs, .cons ⟨rfl, h2, ry⟩ r, by rw [List.length_cons, List.length_cons, hl], fun j q e => ?_⟩
    cases j with
    | zero =>
      have e' : (kv.1, kb, y) = q := Option.some.inj e
      subst e'
      exact ⟨p, rfl, ht, key_of I.hok h2⟩
    | succ j =>
      obtain ⟨b, e1, e2, e3⟩ := hp j q (by simpa using e)
      exact ⟨b, by simpa using e1, e2, e3⟩
def rDictPT (K : PySem.W.Frag) : List V → Hp → VK → Prop := fun xs H Q => ∃ (a : Addr) (ps : List Addr) (kvs : List (List Key × V)), xs = [.ref a] ∧ SqL K H a (ps.map V.ref) ∧ Paired (PrT K H) ps kvs ∧ ∀ p, H p = none → Q (.ref p) (upd H p (.dT (mergeT [] kvs)))
theorem call_dictPT {X : Cx} {K : PySem.W.Frag} (hK : X.K = K) (hcalm : X.calm = true) (hu : X.A.units + 2 < cLine) : CallR X (.type "dict") (rDictPT K) := by
  subst hK
  intro pins s σ H xs us Q I r q
  obtain ⟨a, ps, kvs, ex, hq, hp, q⟩ := q
  subst ex
  obtain ⟨u, eu, rx⟩ := vals1 r
  subst eu
  cases rx
  obtain ⟨its, rv, pl, hz⟩ := I.list hq
  have ei := refs_at rv
  subst ei
  rw [List.length_map] at hz
  obtain ⟨prs, rel, hl, hpr⟩ := pairs_ofT I hp
  obtain ⟨o, n, ho, hc, hd, hdat⟩ := pl
  refine call_dict_pairsT (prs := prs) (I.ok.hd hcalm) hu ho hc hd hdat (by simp [hl]) (by rw [hl]; exact hz) (fun j q' e => ?_) fun h' tk hd' k => ?_
  · obtain ⟨b, e1, e2, e3⟩ := hpr j q' e
    exact ⟨b, by simp [e1], e2, e3⟩
  · have hm : (s.heap.objs.size == sysModules) = false := beq_eq_false_iff_ne.mpr (Nat.ne_of_gt I.big)
    have hlen : (mergeT [] kvs).length ≤ sizeLine := by
      refine Nat.le_trans (length_mergeT kvs []) ?_
      rw [List.length_nil, Nat.zero_add, Paired.length rel, hl]
      exact hz
    obtain ⟨q', es, ep, hq', h2, h3, h4, _, h5⟩ := hd'
    have hf := I.hok.fresh (Nat.le_refl s.heap.objs.size)
    refine ⟨.ref s.heap.objs.size, upd H s.heap.objs.size (.dT (mergeT [] kvs)), I.laid (t' := tk) k (Nat.le_refl _) ⟨hlen, hm, mergedH [] prs, ?_, q', es, ep, hq', h2, h3, h4, h5⟩, rfl, q _ hf⟩
    have kt : KT (upd H s.heap.objs.size (.dT (mergeT [] kvs))) kvs prs := rel.keeps fun c ys ec => by
      rw [upd_ne fun z => ?_]
      · exact ec
      · rw [z, hf] at ec
        cases ec
    exact KT.merge kt .nil
/-! ### sorted(d), d's keys tuples -/
def kD : Key → PyData
  | .inl i => .int i
  | .inr x => .str x
def keyD (k : List Key) : PyData := .tuple (k.map kD)
theorem readsAll_nil {h : Heap} : ∀ {ks : List Key} {vs : List Value} {as : List Addr}, ReadsAll h vs (ks.map kD) as → as = []
  | [], _, _, r => by
    have r' : ReadsAll h _ [] _ := r
    cases r'
    rfl
  | k :: ks, _, _, r => by
    have r' : ReadsAll h _ (kD k :: ks.map kD) _ := r
    cases r' with
    | cons h1 h2 =>
      have e2 := readsAll_nil h2
      subst e2
      cases k with
      | inl i =>
        have h1' : Reads h _ (.int i) _ := h1
        cases h1'
        rfl
      | inr x =>
        have h1' : Reads h _ (.str x) _ := h1
        cases h1'
        rfl
theorem reads_nil {h : Heap} {k : List Key} {v : Value} {as : List Addr} (r : Reads h v (keyD k) as) : as = [] := by
  have r' : Reads h v (.tuple (k.map kD)) as := r
  cases r' with
  | tuple h1 h2 h3 h4 => exact readsAll_nil h4
theorem dpAll_keys {K : PySem.W.Frag} {H : Hp} : ∀ {k : List Key}, DpAll K H (k.map kV) (k.map kD)
  | [] => .nil
  | .inl i :: k => .cons (.int i) dpAll_keys
  | .inr x :: k => .cons (.str x) dpAll_keys
theorem dp_key {K : PySem.W.Frag} {H : Hp} {k : List Key} {b : Addr} (h : H b = some (.tup (k.map kV))) : Dp K H (.ref b) (keyD k) := .tup (SqT.of h) dpAll_keys
theorem depthAll_keys : ∀ {k : List Key}, PyData.depthAll (k.map kD) = 0
  | [] => by simp [PyData.depthAll]
  | .inl i :: k => by
    show PyData.depthAll (.int i :: k.map kD) = 0
    rw [PyData.depthAll, depthAll_keys]
    simp [PyData.depth]
  | .inr x :: k => by
    show PyData.depthAll (.str x :: k.map kD) = 0
    rw [PyData.depthAll, depthAll_keys]
    simp [PyData.depth]
theorem depth_key {k : List Key} : (keyD k).depth ≤ 1 := by
  show PyData.depth (.tuple (k.map kD)) ≤ 1
  simp only [PyData.depth, depthAll_keys]
  omega
def keyRows (bs : List Addr) (ks : List (List Key)) : List (V × PyData) := (bs.zip ks).map fun z => (V.ref z.1, keyD z.2)
def rSortedDT : List V → Hp → VK → Prop := fun xs H Q => ∃ (a : Addr) (kvs : List (List Key × V)), xs = [.ref a] ∧ Rd H a (.dT kvs) ∧ PySem.W.AllAlike (kvs.map fun kv => keyD kv.1) ∧ PySem.W.Sortable (kvs.map fun kv => keyD kv.1) ∧
  ∀ (bs : List Addr) (p : Addr), bs.length = kvs.length → (∀ (i : Nat) (b : Addr) (kv : List Key × V), bs[i]? = some b → kvs[i]? = some kv → H b = some (.tup (kv.1.map kV))) → H p = none → Q (.ref p) (upd H p (.lst (sortedV (keyRows bs (kvs.map (·.1))))))
theorem paired_at {α β : Type} {R : α → β → Prop} {xs : List α} {ys : List β} (h : Paired R xs ys) : ∀ {i : Nat} {x : α} {y : β}, xs[i]? = some x → ys[i]? = some y → R x y := by
  induction h with
  | nil => intro i x y e; simp at e
  | cons h t ih =>
    intro i x y e1 e2
    cases i with
    | zero =>
      cases e1
      cases e2
      exact h
    | succ i => exact ih (by simpa using e1) (by simpa using e2)
theorem each_keys {H : Hp} {X : Cx} {pins : List (Addr × Obj)} {σ : L2.St} {s : Shared} (I : Inv X pins σ H s) : ∀ {xs : List (List Key × Addr × Value)}, (∀ x ∈ xs, H x.2.1 = some (.tup (x.1.map kV))) →
    PySem.W.EachIs (fun (u : Value) (q : V × PyData) => L2.RelV q.1 u) (xs.map fun x => Value.ref x.2.1) (keyRows (xs.map (·.2.1)) (xs.map (·.1))) ∧ PySem.W.EachIs (fun (u : Value) (q : V × PyData) => Reads s.heap u q.2 []) (xs.map fun x => Value.ref x.2.1) (keyRows (xs.map (·.2.1)) (xs.map (·.1)))
  | [], _ => ⟨.nil, .nil⟩
  | x :: xs, h => by
    obtain ⟨h1, h2⟩ := each_keys I (xs := xs) fun y hy => h y (List.mem_cons_of_mem _ hy)
    obtain ⟨as, r⟩ := Dp.reads I (keyD x.1) (.ref x.2.1) (Value.ref x.2.1) (dp_key (K := X.K) (h x List.mem_cons_self)) rfl
    have e := reads_nil r
    subst e
    exact ⟨.cons rfl h1, .cons r h2⟩
theorem cr_sortedDT {X : Cx} (hcalm : X.calm = true) (hu : X.A.units + 64 < cLine) : CallR X (.builtin "sorted") rSortedDT := by
  intro pins s σ H xs us Q I r q
  obtain ⟨a, kvs, ex, hd, hal, hso, q⟩ := q
  subst ex
  obtain ⟨u, eu, rx⟩ := vals1 r
  subst eu
  cases rx
  obtain ⟨z, hs, ks, pr, o, es, ep, ho, hx, hdt, he, hn⟩ := (show ObjOk X.prog X.w H s.heap a (.dT kvs) from hd.ok I.hok)
  have l1 : es.size = ks.length := size_of_entries he
  have l2 : kvs.length = ks.length := Paired.length pr
  refine Calls.call_function_entry PyProof.Rows.kind_sorted PyProof.Rows.plain_sorted PyProof.Rows.entry_sorted (PyProof.Rows.args_sorted1 _) ?_
  unfold Builtin.«sorted»
  refine wpAny_bind (m := checkCount "sorted" 1 1 _) (wpAny_pure ?_)
  refine wpAny_bind (PySem.W.kdu_collect (A := X.A.in1) (kdl_raw hs hx hdt) (I.ok.hd hcalm) ho (by omega) fun h' tk acc hk hacc => ?_)
  have ea : acc.toList = ks.map fun x => Value.ref x.2.1 := by
    have hl : acc.toList.length = ks.length := by rw [Array.length_toList, hacc.1]; exact l1
    apply List.ext_getElem?
    intro j
    rw [List.getElem?_map]
    cases hj : acc.toList[j]? with
    | none =>
      have h1 := List.getElem?_eq_none_iff.mp hj
      rw [List.getElem?_eq_none (by omega)]
      all_goals rfl
    | some v =>
      obtain ⟨en, hen, hv⟩ := hacc.2 j v (by rw [← Array.getElem?_toList]; exact hj)
      have qe := entry_at he j
      rw [hen] at qe
      cases hb : ks[j]? with
      | none =>
        rw [hb] at qe
        exact nomatch (show some en = none from qe)
      | some b =>
        rw [hb] at qe
        have e2 : en = entryOfKey (tupleKind (mixKind X.prog X.w)) b := Option.some.inj qe
        rw [hv, e2]
        all_goals rfl
  have I1 : Inv X pins σ H { s with heap := h', toks := tk } := I.kept hk
  have e1m : kvs.map (·.1) = ks.map (·.1) := by
    apply List.ext_getElem?
    intro j
    rw [List.getElem?_map, List.getElem?_map]
    cases hj : kvs[j]? with
    | none =>
      have h1 := List.getElem?_eq_none_iff.mp hj
      rw [List.getElem?_eq_none (by omega : ks.length ≤ j)]
      all_goals rfl
    | some p =>
      have hjl := (List.getElem?_eq_some_iff.mp hj).1
      have hb : ks[j]? = some (ks[j]'(by omega)) := List.getElem?_eq_getElem _
      rw [hb]
      exact congrArg some (paired_at pr hj hb).1
  have hks : ∀ x ∈ ks, H x.2.1 = some (.tup (x.1.map kV)) := fun x hx => by
    obtain ⟨j, hj⟩ := List.mem_iff_getElem?.mp hx
    have hjl := (List.getElem?_eq_some_iff.mp hj).1
    have hb : kvs[j]? = some (kvs[j]'(by omega)) := List.getElem?_eq_getElem _
    have := paired_at pr hb hj
    rw [← this.1]
    exact this.2.1
  obtain ⟨c1, c2⟩ := each_keys I1 hks
  rw [← ea] at c1 c2
  have hal1 : acc.toList.length = ks.length := by rw [ea, List.length_map]
  have hpl : (keyRows (ks.map (·.2.1)) (ks.map (·.1))).length = ks.length := by
    unfold keyRows
    rw [List.length_map, List.length_zip, List.length_map, List.length_map]
    omega
  have hsnd : (keyRows (ks.map (·.2.1)) (ks.map (·.1))).map (·.2) = kvs.map fun kv => keyD kv.1 := by
    have : (kvs.map fun kv => keyD kv.1) = (ks.map (·.1)).map keyD := by rw [← e1m, List.map_map]; rfl
    rw [this]
    unfold keyRows
    rw [List.map_map]
    have e2 : ((fun x : V × PyData => x.2) ∘ fun z : Addr × List Key => (V.ref z.1, keyD z.2)) = keyD ∘ Prod.snd := rfl
    rw [e2, ← List.map_map, List.map_snd_zip (by rw [List.length_map, List.length_map]; exact Nat.le_refl _)]
  have hz2 : ks.length ≤ sizeLine := by omega
  refine wpAny_bind (wpAny_newList ?_ (by rw [hal1]; exact hz2))
  have hoL : (h'.push (seqObj "list" acc.toList.toArray 0)).get? h'.objs.size = some (seqObj "list" acc.toList.toArray 0) := Heap.get?_push_size _ rfl
  have kp : ∀ b o, h'.get? b = some o → (h'.push (seqObj "list" acc.toList.toArray 0)).get? b = some o := fun b o e => Heap.get?_push_of_some _ e
  show wpAny _ _ _ _ _ { s with heap := h'.push (seqObj "list" acc.toList.toArray 0), toks := tk }
  refine wpAny_bind (wpAny_holding ?_)
  refine PySem.W.list_sort_data (s := { s with heap := h'.push (seqObj "list" acc.toList.toArray 0), toks := tk }) (enc := fun z : V × PyData => z.2) hoL c1 (c2.mono fun u z r => ⟨[], PyProof.Rows.Reads.keeps kp r, by simp⟩) (by rw [hsnd]; exact hal) (by rw [hsnd]; exact hso) (by rw [hpl]; exact hz2) (fun b hb => ?_) fun out hol eo => ?_
  · obtain ⟨y, hy, rfl⟩ := List.mem_map.mp hb
    have := depth_key (k := y.2)
    have hu' : X.A.in1.units = X.A.units + 1 := rfl
    show X.A.in1.units + 1 + (keyD y.2).depth < cLine
    omega
  · obtain ⟨n', hn'⟩ := PyProof.Rows.sortedHeap_at (vs := acc.toList) (out := out.toArray) hoL
    have hv : Vals (sortedV (keyRows (ks.map (·.2.1)) (ks.map (·.1)))) out := vals_each eo
    have hlen : (sortedV (keyRows (ks.map (·.2.1)) (ks.map (·.1)))).length ≤ sizeLine := by
      rw [hv.length, hol, hpl]
      exact hz2
    refine wpAny_pure ⟨_, rfl, .ref h'.objs.size, upd H h'.objs.size (.lst (sortedV (keyRows (ks.map (·.2.1)) (ks.map (·.1))))), I1.laid (t' := tk) (fun b u e => ?_) (Nat.le_refl _) ⟨hlen, out, n', hv, hn'⟩, rfl, ?_⟩
    · have hb : b < h'.objs.size := Heap.lt_size e
      rw [PyProof.Rows.sortedHeap_old (Nat.ne_of_lt hb) (by rw [size_push']; exact Nat.lt_succ_of_lt hb)]
      exact Heap.get?_push_of_some _ e
    · rw [← e1m]
      refine q (ks.map (·.2.1)) _ (by rw [List.length_map]; omega) (fun i b kv h1 h2 => ?_) (I1.hok.fresh (Nat.le_refl _))
      obtain ⟨x, hx, rfl⟩ := map_getG h1
      have := paired_at pr h2 hx
      exact this.2.1
theorem call_sortedDTK {X : Cx} (hcalm : X.calm = true) (hu : X.A.units + 64 < cLine) : CallR X (.builtin "sorted") rSortedDT := cr_sortedDT hcalm hu
theorem call_dictPTK {X : Cx} {K : PySem.W.Frag} (hK : X.K = K) (hcalm : X.calm = true) (hu : X.A.units + 64 < cLine) : CallR X (.type "dict") (rDictPT K) := call_dictPT hK hcalm (by omega)
section
variable [Lw] {K : PySem.W.Frag} {B H H1 H2 : Hp} {S S' N N' M T : List Ck} {a b p d : Addr} {o o' u : HO} {xs ys : List V} {Q : VK} {σ : L2.St} {v y z : V}
theorem f_dnewT (h : NewP (.dT []) Q H) : tDNewT σ H Q := h
theorem f_dgetT {kvs : List (List Key × V)} {k : List Key} {r : Option V} (h1 : Rd H d (.dT kvs)) (hb : H b = some (.tup (k.map kV))) (h2 : valV kvs k = r) : DGet H d (.ref b) r := .inr ⟨kvs, k, b, h1, rfl, hb, h2.symm⟩
theorem f_dputT {kvs kvs' : List (List Key × V)} {k : List Key} {Nx : Hp → Prop} (F : Fp B S N H) (R : Re S N d (.dT kvs) (.dT kvs') S' N') (hb : H b = some (.tup (k.map kV))) (hl : kvs.length < sizeLine) (hp : putK kvs k v = kvs') (h : ∀ H', Fp B S' N' H' → Nx H') : DPutP (.ref b) v Nx (.ref d) H := by
  subst hp
  exact ⟨d, _, rfl, DPut.t (F.got R) hb hl, h _ (F.re R rfl rfl)⟩
/-- two rows of new things joined -/
theorem Fp.catL {as bs : List Addr} {os us : List HO} (L : List Ck) (hl : bs.length = us.length) (hl2 : as.length = os.length) (F : Fp B S ((bs, us) :: (L ++ (as, os) :: N)) H) : Fp B S (L ++ (as ++ bs, os ++ us) :: N) H := F.permN (by
  rw [fl_app, fl_cons, fl_cons, fl_app, fl_cons]
  show (fl L ++ ((as ++ bs).zip (os ++ us) ++ fl N)).Perm (bs.zip us ++ (fl L ++ (as.zip os ++ fl N)))
  rw [List.zip_append hl2]
  refine List.Perm.trans ?_ (List.perm_append_comm (l₁ := fl L ++ (as.zip os ++ fl N)) (l₂ := bs.zip us))
  rw [List.append_assoc (fl L), List.append_assoc (as.zip os), List.append_assoc (as.zip os)]
  exact List.Perm.append_left _ (List.Perm.append_left _ List.perm_append_comm))
def DG2P (ty tx : TE) (σ : L2.St) (Q : VK) (x : V) (H1 : Hp) : Prop := ∃ a, x = .ref a ∧ IsD H1 a ∧ ty σ H1 fun y H2 => tx σ H2 fun z H3 => ∃ o, DGet H3 a y o ∧ Q (o.getD z) H3
theorem f_dget2E {td ty tx : TE} (h : td σ H (DG2P ty tx σ Q)) : tDGet2 td ty tx σ H Q := h
theorem f_dget2T {ty tx : TE} {kvs : List (List Key × V)} (h1 : H a = some (.dT kvs)) (h : ty σ H fun y H2 => tx σ H2 fun z H3 => ∃ o, DGet H3 a y o ∧ Q (o.getD z) H3) : DG2P ty tx σ Q (.ref a) H := ⟨a, rfl, .inr ⟨kvs, .inl h1⟩, h⟩
theorem f_dget2K {ty tx : TE} {kvs : List (Key × V)} (h1 : H a = some (.dK kvs)) (h : ty σ H fun y H2 => tx σ H2 fun z H3 => ∃ o, DGet H3 a y o ∧ Q (o.getD z) H3) : DG2P ty tx σ Q (.ref a) H := ⟨a, rfl, .inl ⟨kvs, .inl h1⟩, h⟩
theorem Fp.eqN {as : List Addr} {os os' : List HO} (F : Fp B S ((as, os) :: N) H) (e : os = os') : Fp B S ((as, os') :: N) H := by
  rw [← e]
  exact F
theorem eqv_ss {a b c e : Str} : PyData.eqv (.tuple [.str a, .str b]) (.tuple [.str c, .str e]) = decide (a = c ∧ b = e) := by
  have e1 : PyData.eqv (.tuple [.str a, .str b]) (.tuple [.str c, .str e]) = (PyData.eqv (.str a) (.str c) && (PyData.eqv (.str b) (.str e) && true)) := rfl
  rw [e1]
  simp only [PyData.eqv, Bool.and_true]
  by_cases h1 : a = c
  · by_cases h2 : b = e
    · simp [h1, h2]
    · simp [h1, h2]
  · simp [h1]
theorem atI_last {α : Type} {xs : List α} {x : α} (h : xs.getLast? = some x) : atI xs (-1) = some x := by
  have hne : xs ≠ [] := fun z => by rw [z] at h; cases h
  have hlen : 0 < xs.length := List.length_pos_iff.mpr hne
  have e : ixN xs.length (-1) = some (xs.length - 1) := by
    unfold ixN
    rw [if_neg (by decide), if_pos (by omega)]
    exact congrArg some (by omega)
  unfold atI
  rw [e]
  show xs[xs.length - 1]? = some x
  rw [← List.getLast?_eq_getElem?]
  exact h
end
/-! ### dicts whose keys are pairs of texts -/
abbrev kk (p : Str × Str) : List Key := [.inr p.1, .inr p.2]
def kvT (g : Str × Str → V) (ks : List (Str × Str)) : List (List Key × V) := ks.map fun p => (kk p, g p)
theorem kk_inj {p q : Str × Str} (h : kk p = kk q) : p = q := by
  injection h with h1 h2
  injection h2 with h2 _
  injection h1 with h1
  injection h2 with h2
  exact Prod.ext h1 h2
theorem valV_kvT {g : Str × Str → V} {q : Str × Str} : ∀ {ks : List (Str × Str)}, valV (kvT g ks) (kk q) = if q ∈ ks then some (g q) else none
  | [] => by rw [if_neg (by simp)]; rfl
  | p :: ks => by
    have ih := valV_kvT (g := g) (q := q) (ks := ks)
    unfold valV kvT at ih ⊢
    rw [List.map_cons]
    by_cases h : p = q
    · subst h
      rw [List.find?_cons_of_pos (by simp), if_pos List.mem_cons_self]
      rfl
    · rw [List.find?_cons_of_neg (by simp only [decide_eq_true_eq]; exact fun z => h (kk_inj z)), ih]
      by_cases h2 : q ∈ ks
      · rw [if_pos h2, if_pos (List.mem_cons_of_mem _ h2)]
      · rw [if_neg h2, if_neg fun z => by rcases List.mem_cons.mp z with z | z; (· exact h z.symm); (· exact h2 z)]
theorem putK_kvT {g : Str × Str → V} {q : Str × Str} {v : V} {ks : List (Str × Str)} : putK (kvT g ks) (kk q) v = if q ∈ ks then kvT (fun p => if p = q then v else g p) ks else kvT g ks ++ [(kk q, v)] := by
  unfold putK
  have e : ((kvT g ks).any fun kv => decide (kv.1 = kk q)) = decide (q ∈ ks) := by
    unfold kvT
    rw [List.any_map]
    by_cases h : q ∈ ks
    · rw [decide_eq_true h, List.any_eq_true]
      exact ⟨q, h, by simp⟩
    · rw [decide_eq_false h, List.any_eq_false]
      intro p hp z
      have z' : kk p = kk q := by simpa using z
      exact h (kk_inj z' ▸ hp)
  rw [e]
  by_cases h : q ∈ ks
  · rw [decide_eq_true h, if_pos rfl, if_pos h]
    unfold kvT
    rw [List.map_map]
    refine List.map_congr_left fun p _ => ?_
    show (if kk p = kk q then (kk p, v) else (kk p, g p)) = (kk p, if p = q then v else g p)
    by_cases h2 : p = q
    · rw [if_pos (by rw [h2]), if_pos h2]
    · rw [if_neg fun z => h2 (kk_inj z), if_neg h2]
  · rw [decide_eq_false h, if_neg Bool.false_ne_true, if_neg h]
theorem kvT_keys {g : Str × Str → V} {ks : List (Str × Str)} : (kvT g ks).map (·.1) = ks.map kk := by
  unfold kvT
  rw [List.map_map]
  rfl
theorem kvT_congr {g g' : Str × Str → V} {ks : List (Str × Str)} (h : ∀ p ∈ ks, g p = g' p) : kvT g ks = kvT g' ks := List.map_congr_left fun p hp => by rw [h p hp]
abbrev datP (p : Str × Str) : PyData := .tuple [.str p.1, .str p.2]
theorem keyD_kk {p : Str × Str} : keyD (kk p) = datP p := rfl
def sortP (ks : List (Str × Str)) : List (Str × Str) := ks.mergeSort (PySem.W.dataLe false datP)
theorem sortP_mem {ks : List (Str × Str)} {p : Str × Str} : p ∈ sortP ks ↔ p ∈ ks := (List.mergeSort_perm _ _).mem_iff
theorem sortP_len {ks : List (Str × Str)} : (sortP ks).length = ks.length := (List.mergeSort_perm _ _).length_eq
theorem kvT_al {g : Str × Str → V} {ks : List (Str × Str)} : PySem.W.AllAlike ((kvT g ks).map fun kv => keyD kv.1) := by
  intro d hd d' hd'
  obtain ⟨x, hx, rfl⟩ := List.mem_map.mp hd
  obtain ⟨y, hy, rfl⟩ := List.mem_map.mp hd'
  obtain ⟨p, _, rfl⟩ := List.mem_map.mp hx
  obtain ⟨q, _, rfl⟩ := List.mem_map.mp hy
  rfl
theorem kvT_so {g : Str × Str → V} {ks : List (Str × Str)} : PySem.W.Sortable ((kvT g ks).map fun kv => keyD kv.1) := by
  refine .inl fun d hd => ?_
  obtain ⟨x, hx, rfl⟩ := List.mem_map.mp hd
  obtain ⟨p, _, rfl⟩ := List.mem_map.mp hx
  exact ⟨_, _, rfl⟩
theorem keyRows_sorted {H : Hp} {bs : List Addr} {ks : List (Str × Str)} (hl : bs.length = ks.length) (hh : ∀ (i : Nat) (b : Addr) (p : Str × Str), bs[i]? = some b → ks[i]? = some p → H b = some (.tup [.str p.1, .str p.2])) :
    ∃ cs : List Addr, sortedV (keyRows bs (ks.map kk)) = cs.map V.ref ∧ cs.length = (sortP ks).length ∧ ∀ (i : Nat) (b : Addr) (p : Str × Str), cs[i]? = some b → (sortP ks)[i]? = some p → H b = some (.tup [.str p.1, .str p.2]) := by
  have e0 : keyRows bs (ks.map kk) = (bs.zip ks).map fun z => (V.ref z.1, datP z.2) := by
    unfold keyRows
    rw [List.zip_map_right, List.map_map]
    rfl
  have e1 : (keyRows bs (ks.map kk)).mergeSort (PySem.W.dataLe false fun q : V × PyData => q.2) = ((bs.zip ks).mergeSort (PySem.W.dataLe false fun z : Addr × (Str × Str) => datP z.2)).map fun z => (V.ref z.1, datP z.2) := by
    rw [e0]
    exact (List.map_mergeSort (f := fun z : Addr × (Str × Str) => (V.ref z.1, datP z.2)) (r := PySem.W.dataLe false fun z : Addr × (Str × Str) => datP z.2) (s := PySem.W.dataLe false fun q : V × PyData => q.2) (fun a _ b _ => rfl)).symm
  have e2 : ((bs.zip ks).mergeSort (PySem.W.dataLe false fun z : Addr × (Str × Str) => datP z.2)).map (·.2) = sortP ks := by
    rw [List.map_mergeSort (f := fun z : Addr × (Str × Str) => z.2) (r := PySem.W.dataLe false fun z : Addr × (Str × Str) => datP z.2) (s := PySem.W.dataLe false datP) (fun a _ b _ => rfl), List.map_snd_zip (by omega)]
    rfl
  refine ⟨((bs.zip ks).mergeSort (PySem.W.dataLe false fun z : Addr × (Str × Str) => datP z.2)).map (·.1), ?_, ?_, fun i b p h1 h2 => ?_⟩
  · unfold sortedV
    rw [e1, List.map_map, List.map_map]
    rfl
  · rw [← e2, List.length_map, List.length_map]
  · rw [← e2] at h2
    obtain ⟨z, hz, rfl⟩ := map_getG h1
    obtain ⟨z', hz', rfl⟩ := map_getG h2
    rw [hz] at hz'
    obtain rfl := Option.some.inj hz'
    have hm : z ∈ bs.zip ks := (List.mergeSort_perm _ _).mem_iff.mp (get_mem hz)
    obtain ⟨j, hj⟩ := List.mem_iff_getElem?.mp hm
    rw [List.getElem?_zip_eq_some] at hj
    exact hh j _ _ hj.1 hj.2
section
variable [Lw] {K : PySem.W.Frag} {H : Hp} {Q : VK} {a : Addr}
theorem f_sortedDT {g : Str × Str → V} {ks : List (Str × Str)} (h1 : Rd H a (.dT (kvT g ks))) (h : ∀ cs : List Addr, cs.length = (sortP ks).length → (∀ (i : Nat) (b : Addr) (p : Str × Str), cs[i]? = some b → (sortP ks)[i]? = some p → H b = some (.tup [.str p.1, .str p.2])) → NewP (.lst (cs.map V.ref)) Q H) : rSortedDT [V.ref a] H Q := by
  refine ⟨a, kvT g ks, rfl, h1, kvT_al, kvT_so, fun bs p hl hh hp => ?_⟩
  rw [kvT_keys]
  obtain ⟨cs, e1, e2, e3⟩ := keyRows_sorted (H := H) (bs := bs) (ks := ks) (by rw [hl]; exact List.length_map ..) fun i b q h1 h2 => hh i b (kk q, g q) h1 (map_get_some (g := fun p => (kk p, g p)) h2)
  rw [e1]
  exact h cs e2 e3 p hp
end
/-! ### f-strings -/
section
variable {σ : L2.St} {H : Hp} {Q : VK} {te t : TE} {ts : List TE} {acc y : Str} {QS : Str → Hp → Prop}
def JsP (ts : List TE) (acc : Str) (σ : L2.St) (QS : Str → Hp → Prop) (x : V) (H1 : Hp) : Prop := ∃ y : Str, x = .str y ∧ (acc ++ y).length ≤ sizeLine ∧ tJs ts (acc ++ y) σ H1 QS
theorem s_js (h : t σ H (JsP ts acc σ QS)) : tJs (t :: ts) acc σ H QS := h
theorem s_js0 (h : QS acc H) : tJs [] acc σ H QS := h
theorem s_js2 (hl : (acc ++ y).length ≤ sizeLine) (h : tJs ts (acc ++ y) σ H QS) : JsP ts acc σ QS (.str y) H := ⟨y, rfl, hl, h⟩
def FmP (Q : VK) (x : V) (H1 : Hp) : Prop := (∃ y : Str, x = .str y ∧ y.length ≤ sizeLine ∧ Q (.str y) H1) ∨ ∃ i : Int, x = .int i ∧ i.natAbs.log2 < 1920 ∧ Q (.str (Str.ofString (toString i))) H1
theorem s_fm (h : te σ H (FmP Q)) : tFmt te σ H Q := h
theorem s_fmS (hl : y.length ≤ sizeLine) (h : Q (.str y) H) : FmP Q (.str y) H := .inl ⟨y, rfl, hl, h⟩
theorem s_fmI {i : Int} (hl : i.natAbs.log2 < 1920) (h : Q (.str (Str.ofString (toString i))) H) : FmP Q (.int i) H := .inr ⟨i, rfl, hl, h⟩
theorem log_small {i : Int} (h : i.natAbs ≤ 1900) : i.natAbs.log2 < 1920 := Nat.lt_of_le_of_lt (Nat.log2_le_self _) (by omega)
end
theorem len_app {a b : Str} {m n : Nat} (h1 : a.length ≤ m) (h2 : b.length ≤ n) : (a ++ b).length ≤ m + n := by
  rw [PySem.Str.length_append]
  exact Nat.add_le_add h1 h2
theorem len_leB {a : Str} {n : Nat} (h : a.length ≤ n) (hn : n ≤ sizeLine) : a.length ≤ sizeLine := Nat.le_trans h hn
theorem s_catS {i j : Str} {m n : Nat} {P : Str → Str → Prop} (h1 : i.length ≤ m) (h2 : j.length ≤ n) (hn : m + n ≤ sizeLine) (h : P i j) : ∃ i' j' : Str, V.str i = V.str i' ∧ V.str j = V.str j' ∧ i'.length + j'.length ≤ sizeLine ∧ P i' j' := ⟨i, j, rfl, rfl, Nat.le_trans (Nat.add_le_add h1 h2) hn, h⟩
theorem s_logA {i : Int} {A : Prop} (hl : i.natAbs.log2 < 1920) (h : A) : i.natAbs.log2 < 1920 ∧ A := ⟨hl, h⟩
theorem tx_app {a b : Str} (h1 : txOk a = true) (h2 : txOk b = true) : txOk (a ++ b) = true := by
  unfold txOk PyData.strOk at *
  rw [PySem.Str.cps_append, Array.all_append, h1, h2]
  rfl
theorem tx_of {s : String} : txOk (Str.ofString s) = true := by
  unfold txOk PyData.strOk
  rw [PySem.Str.ofString_eq_toList]
  simp only [List.all_toArray, List.all_map, List.all_eq_true, Function.comp, decide_eq_true_eq]
  intro c _
  have := c.valid
  unfold UInt32.isValidChar Nat.isValidChar at this
  show c.val.toNat < 0x110000
  omega
/-! ### min of a tuple -/
def rMinT (K : PySem.W.Frag) : List V → Hp → VK → Prop := fun vs H Q => ∃ (a : Addr) (n0 : Int) (ns : List Int), vs = [.ref a] ∧ SqT K H a ((n0 :: ns).map V.int) ∧ ∀ m ∈ n0 :: ns, (∀ y ∈ n0 :: ns, m ≤ y) → Q (.int m) H
theorem int_minD : ∀ (ns : List Int) (n0 : Int), ∃ m, m ∈ n0 :: ns ∧ PySem.W.minD (.int n0) (ns.map PyData.int) = .int m ∧ ∀ y ∈ n0 :: ns, m ≤ y := by
  intro ns n0
  obtain ⟨m, h1, h2, h3⟩ := minD_least (enc := PyData.int) (lt := (· < ·)) ⟨fun x y => by rw [PySem.W.dataLt_int]; simp, fun x => Int.lt_irrefl x, fun x y z h1 h2 => by omega, fun x y h => by omega⟩ ns n0
  exact ⟨m, h1, h2, fun y hy => by have := h3 y hy; omega⟩
theorem dpI {K : PySem.W.Frag} {H : Hp} : ∀ {ns : List Int}, DpAll K H (ns.map V.int) (ns.map PyData.int)
  | [] => .nil
  | _ :: _ => .cons (.int _) dpI
theorem cr_minT {X : Cx} (hc : X.calm = true) (hu : X.A.units + 64 < cLine) : CallR X (.builtin "min") (rMinT X.K) := by
  intro pins s σ H vs us Q I r h
  obtain ⟨a, n0, ns, rfl, hs, q⟩ := h
  obtain ⟨its, rv, hl, hz⟩ := I.tuple hs
  rw [Vals.ref1 r]
  have rv0 := rv
  have hd : DpAll X.K H ((n0 :: ns).map V.int) ((n0 :: ns).map PyData.int) := dpI
  obtain ⟨as, ra⟩ := Dp.readsAll I ((n0 :: ns).map PyData.int) ((n0 :: ns).map V.int) its hd rv
  obtain ⟨m, hm1, hm2, hm3⟩ := int_minD ns n0
  refine PySem.W.min_tuple_data (I.ok.hd hc) hl (x := .int n0) (xs := ns.map PyData.int) (by simpa using ra) ⟨fun x hx y hy => ?_, fun x hx => ?_⟩ ?_ fun i v h' tk bs hv hr hk => ?_
  · have hx' : x ∈ (n0 :: ns).map PyData.int := by simpa using hx
    have hy' : y ∈ (n0 :: ns).map PyData.int := by simpa using hy
    obtain ⟨z, _, rfl⟩ := List.mem_map.mp hx'
    obtain ⟨z', _, rfl⟩ := List.mem_map.mp hy'
    rfl
  · have hx' : x ∈ (n0 :: ns).map PyData.int := by simpa using hx
    obtain ⟨z, _, rfl⟩ := List.mem_map.mp hx'
    exact fun z => nomatch z
  · have hd' : PyData.depthAll ((n0 :: ns).map PyData.int) = 0 := PySem.W.depth_ints _
    have hd2 : PyData.depthAll (PyData.int n0 :: ns.map PyData.int) = 0 := hd'
    omega
  · have hi : its[i]? = some v := by simpa using hv
    have hlen := rv0.length
    have hlt : i < ((n0 :: ns).map V.int).length := by rw [hlen]; exact (List.getElem?_eq_some_iff.mp hi).1
    rw [List.length_map] at hlt
    have hg : (n0 :: ns)[i]? = some (n0 :: ns)[i] := List.getElem?_eq_getElem hlt
    generalize (n0 :: ns)[i] = z at hg
    obtain ⟨u, hu1, hu2⟩ := rv0.get (i := i) (x := V.int z) (by rw [List.getElem?_map, hg]; rfl)
    rw [hi] at hu1
    cases hu1
    rw [hm2] at hr
    obtain ⟨t, rfl⟩ := hu2
    have hr' : Reads h' (Value.int z t) (.int m) bs := hr
    have e : z = m := by
      cases hr'
      rfl
    exact ⟨.int z, H, I.kept hk, ⟨t, rfl⟩, by rw [e]; exact q m hm1 hm3⟩
theorem call_minTK {X : Cx} {K : PySem.W.Frag} (h : X.K = K) (hc : X.calm = true) (hu : X.A.units + 64 < cLine) : CallR X (.builtin "min") (rMinT K) := by subst h; exact cr_minT hc hu
end Mi

set_option Elab.async false
set_option linter.all false
set_option maxRecDepth 100000
set_option maxHeartbeats 2000000
namespace Mi
open PySem PySem.Spec PyProof.Rows L2 PySem.W
def stR : Stmt → Expr
  | .Return (some e) _ => e
  | _ => .Constant .none 0 ⟨0, 0, 0, 0⟩
/-! ### a op b op c op d -/
def tChain3 (r r' r'' : R2) (ta tb tc td : TE) : TE := fun σ H Q => ta σ H fun x H1 => tb σ H1 fun y H2 => r x y H2 fun z H3 => ∃ k, z = .bl k ∧
  (if k = true then tc σ H3 fun w' H4 => r' y w' H4 fun z4 H5 => ∃ k', z4 = .bl k' ∧ (if k' = true then td σ H5 fun v' H6 => r'' w' v' H6 Q else Q (.bl false) H5) else Q (.bl false) H3)
section
variable {X : Cx} {a b c d : Expr} {ta tb tc td : TE} {pos : Pos}
theorem pe_chain3 {op op' op'' : CmpOp} {r r' r'' : R2} (ho : OpR X (compareOp op) r) (ho' : OpR X (compareOp op') r') (ho'' : OpR X (compareOp op'') r'') (ha : PE X a ta) (hb : PE X b tb) (hc : PE X c tc) (hd : PE X d td)
    (hm : lastMarks [op, op', op''] [b, c, d] = false := by with_unfolding_all rfl) : PE X (.Compare a [op, op', op''] [b, c, d] pos) (tChain3 r r' r'' ta tb tc td) := by
  refine ⟨fun pins s σ H Q I h => ?_⟩
  refine Compare_chain (thn (ha.run pins s σ H _ I h) fun v s1 ⟨x, H1, I1, r1, q1⟩ => chain_link (thn (hb.run pins s1 σ H1 _ I1 q1) fun u s2 ⟨y, H2, I2, r2, q2⟩ =>
    thn (ho pins s2 σ H2 x y v u _ I2 r1 r2 q2) fun d s3 ⟨z, H3, I3, r3, k, e, q3⟩ => ?_)) hm
  subst e
  cases r3
  refine wpAny_truthy_bool ?_
  cases k with
  | false => exact ite_ff ⟨.bl false, H3, I3, rfl, q3⟩
  | true =>
    refine ite_tt (chain_link (thn (hc.run pins s3 σ H3 _ I3 q3) fun w' s4 ⟨z', H4, I4, r4, q4⟩ => thn (ho' pins s4 σ H4 y z' u w' _ I4 r2 r4 q4) fun d' s5 ⟨z2, H5, I5, r5, k2, e2, q5⟩ => ?_))
    subst e2
    cases r5
    refine wpAny_truthy_bool ?_
    cases k2 with
    | false => exact ite_ff ⟨.bl false, H5, I5, rfl, q5⟩
    | true => exact ite_tt (chain_last (thn (hd.run pins s5 σ H5 _ I5 q5) fun w2 s6 ⟨z3, H6, I6, r6, q6⟩ => ho'' pins s6 σ H6 z' z3 w' w2 Q I6 r4 r6 q6))
theorem pt_chain3 {op op' op'' : CmpOp} {r r' r'' : R2} (ho : OpR X (compareOp op) r) (ho' : OpR X (compareOp op') r') (ho'' : OpR X (compareOp op'') r'') (ha : PE X a ta) (hb : PE X b tb) (hc : PE X c tc) (hd : PE X d td)
    (hm : lastMarks [op, op', op''] [b, c, d] = false := by with_unfolding_all rfl) : PT X (.Compare a [op, op', op''] [b, c, d] pos) (tTest (tChain3 r r' r'' ta tb tc td)) := by
  refine ⟨fun pins s σ H Q I h => ?_⟩
  refine isTrue_chain (thn (ha.run pins s σ H _ I h) fun v s1 ⟨x, H1, I1, r1, q1⟩ => test_link (thn (hb.run pins s1 σ H1 _ I1 q1) fun u s2 ⟨y, H2, I2, r2, q2⟩ =>
    thn (ho pins s2 σ H2 x y v u _ I2 r1 r2 q2) fun d s3 ⟨z, H3, I3, r3, k, e, q3⟩ => ?_)) hm
  subst e
  cases r3
  refine wpAny_truthy_bool ?_
  cases k with
  | false =>
    obtain ⟨k', e', q'⟩ := q3
    cases e'
    exact ite_ff ⟨H3, I3, q'⟩
  | true =>
    refine ite_tt (test_link (thn (hc.run pins s3 σ H3 _ I3 q3) fun w' s4 ⟨z', H4, I4, r4, q4⟩ => thn (ho' pins s4 σ H4 y z' u w' _ I4 r2 r4 q4) fun d' s5 ⟨z2, H5, I5, r5, k2, e2, q5⟩ => ?_))
    subst e2
    cases r5
    refine wpAny_truthy_bool ?_
    cases k2 with
    | false =>
      obtain ⟨k', e', q'⟩ := q5
      cases e'
      exact ite_ff ⟨H5, I5, q'⟩
    | true =>
      refine ite_tt (test_last (thn (hd.run pins s5 σ H5 _ I5 q5) fun w2 s6 ⟨z3, H6, I6, r6, q6⟩ => thn (ho'' pins s6 σ H6 z' z3 w' w2 _ I6 r4 r6 q6) fun d2 s7 ⟨z4, H7, I7, r7, k3, e3, q7⟩ => ?_))
      subst e3
      cases r7
      exact wpAny_truthy_bool ⟨H7, I7, q7⟩
end
section
variable {σ : L2.St} {H : Hp} {Q : VK} {ta tb tc td : TE} {r r' r'' : R2} {v : V}
theorem s_chain3 (h : ta σ H fun x H1 => tb σ H1 fun y H2 => r x y H2 fun z H3 => ∃ k, z = .bl k ∧
  (if k = true then tc σ H3 fun w' H4 => r' y w' H4 fun z4 H5 => ∃ k', z4 = .bl k' ∧ (if k' = true then td σ H5 fun v' H6 => r'' w' v' H6 Q else Q (.bl false) H5) else Q (.bl false) H3)) : tChain3 r r' r'' ta tb tc td σ H Q := h
theorem s_notN (h : ta σ H fun x H1 => Q (.bl (!decide (x = .non))) H1) : tNotN ta σ H Q := h
/-! ### x[i] of a list or a tuple -/
def rIxA (K : PySem.W.Frag) : R2 := fun x y H Q => rIxL K x y H Q ∨ rIxT K x y H Q
theorem ix_anyK {X : Cx} {K : PySem.W.Frag} (h : X.K = K) : IxR X (rIxA K) := by
  intro value slice pins s σ H x y v u Q I rx ry q hs
  rcases q with q | q
  · exact ix_listK h value slice pins s σ H x y v u Q I rx ry q hs
  · exact ix_tupK h value slice pins s σ H x y v u Q I rx ry q hs
/-- a list (b = true) or a tuple -/
def sqO (b : Bool) (xs : List V) : HO := if b = true then .lst xs else .tup xs
theorem s_ixA {K : PySem.W.Frag} {p : Addr} {xs : List V} {k : Int} {b : Bool} (h1 : H p = some (sqO b xs)) (h2 : atI xs k = some v) (h : Q v H) : rIxA K (.ref p) (.int k) H Q := by
  cases b with
  | true => exact .inl (s_ixL (SqL.of h1) h2 h)
  | false => exact .inr (s_ixT (SqT.of h1) h2 h)
end
section
variable [Lw] {K : PySem.W.Frag} {B H : Hp} {Q : VK} {S N : List Ck} {d p : Addr} {kvs : List (Key × V)}
/-- tuple(x) of a list or a tuple -/
theorem f_tupA {xs : List V} {b : Bool} (F : Fp B S N H) (h1 : H p = some (sqO b xs)) (h : ∀ t N' H', Fp B S N' H' → H' t = some (.tup xs) → (b = true → N' = ck t (.tup xs) :: N) → (b = false → N' = N ∧ t = p ∧ H' = H) → Q (.ref t) H') : rTupK K [.ref p] H Q := by
  cases b with
  | true => exact s_tupKL (SqL.of h1) fun l hl => h l _ _ (F.new hl rfl) upd_same (fun _ => rfl) (fun z => nomatch z)
  | false => exact s_tupKT (SqT.of h1) (h p _ _ F h1 (fun z => nomatch z) fun _ => ⟨rfl, rfl, rfl⟩)
/-- list(d.items()) -/
theorem s_items {σ : L2.St} {te : TE} (h : te σ H fun x H1 => LiI.rItemsL x H1 Q) : LiI.tListItems te σ H Q := h
theorem f_items (F : Fp B S N H) (h1 : H d = some (.dK kvs)) (h : ∀ p ts H', Fp B S (ck p (.lst (ts.map V.ref)) :: N) H' → Paired (fun (t : Addr) (q : Key × V) => H' t = some (.tup [kV q.1, q.2])) ts kvs → Q (.ref p) H') : LiI.rItemsL (.ref d) H Q := by
  refine ⟨d, kvs, rfl, h1, fun H' p ts hk hp ht hn hl hq => h p ts H' ((F.new hp (o := .lst (ts.map V.ref)) rfl).mv ?_) hq⟩
  have k2 : ∀ b o, upd H p (.lst (ts.map V.ref)) b = some o → H' b = some o := fun b o e => by
    by_cases z : b = p
    · rw [z, upd_same] at e
      rw [z, hl]
      exact e
    · rw [upd_ne z] at e
      exact hk _ _ e
  refine ⟨fun b o e _ => k2 b o e, fun P ⟨ps, e1, e2⟩ => ⟨ps, k2 _ _ e1, e2⟩, fun P ps _ e => k2 _ _ e, fun b e => ?_⟩
  cases e2 : upd H p (.lst (ts.map V.ref)) b with
  | none => rfl
  | some o => rw [k2 _ _ e2] at e; cases e
end
end Mi

set_option Elab.async false
set_option linter.all false
set_option maxRecDepth 100000
set_option maxHeartbeats 2000000
/-! data compared: < of data of any depth, `in` over data -/
namespace Mi
open PySem PySem.Spec PyProof.Rows L2
def rLtD (K : PySem.W.Frag) : R2 := fun x y H Q => ∃ d e, Dp K H x d ∧ Dp K H y e ∧ PySem.W.alike d e = true ∧ d ≠ .none ∧ d.depth ≤ 60 ∧ Q (.bl (PySem.W.dataLt d e)) H
theorem op_ltD {X : Cx} (hu : X.A.units + 64 < cLine) : OpR X (compareOp .Lt) (rLtD X.K) := by
  intro pins s σ H x y v u Q I rx ry h
  obtain ⟨d, e, hd, he, ha, hn, hp, q⟩ := h
  obtain ⟨as, r1⟩ := Dp.reads I d x v hd rx
  obtain ⟨bs, r2⟩ := Dp.reads I e y u he ry
  exact PySem.W.lt_data r1 r2 ha hn (by omega) ⟨.bl _, H, I, rfl, q⟩
theorem op_ltDK {X : Cx} {K : PySem.W.Frag} (h : X.K = K) (hu : X.A.units + 64 < cLine) : OpR X (compareOp .Lt) (rLtD K) := by subst h; exact op_ltD hu
theorem op_inDK {X : Cx} {K : PySem.W.Frag} (h : X.K = K) (hu : X.A.units + 65 < cLine) : OpR X (compareOp .In) (rInD K) := by subst h; exact op_inD hu
theorem op_notInDK {X : Cx} {K : PySem.W.Frag} (h : X.K = K) (hu : X.A.units + 65 < cLine) : OpR X (compareOp .NotIn) (rNotInD K) := by subst h; exact op_notInD hu
theorem op_niSK {X : Cx} {K : PySem.W.Frag} (h : X.K = K) : OpR X (compareOp .NotIn) (rIn K true) := by subst h; exact op_notIn_seq
theorem _root_.L2.Room.u65 {k : Nat} {A : Around} (r : Room k A) : A.units + 65 < cLine := by have := r.un; omega
theorem sl_tupTK {X : Cx} {K : PySem.W.Frag} (h : X.K = K) : SlR X (rSlT K) := by subst h; exact sl_tup
section
variable [Lw] {K : PySem.W.Frag} {H : Hp} {Q : VK} {x y : V} {d e : PyData}
theorem s_ltD (h1 : Dp K H x d) (h2 : Dp K H y e) (ha : PySem.W.alike d e = true) (hn : d ≠ .none) (hp : d.depth ≤ 60) (h : Q (.bl (PySem.W.dataLt d e)) H) : rLtD K x y H Q := ⟨d, e, h1, h2, ha, hn, hp, h⟩
theorem f_slT {a : Addr} {xs ys : List V} {lo hi : Option Int} (h1 : SqT K H a xs) (hn : ¬ (HT.sIx xs.length 0 lo = 0 ∧ HT.sIx xs.length xs.length hi = xs.length)) (e : cutV xs lo hi = ys) (h : NewP (.tup ys) Q H) : rSlT K (.ref a) lo hi H Q := by
  subst e
  exact ⟨a, xs, rfl, h1, hn, h⟩
end
end Mi

set_option Elab.async false
set_option linter.all false
set_option maxRecDepth 100000
set_option maxHeartbeats 2000000
/-! dicts of data compared: the same keys, equal data -/
namespace Mi
open PySem PySem.Spec PyProof.Rows L2
def SameM (K : PySem.W.Frag) (H : Hp) (x y : V) : Prop := ∃ a b ks ls, x = .ref a ∧ y = .ref b ∧ H a = some (.dK ks) ∧ H b = some (.dK ls) ∧ ks.length = ls.length ∧ ∀ p ∈ ks, ∃ u d k, valV ls p.1 = some u ∧ Dp K H p.2 d ∧ Dp K H u d ∧ k ≤ 60 ∧ Sh k d
def rEqM (K : PySem.W.Frag) : R2 := fun x y H Q => SameM K H x y ∧ Q (.bl true) H
def rNeM (K : PySem.W.Frag) : R2 := fun x y H Q => SameM K H x y ∧ Q (.bl false) H
theorem hits_data {X : Cx} {pins : List (Addr × Obj)} {σ : L2.St} {H : Hp} {s : Shared} (I : Inv X pins σ H s) {A : Around} (hu : A.units + 64 < cLine) {ls : List (Key × V)} {vb : List (Key × Value)} (rb : KV ls vb) {ks : List (Key × V)} {va : List (Key × Value)}
    (ra : KV ks va) : (∀ p ∈ ks, ∃ u d k, valV ls p.1 = some u ∧ Dp X.K H p.2 d ∧ Dp X.K H u d ∧ k ≤ 60 ∧ Sh k d) → PySem.W.KeqHits A s vb va true := by
  unfold KV at ra
  induction ra with
  | nil => intro _; exact .nil
  | @cons p q ps qs h t ih =>
    intro hp
    obtain ⟨h1, h2⟩ := h
    obtain ⟨u, d, k, e, f1, f2, hk, hs⟩ := hp p List.mem_cons_self
    have rr : RelO (some u) (valueAt vb p.1) := by rw [← e]; exact rb.val p.1
    obtain ⟨y, hy, ry⟩ := rr.some_of
    obtain ⟨key, v⟩ := q
    have h1' : p.1 = key := h1
    rw [h1'] at hy
    obtain ⟨as, r1⟩ := Dp.reads I d _ v f1 h2
    obtain ⟨bs, r2⟩ := Dp.reads I d u y f2 ry
    have hsh := hs.shaped (by omega)
    have hq := SeqAt.eqAt_reads d d A s v y as bs r1 r2 (SeqAt.canLay_of_shaped hsh) (SeqAt.canLay_of_shaped hsh) (SeqAt.room_of_shaped hsh hu)
    rw [hs.refl] at hq
    show PySem.W.KeqHits A s vb ((key, v) :: qs) (true && true)
    exact .hit hy hq (ih fun p' hm => hp p' (List.mem_cons_of_mem _ hm))
theorem op_eqM {X : Cx} (hu : X.A.units + 66 < cLine) : OpR X (compareOp .Eq) (rEqM X.K) := by
  intro pins s σ H x y v u Q I rx ry h
  obtain ⟨⟨a, b, ks, ls, rfl, rfl, ha, hb, hl, hp⟩, q⟩ := h
  cases (show v = Value.ref a from rx)
  cases (show u = Value.ref b from ry)
  obtain ⟨_, ya, va, ra, da⟩ := (show ObjOk X.prog X.w H s.heap a (.dK ks) from I.hok a _ ha)
  obtain ⟨_, yb, vb, rb, db⟩ := (show ObjOk X.prog X.w H s.heap b (.dK ls) from I.hok b _ hb)
  refine PySem.W.keq_eq (knd := mixKind X.prog X.w) (r := true) ya yb da db (by omega) (fun _ => hits_data I (by show X.A.units + 1 + 64 < cLine; omega) rb ra hp) ?_
  have e : va.length = vb.length := by rw [← ra.length, ← rb.length]; exact hl
  rw [show (va.length == vb.length && true) = true from by rw [e]; simp]
  exact ⟨.bl true, H, I, rfl, q⟩
theorem op_neM {X : Cx} (hu : X.A.units + 66 < cLine) : OpR X (compareOp .NotEq) (rNeM X.K) := by
  intro pins s σ H x y v u Q I rx ry h
  obtain ⟨⟨a, b, ks, ls, rfl, rfl, ha, hb, hl, hp⟩, q⟩ := h
  cases (show v = Value.ref a from rx)
  cases (show u = Value.ref b from ry)
  obtain ⟨_, ya, va, ra, da⟩ := (show ObjOk X.prog X.w H s.heap a (.dK ks) from I.hok a _ ha)
  obtain ⟨_, yb, vb, rb, db⟩ := (show ObjOk X.prog X.w H s.heap b (.dK ls) from I.hok b _ hb)
  refine PySem.W.keq_ne (knd := mixKind X.prog X.w) (r := true) ya yb da db (by omega) (fun _ => hits_data I (by show X.A.units + 1 + 64 < cLine; omega) rb ra hp) ?_
  have e : va.length = vb.length := by rw [← ra.length, ← rb.length]; exact hl
  rw [show (!(va.length == vb.length && true)) = false from by rw [e]; simp]
  exact ⟨.bl false, H, I, rfl, q⟩
theorem op_eqMK {X : Cx} {K : PySem.W.Frag} (h : X.K = K) (hu : X.A.units + 66 < cLine) : OpR X (compareOp .Eq) (rEqM K) := by subst h; exact op_eqM hu
theorem op_neMK {X : Cx} {K : PySem.W.Frag} (h : X.K = K) (hu : X.A.units + 66 < cLine) : OpR X (compareOp .NotEq) (rNeM K) := by subst h; exact op_neM hu
theorem _root_.L2.Room.u66 {k : Nat} {A : Around} (r : Room k A) : A.units + 66 < cLine := by have := r.un; omega
/-- .. in e.items() of a dict that is made there: locked from then on -/
def iItemsN (td : TE) : TI := fun σ H R => td σ H fun x H1 => ∃ d kvs, x = .ref d ∧ H1 d = some (.dK kvs) ∧ ∀ o, R (Iti d o kvs) (upd H1 d (.frz o (.dK kvs)))
theorem pi_itemsN {X : Cx} {e : Expr} {td : TE} {apos cpos : Pos} {elts : List Expr} {kk : Nat} {tpos : Pos} (he : PE X e td) (hbase : attributeBase e "items" X.env (eval e X.env) = eval e X.env := by rfl) (hline : (apos.endLine == cpos.line) = true := by rfl) :
    PI X (.Tuple elts kk tpos) (.Call (.Attribute e "items" apos) [] [] cpos) (iItemsN td) := by
  refine ⟨fun pins s σ H R I h => ?_⟩
  refine wpAny_Call_method (T := "dict") (id := "dict.items") hbase rfl hline PySem.F.plainAttrs_dict PySem.F.slot_dict_items PySem.F.type_dict_items (thn (he.run pins s σ H _ I h) fun u s1 ⟨x, H1, I0, rx, d, kvs, ex, hd0, q0⟩ => ?_)
  subst ex
  obtain rfl : u = Value.ref d := rx
  obtain ⟨o, I1⟩ := I0.lock hd0 True.intro
  have q := q0 o
  have hd : upd H1 d (.frz o (.dK kvs)) d = some (.frz o (.dK kvs)) := upd_same
  obtain ⟨hs, hgd, hx, es, ep, vs, hdt, hsz, kv, hm⟩ := I1.frzK hd
  have hl : kvs.length = vs.length := Paired.length kv
  refine ⟨hm.dictOf.typeIs, hm.dictOf.mapOf.noDict, ?_⟩
  have I2 : Inv X pins σ (upd H1 d (.frz o (.dK kvs))) { s1 with heap := s1.heap.push { cls := .type "dict_items", data := .fields #[.ref d] } } := I1.kept (t' := s1.toks) fun b ob q => Heap.get?_push_of_some _ q
  have fin : wpAny (model X.prog X.w) X.A (pyIter (.ref s1.heap.objs.size)) (PIE X pins σ (.Tuple elts kk tpos) R) X.xe { s1 with heap := s1.heap.push { cls := .type "dict_items", data := .fields #[.ref d] } } := by
    refine wpAny_pyIter_items (d := d) (knd := mixKind X.prog X.w) ⟨_, Heap.get?_push_size _ rfl, rfl, rfl⟩ (hm.push _) (pi_one (tk := s1.toks) I2 _ (turn_items _ hdt) ⟨.none, .none, ?_⟩ q)
    rw [hl]
    exact Heap.get?_push_size _ rfl
  show wpAny _ _ (callWith cpos (.builtin "dict.items") [.ref d] [] []) _ X.xe s1
  exact method_meetsIn PySem.F.slot_dict_items PySem.F.entry_dict_items rfl (PySem.evalArgs_none ⟨rfl, hm.dictOf.typeIs, PySem.F.args_dict_items_1 _, _, meets_dict_items (mixKind X.prog X.w) d hs, ⟨vs, hm.dictOf⟩, fin⟩)
section
variable [Lw] {K : PySem.W.Frag} {H : Hp} {Q : VK} {a b : Addr} {ks ls : List (Key × V)}
theorem eqM_same (ha : H a = some (.dK ks)) (hb : H b = some (.dK ls)) (hl : ks.length = ls.length) (hp : ∀ p ∈ ks, ∃ u d k, valV ls p.1 = some u ∧ Dp K H p.2 d ∧ Dp K H u d ∧ k ≤ 60 ∧ Sh k d) (h : Q (.bl true) H) : rEqM K (.ref a) (.ref b) H Q := ⟨⟨a, b, ks, ls, rfl, rfl, ha, hb, hl, hp⟩, h⟩
theorem neM_same (ha : H a = some (.dK ks)) (hb : H b = some (.dK ls)) (hl : ks.length = ls.length) (hp : ∀ p ∈ ks, ∃ u d k, valV ls p.1 = some u ∧ Dp K H p.2 d ∧ Dp K H u d ∧ k ≤ 60 ∧ Sh k d) (h : Q (.bl false) H) : rNeM K (.ref a) (.ref b) H Q := ⟨⟨a, b, ks, ls, rfl, rfl, ha, hb, hl, hp⟩, h⟩
def PiIN (x : V) (H : Hp) (R : It → Hp → Prop) : Prop := ∃ d kvs, x = .ref d ∧ H d = some (.dK kvs) ∧ ∀ o, R (Iti d o kvs) (upd H d (.frz o (.dK kvs)))
theorem s_iIN {σ : L2.St} {te : TE} {R : It → Hp → Prop} (h : te σ H fun x H1 => PiIN x H1 R) : iItemsN te σ H R := h
theorem f_iIN {R : It → Hp → Prop} (h1 : H a = some (.dK ks)) (h : ∀ o J, Walk J ks.length (fun H => H a = some (.frz o (.dK ks))) (YPair (fun i => ks[i]?.map fun kv => kV kv.1) (fun i => ks[i]?.map Prod.snd)) → R J (upd H a (.frz o (.dK ks)))) : PiIN (.ref a) H R := ⟨a, ks, rfl, h1, fun o => h o _ walk_items⟩
theorem f_pop0 {B : Hp} {S N S' N' : List Ck} {p : Addr} {v : V} {xs : List V} (F : Fp B S N H) (R : Re S N p (.lst (v :: xs)) (.lst xs) S' N') (h : ∀ H', Fp B S' N' H' → Q v H') : rPopAt (.ref p) [.int 0] H Q := ⟨p, v :: xs, 0, 0, v, rfl, rfl, F.got R, by decide, by decide, by simp [seqIndex?], rfl, h _ (F.re R rfl rfl)⟩
def DG1P (ty : TE) (σ : L2.St) (Q : VK) (x : V) (H1 : Hp) : Prop := ∃ a, x = .ref a ∧ IsD H1 a ∧ ty σ H1 fun y H2 => ∃ o, DGet H2 a y o ∧ Q (o.getD .non) H2
theorem f_dget1E {σ : L2.St} {td ty : TE} (h : td σ H (DG1P ty σ Q)) : tDGet1 td ty σ H Q := h
theorem f_dget1K {σ : L2.St} {ty : TE} (h1 : H a = some (.dK ks)) (h : ty σ H fun y H2 => ∃ o, DGet H2 a y o ∧ Q (o.getD .non) H2) : DG1P ty σ Q (.ref a) H := ⟨a, rfl, .inl ⟨ks, .inl h1⟩, h⟩
theorem f_dgetN {k : Str} (h1 : Rd H a (.dK ks)) (h2 : valR (Sum.inr k : Key) ks = none) : DGet H a (.str k) none := .inl ⟨ks, Sum.inr k, h1, rfl, by rw [valV_valR]; exact h2.symm⟩
theorem f_niS {x : Str} {xs : List Str} (h1 : SqL K H a (xs.map V.str)) (h : Q (.bl (!decide (x ∈ xs))) H) : rIn K true (.str x) (.ref a) H Q := ⟨a, _, rfl, .inl h1, rfl, by rw [List.all_eq_true]; intro y hy; obtain ⟨z, _, rfl⟩ := List.mem_map.mp hy; rfl, by rw [inV_strs]; exact h⟩
end
end Mi

set_option Elab.async false
set_option linter.all false
set_option maxRecDepth 100000
set_option maxHeartbeats 2000000
set_option pp.maxSteps 1500
namespace K1
open PySem PySem.Spec PyProof.Rows L2 Mi
def topS (i : Nat) : Stmt := PySem.Challenge.pw_millstack_k01_gears_that_turn_each_other.main.body.getD i (.Pass ⟨0, 0, 0, 0⟩)
def clsS (i j : Nat) : Stmt := (clsBody (topS i)).getD j (.Pass ⟨0, 0, 0, 0⟩)
abbrev FnP (K : PySem.W.Frag) (x : Str) (st : Stmt) (f : Addr) (fd : FuncData) : Prop := FunD K x x (defArgs st) (defBody st) (defScope st) [] [] f fd
abbrev FnM (K : PySem.W.Frag) (m q : Str) (st : Stmt) (f : Addr) (fd : FuncData) : Prop := FunD K m q (defArgs st) (defBody st) (defScope st) [] [] f fd
abbrev s__law_dice : Stmt := topS 12
abbrev n__law_dice : List Str := ["cell"]
theorem sc__law_dice : FnScope n__law_dice ["cell"] (defScope s__law_dice) := ⟨rfl, rfl, rfl, by decide +kernel, rfl, by decide +kernel, by decide +kernel⟩

abbrev s__law_roll : Stmt := topS 13
abbrev n__law_roll : List Str := ["dice", "many", "found"]
theorem sc__law_roll : FnScope n__law_roll ["dice", "many"] (defScope s__law_roll) := ⟨rfl, rfl, rfl, by decide +kernel, rfl, by decide +kernel, by decide +kernel⟩

abbrev s__law_rounds : Stmt := topS 14
abbrev n__law_rounds : List Str := ["script", "most", "cells", "cell"]
theorem sc__law_rounds : FnScope n__law_rounds ["script", "most"] (defScope s__law_rounds) := ⟨rfl, rfl, rfl, by decide +kernel, rfl, by decide +kernel, by decide +kernel⟩

def fa1 : List He.Fa := [.glo "MillError", .glo "GearError", .glo "Train", .glo "best_pair", .glo "exact", .glo "less", .glo "times", .glo "_law_dice", .glo "_law_roll", .glo "_law_rounds", .glo "_law_told", .glo "_law_ex", .glo "_law_ratios", .glo "law", .free "range", .free "len", .free "abs", .free "int", .free "str", .free "list", .free "tuple", .free "dict", .free "sorted", .int "MOST_TEETH" 400, .int "MOST_SHAFTS" 30, .cls "Train", .noat "Train" "shafts", .noat "Train" "meshes", .meth "Train" "add_shaft", .meth "Train" "mesh", .meth "Train" "ratios", .meth "Train" "speeds", .meth "Train" "apart", .meth "Train" "together_again", .mkr "Train", .exc "GearError", .exm "GearError" "GearError" true, .keep "_law_told"]
def tf1 : List He.Defn := [("Train", some "apart"), ("law", none)]
end K1

set_option Elab.async false
set_option linter.all false
set_option maxRecDepth 100000
set_option maxHeartbeats 400000
namespace K1
open PySem PySem.Spec PyProof.Rows L2 Mi
/-! ### exact numbers -/
/-- part by whole, as the program makes it: by the greatest number that parts both -/
theorem ex_num {p w : Int} {g : Nat} (hw : 0 < w) (hg : g = Nat.gcd p.natAbs w.natAbs) : p / (g : Int) = (Rat.divInt p w).num ∧ w / (g : Int) = ((Rat.divInt p w).den : Int) := by
  obtain ⟨n, rfl⟩ : ∃ n : Nat, w = (n : Int) := ⟨w.toNat, by omega⟩
  have hn : n ≠ 0 := by omega
  rw [Rat.divInt_ofNat, ← Rat.normalize_eq_mkRat hn, Rat.normalize_eq]
  subst hg
  exact ⟨rfl, by simp⟩
theorem divInt_neg2 {p w : Int} : Rat.divInt (0 - p) (0 - w) = Rat.divInt p w := by
  rw [Int.zero_sub, Int.zero_sub]
  exact Rat.neg_divInt_neg ..
theorem q_ne {q : Rat} : (q.den : Int) ≠ 0 := by
  have := q.den_pos
  omega
theorem q_pos {q : Rat} : (0 : Int) < q.den := by
  have := q.den_pos
  omega
theorem divInt_q (q : Rat) : Rat.divInt q.num q.den = q := Rat.num_divInt_den q
theorem divInt_mul2 {q r : Rat} : Rat.divInt (q.num * r.num) (q.den * r.den) = q * r := by
  rw [← Rat.divInt_mul_divInt, divInt_q, divInt_q]
theorem q_eq {q r : Rat} (h1 : q.num = r.num) (h2 : q.den = r.den) : q = r := Rat.ext h1 h2
theorem q_lt {q r : Rat} : q < r ↔ q.num * (r.den : Int) < r.num * (q.den : Int) := Rat.lt_iff q r
theorem ex_le {p w : Int} (hw : 0 < w) : (Rat.divInt p w).num.natAbs ≤ p.natAbs ∧ ((Rat.divInt p w).den : Int) ≤ w := by
  obtain ⟨e1, e2⟩ := ex_num (p := p) hw rfl
  constructor
  · rw [← e1, Int.natAbs_ediv_of_dvd (Int.ofNat_dvd_left.mpr (Nat.gcd_dvd_left _ _)), Int.natAbs_natCast]
    exact Nat.div_le_self _ _
  · rw [← e2]
    exact Int.ediv_le_self _ (Int.le_of_lt hw)
/-! ### meshes -/
structure Ms where
  a : Str
  m : Int
  b : Str
  f : Int
structure Rt where
  nm : Str
  q : Rat
  ad : Addr
def Edge (ms : List Ms) (x y : Str) (u v : Int) : Prop := ∃ m ∈ ms, (m.a = x ∧ m.m = u ∧ m.b = y ∧ m.f = v) ∨ (m.b = x ∧ m.f = u ∧ m.a = y ∧ m.m = v)
inductive Conn (ms : List Ms) (s : Str) : Str → Prop
  | refl : Conn ms s s
  | step {x y : Str} {u v : Int} : Conn ms s x → Edge ms x y u v → Conn ms s y
structure Pot (φ : Str → Rat) (ms : List Ms) : Prop where
  nz : ∀ n, φ n ≠ 0
  eq : ∀ m ∈ ms, φ m.b * m.f = -(φ m.a * m.m)
  te : ∀ m ∈ ms, 1 ≤ m.m ∧ 1 ≤ m.f
abbrev nmsR (t : List Rt) : List Str := t.map fun r => r.nm
structure IsTab (φ : Str → Rat) (ms : List Ms) (s : Str) (t : List Rt) : Prop where
  nd : (nmsR t).Nodup
  ok : ∀ r ∈ t, r.q = φ r.nm / φ s ∧ Conn ms s r.nm
  all : ∀ n, Conn ms s n → n ∈ nmsR t
  bd : ∀ r ∈ t, r.q.num.natAbs ≤ 16777216 ∧ r.q.den ≤ 16777216
/-- how far numbers go: N shafts turn together at most -/
structure Bd (ms : List Ms) (s : Str) (B N : Nat) : Prop where
  te : ∀ m ∈ ms, m.m ≤ B ∧ m.f ≤ B
  co : ∀ l : List Str, l.Nodup → (∀ n ∈ l, Conn ms s n) → l.length ≤ N
  pw : B ^ (N - 1) ≤ 16777216
  b1 : 1 ≤ B ∧ B ≤ 400
  nb : N ≤ 1000
theorem Edge.symm {ms : List Ms} {x y : Str} {u v : Int} (h : Edge ms x y u v) : Edge ms y x v u := by
  obtain ⟨m, hm, h | h⟩ := h
  · exact ⟨m, hm, .inr ⟨h.2.2.1, h.2.2.2, h.1, h.2.1⟩⟩
  · exact ⟨m, hm, .inl ⟨h.2.2.1, h.2.2.2, h.1, h.2.1⟩⟩
theorem Conn.trans {ms : List Ms} {s x y : Str} (h : Conn ms s x) (h2 : Conn ms x y) : Conn ms s y := by
  induction h2 with
  | refl => exact h
  | step _ e ih => exact .step ih e
theorem Conn.symm {ms : List Ms} {s x : Str} (h : Conn ms s x) : Conn ms x s := by
  induction h with
  | refl => exact .refl
  | step _ e ih => exact Conn.trans (.step .refl e.symm) ih
theorem cast_ne {i : Int} (h : 1 ≤ i) : (i : Rat) ≠ 0 := by
  intro z
  have : i = 0 := by exact_mod_cast z
  omega
theorem Pot.edge {φ : Str → Rat} {ms : List Ms} (P : Pot φ ms) {x y : Str} {u v : Int} (h : Edge ms x y u v) : φ y * v = -(φ x * u) ∧ 1 ≤ u ∧ 1 ≤ v := by
  obtain ⟨m, hm, ⟨rfl, rfl, rfl, rfl⟩ | ⟨rfl, rfl, rfl, rfl⟩⟩ := h
  · exact ⟨P.eq m hm, P.te m hm⟩
  · have := P.eq m hm
    exact ⟨by grind, (P.te m hm).2, (P.te m hm).1⟩
theorem Pot.step {φ : Str → Rat} {ms : List Ms} (P : Pot φ ms) {x y s : Str} {u v : Int} (h : Edge ms x y u v) : φ y / φ s = φ x / φ s * Rat.divInt (0 - u) v := by
  obtain ⟨h1, h2, h3⟩ := P.edge h
  have h4 := P.nz s
  have h5 := cast_ne h3
  rw [Rat.divInt_eq_div, Int.zero_sub, Rat.intCast_neg]
  grind
theorem law_step {q : Rat} {u v : Int} : Rat.divInt (-q.num * u) (q.den * v) = q * Rat.divInt (0 - u) v := by
  rw [show -q.num * u = q.num * (0 - u) by rw [Int.zero_sub, Int.neg_mul, Int.mul_neg], ← Rat.divInt_mul_divInt, divInt_q]
/-! ### a potential for one more mesh -/
theorem Edge.one {ms : List Ms} {m : Ms} (hm : m ∈ ms) : Edge ms m.a m.b m.m m.f := ⟨m, hm, .inl ⟨rfl, rfl, rfl, rfl⟩⟩
theorem Pot.nil : Pot (fun _ => 1) [] := ⟨fun _ => by decide, fun _ h => (nomatch h), fun _ h => (nomatch h)⟩
theorem Pot.same {φ : Str → Rat} {ms : List Ms} (P : Pot φ ms) {m : Ms} (ht : 1 ≤ m.m ∧ 1 ≤ m.f) (h : φ m.b / φ m.a = Rat.divInt (0 - m.m) m.f) : Pot φ (ms ++ [m]) := by
  refine ⟨P.nz, fun k hk => ?_, fun k hk => ?_⟩
  · rcases List.mem_append.mp hk with hk | hk
    · exact P.eq k hk
    · rw [List.mem_singleton.mp hk]
      have h1 := P.nz m.a
      have h2 := cast_ne ht.2
      rw [Rat.divInt_eq_div, Int.zero_sub, Rat.intCast_neg] at h
      grind
  · rcases List.mem_append.mp hk with hk | hk
    · exact P.te k hk
    · rw [List.mem_singleton.mp hk]
      exact ht
open Classical in
theorem Pot.join {φ : Str → Rat} {ms : List Ms} (P : Pot φ ms) {m : Ms} (ht : 1 ≤ m.m ∧ 1 ≤ m.f) (h : ¬ Conn ms m.a m.b) : ∃ φ', Pot φ' (ms ++ [m]) := by
  have h1 := P.nz m.a
  have h2 := P.nz m.b
  have h3 := cast_ne ht.1
  have h4 := cast_ne ht.2
  let c : Rat := -(φ m.a * m.m) / (φ m.b * m.f)
  have hc : c ≠ 0 := by
    show -(φ m.a * m.m) / (φ m.b * m.f) ≠ 0
    grind
  have hc2 : φ m.b * c * m.f = -(φ m.a * m.m) := by
    show φ m.b * (-(φ m.a * m.m) / (φ m.b * m.f)) * m.f = -(φ m.a * m.m)
    grind
  refine ⟨fun n => if Conn ms m.b n then φ n * c else φ n, fun n => ?_, fun k hk => ?_, fun k hk => ?_⟩
  · have := P.nz n
    split
    · grind
    · exact this
  · rcases List.mem_append.mp hk with hk | hk
    · have e := Edge.one hk
      have e0 := P.eq k hk
      by_cases hx : Conn ms m.b k.a
      · rw [if_pos hx, if_pos (Conn.step hx e)]
        grind
      · rw [if_neg hx, if_neg (fun z => hx (Conn.step z e.symm))]
        exact e0
    · rw [List.mem_singleton.mp hk, if_pos Conn.refl, if_neg (fun z => h z.symm)]
      exact hc2
  · rcases List.mem_append.mp hk with hk | hk
    · exact P.te k hk
    · rw [List.mem_singleton.mp hk]
      exact ht
/-! ### tables -/
theorem IsTab.keys {φ : Str → Rat} {ms : List Ms} {s : Str} {t : List Rt} (h : IsTab φ ms s t) {n : Str} : n ∈ nmsR t ↔ Conn ms s n := ⟨fun hn => by
  obtain ⟨r, hr, rfl⟩ := List.mem_map.mp hn
  exact (h.ok r hr).2, h.all n⟩
theorem IsTab.perm {φ : Str → Rat} {ms : List Ms} {s : Str} {t t2 : List Rt} (h : IsTab φ ms s t) (h2 : IsTab φ ms s t2) : (nmsR t).Perm (nmsR t2) := (List.perm_ext_iff_of_nodup h.nd h2.nd).mpr fun n => h.keys.trans h2.keys.symm
theorem IsTab.len {φ : Str → Rat} {ms : List Ms} {s : Str} {t t2 : List Rt} (h : IsTab φ ms s t) (h2 : IsTab φ ms s t2) : t.length = t2.length := by
  have := (h.perm h2).length_eq
  simpa using this
theorem IsTab.same {φ : Str → Rat} {ms : List Ms} {s : Str} {t t2 : List Rt} (h : IsTab φ ms s t) (h2 : IsTab φ ms s t2) {r : Rt} (hr : r ∈ t) : ∃ r2 ∈ t2, r2.nm = r.nm ∧ r2.q = r.q := by
  obtain ⟨h3, h4⟩ := h.ok r hr
  obtain ⟨r2, hr2, e⟩ := List.mem_map.mp (h2.all _ h4)
  exact ⟨r2, hr2, e, by rw [(h2.ok r2 hr2).1, e, h3]⟩
theorem IsTab.start {φ : Str → Rat} {ms : List Ms} {s : Str} (P : Pot φ ms) : φ s / φ s = 1 := by
  have := P.nz s
  grind
/-- what has been found so far -/
structure PTab (φ : Str → Rat) (ms : List Ms) (s : Str) (B : Nat) (t : List Rt) : Prop where
  nd : (nmsR t).Nodup
  ok : ∀ r ∈ t, r.q = φ r.nm / φ s ∧ Conn ms s r.nm
  st : s ∈ nmsR t
  bd : ∀ (i : Nat) (r : Rt), t[i]? = some r → r.q.num.natAbs ≤ B ^ i ∧ r.q.den ≤ B ^ i
theorem PTab.start {φ : Str → Rat} {ms : List Ms} {s : Str} {B : Nat} (P : Pot φ ms) (a : Addr) : PTab φ ms s B [⟨s, 1, a⟩] := ⟨List.nodup_cons.mpr ⟨List.not_mem_nil, List.nodup_nil⟩, fun r hr => by
  rw [List.mem_singleton.mp hr]
  exact ⟨(IsTab.start P).symm, .refl⟩, List.mem_singleton_self _, fun i r hr => by
  match i, hr with
  | 0, hr =>
    cases hr
    exact ⟨Nat.le_refl _, Nat.le_refl _⟩
  | i + 1, hr => simp at hr⟩
theorem PTab.len {φ : Str → Rat} {ms : List Ms} {s : Str} {B N : Nat} {t : List Rt} (h : PTab φ ms s B t) (hB : Bd ms s B N) : t.length ≤ N := by
  have := hB.co (nmsR t) h.nd fun n hn => by
    obtain ⟨r, hr, rfl⟩ := List.mem_map.mp hn
    exact (h.ok r hr).2
  simpa using this
theorem PTab.le {φ : Str → Rat} {ms : List Ms} {s : Str} {B N : Nat} {t : List Rt} (h : PTab φ ms s B t) (hB : Bd ms s B N) {r : Rt} (hr : r ∈ t) : r.q.num.natAbs ≤ 16777216 ∧ r.q.den ≤ 16777216 := by
  obtain ⟨i, hi⟩ := List.mem_iff_getElem?.mp hr
  have h1 := h.bd i r hi
  have h2 := h.len hB
  have h3 := (List.getElem?_eq_some_iff.mp hi).1
  have h4 := Nat.pow_le_pow_right hB.b1.1 (show i ≤ N - 1 by omega)
  have h5 := hB.pw
  exact ⟨Nat.le_trans h1.1 (Nat.le_trans h4 h5), Nat.le_trans h1.2 (Nat.le_trans h4 h5)⟩
theorem Bd.edge {ms : List Ms} {s x y : Str} {u v : Int} {B N : Nat} (h : Bd ms s B N) (e : Edge ms x y u v) : u ≤ B ∧ v ≤ B := by
  obtain ⟨m, hm, ⟨rfl, rfl, rfl, rfl⟩ | ⟨rfl, rfl, rfl, rfl⟩⟩ := e
  · exact h.te m hm
  · exact ⟨(h.te m hm).2, (h.te m hm).1⟩
theorem PTab.add {φ : Str → Rat} {ms : List Ms} {s : Str} {B N : Nat} {t : List Rt} (h : PTab φ ms s B t) (P : Pot φ ms) (hB : Bd ms s B N) {r : Rt} {y : Str} {u v : Int} (hr : r ∈ t) (e : Edge ms r.nm y u v) (hy : y ∉ nmsR t) (a : Addr) : PTab φ ms s B (t ++ [⟨y, r.q * Rat.divInt (0 - u) v, a⟩]) := by
  obtain ⟨h1, h2⟩ := h.ok r hr
  obtain ⟨_, hu, hv⟩ := P.edge e
  obtain ⟨hu2, hv2⟩ := hB.edge e
  refine ⟨?_, fun k hk => ?_, ?_, fun j k hk => ?_⟩
  · unfold nmsR
    rw [List.map_append, List.nodup_append]
    refine ⟨h.nd, List.nodup_cons.mpr ⟨List.not_mem_nil, List.nodup_nil⟩, fun x hx z hz => ?_⟩
    rw [List.mem_singleton.mp hz]
    rintro rfl
    exact hy hx
  · rcases List.mem_append.mp hk with hk | hk
    · exact h.ok k hk
    · rw [List.mem_singleton.mp hk]
      exact ⟨by show r.q * _ = φ y / φ s; rw [P.step e, h1], .step h2 e⟩
  · unfold nmsR
    rw [List.map_append]
    exact List.mem_append_left _ h.st
  · by_cases hj : j < t.length
    · rw [List.getElem?_append_left hj] at hk
      exact h.bd j k hk
    · rw [List.getElem?_append_right (by omega)] at hk
      obtain ⟨i, hi⟩ := List.mem_iff_getElem?.mp hr
      have hi2 := (List.getElem?_eq_some_iff.mp hi).1
      obtain ⟨b1, b2⟩ := h.bd i r hi
      have hjj : j - t.length = 0 := by
        have := (List.getElem?_eq_some_iff.mp hk).1
        simp only [List.length_singleton] at this
        omega
      rw [hjj] at hk
      cases hk
      show (r.q * Rat.divInt (0 - u) v).num.natAbs ≤ B ^ j ∧ (r.q * Rat.divInt (0 - u) v).den ≤ B ^ j
      rw [← law_step]
      have hw : 0 < (r.q.den : Int) * v := Int.mul_pos q_pos (by omega)
      obtain ⟨c1, c2⟩ := ex_le (p := -r.q.num * u) hw
      have hp : B ^ i * B ≤ B ^ j := by
        rw [← Nat.pow_succ]
        exact Nat.pow_le_pow_right hB.b1.1 (by omega)
      refine ⟨Nat.le_trans c1 ?_, ?_⟩
      · rw [Int.natAbs_mul, Int.natAbs_neg]
        exact Nat.le_trans (Nat.mul_le_mul b1 (show u.natAbs ≤ B by omega)) hp
      · have h8 : ((r.q.den * v.natAbs : Nat) : Int) = (r.q.den : Int) * v := by
          rw [Int.natCast_mul]
          congr 1
          omega
        have h9 : r.q.den * v.natAbs ≤ B ^ i * B := Nat.mul_le_mul b2 (show v.natAbs ≤ B by omega)
        omega
theorem PTab.le2 {φ : Str → Rat} {ms : List Ms} {s : Str} {B N : Nat} {t : List Rt} (h : PTab φ ms s B t) (P : Pot φ ms) (hB : Bd ms s B N) {r : Rt} {y : Str} {u v : Int} (hr : r ∈ t) (e : Edge ms r.nm y u v) (hy : y ∉ nmsR t) : (r.q.den : Int) * v ≤ 16777216 := by
  have h0 := (h.add P hB hr e hy 0).len hB
  rw [List.length_append, List.length_singleton] at h0
  obtain ⟨_, hu, hv⟩ := P.edge e
  obtain ⟨hu2, hv2⟩ := hB.edge e
  obtain ⟨i, hi⟩ := List.mem_iff_getElem?.mp hr
  have hi2 := (List.getElem?_eq_some_iff.mp hi).1
  obtain ⟨b1, b2⟩ := h.bd i r hi
  have h9 : r.q.den * v.natAbs ≤ B ^ i * B := Nat.mul_le_mul b2 (show v.natAbs ≤ B by omega)
  have hp : B ^ i * B ≤ B ^ (N - 1) := by
    rw [← Nat.pow_succ]
    exact Nat.pow_le_pow_right hB.b1.1 (by omega)
  have h8 : ((r.q.den * v.natAbs : Nat) : Int) = (r.q.den : Int) * v := by
    rw [Int.natCast_mul]
    congr 1
    omega
  have := hB.pw
  omega
theorem den_mul {q : Rat} {p w : Int} (hw : 0 < w) : (q.den : Int) * (Rat.divInt p w).den ≤ q.den * w ∧ (q.den : Int) * (Rat.divInt p w).den ≠ 0 ∧ 0 ≤ (q.den : Int) * (Rat.divInt p w).den := by
  obtain ⟨_, c2⟩ := ex_le (p := p) hw
  have h1 : (0 : Int) < (q.den : Int) * (Rat.divInt p w).den := Int.mul_pos q_pos q_pos
  exact ⟨Int.mul_le_mul_of_nonneg_left c2 (Int.le_of_lt q_pos), by omega, Int.le_of_lt h1⟩
theorem PTab.done {φ : Str → Rat} {ms : List Ms} {s : Str} {B N : Nat} {t : List Rt} (h : PTab φ ms s B t) (hB : Bd ms s B N) (hc : ∀ x y u v, x ∈ nmsR t → Edge ms x y u v → y ∈ nmsR t) : IsTab φ ms s t := ⟨h.nd, h.ok, fun n hn => by
  induction hn with
  | refl => exact h.st
  | step _ e ih => exact hc _ _ _ _ ih e, fun r hr => h.le hB hr⟩
theorem nodup_le {α : Type} [DecidableEq α] : ∀ {l m : List α}, l.Nodup → (∀ x ∈ l, x ∈ m) → l.length ≤ m.length
  | [], _, _, _ => Nat.zero_le _
  | x :: l, m, h, hs => by
    have hx := hs x List.mem_cons_self
    have hn := List.nodup_cons.mp h
    have := nodup_le (l := l) (m := m.erase x) hn.2 fun y hy => (List.mem_erase_of_ne (fun (z : y = x) => hn.1 (by rw [← z]; exact hy))).mpr (hs y (List.mem_cons_of_mem _ hy))
    rw [List.length_erase_of_mem hx] at this
    have := List.length_pos_of_mem hx
    rw [List.length_cons]
    omega
theorem Conn.sub {ms : List Ms} {s n : Str} {names : List Str} (hs : s ∈ names) (hm : ∀ m ∈ ms, m.a ∈ names ∧ m.b ∈ names) (h : Conn ms s n) : n ∈ names := by
  cases h with
  | refl => exact hs
  | step _ e =>
    obtain ⟨m, hm2, ⟨_, _, e, _⟩ | ⟨_, _, e, _⟩⟩ := e
    · rw [← e]
      exact (hm m hm2).2
    · rw [← e]
      exact (hm m hm2).1
theorem Bd.of {ms : List Ms} {s : Str} {names : List Str} (hs : s ∈ names) (hm : ∀ m ∈ ms, m.a ∈ names ∧ m.b ∈ names) (ht : ∀ m ∈ ms, m.m ≤ 16 ∧ m.f ≤ 16) (hl : names.length ≤ 7) : Bd ms s 16 7 := ⟨ht, fun l h1 h2 => Nat.le_trans (nodup_le h1 fun x hx => (h2 x hx).sub hs hm) hl, by decide, by decide, by decide⟩
end K1

set_option Elab.async false
set_option linter.all false
set_option maxRecDepth 100000
set_option maxHeartbeats 2000000
set_option pp.maxSteps 1500
namespace K1
open PySem PySem.Spec PyProof.Rows L2 Mi
set_option hygiene false
local macro_rules | `(tactic| walk_at "lk") => `(tactic| first | (with_reducible assumption) | (with_reducible apply get_set_self; walk_at "lk") | ((with_reducible apply get_set_ne); (case' hne => with_reducible assumption); walk_at "lk"))
local macro_rules | `(tactic| walk_at "at") => `(tactic| first | (with_reducible exact At.here) | (with_reducible apply At.at; (case' h1 => assumption); walk_at "lk") | (with_reducible apply At.there; walk_at "at"))
local macro_rules | `(tactic| walk_at "rp") => `(tactic| first | (with_reducible exact Rp.here) | (with_reducible apply Rp.set; (case' h1 => assumption); walk_at "lk") | (with_reducible apply Rp.at; (case' h1 => assumption); walk_at "lk") | (with_reducible apply Rp.there; walk_at "rp"))
local macro_rules | `(tactic| walk_at "re") => `(tactic| first | (with_reducible apply Re.n; walk_at "rp") | (with_reducible apply Re.s; walk_at "rp"))
local macro_rules | `(tactic| walk_at "dl") => `(tactic| first | (with_reducible exact Dl.here) | (with_reducible apply Dl.there; walk_at "dl"))
local macro_rules | `(tactic| walk_at "pq") => `(tactic| first | (with_reducible exact Pq.nil) | ((with_reducible apply Pq.n); (case' d => walk_at "dl"); walk_at "pq") | ((with_reducible apply Pq.s); (case' d => walk_at "dl"); walk_at "pq"))
local macro_rules | `(tactic| walk_at "rc") => `(tactic| first | (with_reducible exact Rc.here) | (with_reducible apply Rc.there; walk_at "rc"))
local macro_rules | `(tactic| walk_at "rs") => `(tactic| first | (with_reducible exact Rs.nil) | ((with_reducible apply Rs.on); (case' r => walk_at "rc"); (case' hl => first | exact rfl | ((try simp only [List.length_map, List.length_set]); with_reducible assumption) | (simp; done)); walk_at "rs") | ((with_reducible apply Rs.os); (case' r => walk_at "rc"); (case' hl => first | exact rfl | ((try simp only [List.length_map, List.length_set]); with_reducible assumption) | (simp; done)); walk_at "rs"))
local macro_rules | `(tactic| walk_at "ix") => `(tactic| first | with_reducible exact atI_nat (by assumption) | with_reducible exact atI_nat1 (by assumption) | with_reducible exact atI0 | with_reducible exact atI1 | with_reducible exact atI2 | with_reducible exact atI3 | with_reducible exact atI4)
local macro_rules | `(tactic| walk_at "sl") => `(tactic| first | (with_reducible assumption) | ((with_reducible apply len_app); (case' h1 => walk_at "sl"); (case' h2 => walk_at "sl")) | (with_reducible exact Nat.le_refl _))
local macro_rules | `(tactic| walk_at "sz") => `(tactic| first | with_reducible assumption | ((with_reducible apply len_leB); (case' h => walk_at "sl"); (case' hn => exact Nat.le_of_ble_eq_true rfl)) | exact of_decide_eq_true rfl | (exact len_le (by (try simp only [List.length_append, List.length_cons, List.length_nil, List.length_map, List.length_set, List.length_reverse]); omega)) | (exact len_lt (by (try simp only [List.length_append, List.length_cons, List.length_nil, List.length_map, List.length_set, List.length_reverse]); omega)))
local macro_rules | `(tactic| walk_at "len") => `(tactic| ((try simp only [List.length_append, List.length_cons, List.length_nil, List.length_map, List.length_set, List.length_reverse, List.length_replicate]); omega))
local macro_rules | `(tactic| walk_at "ixn") => `(tactic| first | with_reducible assumption | (with_reducible apply ixN_nat; walk_at "len") | (with_reducible apply ixN_nat1; walk_at "len") | (with_reducible apply ixN_0; walk_at "len") | (with_reducible apply ixN_1; walk_at "len") | (with_reducible apply ixN_2; walk_at "len") | exact rfl)
local macro_rules | `(tactic| walk_at "st") => `(tactic| ((try simp only [L2.start, wipe, List.map_cons, List.map_nil, List.length_cons, List.length_nil, Nat.reduceAdd, Nat.reduceSub, List.replicate_succ, List.replicate_zero, List.nil_append, List.cons_append, List.set_cons_succ, List.set_cons_zero]); exact rfl))
local macro_rules | `(tactic| walk_at "kp") => `(tactic| first | (with_reducible exact Kp.nil) | (with_reducible apply Kp.keep; walk_at "kp") | (with_reducible apply Kp.drop; walk_at "kp"))
local macro_rules | `(tactic| walk_at "g") => `(tactic| first
  | with_reducible assumption
  | (with_reducible apply F.getN; walk_at "at")
  | (with_reducible apply F.getS; walk_at "at")
  | ((with_reducible apply F.imm); (case' h => with_reducible assumption); exact rfl)
  | ((with_reducible apply F.keep); (case' h => with_reducible assumption); exact rfl)
  | ((with_reducible apply F.keepL); with_reducible assumption)
  | ((with_reducible apply F.sqT); with_reducible assumption)
  | ((with_reducible apply SqL.of); walk_at "g")
  | ((with_reducible apply SqT.of); walk_at "g")
  | ((with_reducible apply Rd.of); walk_at "g")
  | ((with_reducible apply Rd.frz); walk_at "g")
  | (with_reducible apply F.tab; with_reducible assumption)
  | ((with_reducible apply f_dgetS); (case' h1 => walk_at "g"); (case' h2 => first | with_reducible assumption | ((simp (decide := true) only [valR, if_true, if_false]); exact rfl))))
local macro_rules | `(tactic| walk_at "f1") => `(tactic| first
  | (with_reducible (first | apply s_seq | apply s_cons | apply s_nil | apply s_c | apply s_op | apply s_asg | apply s_test | apply s_ifS | apply s_ret | apply s_next | apply s_call | apply s_fldE | apply s_dgetE | apply s_gCons | apply s_gNil | apply s_par | apply s_par3 | apply s_and | apply s_or | apply s_not | apply s_andV | apply s_orV | apply s_notV | apply s_ifE | apply s_chain | apply s_cb | apply s_for | apply s_lc | apply f_methE | apply f_makeE | apply s_rollE | apply s_iK | apply s_iL | apply s_iT | apply f_tup | apply f_lst))
  | ((with_reducible apply s_var); (case' h1 => first | exact rfl | with_reducible assumption))
  | ((with_reducible apply s_gNn); (case' e => walk_at "st"))
  | ((with_reducible apply s_dget); (case' h1 => walk_at "g"))
  | with_reducible apply f_tup
  | with_reducible apply f_lst
  | ((with_reducible apply newF F); (case' ho => exact rfl); clear F; intro p H1 F)
  | ((with_reducible apply s_mk0); (case' hz => first | decide | (simp only [List.length_cons, List.length_nil]; decide)))
  | with_reducible apply f_sFld
  | ((with_reducible apply f_fld F); (case' R => walk_at "re"); (case' h2 => with_reducible assumption); (case' h3 => with_reducible assumption); (case' h4 => exact of_decide_eq_true rfl); (case' hp => ((try simp (decide := true) only [putF, if_true, if_false]); exact rfl)); clear F; intro H1 F)
  | with_reducible apply f_sAug
  | ((with_reducible apply f_aug); (case' h1 => walk_at "g"); (case' h2 => with_reducible assumption); (case' h3 => with_reducible assumption); (case' h4 => exact rfl))
  | ((with_reducible apply f_fldq F); (case' R => walk_at "re"); (case' h4 => exact of_decide_eq_true rfl); (case' hp => ((try simp (decide := true) only [putF, if_true, if_false]); exact rfl)); clear F; intro H1 F)
  | with_reducible apply f_radd
  | with_reducible apply f_rsub
  | ((with_reducible apply f_setL F); (case' R => walk_at "re"); (case' h2 => walk_at "ixn"); clear F; intro H1 F)
  | with_reducible apply f_sDPut
  | ((with_reducible apply f_dputS F); (case' R => walk_at "re"); (case' hl => walk_at "sz"); (case' hp => first | with_reducible assumption | ((try simp (decide := true) only [putR, List.map_cons, List.map_nil, if_true, if_false]); exact rfl)); clear F; intro H1 F)
  | with_reducible apply f_sDAug
  | ((with_reducible apply f_daug); (case' h1 => walk_at "g"))
  | ((with_reducible apply f_dputqS F); (case' R => walk_at "re"); (case' hl => walk_at "sz"); (case' hp => first | with_reducible assumption | ((try simp (decide := true) only [putR, List.map_cons, List.map_nil, if_true, if_false]); exact rfl)); clear F; intro H1 F)
  | with_reducible apply s_dgetE
  | ((with_reducible apply s_dget); (case' h1 => walk_at "g"))
  | ((with_reducible apply f_append F); (case' R => walk_at "re"); (case' hz => walk_at "sz"); clear F; intro H1 F)
  | ((with_reducible apply f_listKL); (case' h1 => walk_at "g"))
  | ((with_reducible apply f_listKT); (case' h1 => walk_at "g"))
  | ((with_reducible apply f_tupKL); (case' h1 => walk_at "g"))
  | ((with_reducible apply f_slL); (case' h1 => walk_at "g"))
  | ((with_reducible apply f_cat); (case' h1 => walk_at "g"); (case' h2 => walk_at "g"); (case' hz => walk_at "sz"))
  | with_reducible apply f_makeE
  | with_reducible apply s_iR3
  | ((with_reducible apply s_iR3d); (case' h1 => omega); (case' hc => rfl); intro J w)
  | ((with_reducible apply s_wipe); (case' h1 => first | exact rfl | exact wipe1))
  | with_reducible apply s_revE
  | ((with_reducible apply s_rev); (case' h1 => walk_at "g"))
  | with_reducible apply f_methE
  | ((with_reducible apply s_lenD); (case' h1 => walk_at "g"))
  | ((with_reducible apply f_meth); (case' h1 => walk_at "g"); (case' h2 => exact rfl))
  | with_reducible apply s_iEL
  | ((with_reducible apply s_iEL2); (case' h1 => walk_at "g"); intro J w)
  | with_reducible apply s_iZ
  | with_reducible apply s_iI
  | ((with_reducible apply s_iI2); (case' h1 => walk_at "g"); intro J w)
  | ((with_reducible apply f_rep1); (case' h1 => walk_at "g"); (case' hk => (constructor <;> omega)))
  | with_reducible apply f_gSub
  | ((with_reducible apply f_disp F); clear F; intro p H1 F)
  | with_reducible apply f_pairC
  | with_reducible apply f_pairN
  | ((with_reducible apply f_dispQ F); (case' R => walk_at "re"); (case' e => ((simp only [List.map_cons, List.map_nil, cvK]); exact rfl)); (case' e2 => exact rfl); (case' hl => exact Nat.le_of_ble_eq_true rfl); (case' hm => first | with_reducible apply hMk | exact rfl); clear F; intro H1 F)
  | ((with_reducible apply f_dnew F); clear F; intro p H1 F)
  | ((with_reducible apply f_unl F); (case' R => walk_at "re"); clear F; intro H1 F)
  | with_reducible apply f_rSetD
  | with_reducible apply f_dnewK
  | with_reducible apply f_sDNi
  | with_reducible apply f_finS
  | with_reducible apply f_finB
  | with_reducible apply f_finB'
  | with_reducible apply f_sDIn
  | ((with_reducible apply s_catS); (case' h1 => walk_at "sl"); (case' h2 => walk_at "sl"); (case' hn => exact Nat.le_of_ble_eq_true rfl))
  | ((with_reducible apply s_logA); (case' hl => with_reducible assumption))
  | with_reducible apply s_same
  | with_reducible apply s_js
  | with_reducible apply s_js0
  | ((with_reducible apply s_js2); (case' hl => walk_at "sz"))
  | with_reducible apply s_fm
  | ((with_reducible apply s_fmS); (case' hl => walk_at "sz"))
  | ((with_reducible apply s_fmI); (case' hl => with_reducible assumption))
  | with_reducible apply f_dget2E
  | with_reducible apply s_sameE
  | with_reducible apply s_chain3
  | with_reducible apply s_notN
  | with_reducible apply s_items
  | with_reducible apply s_bb1
  | with_reducible apply s_bb2
  | walk_at "f2")
local macro_rules | `(tactic| walk_at "f2") => `(tactic| first
  | with_reducible apply s_seq
  | with_reducible apply s_gCons
  | with_reducible apply s_gNil
  | ((with_reducible apply s_gTup); (case' h1 => walk_at "g"); (case' h2 => exact rfl))
  | with_reducible apply s_asg
  | ((with_reducible apply s_I); (case' hc => first | exact ⟨by omega, by omega⟩ | exact .inl ⟨by omega, by omega⟩ | exact .inr ⟨by omega, by omega⟩ | (show (_ : Int) < _; omega) | (show (_ : Int) ≠ _; omega)))
  | with_reducible apply s_mm
  | ((with_reducible apply s_lenKL); (case' h1 => walk_at "g"))
  | ((with_reducible apply s_lenKT); (case' h1 => walk_at "g"))
  | ((with_reducible apply s_tupKT); (case' h1 => walk_at "g"))
  | with_reducible apply s_iE
  | ((with_reducible apply s_iE2); (case' h1 => walk_at "g"); intro J w)
  | with_reducible apply s_ifTT
  | with_reducible apply s_ifFF
  | with_reducible apply s_rollE
  | ((with_reducible apply s_roll); (case' h1 => walk_at "g"); (case' h2 => exact ⟨by omega, by omega⟩); intro k k0 k1)
  | with_reducible apply s_gSub
  | with_reducible apply s_ab
  | with_reducible apply s_in1
  | with_reducible apply s_in2
  | ((with_reducible apply s_lsL); (case' h1 => walk_at "g"))
  | ((with_reducible apply s_lsT); (case' h1 => walk_at "g"))
  | ((with_reducible apply s_tyL); (case' h1 => walk_at "g"))
  | with_reducible apply s_for
  | with_reducible apply s_lc
  | with_reducible apply s_dc
  | with_reducible apply s_gn
  | with_reducible apply s_yes
  | with_reducible apply s_iL
  | with_reducible apply s_iT
  | with_reducible apply s_iR1
  | with_reducible apply s_iR2
  | with_reducible apply s_iK
  | ((with_reducible apply s_iL2); (case' h1 => walk_at "g"); intro J w)
  | ((with_reducible apply s_iT2); (case' h1 => walk_at "g"); intro J w)
  | ((with_reducible apply s_iR12); (case' h1 => omega); intro J w)
  | ((with_reducible apply s_iR22); (case' h1 => omega); intro J w)
  | ((with_reducible apply s_iK2); (case' h1 => walk_at "g"); intro J w)
  | ((with_reducible apply s_gNn); (case' e => walk_at "st"))
  | ((with_reducible apply s_var); (case' h1 => first | exact rfl | with_reducible assumption))
  | with_reducible apply s_c
  | with_reducible apply s_op
  | with_reducible apply s_cons
  | with_reducible apply s_nil
  | with_reducible apply s_ret
  | with_reducible apply s_ifS
  | with_reducible apply s_test
  | with_reducible apply s_B
  | with_reducible apply s_exbl
  | with_reducible apply s_exint
  | with_reducible apply s_I0
  | ((with_reducible apply s_Eq); (case' hs => exact rfl))
  | ((with_reducible apply s_Ne); (case' hs => exact rfl))
  | with_reducible apply s_un
  | with_reducible apply s_U
  | with_reducible apply s_cb
  | with_reducible apply s_call
  | with_reducible apply s_next
  | with_reducible apply s_drop
  | with_reducible apply s_break
  | with_reducible apply s_cont
  | with_reducible apply s_retN
  | with_reducible apply s_par
  | with_reducible apply s_par2
  | with_reducible apply s_par3
  | with_reducible apply s_par33
  | ((with_reducible apply s_aug); (case' h1 => exact rfl))
  | with_reducible apply s_and
  | with_reducible apply s_or
  | with_reducible apply s_not
  | with_reducible apply s_andV
  | with_reducible apply s_orV
  | with_reducible apply s_notV
  | with_reducible apply s_ifE
  | with_reducible apply s_isN
  | with_reducible apply s_chain
  | with_reducible apply s_sl
  | with_reducible apply s_noP
  | with_reducible apply s_part
  | with_reducible apply s_bm
  | with_reducible apply s_bm0
  | with_reducible apply s_fldE
  | ((with_reducible apply s_fld); (case' h1 => walk_at "g"); (case' h2 => assumption); (case' h3 => assumption); (case' h4 => exact rfl))
  | ((with_reducible apply s_ixL); (case' h1 => walk_at "g"); (case' h2 => first | with_reducible assumption | walk_at "ix"))
  | ((with_reducible apply s_ixT); (case' h1 => walk_at "g"); (case' h2 => first | with_reducible assumption | walk_at "ix"))
  | ((with_reducible apply s_lenL); (case' h1 => walk_at "g")))
local macro_rules | `(tactic| walk_at "ff") => `(tactic| repeat walk_at "f1")
local macro_rules | `(tactic| walk_at "k0") => `(tactic| try dsimp only [L2.cxOf, Cx.nox, Cx.wish, Cx.blk, genCx])
set_option hygiene true

abbrev s_exact : Stmt := topS 6
abbrev n_exact : List Str := ["part", "whole", "one", "other"]
theorem sc_exact : FnScope n_exact ["part", "whole"] (defScope s_exact) := ⟨rfl, rfl, rfl, by decide +kernel, rfl, by decide +kernel, by decide +kernel⟩

abbrev s_times : Stmt := topS 7
abbrev n_times : List Str := ["one", "other"]
theorem sc_times : FnScope n_times ["one", "other"] (defScope s_times) := ⟨rfl, rfl, rfl, by decide +kernel, rfl, by decide +kernel, by decide +kernel⟩

abbrev s_less : Stmt := topS 8
abbrev n_less : List Str := ["one", "other"]
theorem sc_less : FnScope n_less ["one", "other"] (defScope s_less) := ⟨rfl, rfl, rfl, by decide +kernel, rfl, by decide +kernel, by decide +kernel⟩

abbrev s__law_ex : Stmt := topS 16
abbrev n__law_ex : List Str := ["part", "whole", "one", "other"]
theorem sc__law_ex : FnScope n__law_ex ["part", "whole"] (defScope s__law_ex) := ⟨rfl, rfl, rfl, by decide +kernel, rfl, by decide +kernel, by decide +kernel⟩

abbrev qO (q : Rat) : HO := .tup [.int q.num, .int q.den]
section
variable [Lw] {P : Program} {w : World} {K : PySem.W.Frag} {mg : Str → Option Value} {base : Heap} {f : Addr} {fd : FuncData} {fn : List He.DefD} {tf : List He.Defn}
def spEx (K : PySem.W.Frag) : Sp := fun vs H Q _ => ∃ (p wh : Int), vs = [.int p, .int wh] ∧ wh ≠ 0 ∧ wh.natAbs < 1073741824 ∧ ∀ t H', Fp H [] [ck t (qO (Rat.divInt p wh))] H' → Q (.ref t) H'
theorem ok_exact (T : Sy fa1 fn tf K mg base) (F : FnP K "exact" s_exact f fd) : FnOk P w K mg base CX0 1 f fd ["part", "whole"] (spEx K) := by
  refine F.ok sc_exact (fun vs H Q E h => ?_) (fun cdv A outer s H vs Q E hr h => ⟨_, PSs.nox (pss_cons (ps_if (pt_cmpR op_lt (pv 1) pe_int (nomark _)) (pss_one (ps_par (i := 0) (j := 1) (by rfl) sc_exact.nd rfl rfl (by decide) rfl rfl (pa_cons (pe_op op_sub pe_int (pv 0)) (pa_cons (pe_op op_sub pe_int (pv 1)) pa_nil)) (by rfl))) pss_nil) (pss_cons (ps_par (i := 2) (j := 3) (by rfl) sc_exact.nd rfl rfl (by decide) rfl rfl (pa_cons (pe_callB call_abs rfl (T.free "abs") boot_abs (pa_cons (pv 0) pa_nil)) (pa_cons (pv 1) pa_nil)) (by rfl)) (pss_cons (ps_while PassesOwn.never (pt_cmpR op_ne (pv 3) pe_int (nomark _)) (pss_one (ps_par (i := 2) (j := 3) (by rfl) sc_exact.nd rfl rfl (by decide) rfl rfl (pa_cons (pv 3) (pa_cons (pe_op op_mod (pv 2) (pv 3)) pa_nil)) (by rfl)))) (pss_one (ps_ret (pe_tup (pa_cons (pe_op op_fdiv (pv 0) (pv 2)) (pa_cons (pe_op op_fdiv (pv 1) (pv 2)) pa_nil)))))))), ?_⟩)
  · obtain ⟨_, _, rfl, _⟩ := h
    rfl
  · obtain ⟨p0, w0, rfl, hw0, hwb, good⟩ := h
    have F := Fp.refl (B := H)
    walk_at "k0"
    refine seqP (fun σ' H' => ∃ (p w : Int) (x2 x3 : Option V), σ' = [some (.int p), some (.int w), x2, x3] ∧ (0 < w ∧ w < 1073741824) ∧ Rat.divInt p w = Rat.divInt p0 w0 ∧ Fp H [] [] H') (fun σ' H' hP => ?_) (fun nx' hB => ?_)
    rotate_left
    · walk_at "ff"
      refine ite_dec (fun hc => ?_) (fun hc => ?_)
      · walk_at "ff"
        exact hB _ _ ⟨_, _, _, _, rfl, ⟨by omega, by omega⟩, divInt_neg2, F⟩
      · walk_at "ff"
        exact hB _ _ ⟨_, _, _, _, rfl, ⟨by omega, by omega⟩, rfl, F⟩
    obtain ⟨p, wh, x2, x3, rfl, ⟨hw, hw2⟩, hq, F⟩ := hP
    walk_at "ff"
    refine whileS (fun m σ' H' => ∃ a : Nat, σ' = [some (.int p), some (.int wh), some (.int (a : Int)), some (.int (m : Int))] ∧ Nat.gcd a m = Nat.gcd p.natAbs wh.natAbs ∧ (0 < a ∨ 0 < m) ∧ Fp H [] [] H') ⟨wh.natAbs, p.natAbs, ?_, rfl, .inr (by omega), F⟩ fun m σ' H' hP => ?_
    · rw [show (if p < 0 then -p else p) = (p.natAbs : Int) by split <;> omega, show (wh.natAbs : Int) = wh by omega]
      rfl
    clear F
    obtain ⟨a, rfl, hg, hp, F⟩ := hP
    walk_at "ff"
    refine ite_ndec (fun hc => ?_) (fun hc => ?_)
    · have hm : m ≠ 0 := fun z => hc (by rw [z]; rfl)
      have hm1 : (0 : Int) < (m : Int) := by omega
      walk_at "ff"
      refine whQ ?_
      walk_at "ff"
      exact ⟨a % m, Nat.mod_lt _ (by omega), m, rfl, by rw [← hg, Nat.gcd_comm a m, Nat.gcd_rec m a, Nat.gcd_comm], .inl (by omega), F⟩
    · have hm : m = 0 := by injection hc with hc; omega
      subst hm
      rw [Nat.gcd_zero_right] at hg
      have ha : (0 : Int) < (a : Int) := by omega
      have ha2 : (a : Int) < 1073741824 := by
        have := Nat.gcd_le_right p.natAbs (show 0 < wh.natAbs by omega)
        omega
      obtain ⟨e1, e2⟩ := ex_num (p := p) hw hg
      walk_at "ff"
      rw [e1, e2, hq] at F
      exact good _ _ F
theorem ok_lex (T : Sy fa1 fn tf K mg base) (F : FnP K "_law_ex" s__law_ex f fd) : FnOk P w K mg base CX0 1 f fd ["part", "whole"] (spEx K) := by
  refine F.ok sc__law_ex (fun vs H Q E h => ?_) (fun cdv A outer s H vs Q E hr h => ⟨_, PSs.nox (pss_cons (ps_if (pt_cmpR op_lt (pv 1) pe_int (nomark _)) (pss_one (ps_par (i := 0) (j := 1) (by rfl) sc__law_ex.nd rfl rfl (by decide) rfl rfl (pa_cons (pe_un un_neg (pv 0)) (pa_cons (pe_un un_neg (pv 1)) pa_nil)) (by rfl))) pss_nil) (pss_cons (ps_par (i := 2) (j := 3) (by rfl) sc__law_ex.nd rfl rfl (by decide) rfl rfl (pa_cons (pe_callB call_abs rfl (T.free "abs") boot_abs (pa_cons (pv 0) pa_nil)) (pa_cons (pv 1) pa_nil)) (by rfl)) (pss_cons (ps_while PassesOwn.never (pt_cmpR op_ne (pv 3) pe_int (nomark _)) (pss_one (ps_par (i := 2) (j := 3) (by rfl) sc__law_ex.nd rfl rfl (by decide) rfl rfl (pa_cons (pv 3) (pa_cons (pe_op op_mod (pv 2) (pv 3)) pa_nil)) (by rfl)))) (pss_one (ps_ret (pe_tup (pa_cons (pe_op op_fdiv (pv 0) (pv 2)) (pa_cons (pe_op op_fdiv (pv 1) (pv 2)) pa_nil)))))))), ?_⟩)
  · obtain ⟨_, _, rfl, _⟩ := h
    rfl
  · obtain ⟨p0, w0, rfl, hw0, hwb, good⟩ := h
    have F := Fp.refl (B := H)
    walk_at "k0"
    refine seqP (fun σ' H' => ∃ (p w : Int) (x2 x3 : Option V), σ' = [some (.int p), some (.int w), x2, x3] ∧ (0 < w ∧ w < 1073741824) ∧ Rat.divInt p w = Rat.divInt p0 w0 ∧ Fp H [] [] H') (fun σ' H' hP => ?_) (fun nx' hB => ?_)
    rotate_left
    · walk_at "ff"
      refine ite_dec (fun hc => ?_) (fun hc => ?_)
      · walk_at "ff"
        exact hB _ _ ⟨_, _, _, _, rfl, ⟨by omega, by omega⟩, Rat.neg_divInt_neg .., F⟩
      · walk_at "ff"
        exact hB _ _ ⟨_, _, _, _, rfl, ⟨by omega, by omega⟩, rfl, F⟩
    obtain ⟨p, wh, x2, x3, rfl, ⟨hw, hw2⟩, hq, F⟩ := hP
    walk_at "ff"
    refine whileS (fun m σ' H' => ∃ a : Nat, σ' = [some (.int p), some (.int wh), some (.int (a : Int)), some (.int (m : Int))] ∧ Nat.gcd a m = Nat.gcd p.natAbs wh.natAbs ∧ (0 < a ∨ 0 < m) ∧ Fp H [] [] H') ⟨wh.natAbs, p.natAbs, ?_, rfl, .inr (by omega), F⟩ fun m σ' H' hP => ?_
    · rw [show (if p < 0 then -p else p) = (p.natAbs : Int) by split <;> omega, show (wh.natAbs : Int) = wh by omega]
      rfl
    clear F
    obtain ⟨a, rfl, hg, hp, F⟩ := hP
    walk_at "ff"
    refine ite_ndec (fun hc => ?_) (fun hc => ?_)
    · have hm : m ≠ 0 := fun z => hc (by rw [z]; rfl)
      have hm1 : (0 : Int) < (m : Int) := by omega
      walk_at "ff"
      refine whQ ?_
      walk_at "ff"
      exact ⟨a % m, Nat.mod_lt _ (by omega), m, rfl, by rw [← hg, Nat.gcd_comm a m, Nat.gcd_rec m a, Nat.gcd_comm], .inl (by omega), F⟩
    · have hm : m = 0 := by injection hc with hc; omega
      subst hm
      rw [Nat.gcd_zero_right] at hg
      have ha : (0 : Int) < (a : Int) := by omega
      have ha2 : (a : Int) < 1073741824 := by
        have := Nat.gcd_le_right p.natAbs (show 0 < wh.natAbs by omega)
        omega
      obtain ⟨e1, e2⟩ := ex_num (p := p) hw hg
      walk_at "ff"
      rw [e1, e2, hq] at F
      exact good _ _ F
end
end K1

set_option Elab.async false
set_option linter.all false
set_option maxRecDepth 100000
set_option maxHeartbeats 2000000
set_option pp.maxSteps 1500
namespace K1
open PySem PySem.Spec PyProof.Rows L2 Mi
set_option hygiene false
local macro_rules | `(tactic| walk_at "lk") => `(tactic| first | (with_reducible assumption) | (with_reducible apply get_set_self; walk_at "lk") | ((with_reducible apply get_set_ne); (case' hne => with_reducible assumption); walk_at "lk"))
local macro_rules | `(tactic| walk_at "at") => `(tactic| first | (with_reducible exact At.here) | (with_reducible apply At.at; (case' h1 => assumption); walk_at "lk") | (with_reducible apply At.there; walk_at "at"))
local macro_rules | `(tactic| walk_at "rp") => `(tactic| first | (with_reducible exact Rp.here) | (with_reducible apply Rp.set; (case' h1 => assumption); walk_at "lk") | (with_reducible apply Rp.at; (case' h1 => assumption); walk_at "lk") | (with_reducible apply Rp.there; walk_at "rp"))
local macro_rules | `(tactic| walk_at "re") => `(tactic| first | (with_reducible apply Re.n; walk_at "rp") | (with_reducible apply Re.s; walk_at "rp"))
local macro_rules | `(tactic| walk_at "dl") => `(tactic| first | (with_reducible exact Dl.here) | (with_reducible apply Dl.there; walk_at "dl"))
local macro_rules | `(tactic| walk_at "pq") => `(tactic| first | (with_reducible exact Pq.nil) | ((with_reducible apply Pq.n); (case' d => walk_at "dl"); walk_at "pq") | ((with_reducible apply Pq.s); (case' d => walk_at "dl"); walk_at "pq"))
local macro_rules | `(tactic| walk_at "rc") => `(tactic| first | (with_reducible exact Rc.here) | (with_reducible apply Rc.there; walk_at "rc"))
local macro_rules | `(tactic| walk_at "rs") => `(tactic| first | (with_reducible exact Rs.nil) | ((with_reducible apply Rs.on); (case' r => walk_at "rc"); (case' hl => first | exact rfl | ((try simp only [List.length_map, List.length_set]); with_reducible assumption) | (simp; done)); walk_at "rs") | ((with_reducible apply Rs.os); (case' r => walk_at "rc"); (case' hl => first | exact rfl | ((try simp only [List.length_map, List.length_set]); with_reducible assumption) | (simp; done)); walk_at "rs"))
local macro_rules | `(tactic| walk_at "ix") => `(tactic| first | with_reducible exact atI_nat (by assumption) | with_reducible exact atI_nat1 (by assumption) | with_reducible exact atI0 | with_reducible exact atI1 | with_reducible exact atI2 | with_reducible exact atI3 | with_reducible exact atI4)
local macro_rules | `(tactic| walk_at "sl") => `(tactic| first | (with_reducible assumption) | ((with_reducible apply len_app); (case' h1 => walk_at "sl"); (case' h2 => walk_at "sl")) | (with_reducible exact Nat.le_refl _))
local macro_rules | `(tactic| walk_at "sz") => `(tactic| first | with_reducible assumption | ((with_reducible apply len_leB); (case' h => walk_at "sl"); (case' hn => exact Nat.le_of_ble_eq_true rfl)) | exact of_decide_eq_true rfl | (exact len_le (by (try simp only [List.length_append, List.length_cons, List.length_nil, List.length_map, List.length_set, List.length_reverse]); omega)) | (exact len_lt (by (try simp only [List.length_append, List.length_cons, List.length_nil, List.length_map, List.length_set, List.length_reverse]); omega)))
local macro_rules | `(tactic| walk_at "len") => `(tactic| ((try simp only [List.length_append, List.length_cons, List.length_nil, List.length_map, List.length_set, List.length_reverse, List.length_replicate]); omega))
local macro_rules | `(tactic| walk_at "ixn") => `(tactic| first | with_reducible assumption | (with_reducible apply ixN_nat; walk_at "len") | (with_reducible apply ixN_nat1; walk_at "len") | (with_reducible apply ixN_0; walk_at "len") | (with_reducible apply ixN_1; walk_at "len") | (with_reducible apply ixN_2; walk_at "len") | exact rfl)
local macro_rules | `(tactic| walk_at "st") => `(tactic| ((try simp only [L2.start, wipe, List.map_cons, List.map_nil, List.length_cons, List.length_nil, Nat.reduceAdd, Nat.reduceSub, List.replicate_succ, List.replicate_zero, List.nil_append, List.cons_append, List.set_cons_succ, List.set_cons_zero]); exact rfl))
local macro_rules | `(tactic| walk_at "kp") => `(tactic| first | (with_reducible exact Kp.nil) | (with_reducible apply Kp.keep; walk_at "kp") | (with_reducible apply Kp.drop; walk_at "kp"))
local macro_rules | `(tactic| walk_at "g") => `(tactic| first
  | with_reducible assumption
  | (with_reducible apply F.getN; walk_at "at")
  | (with_reducible apply F.getS; walk_at "at")
  | ((with_reducible apply F.imm); (case' h => with_reducible assumption); exact rfl)
  | ((with_reducible apply F.keep); (case' h => with_reducible assumption); exact rfl)
  | ((with_reducible apply F.keepL); with_reducible assumption)
  | ((with_reducible apply F.sqT); with_reducible assumption)
  | ((with_reducible apply SqL.of); walk_at "g")
  | ((with_reducible apply SqT.of); walk_at "g")
  | ((with_reducible apply Rd.of); walk_at "g")
  | ((with_reducible apply Rd.frz); walk_at "g")
  | (with_reducible apply F.tab; with_reducible assumption)
  | ((with_reducible apply f_dgetS); (case' h1 => walk_at "g"); (case' h2 => first | with_reducible assumption | ((simp (decide := true) only [valR, if_true, if_false]); exact rfl))))
local macro_rules | `(tactic| walk_at "f1") => `(tactic| first
  | (with_reducible (first | apply s_seq | apply s_cons | apply s_nil | apply s_c | apply s_op | apply s_asg | apply s_test | apply s_ifS | apply s_ret | apply s_next | apply s_call | apply s_fldE | apply s_dgetE | apply s_gCons | apply s_gNil | apply s_par | apply s_par3 | apply s_and | apply s_or | apply s_not | apply s_andV | apply s_orV | apply s_notV | apply s_ifE | apply s_chain | apply s_cb | apply s_for | apply s_lc | apply f_methE | apply f_makeE | apply s_rollE | apply s_iK | apply s_iL | apply s_iT | apply f_tup | apply f_lst))
  | ((with_reducible apply s_var); (case' h1 => first | exact rfl | with_reducible assumption))
  | ((with_reducible apply s_gNn); (case' e => walk_at "st"))
  | ((with_reducible apply s_dget); (case' h1 => walk_at "g"))
  | with_reducible apply f_tup
  | with_reducible apply f_lst
  | ((with_reducible apply newF F); (case' ho => exact rfl); clear F; intro p H1 F)
  | ((with_reducible apply s_mk0); (case' hz => first | decide | (simp only [List.length_cons, List.length_nil]; decide)))
  | with_reducible apply f_sFld
  | ((with_reducible apply f_fld F); (case' R => walk_at "re"); (case' h2 => with_reducible assumption); (case' h3 => with_reducible assumption); (case' h4 => exact of_decide_eq_true rfl); (case' hp => ((try simp (decide := true) only [putF, if_true, if_false]); exact rfl)); clear F; intro H1 F)
  | with_reducible apply f_sAug
  | ((with_reducible apply f_aug); (case' h1 => walk_at "g"); (case' h2 => with_reducible assumption); (case' h3 => with_reducible assumption); (case' h4 => exact rfl))
  | ((with_reducible apply f_fldq F); (case' R => walk_at "re"); (case' h4 => exact of_decide_eq_true rfl); (case' hp => ((try simp (decide := true) only [putF, if_true, if_false]); exact rfl)); clear F; intro H1 F)
  | with_reducible apply f_radd
  | with_reducible apply f_rsub
  | ((with_reducible apply f_setL F); (case' R => walk_at "re"); (case' h2 => walk_at "ixn"); clear F; intro H1 F)
  | with_reducible apply f_sDPut
  | ((with_reducible apply f_dputS F); (case' R => walk_at "re"); (case' hl => walk_at "sz"); (case' hp => first | with_reducible assumption | ((try simp (decide := true) only [putR, List.map_cons, List.map_nil, if_true, if_false]); exact rfl)); clear F; intro H1 F)
  | with_reducible apply f_sDAug
  | ((with_reducible apply f_daug); (case' h1 => walk_at "g"))
  | ((with_reducible apply f_dputqS F); (case' R => walk_at "re"); (case' hl => walk_at "sz"); (case' hp => first | with_reducible assumption | ((try simp (decide := true) only [putR, List.map_cons, List.map_nil, if_true, if_false]); exact rfl)); clear F; intro H1 F)
  | with_reducible apply s_dgetE
  | ((with_reducible apply s_dget); (case' h1 => walk_at "g"))
  | ((with_reducible apply f_append F); (case' R => walk_at "re"); (case' hz => walk_at "sz"); clear F; intro H1 F)
  | ((with_reducible apply f_listKL); (case' h1 => walk_at "g"))
  | ((with_reducible apply f_listKT); (case' h1 => walk_at "g"))
  | ((with_reducible apply f_tupKL); (case' h1 => walk_at "g"))
  | ((with_reducible apply f_slL); (case' h1 => walk_at "g"))
  | ((with_reducible apply f_cat); (case' h1 => walk_at "g"); (case' h2 => walk_at "g"); (case' hz => walk_at "sz"))
  | with_reducible apply f_makeE
  | with_reducible apply s_iR3
  | ((with_reducible apply s_iR3d); (case' h1 => omega); (case' hc => rfl); intro J w)
  | ((with_reducible apply s_wipe); (case' h1 => first | exact rfl | exact wipe1))
  | with_reducible apply s_revE
  | ((with_reducible apply s_rev); (case' h1 => walk_at "g"))
  | with_reducible apply f_methE
  | ((with_reducible apply s_lenD); (case' h1 => walk_at "g"))
  | ((with_reducible apply f_meth); (case' h1 => walk_at "g"); (case' h2 => exact rfl))
  | with_reducible apply s_iEL
  | ((with_reducible apply s_iEL2); (case' h1 => walk_at "g"); intro J w)
  | with_reducible apply s_iZ
  | with_reducible apply s_iI
  | ((with_reducible apply s_iI2); (case' h1 => walk_at "g"); intro J w)
  | ((with_reducible apply f_rep1); (case' h1 => walk_at "g"); (case' hk => (constructor <;> omega)))
  | with_reducible apply f_gSub
  | ((with_reducible apply f_disp F); clear F; intro p H1 F)
  | with_reducible apply f_pairC
  | with_reducible apply f_pairN
  | ((with_reducible apply f_dispQ F); (case' R => walk_at "re"); (case' e => ((simp only [List.map_cons, List.map_nil, cvK]); exact rfl)); (case' e2 => exact rfl); (case' hl => exact Nat.le_of_ble_eq_true rfl); (case' hm => first | with_reducible apply hMk | exact rfl); clear F; intro H1 F)
  | ((with_reducible apply f_dnew F); clear F; intro p H1 F)
  | ((with_reducible apply f_unl F); (case' R => walk_at "re"); clear F; intro H1 F)
  | with_reducible apply f_rSetD
  | with_reducible apply f_dnewK
  | with_reducible apply f_sDNi
  | with_reducible apply f_finS
  | with_reducible apply f_finB
  | with_reducible apply f_finB'
  | with_reducible apply f_sDIn
  | ((with_reducible apply s_catS); (case' h1 => walk_at "sl"); (case' h2 => walk_at "sl"); (case' hn => exact Nat.le_of_ble_eq_true rfl))
  | ((with_reducible apply s_logA); (case' hl => with_reducible assumption))
  | with_reducible apply s_same
  | with_reducible apply s_js
  | with_reducible apply s_js0
  | ((with_reducible apply s_js2); (case' hl => walk_at "sz"))
  | with_reducible apply s_fm
  | ((with_reducible apply s_fmS); (case' hl => walk_at "sz"))
  | ((with_reducible apply s_fmI); (case' hl => with_reducible assumption))
  | with_reducible apply f_dget2E
  | with_reducible apply s_sameE
  | with_reducible apply s_chain3
  | with_reducible apply s_notN
  | with_reducible apply s_items
  | with_reducible apply s_bb1
  | with_reducible apply s_bb2
  | walk_at "f2")
local macro_rules | `(tactic| walk_at "f2") => `(tactic| first
  | with_reducible apply s_seq
  | with_reducible apply s_gCons
  | with_reducible apply s_gNil
  | ((with_reducible apply s_gTup); (case' h1 => walk_at "g"); (case' h2 => exact rfl))
  | with_reducible apply s_asg
  | ((with_reducible apply s_I); (case' hc => first | exact ⟨by omega, by omega⟩ | exact .inl ⟨by omega, by omega⟩ | exact .inr ⟨by omega, by omega⟩ | (show (_ : Int) < _; omega) | (show (_ : Int) ≠ _; omega)))
  | with_reducible apply s_mm
  | ((with_reducible apply s_lenKL); (case' h1 => walk_at "g"))
  | ((with_reducible apply s_lenKT); (case' h1 => walk_at "g"))
  | ((with_reducible apply s_tupKT); (case' h1 => walk_at "g"))
  | with_reducible apply s_iE
  | ((with_reducible apply s_iE2); (case' h1 => walk_at "g"); intro J w)
  | with_reducible apply s_ifTT
  | with_reducible apply s_ifFF
  | with_reducible apply s_rollE
  | ((with_reducible apply s_roll); (case' h1 => walk_at "g"); (case' h2 => exact ⟨by omega, by omega⟩); intro k k0 k1)
  | with_reducible apply s_gSub
  | with_reducible apply s_ab
  | with_reducible apply s_in1
  | with_reducible apply s_in2
  | ((with_reducible apply s_lsL); (case' h1 => walk_at "g"))
  | ((with_reducible apply s_lsT); (case' h1 => walk_at "g"))
  | ((with_reducible apply s_tyL); (case' h1 => walk_at "g"))
  | with_reducible apply s_for
  | with_reducible apply s_lc
  | with_reducible apply s_dc
  | with_reducible apply s_gn
  | with_reducible apply s_yes
  | with_reducible apply s_iL
  | with_reducible apply s_iT
  | with_reducible apply s_iR1
  | with_reducible apply s_iR2
  | with_reducible apply s_iK
  | ((with_reducible apply s_iL2); (case' h1 => walk_at "g"); intro J w)
  | ((with_reducible apply s_iT2); (case' h1 => walk_at "g"); intro J w)
  | ((with_reducible apply s_iR12); (case' h1 => omega); intro J w)
  | ((with_reducible apply s_iR22); (case' h1 => omega); intro J w)
  | ((with_reducible apply s_iK2); (case' h1 => walk_at "g"); intro J w)
  | ((with_reducible apply s_gNn); (case' e => walk_at "st"))
  | ((with_reducible apply s_var); (case' h1 => first | exact rfl | with_reducible assumption))
  | with_reducible apply s_c
  | with_reducible apply s_op
  | with_reducible apply s_cons
  | with_reducible apply s_nil
  | with_reducible apply s_ret
  | with_reducible apply s_ifS
  | with_reducible apply s_test
  | with_reducible apply s_B
  | with_reducible apply s_exbl
  | with_reducible apply s_exint
  | with_reducible apply s_I0
  | ((with_reducible apply s_Eq); (case' hs => exact rfl))
  | ((with_reducible apply s_Ne); (case' hs => exact rfl))
  | with_reducible apply s_un
  | with_reducible apply s_U
  | with_reducible apply s_cb
  | with_reducible apply s_call
  | with_reducible apply s_next
  | with_reducible apply s_drop
  | with_reducible apply s_break
  | with_reducible apply s_cont
  | with_reducible apply s_retN
  | with_reducible apply s_par
  | with_reducible apply s_par2
  | with_reducible apply s_par3
  | with_reducible apply s_par33
  | ((with_reducible apply s_aug); (case' h1 => exact rfl))
  | with_reducible apply s_and
  | with_reducible apply s_or
  | with_reducible apply s_not
  | with_reducible apply s_andV
  | with_reducible apply s_orV
  | with_reducible apply s_notV
  | with_reducible apply s_ifE
  | with_reducible apply s_isN
  | with_reducible apply s_chain
  | with_reducible apply s_sl
  | with_reducible apply s_noP
  | with_reducible apply s_part
  | with_reducible apply s_bm
  | with_reducible apply s_bm0
  | with_reducible apply s_fldE
  | ((with_reducible apply s_fld); (case' h1 => walk_at "g"); (case' h2 => assumption); (case' h3 => assumption); (case' h4 => exact rfl))
  | ((with_reducible apply s_ixL); (case' h1 => walk_at "g"); (case' h2 => first | with_reducible assumption | walk_at "ix"))
  | ((with_reducible apply s_ixT); (case' h1 => walk_at "g"); (case' h2 => first | with_reducible assumption | walk_at "ix"))
  | ((with_reducible apply s_lenL); (case' h1 => walk_at "g")))
local macro_rules | `(tactic| walk_at "ff") => `(tactic| repeat walk_at "f1")
local macro_rules | `(tactic| walk_at "k0") => `(tactic| try dsimp only [L2.cxOf, Cx.nox, Cx.wish, Cx.blk, genCx])
set_option hygiene true

abbrev s_Train___init__ : Stmt := clsS 9 0
abbrev n_Train___init__ : List Str := ["self"]
theorem sc_Train___init__ : FnScope n_Train___init__ ["self"] (defScope s_Train___init__) := ⟨rfl, rfl, rfl, by decide +kernel, rfl, by decide +kernel, by decide +kernel⟩

abbrev s_Train_add_shaft : Stmt := clsS 9 1
abbrev n_Train_add_shaft : List Str := ["self", "name"]
theorem sc_Train_add_shaft : FnScope n_Train_add_shaft ["self", "name"] (defScope s_Train_add_shaft) := ⟨rfl, rfl, rfl, by decide +kernel, rfl, by decide +kernel, by decide +kernel⟩

abbrev s_Train_ratios : Stmt := clsS 9 3
abbrev n_Train_ratios : List Str := ["self", "start", "found", "left", "here", "one", "teeth", "other", "more", "first", "many", "second", "few"]
theorem sc_Train_ratios : FnScope n_Train_ratios ["self", "start"] (defScope s_Train_ratios) := ⟨rfl, rfl, rfl, by decide +kernel, rfl, by decide +kernel, by decide +kernel⟩

abbrev trO (K : PySem.W.Frag) (d l1 l2 : Addr) : HO := .ins (He.ga K "Train") d [("shafts", .ref l1), ("meshes", .ref l2)]
abbrev msO (m : Ms) : HO := .tup [.str m.a, .int m.m, .str m.b, .int m.f]
abbrev rtO (r : Rt) : HO := qO r.q
abbrev adsR (t : List Rt) : List Addr := t.map fun r => r.ad
abbrev tbR (t : List Rt) : List (Key × V) := t.map fun r => ((Sum.inr r.nm : Key), V.ref r.ad)
def MAt (H : Hp) (as : List Addr) (ms : List Ms) : Prop := as.length = ms.length ∧ ∀ (i : Nat) (a : Addr) (m : Ms), as[i]? = some a → ms[i]? = some m → H a = some (msO m)
theorem MAt.fp [Lw] {B H : Hp} {S N : List Ck} {as : List Addr} {ms : List Ms} (h : MAt B as ms) (F : Fp B S N H) : MAt H as ms := ⟨h.1, fun i a r e1 e2 => F.imm (h.2 i a r e1 e2) rfl⟩
theorem MAt.get {H : Hp} {as : List Addr} {ms : List Ms} (h : MAt H as ms) {i : Nat} {y : V} (hy : (as.map V.ref)[i]? = some y) : ∃ a m, y = .ref a ∧ as[i]? = some a ∧ ms[i]? = some m ∧ H a = some (msO m) := by
  obtain ⟨a, ha, rfl⟩ := map_get hy
  have hlt := (List.getElem?_eq_some_iff.mp ha).1
  obtain ⟨r, hr⟩ : ∃ r, ms[i]? = some r := ⟨_, List.getElem?_eq_getElem (by rw [← h.1]; exact hlt)⟩
  exact ⟨a, r, rfl, ha, hr, h.2 i a r ha hr⟩
theorem tb_get {t : List Rt} (hn : (nmsR t).Nodup) {r : Rt} (h : r ∈ t) : valR (Sum.inr r.nm) (tbR t) = some (.ref r.ad) := by
  obtain ⟨i, hi⟩ := List.mem_iff_getElem?.mp h
  exact valR_map (n := fun r : Rt => r.nm) (e := fun r : Rt => V.ref r.ad) hn hi
theorem tb_none {t : List Rt} {n : Str} (h : n ∉ nmsR t) : valR (Sum.inr n) (tbR t) = none := valR_none (n := fun r : Rt => r.nm) (e := fun r : Rt => V.ref r.ad) h
theorem tb_add {t : List Rt} {r : Rt} (h : r.nm ∉ nmsR t) : putR (Sum.inr r.nm) (.ref r.ad) (tbR t) = tbR (t ++ [r]) := by
  rw [putR_new]
  · unfold tbR
    rw [List.map_append]
    rfl
  · intro z
    rw [List.map_map] at z
    obtain ⟨q, hq, e⟩ := List.mem_map.mp z
    injection e with e
    exact h (List.mem_map.mpr ⟨q, hq, e⟩)
theorem str_dp {K : PySem.W.Frag} {H : Hp} : ∀ {s : List Str}, DpAll K H (s.map V.str) (s.map PyData.str)
  | [] => .nil
  | _ :: _ => .cons (.str _) str_dp
/-- a mesh, or the same from the other side -/
def eM (m : Ms) (j : Nat) : Ms := if j = 0 then m else ⟨m.b, m.f, m.a, m.m⟩
theorem eM_edge {ms : List Ms} {m : Ms} (hm : m ∈ ms) (j : Nat) : Edge ms (eM m j).a (eM m j).b (eM m j).m (eM m j).f := by
  unfold eM
  split
  · exact ⟨m, hm, .inl ⟨rfl, rfl, rfl, rfl⟩⟩
  · exact ⟨m, hm, .inr ⟨rfl, rfl, rfl, rfl⟩⟩
theorem nms_add {t : List Rt} {r : Rt} : nmsR (t ++ [r]) = nmsR t ++ [r.nm] := by
  unfold nmsR
  rw [List.map_append]
  rfl
theorem mem_add {t : List Rt} {r : Rt} {n : Str} (h : n ∈ nmsR t) : n ∈ nmsR (t ++ [r]) := by
  rw [nms_add]
  exact List.mem_append_left _ h
theorem permC [Lw] {B H : Hp} {S N N' : List Ck} (F : Fp B S N H) (h : N'.Perm N) : Fp B S N' H := F.permN (h.flatMap_right _)
section
variable [Lw] {P : Program} {w : World} {K : PySem.W.Frag} {mg : Str → Option Value} {base : Heap} {f : Addr} {fd : FuncData} {fn : List He.DefD} {tf : List He.Defn}
def spTimes (K : PySem.W.Frag) : Sp := fun vs H Q _ => ∃ (a b : Addr) (a0 a1 b0 b1 : Int), vs = [.ref a, .ref b] ∧ SqT K H a [.int a0, .int a1] ∧ SqT K H b [.int b0, .int b1] ∧ a1 * b1 ≠ 0 ∧ (a1 * b1).natAbs < 1073741824 ∧ a0.natAbs < 1000000000 ∧ a1.natAbs < 1000000000 ∧ ∀ t H', Fp H [] [ck t (qO (Rat.divInt (a0 * b0) (a1 * b1)))] H' → Q (.ref t) H'
theorem ok_times (T : Sy fa1 fn tf K mg base) (F : FnP K "times" s_times f fd) {f1 : Addr} {fd1 : FuncData} (c_exact : Cal P w K mg base CX0 1 "exact" f1 fd1 ["part", "whole"] (spEx K)) : FnOk P w K mg base CX0 2 f fd ["one", "other"] (spTimes K) := by
  refine F.ok sc_times (fun vs H Q E h => ?_) (fun cdv A outer s H vs Q E hr h => ⟨_, PSs.nox (pss_one (ps_ret (pe_cal c_exact (hr.mono (by first | decide | omega)) rfl pass0 (pa_cons (pe_op op_mul (pe_ix (ix_tupK (K := K) rfl) (pv 0) pe_int (fun _ _ => rfl)) (pe_ix (ix_tupK (K := K) rfl) (pv 1) pe_int (fun _ _ => rfl))) (pa_cons (pe_op op_mul (pe_ix (ix_tupK (K := K) rfl) (pv 0) pe_int (fun _ _ => rfl)) (pe_ix (ix_tupK (K := K) rfl) (pv 1) pe_int (fun _ _ => rfl))) pa_nil))))), ?_⟩)
  · obtain ⟨_, _, _, _, _, _, rfl, _⟩ := h
    rfl
  · obtain ⟨a, b, a0, a1, b0, b1, rfl, ha, hb, hn, hb1, hb2, hb3, good⟩ := h
    have F := Fp.refl (B := H)
    walk_at "k0"
    walk_at "ff"
    exact ⟨_, _, rfl, hn, hb1, fun t H1 G1 => good _ _ G1⟩
def spLess (K : PySem.W.Frag) : Sp := fun vs H Q _ => ∃ (a b : Addr) (a0 a1 b0 b1 : Int), vs = [.ref a, .ref b] ∧ SqT K H a [.int a0, .int a1] ∧ SqT K H b [.int b0, .int b1] ∧ a0.natAbs < 1000000000 ∧ b0.natAbs < 1000000000 ∧ ∀ H', Fp H [] [] H' → Q (.bl (decide (a0 * b1 < b0 * a1))) H'
theorem ok_less (T : Sy fa1 fn tf K mg base) (F : FnP K "less" s_less f fd) : FnOk P w K mg base CX0 1 f fd ["one", "other"] (spLess K) := by
  refine F.ok sc_less (fun vs H Q E h => ?_) (fun cdv A outer s H vs Q E hr h => ⟨_, PSs.nox (pss_one (ps_ret (pe_cmpR op_lt (pe_op op_mul (pe_ix (ix_tupK (K := K) rfl) (pv 0) pe_int (fun _ _ => rfl)) (pe_ix (ix_tupK (K := K) rfl) (pv 1) pe_int (fun _ _ => rfl))) (pe_op op_mul (pe_ix (ix_tupK (K := K) rfl) (pv 1) pe_int (fun _ _ => rfl)) (pe_ix (ix_tupK (K := K) rfl) (pv 0) pe_int (fun _ _ => rfl))) (nomark _)))), ?_⟩)
  · obtain ⟨_, _, _, _, _, _, rfl, _⟩ := h
    rfl
  · obtain ⟨a, b, a0, a1, b0, b1, rfl, ha, hb, hb1, hb2, good⟩ := h
    have F := Fp.refl (B := H)
    walk_at "k0"
    walk_at "ff"
    exact good _ F
def spTrain (K : PySem.W.Frag) : Sp := fun vs H Q _ => ∃ (x dx : Addr), vs = [.ref x] ∧ H x = some (.ins (He.ga K "Train") dx []) ∧ ∀ l1 l2 H', Fp H [ck x (trO K dx l1 l2)] [ck l2 (.lst []), ck l1 (.lst [])] H' → Q .non H'
theorem ok_train (T : Sy fa1 fn tf K mg base) (F : FnM K "__init__" "Train.__init__" s_Train___init__ f fd) : FnOk P w K mg base CX0 1 f fd ["self"] (spTrain K) := by
  refine F.ok sc_Train___init__ (fun vs H Q E h => ?_) (fun cdv A outer s H vs Q E hr h => ⟨_, PSs.nox (pss_cons (ps_fld (pv 0) (pe_lst pa_nil) rfl) (pss_one (ps_fld (pv 0) (pe_lst pa_nil) rfl))), ?_⟩)
  · obtain ⟨_, _, rfl, _⟩ := h
    rfl
  · obtain ⟨x, dx, rfl, hx, good⟩ := h
    have cT := T.cls "Train"
    have n1 := T.noat "Train" "shafts"
    have n2 := T.noat "Train" "meshes"
    have F := Fp.one hx rfl
    walk_at "k0"
    walk_at "ff"
    exact good _ _ _ F
def spShaft (K : PySem.W.Frag) : Sp := fun vs H Q E => ∃ (x dx l1 l2 : Addr) (names : List Str) (n : Str), vs = [.ref x, .str n] ∧ Fp H [ck l1 (.lst (names.map V.str)), ck x (trO K dx l1 l2)] [] H ∧ names.length ≤ 1000 ∧ ((n = "" ∨ n ∈ names ∨ 30 ≤ names.length) → ∀ N H', Fp H [] N H' → E (.ref (He.ga K "GearError")) none H') ∧
  (¬ (n = "" ∨ n ∈ names ∨ 30 ≤ names.length) → ∀ H', Fp H [ck l1 (.lst ((names ++ [n]).map V.str)), ck x (trO K dx l1 l2)] [] H' → Q .non H')
theorem ok_shaft (T : Sy fa1 fn tf K mg base) (F : FnM K "add_shaft" "Train.add_shaft" s_Train_add_shaft f fd) : FnOk P w K mg base (CX P w) 1 f fd ["self", "name"] (spShaft K) := by
  obtain ⟨tMS, c_MS⟩ := T.int "MOST_SHAFTS" 30
  refine F.ok sc_Train_add_shaft (fun vs H Q E h => ?_) (fun cdv A outer s H vs Q E hr h => ⟨_, (pss_cons (ps_if (PW.pt (pw_or (pt_cmpR op_eq (pv 1) pe_str (nomark _)) (pw_or (pt_cmpR (op_inSK (K := K) rfl) (pv 1) (pe_fldK (K := K) rfl (pv 0) rfl) (by with_unfolding_all rfl)) (pw_or1 (pt_cmpR op_ge (pe_callB (call_lenK (K := K) rfl) rfl (T.free "len") boot_len (pa_cons (pe_fldK (K := K) rfl (pv 0) rfl) pa_nil)) (pe_glob (v := .int 30) rfl c_MS ⟨_, rfl⟩) (nomark _)))))) (pss_one (ps_raise rfl (takes_of rfl rfl rfl rfl) (pmk_own PySem.F.excBase_ValueError (T.excX "GearError") (T.glo "GearError") (T.excK "GearError") (raises_own (T.excB "GearError") (T.excT "GearError")) rfl))) pss_nil) (pss_one (ps_expr (pe_bm PySem.F.plainAttrs_list PySem.F.slot_list_append PySem.F.type_list_append mt_append (pe_fldK (K := K) rfl (pv 0) rfl) (pa_cons (pv 1) pa_nil))))), ?_⟩)
  · obtain ⟨_, _, _, _, _, _, rfl, _⟩ := h
    rfl
  · obtain ⟨x, dx, l1, l2, names, n, rfl, F, hl, bad, good⟩ := h
    have cT := T.cls "Train"
    have n1 := T.noat "Train" "shafts"
    walk_at "k0"
    walk_at "ff"
    have hlm : (names.map V.str).length = names.length := List.length_map ..
    refine ite_dec (fun hc => ?_) (fun hc => ?_)
    · rw [if_pos rfl]
      exact bad (.inl (by injection hc)) [] _ Fp.refl
    have hc : n ≠ "" := fun z => hc (by rw [z])
    walk_at "ff"
    refine f_inS (SqL.of (by walk_at "g")) ?_
    walk_at "ff"
    refine ite_dec (fun h1 => ?_) (fun h1 => ?_)
    · walk_at "ff"
      exact bad (.inr (.inl h1)) [] _ Fp.refl
    walk_at "ff"
    refine ite_dec (fun h2 => ?_) (fun h2 => ?_)
    · walk_at "ff"
      exact bad (.inr (.inr (by omega))) [] _ Fp.refl
    walk_at "ff"
    exact good (fun z => by rcases z with z | z | z; (· exact hc z); (· exact h1 z); (· exact h2 (by omega))) _ (by rw [List.map_append]; exact F)
def spRatios (K : PySem.W.Frag) : Sp := fun vs H Q E => ∃ (x dx l1 l2 : Addr) (names : List Str) (n : Str) (as : List Addr) (ms : List Ms) (φ : Str → Rat) (B N : Nat), vs = [.ref x, .str n] ∧ H x = some (trO K dx l1 l2) ∧ H l1 = some (.lst (names.map V.str)) ∧ H l2 = some (.lst (as.map V.ref)) ∧ MAt H as ms ∧ names.length ≤ 1000 ∧ Pot φ ms ∧ (∀ n ∈ names, txOk n = true) ∧ (∀ m ∈ ms, m.a ∈ names ∧ m.b ∈ names) ∧
  (n ∉ names → ∀ N H', Fp H [] N H' → E (.ref (He.ga K "GearError")) none H') ∧
  (n ∈ names → Bd ms n B N ∧ ∀ d t N H', IsTab φ ms n t → Fp H [] (ck d (.dK (tbR t)) :: (adsR t, t.map rtO) :: N) H' → Q (.ref d) H')
theorem ok_ratios (T : Sy fa1 fn tf K mg base) (F : FnM K "ratios" "Train.ratios" s_Train_ratios f fd) {f1 f2 : Addr} {fd1 fd2 : FuncData} (c_exact : Cal P w K mg base CX0 1 "exact" f1 fd1 ["part", "whole"] (spEx K)) (c_times : Cal P w K mg base CX0 2 "times" f2 fd2 ["one", "other"] (spTimes K)) : FnOk P w K mg base (CX P w) 3 f fd ["self", "start"] (spRatios K) := by
  refine F.ok sc_Train_ratios (fun vs H Q E h => ?_) (fun cdv A outer s H vs Q E hr h => ⟨_, (pss_cons (ps_if (pt_cmpR (op_niSK (K := K) rfl) (pv 1) (pe_fldK (K := K) rfl (pv 0) rfl) (by with_unfolding_all rfl)) (pss_one (ps_raise rfl (takes_of rfl rfl rfl rfl) (pmk_own PySem.F.excBase_ValueError (T.excX "GearError") (T.glo "GearError") (T.excK "GearError") (raises_own (T.excB "GearError") (T.excT "GearError")) rfl))) pss_nil) (pss_cons (ps_par (i := 2) (j := 3) (by rfl) sc_Train_ratios.nd rfl rfl (by decide) rfl rfl (pa_cons (pe_disp (pps_cons (pv 1) (pe_tup (pa_cons pe_int (pa_cons pe_int pa_nil))) pps_nil) (by rfl) (by rfl) (fun z => by cases z) (by decide)) (pa_cons (pe_lst (pa_cons (pv 1) pa_nil)) pa_nil)) (by rfl)) (pss_cons (ps_while (passes_of rfl) (pt_cmpR (op_neDK (K := K) rfl (Room.units hr)) (pv 3) (pe_lst pa_nil) (nomark _)) (pss_cons (ps_set (i := 4) sc_Train_ratios.nd rfl (.inl rfl) (pe_bm PySem.F.plainAttrs_list PySem.F.slot_list_pop PySem.F.type_list_pop mt_popAt (pv 3) (pa_cons pe_int pa_nil))) (pss_one (ps_for (passes_of rfl) rfl (pi_listK (K := K) rfl (pe_fldK (K := K) rfl (pv 0) rfl)) (pg_tupK (K := K) (n := 4) rfl rfl (pgs_cons (pg_name (i := 5) sc_Train_ratios.nd rfl (.inl rfl)) (pgs_cons (pg_name (i := 6) sc_Train_ratios.nd rfl (.inl rfl)) (pgs_cons (pg_name (i := 7) sc_Train_ratios.nd rfl (.inl rfl)) (pgs_cons (pg_name (i := 8) sc_Train_ratios.nd rfl (.inl rfl)) pgs_nil))))) (pss_one (ps_for (passes_of rfl) rfl (pi_tupK (K := K) rfl (pe_tup (pa_cons (pe_tup (pa_cons (pv 5) (pa_cons (pv 6) (pa_cons (pv 7) (pa_cons (pv 8) pa_nil))))) (pa_cons (pe_tup (pa_cons (pv 7) (pa_cons (pv 8) (pa_cons (pv 5) (pa_cons (pv 6) pa_nil))))) pa_nil)))) (pg_tupK (K := K) (n := 4) rfl rfl (pgs_cons (pg_name (i := 9) sc_Train_ratios.nd rfl (.inl rfl)) (pgs_cons (pg_name (i := 10) sc_Train_ratios.nd rfl (.inl rfl)) (pgs_cons (pg_name (i := 11) sc_Train_ratios.nd rfl (.inl rfl)) (pgs_cons (pg_name (i := 12) sc_Train_ratios.nd rfl (.inl rfl)) pgs_nil))))) (pss_one (ps_if (PW.pt (pw_and (pt_cmpR op_eq (pv 9) (pv 4) (nomark _)) (pw_and1 (pt_cmp (pc_dnotin (Room.u1 hr) (pv 11) (pv 2)))))) (pss_cons (ps_dput (Room.u1 hr) (pv 2) (pv 11) (pe_cal c_times (hr.mono (by first | decide | omega)) rfl pass0 (pa_cons (pe_dget (Room.u1 hr) (pv 2) (pv 4) (fun _ _ => rfl)) (pa_cons (pe_cal c_exact (hr.mono (by first | decide | omega)) rfl pass0 (pa_cons (pe_op op_sub pe_int (pv 10)) (pa_cons (pv 12) pa_nil))) pa_nil))) rfl) (pss_one (ps_expr (pe_bm PySem.F.plainAttrs_list PySem.F.slot_list_append PySem.F.type_list_append mt_append (pv 3) (pa_cons (pv 11) pa_nil))))) pss_nil)))))))) (pss_one (ps_ret (pv 2)))))), ?_⟩)
  · obtain ⟨_, _, _, _, _, _, _, _, _, _, _, rfl, _⟩ := h
    rfl
  · obtain ⟨x, dx, l1, l2, names, n, as, ms, φ, B, N, rfl, hx, hl1, hl2, ma, hnl, P, htx, hms, bad, good⟩ := h
    have cT := T.cls "Train"
    have n1 := T.noat "Train" "shafts"
    have n2 := T.noat "Train" "meshes"
    have F := Fp.refl (B := H)
    walk_at "k0"
    walk_at "ff"
    refine f_niS (SqL.of (by walk_at "g")) ?_
    walk_at "ff"
    refine ite_ndec (fun h1 => bad h1 [] _ Fp.refl) (fun h1 => ?_)
    obtain ⟨hB, good⟩ := good h1
    clear bad
    walk_at "ff"
    have hM : ∀ m ∈ ms, (1 ≤ m.m ∧ m.m ≤ 400) ∧ 1 ≤ m.f ∧ m.f ≤ 400 := fun m hm => by
      have h1 := P.te m hm
      have h2 := hB.te m hm
      have h3 := hB.b1
      omega
    refine whileS (fun m σ' H' => ∃ (t : List Rt) (dn lf : List Str) (d l : Addr) (x4 x5 x6 x7 x8 x9 x10 x11 x12 : Option V), m = N - dn.length ∧ σ' = [some (.ref x), some (.str n), some (.ref d), some (.ref l), x4, x5, x6, x7, x8, x9, x10, x11, x12] ∧ nmsR t = dn ++ lf ∧ PTab φ ms n B t ∧ (∀ y z u v, y ∈ dn → Edge ms y z u v → z ∈ nmsR t) ∧ Fp H [] [ck l (.lst (lf.map V.str)), (adsR t, t.map rtO), ck d (.dK (tbR t))] H')
      ⟨_, [⟨n, 1, _⟩], [], [n], _, p, _, _, _, _, _, _, _, _, _, rfl, rfl, rfl, PTab.start P _, fun _ _ _ _ h => (nomatch h), F⟩ fun m σ' H' hP => ?_
    clear F
    obtain ⟨t, dn, lf, d, l, x4, x5, x6, x7, x8, x9, x10, x11, x12, rfl, rfl, hnm, PT, hdn, F⟩ := hP
    have hNt : (nmsR t).length ≤ N := by
      have := PT.len hB
      unfold nmsR
      rw [List.length_map]
      exact this
    cases lf with
    | nil =>
      walk_at "ff"
      refine ne_nil (SqL.of (F.getN (.there .here))) (SqL.of (F.getN .here)) ?_
      walk_at "ff"
      rw [List.append_nil] at hnm
      have I : IsTab φ ms n t := PT.done hB fun y z u v hy e => hdn y z u v (by rw [← hnm]; exact hy) e
      exact good d t [] _ I (permC (F.kp (.drop (.drop Kp.rf))) (List.Perm.swap _ _ _))
    | cons here rest =>
      rw [List.map_cons] at F
      have hkt : ∀ y ∈ nmsR t, txOk y = true := fun y hy => by
        obtain ⟨r, hr, rfl⟩ := List.mem_map.mp hy
        exact htx _ ((PT.ok r hr).2.sub h1 hms)
      walk_at "ff"
      refine ne_someD (xs := (here :: rest).map V.str) (SqL.of (F.getN (.there .here))) str_dp (sh_strs fun y hy => hkt y (by rw [hnm]; exact List.mem_append_right _ hy)) (by decide) (fun z => nomatch z) (SqL.of (F.getN .here)) ?_
      walk_at "ff"
      refine whQ ?_
      walk_at "ff"
      refine f_pop0 F (by walk_at "re") fun H3 F => ?_
      replace F := F.kp (.drop Kp.rf)
      walk_at "ff"
      refine forS w (fun i σ' H' => ∃ (t : List Rt) (lf : List Str) (x5 x6 x7 x8 x9 x10 x11 x12 : Option V), σ' = [some (.ref x), some (.str n), some (.ref d), some (.ref l), some (.str here), x5, x6, x7, x8, x9, x10, x11, x12] ∧ nmsR t = dn ++ here :: lf ∧ PTab φ ms n B t ∧ (∀ y z u v, y ∈ dn → Edge ms y z u v → z ∈ nmsR t) ∧ (∀ k m, k < i → ms[k]? = some m → ∀ j, j < 2 → (eM m j).a = here → (eM m j).b ∈ nmsR t) ∧ Fp H [] [ck l (.lst (lf.map V.str)), (adsR t, t.map rtO), ck d (.dK (tbR t))] H') ⟨t, rest, _, _, _, _, _, _, _, _, rfl, hnm, PT, hdn, fun k m hk => absurd hk (by omega), F⟩ (fun i σ' H' hP => ?_) (fun i y σ' H' hy hP => ?_) (fun σ' H' hP => ?_)
      · obtain ⟨t, lf, x5, x6, x7, x8, x9, x10, x11, x12, rfl, _, _, _, _, F⟩ := hP
        walk_at "g"
      · clear F PT hdn hnm hkt hNt
        obtain ⟨t, lf, x5, x6, x7, x8, x9, x10, x11, x12, rfl, hnm, PT, hdn, hcl, F⟩ := hP
        obtain ⟨a, m, rfl, hai, hmi, ho0⟩ := ma.get hy
        have ho := F.imm ho0 rfl
        have hmm := get_mem hmi
        obtain ⟨⟨hm1, hm2⟩, hm3, hm4⟩ := hM m hmm
        walk_at "ff"
        rename_i q1 _ q2 _
        have F2 : Fp H [] [ck p (.tup [.ref q1, .ref q2]), ck q2 (msO (eM m 1)), ck q1 (msO (eM m 0)), ck l (.lst (lf.map V.str)), (adsR t, t.map rtO), ck d (.dK (tbR t))] H1 := F
        clear F
        have F := F2
        clear F2
        refine forS w (fun jj σ' H' => ∃ (t : List Rt) (lf : List Str) (x9 x10 x11 x12 : Option V), σ' = [some (.ref x), some (.str n), some (.ref d), some (.ref l), some (.str here), some (.str m.a), some (.int m.m), some (.str m.b), some (.int m.f), x9, x10, x11, x12] ∧ nmsR t = dn ++ here :: lf ∧ PTab φ ms n B t ∧ (∀ y z u v, y ∈ dn → Edge ms y z u v → z ∈ nmsR t) ∧ (∀ k m, k < i → ms[k]? = some m → ∀ j, j < 2 → (eM m j).a = here → (eM m j).b ∈ nmsR t) ∧ (∀ j, j < jj → (eM m j).a = here → (eM m j).b ∈ nmsR t) ∧ Fp H [] [ck p (.tup [.ref q1, .ref q2]), ck q2 (msO (eM m 1)), ck q1 (msO (eM m 0)), ck l (.lst (lf.map V.str)), (adsR t, t.map rtO), ck d (.dK (tbR t))] H') ⟨t, lf, _, _, _, _, rfl, hnm, PT, hdn, hcl, fun j hj => absurd hj (by omega), F⟩ (fun jj σ' H' hP => ?_) (fun jj y σ' H' hy hP => ?_) (fun σ' H' hP => ?_)
        · obtain ⟨t, lf, x9, x10, x11, x12, rfl, _, _, _, _, _, F⟩ := hP
          exact SqT.of (F.getN .here)
        · clear F PT hdn hnm hcl
          obtain ⟨t, lf, x9, x10, x11, x12, rfl, hnm, PT, hdn, hcl, hjj, F⟩ := hP
          obtain ⟨q, rfl, hq⟩ : ∃ q, y = .ref q ∧ H' q = some (msO (eM m jj)) := by
            match jj, hy with
            | 0, hy => exact ⟨q1, (Option.some.inj hy).symm, F.getN (.there (.there .here))⟩
            | 1, hy => exact ⟨q2, (Option.some.inj hy).symm, F.getN (.there .here)⟩
            | _ + 2, hy => exact absurd hy (by simp)
          have he := eM_edge hmm jj
          generalize hE : eM m jj = e at he hq
          obtain ⟨ea, eu, eb, ev⟩ := e
          dsimp only at he hq
          walk_at "ff"
          have hjx : ∀ t' : List Rt, (∀ z, z ∈ nmsR t → z ∈ nmsR t') → (ea = here → eb ∈ nmsR t') → ∀ j, j < jj + 1 → (eM m j).a = here → (eM m j).b ∈ nmsR t' := fun t' h1 h2 j hj e => by
            by_cases hjj2 : j < jj
            · exact h1 _ (hjj j hjj2 e)
            · rw [show j = jj by omega, hE] at e ⊢
              exact h2 e
          refine ite_dec (fun hc => ?_) (fun hc => ?_)
          rotate_left
          · walk_at "ff"
            exact ⟨t, lf, _, _, _, _, rfl, hnm, PT, hdn, hcl, hjx t (fun _ h => h) (fun z => absurd (by rw [z]) hc), F⟩
          have hea : ea = here := by injection hc
          walk_at "ff"
          by_cases hin : eb ∈ nmsR t
          · obtain ⟨r2, hr2, e2⟩ := List.mem_map.mp hin
            have hv2 := tb_get PT.nd hr2
            rw [show r2.nm = eb from e2] at hv2
            refine f_dni' (.inl (F.getN (.there (.there (.there (.there (.there .here))))))) hv2 ?_
            walk_at "ff"
            exact ⟨t, lf, _, _, _, _, rfl, hnm, PT, hdn, hcl, hjx t (fun _ h => h) (fun _ => hin), F⟩
          · refine f_dni (.inl (F.getN (.there (.there (.there (.there (.there .here))))))) (tb_none hin) ?_
            obtain ⟨r, hr2, e2⟩ := List.mem_map.mp (show here ∈ nmsR t by rw [hnm]; exact List.mem_append_right _ List.mem_cons_self)
            have hv := tb_get PT.nd hr2
            obtain ⟨ri, hri⟩ := List.mem_iff_getElem?.mp hr2
            have hro : H' r.ad = some (qO r.q) := F.getN (.there (.there (.there (.there (.at (map_get_some hri) (map_get_some hri))))))
            obtain ⟨hq1, hq2⟩ := PT.le hB hr2
            rw [show r.nm = here from e2] at hv
            have he2 : Edge ms r.nm eb eu ev := by rw [show r.nm = here from e2, ← hea]; exact he
            obtain ⟨_, hu1, hv1⟩ := P.edge he
            obtain ⟨hu2, hv2⟩ := hB.edge he
            have hb4 := hB.b1
            have hle := PT.le2 P hB hr2 he2 hin
            obtain ⟨hd1, hd2, hd3⟩ := den_mul (q := r.q) (p := 0 - eu) (w := ev) (by omega)
            have hll : (lf.map V.str).length < sizeLine := len_lt (by
              have hlt := PT.len hB
              have hnb := hB.nb
              have := congrArg List.length hnm
              unfold nmsR at this
              rw [List.length_map, List.length_append, List.length_cons] at this
              rw [List.length_map]
              omega)
            have hadd := fun a => PT.add P hB hr2 he2 hin a
            walk_at "ff"
            refine ⟨0 - eu, ev, rfl, by omega, by omega, fun t0 H5 G5 => ?_⟩
            replace F := F.call1 G5 .nil
            have hro : H5 r.ad = some (qO r.q) := F.getN (.there (.there (.there (.there (.there (.at (map_get_some hri) (map_get_some hri)))))))
            walk_at "ff"
            refine ⟨r.ad, t0, r.q.num, r.q.den, _, _, rfl, SqT.of hro, SqT.of (F.getN .here), hd2, by omega, by omega, by omega, fun t6 H6 G6 => ?_⟩
            rw [divInt_mul2] at G6
            replace F := (F.call1 G6 .nil).kp (.keep (.drop Kp.rf))
            walk_at "ff"
            have htl : (tbR t).length < sizeLine := len_lt (by
              have hlt := PT.len hB
              have hnb := hB.nb
              rw [List.length_map]
              omega)
            refine f_dputS F (by walk_at "re") htl (tb_add (r := ⟨eb, r.q * Rat.divInt (0 - eu) ev, t6⟩) hin) fun H7 F => ?_
            walk_at "ff"
            replace F : Fp H [] [ck t6 (qO (r.q * Rat.divInt (0 - eu) ev)), ck p (HO.tup [V.ref q1, V.ref q2]), ck q2 (msO (eM m 1)), ck q1 (msO (eM m 0)), ck l (HO.lst (lf.map V.str ++ [V.str eb])), (adsR t, t.map rtO), ck d (HO.dK (tbR (t ++ [⟨eb, r.q * Rat.divInt (0 - eu) ev, t6⟩])))] _ := F
            replace F := Fp.snocL (as := adsR t) (os := t.map rtO) [_, _, _, _] (by rw [List.length_map, List.length_map]) F
            refine ⟨t ++ [⟨eb, r.q * Rat.divInt (0 - eu) ev, t6⟩], lf ++ [eb], _, _, _, _, rfl, by rw [nms_add, hnm, List.append_assoc]; rfl, hadd t6, fun y z u v hy e => mem_add (hdn y z u v hy e), fun k m' hk hm' j hj e => mem_add (hcl k m' hk hm' j hj e), hjx _ (fun _ h => mem_add h) (fun _ => by rw [nms_add]; exact List.mem_append_right _ (List.mem_singleton_self _)), ?_⟩
            rw [List.map_append]
            unfold adsR
            rw [List.map_append, List.map_append]
            exact F
        · obtain ⟨t, lf, x9, x10, x11, x12, rfl, hnm, PT, hdn, hcl, hjj, F⟩ := hP
          refine ⟨t, lf, _, _, _, _, _, _, _, _, rfl, hnm, PT, hdn, fun k m' hk hm' => ?_, F.kp (.drop (.drop (.drop Kp.rf)))⟩
          by_cases hki : k < i
          · exact hcl k m' hki hm'
          · rw [show k = i by omega, hmi] at hm'
            cases hm'
            exact fun j hj => hjj j (by simpa using hj)
      · clear F PT hdn hnm hkt hNt
        obtain ⟨t, lf, x5, x6, x7, x8, x9, x10, x11, x12, rfl, hnm, PT, hdn, hcl, F⟩ := hP
        have hNt := PT.len hB
        have hln : t.length = dn.length + (lf.length + 1) := by
          have := congrArg List.length hnm
          unfold nmsR at this
          rw [List.length_map, List.length_append, List.length_cons] at this
          exact this
        refine ⟨N - (dn.length + 1), by omega, t, dn ++ [here], lf, d, l, _, _, _, _, _, _, _, _, _, by rw [List.length_append]; rfl, rfl, by rw [hnm, List.append_assoc]; rfl, PT, fun y z u v hy e => ?_, F⟩
        rcases List.mem_append.mp hy with hy | hy
        · exact hdn y z u v hy e
        · rw [List.mem_singleton.mp hy] at e
          obtain ⟨m, hm, e⟩ := e
          obtain ⟨k, hk⟩ := List.mem_iff_getElem?.mp hm
          have hkl := (List.getElem?_eq_some_iff.mp hk).1
          have hcc := hcl k m (by rw [List.length_map, ma.1]; exact hkl) hk
          rcases e with ⟨e1, _, e2, _⟩ | ⟨e1, _, e2, _⟩
          · have := hcc 0 (by decide) e1
            rw [← e2]
            exact this
          · have := hcc 1 (by decide) e1
            rw [← e2]
            exact this
end
end K1

set_option Elab.async false
set_option linter.all false
set_option maxRecDepth 100000
set_option maxHeartbeats 2000000
set_option pp.maxSteps 1500
namespace K1
open PySem PySem.Spec PyProof.Rows L2 Mi
set_option hygiene false
local macro_rules | `(tactic| walk_at "lk") => `(tactic| first | (with_reducible assumption) | (with_reducible apply get_set_self; walk_at "lk") | ((with_reducible apply get_set_ne); (case' hne => with_reducible assumption); walk_at "lk"))
local macro_rules | `(tactic| walk_at "at") => `(tactic| first | (with_reducible exact At.here) | (with_reducible apply At.at; (case' h1 => assumption); walk_at "lk") | (with_reducible apply At.there; walk_at "at"))
local macro_rules | `(tactic| walk_at "rp") => `(tactic| first | (with_reducible exact Rp.here) | (with_reducible apply Rp.set; (case' h1 => assumption); walk_at "lk") | (with_reducible apply Rp.at; (case' h1 => assumption); walk_at "lk") | (with_reducible apply Rp.there; walk_at "rp"))
local macro_rules | `(tactic| walk_at "re") => `(tactic| first | (with_reducible apply Re.n; walk_at "rp") | (with_reducible apply Re.s; walk_at "rp"))
local macro_rules | `(tactic| walk_at "dl") => `(tactic| first | (with_reducible exact Dl.here) | (with_reducible apply Dl.there; walk_at "dl"))
local macro_rules | `(tactic| walk_at "pq") => `(tactic| first | (with_reducible exact Pq.nil) | ((with_reducible apply Pq.n); (case' d => walk_at "dl"); walk_at "pq") | ((with_reducible apply Pq.s); (case' d => walk_at "dl"); walk_at "pq"))
local macro_rules | `(tactic| walk_at "rc") => `(tactic| first | (with_reducible exact Rc.here) | (with_reducible apply Rc.there; walk_at "rc"))
local macro_rules | `(tactic| walk_at "rs") => `(tactic| first | (with_reducible exact Rs.nil) | ((with_reducible apply Rs.on); (case' r => walk_at "rc"); (case' hl => first | exact rfl | ((try simp only [List.length_map, List.length_set]); with_reducible assumption) | (simp; done)); walk_at "rs") | ((with_reducible apply Rs.os); (case' r => walk_at "rc"); (case' hl => first | exact rfl | ((try simp only [List.length_map, List.length_set]); with_reducible assumption) | (simp; done)); walk_at "rs"))
local macro_rules | `(tactic| walk_at "ix") => `(tactic| first | with_reducible exact atI_nat (by assumption) | with_reducible exact atI_nat1 (by assumption) | with_reducible exact atI0 | with_reducible exact atI1 | with_reducible exact atI2 | with_reducible exact atI3 | with_reducible exact atI4)
local macro_rules | `(tactic| walk_at "sl") => `(tactic| first | (with_reducible assumption) | ((with_reducible apply len_app); (case' h1 => walk_at "sl"); (case' h2 => walk_at "sl")) | (with_reducible exact Nat.le_refl _))
local macro_rules | `(tactic| walk_at "sz") => `(tactic| first | with_reducible assumption | ((with_reducible apply len_leB); (case' h => walk_at "sl"); (case' hn => exact Nat.le_of_ble_eq_true rfl)) | exact of_decide_eq_true rfl | (exact len_le (by (try simp only [List.length_append, List.length_cons, List.length_nil, List.length_map, List.length_set, List.length_reverse]); omega)) | (exact len_lt (by (try simp only [List.length_append, List.length_cons, List.length_nil, List.length_map, List.length_set, List.length_reverse]); omega)))
local macro_rules | `(tactic| walk_at "len") => `(tactic| ((try simp only [List.length_append, List.length_cons, List.length_nil, List.length_map, List.length_set, List.length_reverse, List.length_replicate]); omega))
local macro_rules | `(tactic| walk_at "ixn") => `(tactic| first | with_reducible assumption | (with_reducible apply ixN_nat; walk_at "len") | (with_reducible apply ixN_nat1; walk_at "len") | (with_reducible apply ixN_0; walk_at "len") | (with_reducible apply ixN_1; walk_at "len") | (with_reducible apply ixN_2; walk_at "len") | exact rfl)
local macro_rules | `(tactic| walk_at "st") => `(tactic| ((try simp only [L2.start, wipe, List.map_cons, List.map_nil, List.length_cons, List.length_nil, Nat.reduceAdd, Nat.reduceSub, List.replicate_succ, List.replicate_zero, List.nil_append, List.cons_append, List.set_cons_succ, List.set_cons_zero]); exact rfl))
local macro_rules | `(tactic| walk_at "kp") => `(tactic| first | (with_reducible exact Kp.nil) | (with_reducible apply Kp.keep; walk_at "kp") | (with_reducible apply Kp.drop; walk_at "kp"))
local macro_rules | `(tactic| walk_at "g") => `(tactic| first
  | with_reducible assumption
  | (with_reducible apply F.getN; walk_at "at")
  | (with_reducible apply F.getS; walk_at "at")
  | ((with_reducible apply F.imm); (case' h => with_reducible assumption); exact rfl)
  | ((with_reducible apply F.keep); (case' h => with_reducible assumption); exact rfl)
  | ((with_reducible apply F.keepL); with_reducible assumption)
  | ((with_reducible apply F.sqT); with_reducible assumption)
  | ((with_reducible apply SqL.of); walk_at "g")
  | ((with_reducible apply SqT.of); walk_at "g")
  | ((with_reducible apply Rd.of); walk_at "g")
  | ((with_reducible apply Rd.frz); walk_at "g")
  | (with_reducible apply F.tab; with_reducible assumption)
  | ((with_reducible apply f_dgetS); (case' h1 => walk_at "g"); (case' h2 => first | with_reducible assumption | ((simp (decide := true) only [valR, if_true, if_false]); exact rfl))))
local macro_rules | `(tactic| walk_at "f1") => `(tactic| first
  | (with_reducible (first | apply s_seq | apply s_cons | apply s_nil | apply s_c | apply s_op | apply s_asg | apply s_test | apply s_ifS | apply s_ret | apply s_next | apply s_call | apply s_fldE | apply s_dgetE | apply s_gCons | apply s_gNil | apply s_par | apply s_par3 | apply s_and | apply s_or | apply s_not | apply s_andV | apply s_orV | apply s_notV | apply s_ifE | apply s_chain | apply s_cb | apply s_for | apply s_lc | apply f_methE | apply f_makeE | apply s_rollE | apply s_iK | apply s_iL | apply s_iT | apply f_tup | apply f_lst))
  | ((with_reducible apply s_var); (case' h1 => first | exact rfl | with_reducible assumption))
  | ((with_reducible apply s_gNn); (case' e => walk_at "st"))
  | ((with_reducible apply s_dget); (case' h1 => walk_at "g"))
  | with_reducible apply f_tup
  | with_reducible apply f_lst
  | ((with_reducible apply newF F); (case' ho => exact rfl); clear F; intro p H1 F)
  | ((with_reducible apply s_mk0); (case' hz => first | decide | (simp only [List.length_cons, List.length_nil]; decide)))
  | with_reducible apply f_sFld
  | ((with_reducible apply f_fld F); (case' R => walk_at "re"); (case' h2 => with_reducible assumption); (case' h3 => with_reducible assumption); (case' h4 => exact of_decide_eq_true rfl); (case' hp => ((try simp (decide := true) only [putF, if_true, if_false]); exact rfl)); clear F; intro H1 F)
  | with_reducible apply f_sAug
  | ((with_reducible apply f_aug); (case' h1 => walk_at "g"); (case' h2 => with_reducible assumption); (case' h3 => with_reducible assumption); (case' h4 => exact rfl))
  | ((with_reducible apply f_fldq F); (case' R => walk_at "re"); (case' h4 => exact of_decide_eq_true rfl); (case' hp => ((try simp (decide := true) only [putF, if_true, if_false]); exact rfl)); clear F; intro H1 F)
  | with_reducible apply f_radd
  | with_reducible apply f_rsub
  | ((with_reducible apply f_setL F); (case' R => walk_at "re"); (case' h2 => walk_at "ixn"); clear F; intro H1 F)
  | with_reducible apply f_sDPut
  | ((with_reducible apply f_dputS F); (case' R => walk_at "re"); (case' hl => walk_at "sz"); (case' hp => first | with_reducible assumption | ((try simp (decide := true) only [putR, List.map_cons, List.map_nil, if_true, if_false]); exact rfl)); clear F; intro H1 F)
  | with_reducible apply f_sDAug
  | ((with_reducible apply f_daug); (case' h1 => walk_at "g"))
  | ((with_reducible apply f_dputqS F); (case' R => walk_at "re"); (case' hl => walk_at "sz"); (case' hp => first | with_reducible assumption | ((try simp (decide := true) only [putR, List.map_cons, List.map_nil, if_true, if_false]); exact rfl)); clear F; intro H1 F)
  | with_reducible apply s_dgetE
  | ((with_reducible apply s_dget); (case' h1 => walk_at "g"))
  | ((with_reducible apply f_append F); (case' R => walk_at "re"); (case' hz => walk_at "sz"); clear F; intro H1 F)
  | ((with_reducible apply f_listKL); (case' h1 => walk_at "g"))
  | ((with_reducible apply f_listKT); (case' h1 => walk_at "g"))
  | ((with_reducible apply f_tupKL); (case' h1 => walk_at "g"))
  | ((with_reducible apply f_slL); (case' h1 => walk_at "g"))
  | ((with_reducible apply f_cat); (case' h1 => walk_at "g"); (case' h2 => walk_at "g"); (case' hz => walk_at "sz"))
  | with_reducible apply f_makeE
  | with_reducible apply s_iR3
  | ((with_reducible apply s_iR3d); (case' h1 => omega); (case' hc => rfl); intro J w)
  | ((with_reducible apply s_wipe); (case' h1 => first | exact rfl | exact wipe1))
  | with_reducible apply s_revE
  | ((with_reducible apply s_rev); (case' h1 => walk_at "g"))
  | with_reducible apply f_methE
  | ((with_reducible apply s_lenD); (case' h1 => walk_at "g"))
  | ((with_reducible apply f_meth); (case' h1 => walk_at "g"); (case' h2 => exact rfl))
  | with_reducible apply s_iEL
  | ((with_reducible apply s_iEL2); (case' h1 => walk_at "g"); intro J w)
  | with_reducible apply s_iZ
  | with_reducible apply s_iI
  | ((with_reducible apply s_iI2); (case' h1 => walk_at "g"); intro J w)
  | ((with_reducible apply f_rep1); (case' h1 => walk_at "g"); (case' hk => (constructor <;> omega)))
  | with_reducible apply f_gSub
  | ((with_reducible apply f_disp F); clear F; intro p H1 F)
  | with_reducible apply f_pairC
  | with_reducible apply f_pairN
  | ((with_reducible apply f_dispQ F); (case' R => walk_at "re"); (case' e => ((simp only [List.map_cons, List.map_nil, cvK]); exact rfl)); (case' e2 => exact rfl); (case' hl => exact Nat.le_of_ble_eq_true rfl); (case' hm => first | with_reducible apply hMk | exact rfl); clear F; intro H1 F)
  | ((with_reducible apply f_dnew F); clear F; intro p H1 F)
  | ((with_reducible apply f_unl F); (case' R => walk_at "re"); clear F; intro H1 F)
  | with_reducible apply f_rSetD
  | with_reducible apply f_dnewK
  | with_reducible apply f_sDNi
  | with_reducible apply f_finS
  | with_reducible apply f_finB
  | with_reducible apply f_finB'
  | with_reducible apply f_sDIn
  | ((with_reducible apply s_catS); (case' h1 => walk_at "sl"); (case' h2 => walk_at "sl"); (case' hn => exact Nat.le_of_ble_eq_true rfl))
  | ((with_reducible apply s_logA); (case' hl => with_reducible assumption))
  | with_reducible apply s_same
  | with_reducible apply s_js
  | with_reducible apply s_js0
  | ((with_reducible apply s_js2); (case' hl => walk_at "sz"))
  | with_reducible apply s_fm
  | ((with_reducible apply s_fmS); (case' hl => walk_at "sz"))
  | ((with_reducible apply s_fmI); (case' hl => with_reducible assumption))
  | with_reducible apply f_dget2E
  | with_reducible apply s_sameE
  | with_reducible apply s_chain3
  | with_reducible apply s_notN
  | with_reducible apply s_items
  | with_reducible apply s_bb1
  | with_reducible apply s_bb2
  | walk_at "f2")
local macro_rules | `(tactic| walk_at "f2") => `(tactic| first
  | with_reducible apply s_seq
  | with_reducible apply s_gCons
  | with_reducible apply s_gNil
  | ((with_reducible apply s_gTup); (case' h1 => walk_at "g"); (case' h2 => exact rfl))
  | with_reducible apply s_asg
  | ((with_reducible apply s_I); (case' hc => first | exact ⟨by omega, by omega⟩ | exact .inl ⟨by omega, by omega⟩ | exact .inr ⟨by omega, by omega⟩ | (show (_ : Int) < _; omega) | (show (_ : Int) ≠ _; omega)))
  | with_reducible apply s_mm
  | ((with_reducible apply s_lenKL); (case' h1 => walk_at "g"))
  | ((with_reducible apply s_lenKT); (case' h1 => walk_at "g"))
  | ((with_reducible apply s_tupKT); (case' h1 => walk_at "g"))
  | with_reducible apply s_iE
  | ((with_reducible apply s_iE2); (case' h1 => walk_at "g"); intro J w)
  | with_reducible apply s_ifTT
  | with_reducible apply s_ifFF
  | with_reducible apply s_rollE
  | ((with_reducible apply s_roll); (case' h1 => walk_at "g"); (case' h2 => exact ⟨by omega, by omega⟩); intro k k0 k1)
  | with_reducible apply s_gSub
  | with_reducible apply s_ab
  | with_reducible apply s_in1
  | with_reducible apply s_in2
  | ((with_reducible apply s_lsL); (case' h1 => walk_at "g"))
  | ((with_reducible apply s_lsT); (case' h1 => walk_at "g"))
  | ((with_reducible apply s_tyL); (case' h1 => walk_at "g"))
  | with_reducible apply s_for
  | with_reducible apply s_lc
  | with_reducible apply s_dc
  | with_reducible apply s_gn
  | with_reducible apply s_yes
  | with_reducible apply s_iL
  | with_reducible apply s_iT
  | with_reducible apply s_iR1
  | with_reducible apply s_iR2
  | with_reducible apply s_iK
  | ((with_reducible apply s_iL2); (case' h1 => walk_at "g"); intro J w)
  | ((with_reducible apply s_iT2); (case' h1 => walk_at "g"); intro J w)
  | ((with_reducible apply s_iR12); (case' h1 => omega); intro J w)
  | ((with_reducible apply s_iR22); (case' h1 => omega); intro J w)
  | ((with_reducible apply s_iK2); (case' h1 => walk_at "g"); intro J w)
  | ((with_reducible apply s_gNn); (case' e => walk_at "st"))
  | ((with_reducible apply s_var); (case' h1 => first | exact rfl | with_reducible assumption))
  | with_reducible apply s_c
  | with_reducible apply s_op
  | with_reducible apply s_cons
  | with_reducible apply s_nil
  | with_reducible apply s_ret
  | with_reducible apply s_ifS
  | with_reducible apply s_test
  | with_reducible apply s_B
  | with_reducible apply s_exbl
  | with_reducible apply s_exint
  | with_reducible apply s_I0
  | ((with_reducible apply s_Eq); (case' hs => exact rfl))
  | ((with_reducible apply s_Ne); (case' hs => exact rfl))
  | with_reducible apply s_un
  | with_reducible apply s_U
  | with_reducible apply s_cb
  | with_reducible apply s_call
  | with_reducible apply s_next
  | with_reducible apply s_drop
  | with_reducible apply s_break
  | with_reducible apply s_cont
  | with_reducible apply s_retN
  | with_reducible apply s_par
  | with_reducible apply s_par2
  | with_reducible apply s_par3
  | with_reducible apply s_par33
  | ((with_reducible apply s_aug); (case' h1 => exact rfl))
  | with_reducible apply s_and
  | with_reducible apply s_or
  | with_reducible apply s_not
  | with_reducible apply s_andV
  | with_reducible apply s_orV
  | with_reducible apply s_notV
  | with_reducible apply s_ifE
  | with_reducible apply s_isN
  | with_reducible apply s_chain
  | with_reducible apply s_sl
  | with_reducible apply s_noP
  | with_reducible apply s_part
  | with_reducible apply s_bm
  | with_reducible apply s_bm0
  | with_reducible apply s_fldE
  | ((with_reducible apply s_fld); (case' h1 => walk_at "g"); (case' h2 => assumption); (case' h3 => assumption); (case' h4 => exact rfl))
  | ((with_reducible apply s_ixL); (case' h1 => walk_at "g"); (case' h2 => first | with_reducible assumption | walk_at "ix"))
  | ((with_reducible apply s_ixT); (case' h1 => walk_at "g"); (case' h2 => first | with_reducible assumption | walk_at "ix"))
  | ((with_reducible apply s_lenL); (case' h1 => walk_at "g")))
local macro_rules | `(tactic| walk_at "ff") => `(tactic| repeat walk_at "f1")
local macro_rules | `(tactic| walk_at "k0") => `(tactic| try dsimp only [L2.cxOf, Cx.nox, Cx.wish, Cx.blk, genCx])
set_option hygiene true

abbrev s_Train_mesh : Stmt := clsS 9 2
abbrev n_Train_mesh : List Str := ["self", "one", "teeth", "other", "more", "ratio"]
theorem sc_Train_mesh : FnScope n_Train_mesh ["self", "one", "teeth", "other", "more"] (defScope s_Train_mesh) := ⟨rfl, rfl, rfl, by decide +kernel, rfl, by decide +kernel, by decide +kernel⟩

abbrev s_Train_speeds : Stmt := clsS 9 4
abbrev n_Train_speeds : List Str := ["self", "start", "turns", "table", "name"]
theorem sc_Train_speeds : FnScope n_Train_speeds ["self", "start", "turns"] (defScope s_Train_speeds) := ⟨rfl, rfl, rfl, by decide +kernel, rfl, by decide +kernel, by decide +kernel⟩

abbrev s_Train_together_again : Stmt := clsS 9 6
abbrev n_Train_together_again : List Str := ["self", "start", "found", "name", "ratio", "share"]
theorem sc_Train_together_again : FnScope n_Train_together_again ["self", "start"] (defScope s_Train_together_again) := ⟨rfl, rfl, rfl, by decide +kernel, rfl, by decide +kernel, by decide +kernel⟩

abbrev qD (q : Rat) : PyData := .tuple [.int q.num, .int q.den]
theorem eqv_ii {a b c e : Int} : PyData.eqv (.tuple [.int a, .int b]) (.tuple [.int c, .int e]) = decide (a = c ∧ b = e) := by
  have e1 : PyData.eqv (.tuple [.int a, .int b]) (.tuple [.int c, .int e]) = (PyData.eqv (.int a) (.int c) && (PyData.eqv (.int b) (.int e) && true)) := rfl
  rw [e1]
  simp only [PyData.eqv, Bool.and_true]
  by_cases h1 : a = c
  · by_cases h2 : b = e
    · simp [h1, h2]
    · simp [h1, h2]
  · simp [h1]
theorem eqv_q {q r : Rat} : PyData.eqv (qD q) (qD r) = decide (q = r) := by
  rw [eqv_ii]
  by_cases h : q = r
  · subst h
    rw [decide_eq_true rfl, decide_eq_true ⟨rfl, rfl⟩]
  · rw [decide_eq_false h, decide_eq_false (fun z => h (q_eq z.1 (by have := z.2; omega)))]
theorem q_sh {q : Rat} : Sh 1 (qD q) := Sh.tup (k := 0) fun d hd => by
  simp only [List.mem_cons, List.not_mem_nil, or_false] at hd
  rcases hd with rfl | rfl <;> exact Sh.int
theorem q_dp {K : PySem.W.Frag} {H : Hp} {a : Addr} {q : Rat} (h : H a = some (qO q)) : Dp K H (.ref a) (qD q) := .tup (SqT.of h) (.cons (.int _) (.cons (.int _) .nil))
theorem tb_q {φ : Str → Rat} {ms : List Ms} {s n : Str} {t : List Rt} (h : IsTab φ ms s t) (hn : Conn ms s n) : ∃ r ∈ t, r.nm = n ∧ r.q = φ n / φ s := by
  obtain ⟨r, hr, e⟩ := List.mem_map.mp (h.all n hn)
  have e : r.nm = n := e
  exact ⟨r, hr, e, by rw [(h.ok r hr).1, e]⟩
theorem tb_no {φ : Str → Rat} {ms : List Ms} {s n : Str} {t : List Rt} (h : IsTab φ ms s t) (hn : ¬ Conn ms s n) : valR (Sum.inr n) (tbR t) = none := tb_none fun z => hn (h.keys.mp z)
section
variable [Lw] {P : Program} {w : World} {K : PySem.W.Frag} {mg : Str → Option Value} {base : Heap} {f : Addr} {fd : FuncData} {fn : List He.DefD} {tf : List He.Defn}
def MsBad (φ : Str → Rat) (ms : List Ms) (names : List Str) (a : Str) (te : Int) (b : Str) (mo : Int) : Prop := (a ∉ names ∨ b ∉ names ∨ a = b) ∨ (¬ (5 ≤ te ∧ te ≤ 400) ∨ ¬ (5 ≤ mo ∧ mo ≤ 400)) ∨ (Conn ms a b ∧ φ b / φ a ≠ Rat.divInt (0 - te) mo)
def spMesh (K : PySem.W.Frag) : Sp := fun vs H Q E => ∃ (x dx l1 l2 : Addr) (names : List Str) (as : List Addr) (ms : List Ms) (φ : Str → Rat) (B N : Nat) (a b : Str) (te mo : Int), vs = [.ref x, .str a, .int te, .str b, .int mo] ∧ Fp H [ck x (trO K dx l1 l2), ck l1 (.lst (names.map V.str)), ck l2 (.lst (as.map V.ref))] [] H ∧ MAt H as ms ∧ names.length ≤ 1000 ∧ ms.length ≤ 1000 ∧ Pot φ ms ∧ (∀ n ∈ names, txOk n = true) ∧ (∀ m ∈ ms, m.a ∈ names ∧ m.b ∈ names) ∧ (a ∈ names → Bd ms a B N) ∧
  (MsBad φ ms names a te b mo → ∀ N H', Fp H [] N H' → E (.ref (He.ga K "GearError")) none H') ∧
  (¬ MsBad φ ms names a te b mo → ∀ t N H', Fp H [ck x (trO K dx l1 l2), ck l1 (.lst (names.map V.str)), ck l2 (.lst ((as ++ [t]).map V.ref))] (ck t (msO ⟨a, te, b, mo⟩) :: N) H' → Q .non H')
theorem ok_mesh (T : Sy fa1 fn tf K mg base) (F : FnM K "mesh" "Train.mesh" s_Train_mesh f fd) {f1 f2 : Addr} {fd1 fd2 : FuncData} (c_exact : Cal P w K mg base CX0 1 "exact" f1 fd1 ["part", "whole"] (spEx K)) (c_Train_ratios : Mtd P w K mg base (CX P w) 3 (He.ga K "Train") "ratios" f2 fd2 ["self", "start"] (spRatios K)) : FnOk P w K mg base (CX P w) 4 f fd ["self", "one", "teeth", "other", "more"] (spMesh K) := by
  obtain ⟨tMT, c_MT⟩ := T.int "MOST_TEETH" 400
  refine F.ok sc_Train_mesh (fun vs H Q E h => ?_) (fun cdv A outer s H vs Q E hr h => ⟨_, (pss_cons (ps_if (PW.pt (pw_or (pt_cmpR (op_niSK (K := K) rfl) (pv 1) (pe_fldK (K := K) rfl (pv 0) rfl) (by with_unfolding_all rfl)) (pw_or (pt_cmpR (op_niSK (K := K) rfl) (pv 3) (pe_fldK (K := K) rfl (pv 0) rfl) (by with_unfolding_all rfl)) (pw_or1 (pt_cmpR op_eq (pv 1) (pv 3) (nomark _)))))) (pss_one (ps_raise rfl (takes_of rfl rfl rfl rfl) (pmk_own PySem.F.excBase_ValueError (T.excX "GearError") (T.glo "GearError") (T.excK "GearError") (raises_own (T.excB "GearError") (T.excT "GearError")) rfl))) pss_nil) (pss_cons (ps_if (PW.pt (pw_or (pt_not (pt_chain op_le op_le pe_int (pv 2) (pe_glob (v := .int 400) rfl c_MT ⟨_, rfl⟩))) (pw_or1 (pt_not (pt_chain op_le op_le pe_int (pv 4) (pe_glob (v := .int 400) rfl c_MT ⟨_, rfl⟩)))))) (pss_one (ps_raise rfl (takes_of rfl rfl rfl rfl) (pmk_own PySem.F.excBase_ValueError (T.excX "GearError") (T.glo "GearError") (T.excK "GearError") (raises_own (T.excB "GearError") (T.excT "GearError")) rfl))) pss_nil) (pss_cons (ps_set (i := 5) sc_Train_mesh.nd rfl (.inl rfl) (pe_dget1 (Room.u1 hr) (pe_mtd (pv 0) c_Train_ratios (hr.mono (by first | decide | omega)) (passes_call (takes_of rfl rfl rfl rfl) fun _ _ _ _ h => h) (pa_cons (pv 1) pa_nil)) (pv 3) ⟨by rfl, by rfl, by rfl, by rfl⟩)) (pss_cons (ps_if (PW.pt (pw_and (pt_cmp (pc_notN (pv 5))) (pw_and1 (pt_cmpR (op_neDK (K := K) rfl (Room.units hr)) (pv 5) (pe_cal c_exact (hr.mono (by first | decide | omega)) rfl pass0 (pa_cons (pe_op op_sub pe_int (pv 2)) (pa_cons (pv 4) pa_nil))) (nomark _))))) (pss_one (ps_raise rfl (takes_of rfl rfl rfl rfl) (pmk_own PySem.F.excBase_ValueError (T.excX "GearError") (T.glo "GearError") (T.excK "GearError") (raises_own (T.excB "GearError") (T.excT "GearError")) rfl))) pss_nil) (pss_one (ps_expr (pe_bm PySem.F.plainAttrs_list PySem.F.slot_list_append PySem.F.type_list_append mt_append (pe_fldK (K := K) rfl (pv 0) rfl) (pa_cons (pe_tup (pa_cons (pv 1) (pa_cons (pv 2) (pa_cons (pv 3) (pa_cons (pv 4) pa_nil))))) pa_nil)))))))), ?_⟩)
  · obtain ⟨_, _, _, _, _, _, _, _, _, _, _, _, _, _, rfl, _⟩ := h
    rfl
  · obtain ⟨x, dx, l1, l2, names, as, ms, φ, B, N, a, b, te, mo, rfl, F, ma, hnl, hml, P, htx, hms, hB, bad, good⟩ := h
    have cT := T.cls "Train"
    have n1 := T.noat "Train" "shafts"
    have n2 := T.noat "Train" "meshes"
    have F0 := F
    have hal : (as.map V.ref).length < sizeLine := len_lt (by rw [List.length_map, ma.1]; omega)
    walk_at "k0"
    walk_at "ff"
    refine f_niS (SqL.of (by walk_at "g")) ?_
    walk_at "ff"
    refine ite_ndec (fun h1 => ?_) (fun h1 => ?_)
    · walk_at "ff"
      exact bad (.inl (.inl h1)) [] _ Fp.refl
    walk_at "ff"
    refine f_niS (SqL.of (by walk_at "g")) ?_
    walk_at "ff"
    refine ite_ndec (fun h2 => ?_) (fun h2 => ?_)
    · walk_at "ff"
      exact bad (.inl (.inr (.inl h2))) [] _ Fp.refl
    walk_at "ff"
    refine ite_dec (fun h3 => ?_) (fun h3 => ?_)
    · walk_at "ff"
      exact bad (.inl (.inr (.inr (by injection h3)))) [] _ Fp.refl
    have h3 : a ≠ b := fun z => h3 (by rw [z])
    walk_at "ff"
    have badT : (¬ (5 ≤ te ∧ te ≤ 400) ∨ ¬ (5 ≤ mo ∧ mo ≤ 400)) → ∀ N H', Fp H [] N H' → E (.ref (He.ga K "GearError")) none H' := fun z => bad (.inr (.inl z))
    refine ite_dec (fun h4 => ?_) (fun h4 => ?_)
    rotate_left
    · walk_at "ff"
      exact badT (.inl (by omega)) [] _ Fp.refl
    walk_at "ff"
    refine ite_ndec (fun h5 => ?_) (fun h5 => ?_)
    · walk_at "ff"
      exact badT (.inl (by omega)) [] _ Fp.refl
    walk_at "ff"
    refine ite_dec (fun h6 => ?_) (fun h6 => ?_)
    rotate_left
    · walk_at "ff"
      exact badT (.inr (by omega)) [] _ Fp.refl
    walk_at "ff"
    refine ite_ndec (fun h7 => ?_) (fun h7 => ?_)
    · walk_at "ff"
      exact badT (.inr (by omega)) [] _ Fp.refl
    clear badT
    walk_at "ff"
    refine f_dget1E ?_
    walk_at "ff"
    refine ⟨x, dx, l1, l2, names, a, as, ms, φ, B, N, rfl, F.getS .here, F.getS (.there .here), F.getS (.there (.there .here)), ma, hnl, P, htx, hms, fun z => absurd h1 z, fun _ => ⟨hB h1, fun d t N1 H1 I G1 => ?_⟩⟩
    replace F := (F.call (by walk_at "rs") G1).kp (.keep (.keep .nil))
    have hd1 : H1 d = some (.dK (tbR t)) := F.getN .here
    refine f_dget1K hd1 ?_
    walk_at "ff"
    by_cases hc : Conn ms a b
    · obtain ⟨r, hr1, e1, e2⟩ := tb_q I hc
      have hv := tb_get I.nd hr1
      rw [e1] at hv
      obtain ⟨ri, hri⟩ := List.mem_iff_getElem?.mp hr1
      have hro : H1 r.ad = some (qO r.q) := F.getN (.there (.at (map_get_some hri) (map_get_some hri)))
      refine ⟨_, f_dgetS (.inl hd1) hv, ?_⟩
      dsimp only [Option.getD_some]
      walk_at "ff"
      rw [if_pos (show (!decide (V.ref r.ad = V.non)) = true from by simp)]
      walk_at "ff"
      refine ⟨0 - te, mo, rfl, by omega, by omega, fun t0 H5 G5 => ?_⟩
      replace F := F.call1 G5 .nil
      have hro : H5 r.ad = some (qO r.q) := F.getN (.there (.there (.at (map_get_some hri) (map_get_some hri))))
      refine s_neD (q_dp hro) (q_dp (F.getN .here)) (q_sh.shaped (by decide)) (q_sh.shaped (by decide)) ?_
      rw [eqv_q, e2]
      walk_at "ff"
      refine ite_ndec (fun hq => ?_) (fun hq => ?_)
      · walk_at "ff"
        exact bad (.inr (.inr ⟨hc, hq⟩)) _ _ (F.back F0)
      walk_at "ff"
      refine good (fun z => ?_) p _ _ (by rw [List.map_append]; exact F)
      rcases z with (z | z | z) | (z | z) | ⟨_, z⟩
      · exact z h1
      · exact z h2
      · exact h3 z
      · exact z ⟨h4, h5⟩
      · exact z ⟨h6, h7⟩
      · exact z hq
    · refine ⟨_, f_dgetN (.inl hd1) (tb_no I hc), ?_⟩
      dsimp only [Option.getD_none]
      walk_at "ff"
      refine good (fun z => ?_) p _ _ (by rw [List.map_append]; exact F)
      rcases z with (z | z | z) | (z | z) | ⟨z, _⟩
      · exact z h1
      · exact z h2
      · exact h3 z
      · exact z ⟨h4, h5⟩
      · exact z ⟨h6, h7⟩
      · exact hc z
theorem keys_tbR {t : List Rt} : (tbR t).map (fun kv => kV kv.1) = (nmsR t).map V.str := by
  unfold tbR nmsR
  rw [List.map_map, List.map_map]
  rfl
theorem perm_lst {α : Type} (c : α) (L : List α) : List.Perm (L ++ [c]) (c :: L) := List.perm_append_comm
theorem den_le {d t : Int} (h0 : 0 < d) (h1 : d ≤ 16777216) (h2 : 1 ≤ t) (h3 : t ≤ 20) : d * t ≠ 0 ∧ (d * t).natAbs < 1073741824 := by
  have h4 : 0 < d * t := Int.mul_pos h0 (by omega)
  have h5 : d * t ≤ 16777216 * 20 := Int.mul_le_mul h1 h3 (by omega) (by decide)
  omega
theorem nm_fresh {t t' : List Rt} {i : Nat} {r : Rt} (hn : (nmsR t).Nodup) (hr : t[i]? = some r) (e : nmsR t' = nmsR (t.take i)) : r.nm ∉ nmsR t' ∧ nmsR t' ++ [r.nm] = nmsR (t.take (i + 1)) := by
  have h1 : nmsR (t.take (i + 1)) = nmsR (t.take i) ++ [r.nm] := by rw [take_more hr, nms_add]
  have h2 : (nmsR (t.take (i + 1))).Nodup := hn.sublist (List.Sublist.map _ (List.take_sublist _ _))
  rw [h1, List.nodup_append] at h2
  rw [e]
  exact ⟨fun z => h2.2.2 _ z _ (List.mem_singleton_self _) rfl, h1.symm⟩
theorem IsTab.lenN {φ : Str → Rat} {ms : List Ms} {s : Str} {B N : Nat} {t : List Rt} (h : IsTab φ ms s t) (hB : Bd ms s B N) : t.length ≤ 1000 := by
  have := hB.co (nmsR t) h.nd fun n hn => h.keys.mp hn
  have h2 := hB.nb
  unfold nmsR at this
  rw [List.length_map] at this
  omega
theorem co_dvd {q : Rat} {x : Int} (h : x * q.num % q.den = 0) : (q.den : Int) ∣ x := by
  have h1 : (q.den : Int) ∣ x * q.num := Int.dvd_of_emod_eq_zero h
  have h2 : q.den ∣ x.natAbs * q.num.natAbs := by
    have := Int.natAbs_dvd_natAbs.mpr h1
    rw [Int.natAbs_mul, Int.natAbs_natCast] at this
    exact this
  have h3 : q.den ∣ x.natAbs := Nat.Coprime.dvd_of_dvd_mul_right q.reduced.symm h2
  exact Int.ofNat_dvd_left.mpr h3
theorem dvd_co {q : Rat} {x : Int} (h : (q.den : Int) ∣ x) : x * q.num % q.den = 0 := Int.emod_eq_zero_of_dvd (Int.dvd_mul_of_dvd_left h)
/-- the least common one -/
theorem lcm_step {L d : Int} {j : Nat} (hL : 1 ≤ L) (hj : 1 ≤ j) (h1 : d ∣ L * j) (h2 : ∀ i : Nat, 1 ≤ i → i < j → ¬ d ∣ L * i) (k : Int) : (L ∣ k ∧ d ∣ k) ↔ L * j ∣ k := by
  constructor
  · rintro ⟨⟨c, rfl⟩, h4⟩
    have hs0 := Int.emod_nonneg c (show (j : Int) ≠ 0 by omega)
    have hs1 := Int.emod_lt_of_pos c (show (0 : Int) < (j : Int) by omega)
    have hc := Int.emod_add_mul_ediv c (j : Int)
    have h5 : d ∣ L * (c % (j : Int)) := by
      have e : L * (c % (j : Int)) = L * c - L * (j : Int) * (c / (j : Int)) := by
        rw [Int.mul_assoc, ← Int.mul_sub]
        congr 1
        omega
      rw [e]
      exact Int.dvd_sub h4 (Int.dvd_mul_of_dvd_left h1)
    have h6 : c % (j : Int) = 0 := by
      by_cases hz : c % (j : Int) = 0
      · exact hz
      · have := h2 (c % (j : Int)).toNat (by omega) (by omega)
        rw [Int.toNat_of_nonneg hs0] at this
        exact absurd h5 this
    exact Int.mul_dvd_mul_left L (Int.dvd_of_emod_eq_zero h6)
  · rintro h
    exact ⟨Int.dvd_trans (Int.dvd_mul_right _ _) h, Int.dvd_trans h1 h⟩
/-- a table of speeds -/
structure STab (φ : Str → Rat) (ms : List Ms) (s : Str) (c : Rat) (t : List Rt) : Prop where
  nd : (nmsR t).Nodup
  ok : ∀ r ∈ t, r.q = φ r.nm / φ s * c ∧ Conn ms s r.nm
  all : ∀ n, Conn ms s n → n ∈ nmsR t
def spSpeeds (K : PySem.W.Frag) : Sp := fun vs H Q E => ∃ (x dx l1 l2 tp : Addr) (names : List Str) (n : Str) (as : List Addr) (ms : List Ms) (φ : Str → Rat) (B N : Nat) (t0 t1 : Int), vs = [.ref x, .str n, .ref tp] ∧ H x = some (trO K dx l1 l2) ∧ H l1 = some (.lst (names.map V.str)) ∧ H l2 = some (.lst (as.map V.ref)) ∧ MAt H as ms ∧ names.length ≤ 1000 ∧ Pot φ ms ∧ (∀ n ∈ names, txOk n = true) ∧ (∀ m ∈ ms, m.a ∈ names ∧ m.b ∈ names) ∧ SqT K H tp [.int t0, .int t1] ∧ (1 ≤ t1 ∧ t1 ≤ 20) ∧
  (n ∉ names → ∀ N H', Fp H [] N H' → E (.ref (He.ga K "GearError")) none H') ∧
  (n ∈ names → Bd ms n B N ∧ ∀ d t N H', STab φ ms n (Rat.divInt t0 t1) t → Fp H [] (ck d (.dK (tbR t)) :: (adsR t, t.map rtO) :: N) H' → Q (.ref d) H')
theorem ok_speeds (T : Sy fa1 fn tf K mg base) (F : FnM K "speeds" "Train.speeds" s_Train_speeds f fd) {f1 f2 : Addr} {fd1 fd2 : FuncData} (c_times : Cal P w K mg base CX0 2 "times" f1 fd1 ["one", "other"] (spTimes K)) (c_Train_ratios : Mtd P w K mg base (CX P w) 3 (He.ga K "Train") "ratios" f2 fd2 ["self", "start"] (spRatios K)) : FnOk P w K mg base (CX P w) 4 f fd ["self", "start", "turns"] (spSpeeds K) := by
  refine F.ok sc_Train_speeds (fun vs H Q E h => ?_) (fun cdv A outer s H vs Q E hr h => ⟨_, (pss_cons (ps_set (i := 3) sc_Train_speeds.nd rfl (.inr rfl) (pe_mtd (pv 0) c_Train_ratios (hr.mono (by first | decide | omega)) (passes_call (takes_of rfl rfl rfl rfl) fun _ _ _ _ h => h) (pa_cons (pv 1) pa_nil))) (pss_one (ps_ret (pe_lock (pe_dc (own := [("name", 4)]) (tt := tYes) rfl sc_Train_speeds.nd (pi_keys (pv 3)) (blkOk_by (N := n_Train_speeds) (sc := (defScope s_Train_speeds)) (by decide +kernel)) (fun _ _ _ _ _ => (pg_name (i := 4) sc_Train_speeds.nd rfl (.inl rfl))) (fun _ _ _ _ _ => pts_nil)  (fun _ _ _ _ _ => (pv 4)) (fun _ _ _ _ _ => (pe_cal c_times (hr.mono (by first | decide | omega)) rfl pass0 (pa_cons (pe_dget (Room.u1 hr) (pv 3) (pv 4) (fun _ _ => rfl)) (pa_cons (pv 2) pa_nil))))))))), ?_⟩)
  · obtain ⟨_, _, _, _, _, _, _, _, _, _, _, _, _, _, rfl, _⟩ := h
    rfl
  · obtain ⟨x, dx, l1, l2, tp, names, n, as, ms, φ, B, N, t0, t1, rfl, hx, hl1, hl2, ma, hnl, P, htx, hms, htp, ht1, bad, good⟩ := h
    have cT := T.cls "Train"
    have F := Fp.refl (B := H)
    walk_at "k0"
    walk_at "ff"
    refine ⟨x, dx, l1, l2, names, n, as, ms, φ, B, N, rfl, hx, hl1, hl2, ma, hnl, P, htx, hms, bad, fun hn => ?_⟩
    obtain ⟨hB, good⟩ := good hn
    refine ⟨hB, fun d t N1 H1 I G1 => ?_⟩
    replace F : Fp H [] [ck d (.dK (tbR t)), (adsR t, t.map rtO)] H1 := G1.kp (.keep (.keep .nil))
    walk_at "ff"
    refine f_lockE d F (fun od => by walk_at "re") fun od H2 F => ?_
    walk_at "ff"
    rw [keys_tbR] at w
    refine dcS w F (fun D i H' => ∃ t' : List Rt, nmsR t' = nmsR (t.take i) ∧ (∀ r ∈ t', r.q = φ r.nm / φ n * Rat.divInt t0 t1 ∧ Conn ms n r.nm) ∧ Fp H [] [ck D (.dK (tbR t')), ck d (.frz od (.dK (tbR t))), (adsR t, t.map rtO), (adsR t', t'.map rtO)] H') (fun D H' F => ⟨[], rfl, fun _ h => (nomatch h), permC F.nil (perm_lst _ [_, _, _])⟩) (fun D i H' ⟨_, _, _, F⟩ => by walk_at "g") (fun D i y H' hy hP => ?_) (fun D H' hP => ?_)
    · clear F
      obtain ⟨t', hn', hq', F⟩ := hP
      obtain ⟨n0, hn0, rfl⟩ := map_get hy
      obtain ⟨r, hri, rfl⟩ : ∃ r, t[i]? = some r ∧ r.nm = n0 := by
        rw [List.getElem?_map] at hn0
        cases e : t[i]? with
        | none => rw [e] at hn0; cases hn0
        | some r => rw [e] at hn0; exact ⟨r, rfl, Option.some.inj hn0⟩
      have hrm := get_mem hri
      have hv := tb_get I.nd hrm
      have hro : H' r.ad = some (qO r.q) := F.getN (.there (.there (.at (map_get_some hri) (map_get_some hri))))
      obtain ⟨hb1, hb2⟩ := I.bd r hrm
      have hb3 := q_pos (q := r.q)
      obtain ⟨hd1, hd2⟩ := den_le hb3 (by omega) ht1.1 ht1.2
      obtain ⟨hf1, hf2⟩ := nm_fresh I.nd hri hn'
      walk_at "ff"
      refine ⟨r.ad, tp, r.q.num, r.q.den, t0, t1, rfl, SqT.of hro, F.sqT htp, hd1, hd2, by omega, by omega, fun t6 H6 G6 => ?_⟩
      rw [← Rat.divInt_mul_divInt, divInt_q] at G6
      replace F := F.call1 G6 .nil
      have htl : (tbR t').length < sizeLine := len_lt (by
        have h1 := I.lenN hB
        have h2 := congrArg List.length hn'
        unfold nmsR at h2
        rw [List.length_map, List.length_map, List.length_take] at h2
        rw [List.length_map]
        omega)
      refine dcQS F (.n (.there .here)) htl (tb_add (r := ⟨r.nm, r.q * Rat.divInt t0 t1, t6⟩) hf1) fun H7 F => ?_
      replace F := Fp.snocL (as := adsR t') (os := t'.map rtO) [_, _, _] (by rw [List.length_map, List.length_map]) F
      refine ⟨t' ++ [⟨r.nm, r.q * Rat.divInt t0 t1, t6⟩], by rw [nms_add]; exact hf2, fun r2 hr2 => ?_, ?_⟩
      · rcases List.mem_append.mp hr2 with hr2 | hr2
        · exact hq' r2 hr2
        · rw [List.mem_singleton.mp hr2]
          obtain ⟨h1, h2⟩ := I.ok r hrm
          exact ⟨by show r.q * _ = _; rw [h1], h2⟩
      · rw [List.map_append]
        unfold adsR
        rw [List.map_append]
        exact F
    · obtain ⟨t', hn', hq', F⟩ := hP
      rw [List.length_map, show (nmsR t).length = t.length from List.length_map .., List.take_length] at hn'
      refine f_unl F (by walk_at "re") fun H3 F => ?_
      refine good D t' [] H3 ⟨by rw [hn']; exact I.nd, hq', fun m hm => by rw [hn']; exact I.all m hm⟩ ?_
      exact permC (F.kp (.keep (.drop (.drop (.keep .nil))))) (List.Perm.refl _)
def TogOk (φ : Str → Rat) (ms : List Ms) (s : Str) (L : Int) : Prop := 1 ≤ L ∧ ∀ k : Int, (∀ m, Conn ms s m → ((φ m / φ s).den : Int) ∣ k) ↔ L ∣ k
def spTog (K : PySem.W.Frag) : Sp := fun vs H Q _ => ∃ (x dx l1 l2 : Addr) (names : List Str) (n : Str) (as : List Addr) (ms : List Ms) (φ : Str → Rat) (B N : Nat), vs = [.ref x, .str n] ∧ H x = some (trO K dx l1 l2) ∧ H l1 = some (.lst (names.map V.str)) ∧ H l2 = some (.lst (as.map V.ref)) ∧ MAt H as ms ∧ names.length ≤ 1000 ∧ Pot φ ms ∧ (∀ n ∈ names, txOk n = true) ∧ (∀ m ∈ ms, m.a ∈ names ∧ m.b ∈ names) ∧ n ∈ names ∧ Bd ms n B N ∧ ∀ L N H', TogOk φ ms n L → Fp H [] N H' → Q (.int L) H'
theorem ok_tog (T : Sy fa1 fn tf K mg base) (F : FnM K "together_again" "Train.together_again" s_Train_together_again f fd) {f2 : Addr} {fd2 : FuncData} (c_Train_ratios : Mtd P w K mg base (CX P w) 3 (He.ga K "Train") "ratios" f2 fd2 ["self", "start"] (spRatios K)) : FnOk P w K mg base (CX P w) 4 f fd ["self", "start"] (spTog K) := by
  refine F.ok sc_Train_together_again (fun vs H Q E h => ?_) (fun cdv A outer s H vs Q E hr h => ⟨_, (pss_cons (ps_set (i := 2) sc_Train_together_again.nd rfl (.inl rfl) pe_int) (pss_cons (ps_for (passes_of rfl) rfl (pi_itemsN (pe_mtd (pv 0) c_Train_ratios (hr.mono (by first | decide | omega)) (passes_call (takes_of rfl rfl rfl rfl) fun _ _ _ _ h => h) (pa_cons (pv 1) pa_nil))) (pg_tupK (K := K) (n := 2) rfl rfl (pgs_cons (pg_name (i := 3) sc_Train_together_again.nd rfl (.inl rfl)) (pgs_cons (pg_name (i := 4) sc_Train_together_again.nd rfl (.inl rfl)) pgs_nil))) (pss_cons (ps_set (i := 5) sc_Train_together_again.nd rfl (.inl rfl) (pv 2)) (pss_cons (ps_while (passes_of rfl) (pt_cmpR op_ne (pe_op op_mod (pe_op op_mul (pv 5) (pe_ix (ix_tupK (K := K) rfl) (pv 4) pe_int (fun _ _ => rfl))) (pe_ix (ix_tupK (K := K) rfl) (pv 4) pe_int (fun _ _ => rfl))) pe_int (nomark _)) (pss_one (ps_aug (i := 5) sc_Train_together_again.nd rfl (.inl rfl) (pv 2) iop_add))) (pss_one (ps_set (i := 2) sc_Train_together_again.nd rfl (.inl rfl) (pv 5)))))) (pss_one (ps_ret (pv 2))))), ?_⟩)
  · obtain ⟨_, _, _, _, _, _, _, _, _, _, _, rfl, _⟩ := h
    rfl
  · obtain ⟨x, dx, l1, l2, names, n, as, ms, φ, B, N, rfl, hx, hl1, hl2, ma, hnl, P, htx, hms, hn, hB, good⟩ := h
    have cT := T.cls "Train"
    have F := Fp.refl (B := H)
    walk_at "k0"
    walk_at "ff"
    apply s_iIN
    walk_at "ff"
    refine ⟨x, dx, l1, l2, names, n, as, ms, φ, B, N, rfl, hx, hl1, hl2, ma, hnl, P, htx, hms, fun z => absurd hn z, fun _ => ⟨hB, fun d t N1 H1 I G1 => ?_⟩⟩
    replace F : Fp H [] [ck d (.dK (tbR t)), (adsR t, t.map rtO)] H1 := G1.kp (.keep (.keep .nil))
    refine f_iIN (F.getN .here) fun od J w => ?_
    replace F : Fp H [] [ck d (.frz od (.dK (tbR t))), (adsR t, t.map rtO)] _ := F.re (.n .here) rfl rfl
    refine forSW w (fun i σ' H' => ∃ (L : Int) (x3 x4 x5 : Option V), σ' = [some (.ref x), some (.str n), some (.int L), x3, x4, x5] ∧ (1 ≤ L ∧ ∀ k : Int, (∀ r ∈ t.take i, (r.q.den : Int) ∣ k) ↔ L ∣ k) ∧ Fp H [] [ck d (.frz od (.dK (tbR t))), (adsR t, t.map rtO)] H') ⟨1, _, _, _, rfl, ⟨by decide, fun k => ⟨fun _ => ⟨k, by omega⟩, fun _ r hr => (nomatch hr)⟩⟩, F⟩ (fun i σ' H' hP => ?_) (fun i y σ' H' H'' hi hP hY => ?_) (fun σ' H' hP => ?_)
    · obtain ⟨L, x3, x4, x5, rfl, _, F⟩ := hP
      exact F.getN .here
    · clear F
      obtain ⟨L, x3, x4, x5, rfl, ⟨hL, hLk⟩, F⟩ := hP
      obtain ⟨Tp, y1, y2, rfl, hTp, hH, hy1, hy2⟩ := hY
      obtain ⟨r, hri⟩ : ∃ r, t[i]? = some r := ⟨_, List.getElem?_eq_getElem (by rw [List.length_map] at hi; exact hi)⟩
      have hty : (tbR t)[i]? = some (Sum.inr r.nm, V.ref r.ad) := map_get_some hri
      dsimp only at hy1 hy2
      rw [hty] at hy1 hy2
      cases hy1
      cases hy2
      replace F := F.new' hTp hH.symm rfl
      have hrm := get_mem hri
      obtain ⟨hb1, hb2⟩ := I.bd r hrm
      have hb3 := q_pos (q := r.q)
      have hro : H'' r.ad = some (qO r.q) := F.getN (.there (.there (.at (map_get_some hri) (map_get_some hri))))
      walk_at "ff"
      replace F := F.kp (.drop Kp.rf)
      refine whileS (fun m σ' H' => ∃ j : Nat, m = r.q.den - j ∧ σ' = [some (.ref x), some (.str n), some (.int L), some (.str r.nm), some (.ref r.ad), some (.int (L * (j : Int)))] ∧ (1 ≤ j ∧ j ≤ r.q.den) ∧ (∀ i : Nat, 1 ≤ i → i < j → ¬ (r.q.den : Int) ∣ L * i) ∧ Fp H [] [ck d (.frz od (.dK (tbR t))), (adsR t, t.map rtO)] H') ⟨_, 1, rfl, by rw [show L * ((1 : Nat) : Int) = L by omega]; rfl, ⟨Nat.le_refl _, by omega⟩, fun i h1 h2 => by omega, F⟩ fun m σ' H' hP => ?_
      clear F
      obtain ⟨j, rfl, rfl, ⟨hj1, hj2⟩, hjn, F⟩ := hP
      have hro : H' r.ad = some (qO r.q) := F.getN (.there (.at (map_get_some hri) (map_get_some hri)))
      walk_at "ff"
      refine ite_ndec (fun hc => ?_) (fun hc => ?_)
      · have hnd : ¬ (r.q.den : Int) ∣ L * j := fun z => hc (by rw [dvd_co z])
        walk_at "ff"
        refine whQ ?_
        walk_at "ff"
        have hlt : j < r.q.den := by
          by_cases z : j = r.q.den
          · exact absurd (by rw [z]; exact Int.dvd_mul_left _ _) hnd
          · omega
        refine ⟨r.q.den - (j + 1), by omega, j + 1, rfl, by rw [show L * (j : Int) + L = L * ((j + 1 : Nat) : Int) by rw [Int.natCast_add, Int.mul_add]; omega]; rfl, ⟨by omega, hlt⟩, fun i h1 h2 => ?_, F⟩
        by_cases z : i = j
        · rw [z]
          exact hnd
        · exact hjn i h1 (by omega)
      · have hdv : (r.q.den : Int) ∣ L * j := co_dvd (by injection hc)
        walk_at "ff"
        have hmul : 1 * 1 ≤ L * (j : Int) := Int.mul_le_mul hL (by omega) (by decide) (by omega)
        refine ⟨L * j, _, _, _, rfl, ⟨by omega, fun k => ?_⟩, F⟩
        rw [take_more hri, ← lcm_step hL hj1 hdv hjn k, ← hLk k]
        constructor
        · intro h
          exact ⟨fun r2 h2 => h r2 (List.mem_append_left _ h2), h r (List.mem_append_right _ (List.mem_singleton_self _))⟩
        · rintro ⟨h1, h2⟩ r2 h3
          rcases List.mem_append.mp h3 with h3 | h3
          · exact h1 r2 h3
          · rw [List.mem_singleton.mp h3]
            exact h2
    · obtain ⟨L, x3, x4, x5, rfl, ⟨hL, hLk⟩, F⟩ := hP
      rw [List.length_map, List.take_length] at hLk
      walk_at "ff"
      refine good L _ _ ⟨hL, fun k => (hLk k).symm.trans ?_ |>.symm⟩ F
      constructor
      · intro h m hm
        obtain ⟨r, hr, e1, e2⟩ := tb_q I hm
        rw [← e2]
        exact h r hr
      · intro h r hr
        obtain ⟨e1, e2⟩ := I.ok r hr
        rw [e1]
        exact h _ e2
end
end K1

set_option Elab.async false
set_option linter.all false
set_option maxRecDepth 100000
set_option maxHeartbeats 2000000
set_option pp.maxSteps 1500
namespace K1
open PySem PySem.Spec PyProof.Rows L2 Mi
set_option hygiene false
local macro_rules | `(tactic| walk_at "lk") => `(tactic| first | (with_reducible assumption) | (with_reducible apply get_set_self; walk_at "lk") | ((with_reducible apply get_set_ne); (case' hne => with_reducible assumption); walk_at "lk"))
local macro_rules | `(tactic| walk_at "at") => `(tactic| first | (with_reducible exact At.here) | (with_reducible apply At.at; (case' h1 => assumption); walk_at "lk") | (with_reducible apply At.there; walk_at "at"))
local macro_rules | `(tactic| walk_at "rp") => `(tactic| first | (with_reducible exact Rp.here) | (with_reducible apply Rp.set; (case' h1 => assumption); walk_at "lk") | (with_reducible apply Rp.at; (case' h1 => assumption); walk_at "lk") | (with_reducible apply Rp.there; walk_at "rp"))
local macro_rules | `(tactic| walk_at "re") => `(tactic| first | (with_reducible apply Re.n; walk_at "rp") | (with_reducible apply Re.s; walk_at "rp"))
local macro_rules | `(tactic| walk_at "dl") => `(tactic| first | (with_reducible exact Dl.here) | (with_reducible apply Dl.there; walk_at "dl"))
local macro_rules | `(tactic| walk_at "pq") => `(tactic| first | (with_reducible exact Pq.nil) | ((with_reducible apply Pq.n); (case' d => walk_at "dl"); walk_at "pq") | ((with_reducible apply Pq.s); (case' d => walk_at "dl"); walk_at "pq"))
local macro_rules | `(tactic| walk_at "rc") => `(tactic| first | (with_reducible exact Rc.here) | (with_reducible apply Rc.there; walk_at "rc"))
local macro_rules | `(tactic| walk_at "rs") => `(tactic| first | (with_reducible exact Rs.nil) | ((with_reducible apply Rs.on); (case' r => walk_at "rc"); (case' hl => first | exact rfl | ((try simp only [List.length_map, List.length_set]); with_reducible assumption) | (simp; done)); walk_at "rs") | ((with_reducible apply Rs.os); (case' r => walk_at "rc"); (case' hl => first | exact rfl | ((try simp only [List.length_map, List.length_set]); with_reducible assumption) | (simp; done)); walk_at "rs"))
local macro_rules | `(tactic| walk_at "ix") => `(tactic| first | with_reducible exact atI_nat (by assumption) | with_reducible exact atI_nat1 (by assumption) | with_reducible exact atI0 | with_reducible exact atI1 | with_reducible exact atI2 | with_reducible exact atI3 | with_reducible exact atI4)
local macro_rules | `(tactic| walk_at "sl") => `(tactic| first | (with_reducible assumption) | ((with_reducible apply len_app); (case' h1 => walk_at "sl"); (case' h2 => walk_at "sl")) | (with_reducible exact Nat.le_refl _))
local macro_rules | `(tactic| walk_at "sz") => `(tactic| first | with_reducible assumption | ((with_reducible apply len_leB); (case' h => walk_at "sl"); (case' hn => exact Nat.le_of_ble_eq_true rfl)) | exact of_decide_eq_true rfl | (exact len_le (by (try simp only [List.length_append, List.length_cons, List.length_nil, List.length_map, List.length_set, List.length_reverse]); omega)) | (exact len_lt (by (try simp only [List.length_append, List.length_cons, List.length_nil, List.length_map, List.length_set, List.length_reverse]); omega)))
local macro_rules | `(tactic| walk_at "len") => `(tactic| ((try simp only [List.length_append, List.length_cons, List.length_nil, List.length_map, List.length_set, List.length_reverse, List.length_replicate]); omega))
local macro_rules | `(tactic| walk_at "ixn") => `(tactic| first | with_reducible assumption | (with_reducible apply ixN_nat; walk_at "len") | (with_reducible apply ixN_nat1; walk_at "len") | (with_reducible apply ixN_0; walk_at "len") | (with_reducible apply ixN_1; walk_at "len") | (with_reducible apply ixN_2; walk_at "len") | exact rfl)
local macro_rules | `(tactic| walk_at "st") => `(tactic| ((try simp only [L2.start, wipe, List.map_cons, List.map_nil, List.length_cons, List.length_nil, Nat.reduceAdd, Nat.reduceSub, List.replicate_succ, List.replicate_zero, List.nil_append, List.cons_append, List.set_cons_succ, List.set_cons_zero]); exact rfl))
local macro_rules | `(tactic| walk_at "kp") => `(tactic| first | (with_reducible exact Kp.nil) | (with_reducible apply Kp.keep; walk_at "kp") | (with_reducible apply Kp.drop; walk_at "kp"))
local macro_rules | `(tactic| walk_at "g") => `(tactic| first
  | with_reducible assumption
  | (with_reducible apply F.getN; walk_at "at")
  | (with_reducible apply F.getS; walk_at "at")
  | ((with_reducible apply F.imm); (case' h => with_reducible assumption); exact rfl)
  | ((with_reducible apply F.keep); (case' h => with_reducible assumption); exact rfl)
  | ((with_reducible apply F.keepL); with_reducible assumption)
  | ((with_reducible apply F.sqT); with_reducible assumption)
  | ((with_reducible apply SqL.of); walk_at "g")
  | ((with_reducible apply SqT.of); walk_at "g")
  | ((with_reducible apply Rd.of); walk_at "g")
  | ((with_reducible apply Rd.frz); walk_at "g")
  | (with_reducible apply F.tab; with_reducible assumption)
  | ((with_reducible apply f_dgetS); (case' h1 => walk_at "g"); (case' h2 => first | with_reducible assumption | ((simp (decide := true) only [valR, if_true, if_false]); exact rfl))))
local macro_rules | `(tactic| walk_at "f1") => `(tactic| first
  | (with_reducible (first | apply s_seq | apply s_cons | apply s_nil | apply s_c | apply s_op | apply s_asg | apply s_test | apply s_ifS | apply s_ret | apply s_next | apply s_call | apply s_fldE | apply s_dgetE | apply s_gCons | apply s_gNil | apply s_par | apply s_par3 | apply s_and | apply s_or | apply s_not | apply s_andV | apply s_orV | apply s_notV | apply s_ifE | apply s_chain | apply s_cb | apply s_for | apply s_lc | apply f_methE | apply f_makeE | apply s_rollE | apply s_iK | apply s_iL | apply s_iT | apply f_tup | apply f_lst))
  | ((with_reducible apply s_var); (case' h1 => first | exact rfl | with_reducible assumption))
  | ((with_reducible apply s_gNn); (case' e => walk_at "st"))
  | ((with_reducible apply s_dget); (case' h1 => walk_at "g"))
  | with_reducible apply f_tup
  | with_reducible apply f_lst
  | ((with_reducible apply newF F); (case' ho => exact rfl); clear F; intro p H1 F)
  | ((with_reducible apply s_mk0); (case' hz => first | decide | (simp only [List.length_cons, List.length_nil]; decide)))
  | with_reducible apply f_sFld
  | ((with_reducible apply f_fld F); (case' R => walk_at "re"); (case' h2 => with_reducible assumption); (case' h3 => with_reducible assumption); (case' h4 => exact of_decide_eq_true rfl); (case' hp => ((try simp (decide := true) only [putF, if_true, if_false]); exact rfl)); clear F; intro H1 F)
  | with_reducible apply f_sAug
  | ((with_reducible apply f_aug); (case' h1 => walk_at "g"); (case' h2 => with_reducible assumption); (case' h3 => with_reducible assumption); (case' h4 => exact rfl))
  | ((with_reducible apply f_fldq F); (case' R => walk_at "re"); (case' h4 => exact of_decide_eq_true rfl); (case' hp => ((try simp (decide := true) only [putF, if_true, if_false]); exact rfl)); clear F; intro H1 F)
  | with_reducible apply f_radd
  | with_reducible apply f_rsub
  | ((with_reducible apply f_setL F); (case' R => walk_at "re"); (case' h2 => walk_at "ixn"); clear F; intro H1 F)
  | with_reducible apply f_sDPut
  | ((with_reducible apply f_dputS F); (case' R => walk_at "re"); (case' hl => walk_at "sz"); (case' hp => first | with_reducible assumption | ((try simp (decide := true) only [putR, List.map_cons, List.map_nil, if_true, if_false]); exact rfl)); clear F; intro H1 F)
  | with_reducible apply f_sDAug
  | ((with_reducible apply f_daug); (case' h1 => walk_at "g"))
  | ((with_reducible apply f_dputqS F); (case' R => walk_at "re"); (case' hl => walk_at "sz"); (case' hp => first | with_reducible assumption | ((try simp (decide := true) only [putR, List.map_cons, List.map_nil, if_true, if_false]); exact rfl)); clear F; intro H1 F)
  | with_reducible apply s_dgetE
  | ((with_reducible apply s_dget); (case' h1 => walk_at "g"))
  | ((with_reducible apply f_append F); (case' R => walk_at "re"); (case' hz => walk_at "sz"); clear F; intro H1 F)
  | ((with_reducible apply f_listKL); (case' h1 => walk_at "g"))
  | ((with_reducible apply f_listKT); (case' h1 => walk_at "g"))
  | ((with_reducible apply f_tupKL); (case' h1 => walk_at "g"))
  | ((with_reducible apply f_slL); (case' h1 => walk_at "g"))
  | ((with_reducible apply f_cat); (case' h1 => walk_at "g"); (case' h2 => walk_at "g"); (case' hz => walk_at "sz"))
  | with_reducible apply f_makeE
  | with_reducible apply s_iR3
  | ((with_reducible apply s_iR3d); (case' h1 => omega); (case' hc => rfl); intro J w)
  | ((with_reducible apply s_wipe); (case' h1 => first | exact rfl | exact wipe1))
  | with_reducible apply s_revE
  | ((with_reducible apply s_rev); (case' h1 => walk_at "g"))
  | with_reducible apply f_methE
  | ((with_reducible apply s_lenD); (case' h1 => walk_at "g"))
  | ((with_reducible apply f_meth); (case' h1 => walk_at "g"); (case' h2 => exact rfl))
  | with_reducible apply s_iEL
  | ((with_reducible apply s_iEL2); (case' h1 => walk_at "g"); intro J w)
  | with_reducible apply s_iZ
  | with_reducible apply s_iI
  | ((with_reducible apply s_iI2); (case' h1 => walk_at "g"); intro J w)
  | ((with_reducible apply f_rep1); (case' h1 => walk_at "g"); (case' hk => (constructor <;> omega)))
  | with_reducible apply f_gSub
  | ((with_reducible apply f_disp F); clear F; intro p H1 F)
  | with_reducible apply f_pairC
  | with_reducible apply f_pairN
  | ((with_reducible apply f_dispQ F); (case' R => walk_at "re"); (case' e => ((simp only [List.map_cons, List.map_nil, cvK]); exact rfl)); (case' e2 => exact rfl); (case' hl => exact Nat.le_of_ble_eq_true rfl); (case' hm => first | with_reducible apply hMk | exact rfl); clear F; intro H1 F)
  | ((with_reducible apply f_dnew F); clear F; intro p H1 F)
  | ((with_reducible apply f_unl F); (case' R => walk_at "re"); clear F; intro H1 F)
  | with_reducible apply f_rSetD
  | with_reducible apply f_dnewK
  | with_reducible apply f_sDNi
  | with_reducible apply f_finS
  | with_reducible apply f_finB
  | with_reducible apply f_finB'
  | with_reducible apply f_sDIn
  | ((with_reducible apply s_catS); (case' h1 => walk_at "sl"); (case' h2 => walk_at "sl"); (case' hn => exact Nat.le_of_ble_eq_true rfl))
  | ((with_reducible apply s_logA); (case' hl => with_reducible assumption))
  | with_reducible apply s_same
  | with_reducible apply s_js
  | with_reducible apply s_js0
  | ((with_reducible apply s_js2); (case' hl => walk_at "sz"))
  | with_reducible apply s_fm
  | ((with_reducible apply s_fmS); (case' hl => walk_at "sz"))
  | ((with_reducible apply s_fmI); (case' hl => with_reducible assumption))
  | with_reducible apply f_dget2E
  | with_reducible apply s_sameE
  | with_reducible apply s_chain3
  | with_reducible apply s_notN
  | with_reducible apply s_items
  | with_reducible apply s_bb1
  | with_reducible apply s_bb2
  | walk_at "f2")
local macro_rules | `(tactic| walk_at "f2") => `(tactic| first
  | with_reducible apply s_seq
  | with_reducible apply s_gCons
  | with_reducible apply s_gNil
  | ((with_reducible apply s_gTup); (case' h1 => walk_at "g"); (case' h2 => exact rfl))
  | with_reducible apply s_asg
  | ((with_reducible apply s_I); (case' hc => first | exact ⟨by omega, by omega⟩ | exact .inl ⟨by omega, by omega⟩ | exact .inr ⟨by omega, by omega⟩ | (show (_ : Int) < _; omega) | (show (_ : Int) ≠ _; omega)))
  | with_reducible apply s_mm
  | ((with_reducible apply s_lenKL); (case' h1 => walk_at "g"))
  | ((with_reducible apply s_lenKT); (case' h1 => walk_at "g"))
  | ((with_reducible apply s_tupKT); (case' h1 => walk_at "g"))
  | with_reducible apply s_iE
  | ((with_reducible apply s_iE2); (case' h1 => walk_at "g"); intro J w)
  | with_reducible apply s_ifTT
  | with_reducible apply s_ifFF
  | with_reducible apply s_rollE
  | ((with_reducible apply s_roll); (case' h1 => walk_at "g"); (case' h2 => exact ⟨by omega, by omega⟩); intro k k0 k1)
  | with_reducible apply s_gSub
  | with_reducible apply s_ab
  | with_reducible apply s_in1
  | with_reducible apply s_in2
  | ((with_reducible apply s_lsL); (case' h1 => walk_at "g"))
  | ((with_reducible apply s_lsT); (case' h1 => walk_at "g"))
  | ((with_reducible apply s_tyL); (case' h1 => walk_at "g"))
  | with_reducible apply s_for
  | with_reducible apply s_lc
  | with_reducible apply s_dc
  | with_reducible apply s_gn
  | with_reducible apply s_yes
  | with_reducible apply s_iL
  | with_reducible apply s_iT
  | with_reducible apply s_iR1
  | with_reducible apply s_iR2
  | with_reducible apply s_iK
  | ((with_reducible apply s_iL2); (case' h1 => walk_at "g"); intro J w)
  | ((with_reducible apply s_iT2); (case' h1 => walk_at "g"); intro J w)
  | ((with_reducible apply s_iR12); (case' h1 => omega); intro J w)
  | ((with_reducible apply s_iR22); (case' h1 => omega); intro J w)
  | ((with_reducible apply s_iK2); (case' h1 => walk_at "g"); intro J w)
  | ((with_reducible apply s_gNn); (case' e => walk_at "st"))
  | ((with_reducible apply s_var); (case' h1 => first | exact rfl | with_reducible assumption))
  | with_reducible apply s_c
  | with_reducible apply s_op
  | with_reducible apply s_cons
  | with_reducible apply s_nil
  | with_reducible apply s_ret
  | with_reducible apply s_ifS
  | with_reducible apply s_test
  | with_reducible apply s_B
  | with_reducible apply s_exbl
  | with_reducible apply s_exint
  | with_reducible apply s_I0
  | ((with_reducible apply s_Eq); (case' hs => exact rfl))
  | ((with_reducible apply s_Ne); (case' hs => exact rfl))
  | with_reducible apply s_un
  | with_reducible apply s_U
  | with_reducible apply s_cb
  | with_reducible apply s_call
  | with_reducible apply s_next
  | with_reducible apply s_drop
  | with_reducible apply s_break
  | with_reducible apply s_cont
  | with_reducible apply s_retN
  | with_reducible apply s_par
  | with_reducible apply s_par2
  | with_reducible apply s_par3
  | with_reducible apply s_par33
  | ((with_reducible apply s_aug); (case' h1 => exact rfl))
  | with_reducible apply s_and
  | with_reducible apply s_or
  | with_reducible apply s_not
  | with_reducible apply s_andV
  | with_reducible apply s_orV
  | with_reducible apply s_notV
  | with_reducible apply s_ifE
  | with_reducible apply s_isN
  | with_reducible apply s_chain
  | with_reducible apply s_sl
  | with_reducible apply s_noP
  | with_reducible apply s_part
  | with_reducible apply s_bm
  | with_reducible apply s_bm0
  | with_reducible apply s_fldE
  | ((with_reducible apply s_fld); (case' h1 => walk_at "g"); (case' h2 => assumption); (case' h3 => assumption); (case' h4 => exact rfl))
  | ((with_reducible apply s_ixL); (case' h1 => walk_at "g"); (case' h2 => first | with_reducible assumption | walk_at "ix"))
  | ((with_reducible apply s_ixT); (case' h1 => walk_at "g"); (case' h2 => first | with_reducible assumption | walk_at "ix"))
  | ((with_reducible apply s_lenL); (case' h1 => walk_at "g")))
local macro_rules | `(tactic| walk_at "ff") => `(tactic| repeat walk_at "f1")
local macro_rules | `(tactic| walk_at "k0") => `(tactic| try dsimp only [L2.cxOf, Cx.nox, Cx.wish, Cx.blk, genCx])
set_option hygiene true

abbrev s__law_ratios : Stmt := topS 17
abbrev n__law_ratios : List Str := ["rows", "start", "found", "turned", "one", "teeth", "other", "more", "a", "many", "b", "few"]
theorem sc__law_ratios : FnScope n__law_ratios ["rows", "start"] (defScope s__law_ratios) := ⟨rfl, rfl, rfl, by decide +kernel, rfl, by decide +kernel, by decide +kernel⟩

section
variable [Lw] {P : Program} {w : World} {K : PySem.W.Frag} {mg : Str → Option Value} {base : Heap} {f : Addr} {fd : FuncData} {fn : List He.DefD} {tf : List He.Defn}
def spLRat (K : PySem.W.Frag) : Sp := fun vs H Q _ => ∃ (l2 : Addr) (n : Str) (as : List Addr) (ms : List Ms) (φ : Str → Rat) (B N : Nat), vs = [.ref l2, .str n] ∧ H l2 = some (.lst (as.map V.ref)) ∧ MAt H as ms ∧ Pot φ ms ∧ Bd ms n B N ∧ ∀ d t N H', IsTab φ ms n t → Fp H [] (ck d (.dK (tbR t)) :: (adsR t, t.map rtO) :: N) H' → Q (.ref d) H'
theorem ok_lrat (T : Sy fa1 fn tf K mg base) (F : FnP K "_law_ratios" s__law_ratios f fd) {f1 : Addr} {fd1 : FuncData} (c__law_ex : Cal P w K mg base CX0 1 "_law_ex" f1 fd1 ["part", "whole"] (spEx K)) : FnOk P w K mg base CX0 2 f fd ["rows", "start"] (spLRat K) := by
  refine F.ok sc__law_ratios (fun vs H Q E h => ?_) (fun cdv A outer s H vs Q E hr h => ⟨_, PSs.nox (pss_cons (ps_par (i := 2) (j := 3) (by rfl) sc__law_ratios.nd rfl rfl (by decide) rfl rfl (pa_cons (pe_disp (pps_cons (pv 1) (pe_tup (pa_cons pe_int (pa_cons pe_int pa_nil))) pps_nil) (by rfl) (by rfl) (fun z => by cases z) (by decide)) (pa_cons pe_bl pa_nil)) (by rfl)) (pss_cons (ps_while PassesOwn.never (pt_val (pv 3)) (pss_cons (ps_set (i := 3) sc__law_ratios.nd rfl (.inl rfl) pe_bl) (pss_one (ps_for PassesOwn.never rfl (pi_listK (K := K) rfl (pv 0)) (pg_tupK (K := K) (n := 4) rfl rfl (pgs_cons (pg_name (i := 4) sc__law_ratios.nd rfl (.inl rfl)) (pgs_cons (pg_name (i := 5) sc__law_ratios.nd rfl (.inl rfl)) (pgs_cons (pg_name (i := 6) sc__law_ratios.nd rfl (.inl rfl)) (pgs_cons (pg_name (i := 7) sc__law_ratios.nd rfl (.inl rfl)) pgs_nil))))) (pss_one (ps_for PassesOwn.never rfl (pi_listK (K := K) rfl (pe_lst (pa_cons (pe_tup (pa_cons (pv 4) (pa_cons (pv 5) (pa_cons (pv 6) (pa_cons (pv 7) pa_nil))))) (pa_cons (pe_tup (pa_cons (pv 6) (pa_cons (pv 7) (pa_cons (pv 4) (pa_cons (pv 5) pa_nil))))) pa_nil)))) (pg_tupK (K := K) (n := 4) rfl rfl (pgs_cons (pg_name (i := 8) sc__law_ratios.nd rfl (.inl rfl)) (pgs_cons (pg_name (i := 9) sc__law_ratios.nd rfl (.inl rfl)) (pgs_cons (pg_name (i := 10) sc__law_ratios.nd rfl (.inl rfl)) (pgs_cons (pg_name (i := 11) sc__law_ratios.nd rfl (.inl rfl)) pgs_nil))))) (pss_one (ps_if (PW.pt (pw_and (pt_cmp (pc_din (Room.u1 hr) (pv 8) (pv 2))) (pw_and1 (pt_cmp (pc_dnotin (Room.u1 hr) (pv 10) (pv 2)))))) (pss_one (ps_asg (pe_tup (pa_cons (pe_cal c__law_ex (hr.mono (by first | decide | omega)) rfl pass0 (pa_cons (pe_op op_mul (pe_un un_neg (pe_ix (ix_tupK (K := K) rfl) (pe_dget (Room.u1 hr) (pv 2) (pv 8) (fun _ _ => rfl)) pe_int (fun _ _ => rfl))) (pv 9)) (pa_cons (pe_op op_mul (pe_ix (ix_tupK (K := K) rfl) (pe_dget (Room.u1 hr) (pv 2) (pv 8) (fun _ _ => rfl)) pe_int (fun _ _ => rfl)) (pv 11)) pa_nil))) (pa_cons pe_bl pa_nil))) (pg_tupK (K := K) (n := 2) rfl rfl (pgs_cons (pg_sub (pv 2) (pv 10) (set_dict (Room.u1 hr))) (pgs_cons (pg_name (i := 3) sc__law_ratios.nd rfl (.inl rfl)) pgs_nil))))) pss_nil)))))))) (pss_one (ps_ret (pv 2))))), ?_⟩)
  · obtain ⟨_, _, _, _, _, _, _, rfl, _⟩ := h
    rfl
  · obtain ⟨l2, n, as, ms, φ, B, N, rfl, hl2, ma, P, hB, good⟩ := h
    have F := Fp.refl (B := H)
    have hM : ∀ m ∈ ms, (1 ≤ m.m ∧ m.m ≤ 400) ∧ 1 ≤ m.f ∧ m.f ≤ 400 := fun m hm => by
      have h1 := P.te m hm
      have h2 := hB.te m hm
      have h3 := hB.b1
      omega
    walk_at "k0"
    walk_at "ff"
    refine whileS (fun m σ' H' => ∃ (t : List Rt) (d : Addr) (tu : Bool) (x4 x5 x6 x7 x8 x9 x10 x11 : Option V), m = 2 * (N - t.length) + (if tu = true then 1 else 0) ∧ σ' = [some (.ref l2), some (.str n), some (.ref d), some (.bl tu), x4, x5, x6, x7, x8, x9, x10, x11] ∧ PTab φ ms n B t ∧ (tu = false → ∀ y z u v, y ∈ nmsR t → Edge ms y z u v → z ∈ nmsR t) ∧ Fp H [] [(adsR t, t.map rtO), ck d (.dK (tbR t))] H')
      ⟨_, [⟨n, 1, _⟩], _, true, _, _, _, _, _, _, _, _, rfl, rfl, PTab.start P _, fun h => (nomatch h), F⟩ fun m σ' H' hP => ?_
    clear F
    obtain ⟨t, d, tu, x4, x5, x6, x7, x8, x9, x10, x11, rfl, rfl, PT, hcl, F⟩ := hP
    cases tu with
    | false =>
      walk_at "ff"
      exact good d t [] _ (PT.done hB (hcl rfl)) (permC F (List.Perm.swap _ _ _))
    | true =>
      clear hcl
      walk_at "ff"
      refine whQ ?_
      walk_at "ff"
      refine forS w (fun i σ' H' => ∃ (t' : List Rt) (tu : Bool) (x4 x5 x6 x7 x8 x9 x10 x11 : Option V), σ' = [some (.ref l2), some (.str n), some (.ref d), some (.bl tu), x4, x5, x6, x7, x8, x9, x10, x11] ∧ PTab φ ms n B t' ∧ (t.length ≤ t'.length ∧ (tu = true → t.length < t'.length)) ∧ (tu = false → ∀ k m, k < i → ms[k]? = some m → ∀ j, j < 2 → (eM m j).a ∈ nmsR t' → (eM m j).b ∈ nmsR t') ∧ Fp H [] [(adsR t', t'.map rtO), ck d (.dK (tbR t'))] H') ⟨t, false, _, _, _, _, _, _, _, _, rfl, PT, ⟨Nat.le_refl _, fun h => (nomatch h)⟩, fun _ k m hk => absurd hk (by omega), F⟩ (fun i σ' H' hP => ?_) (fun i y σ' H' hy hP => ?_) (fun σ' H' hP => ?_)
      · obtain ⟨t', tu, x4, x5, x6, x7, x8, x9, x10, x11, rfl, _, _, _, F⟩ := hP
        walk_at "g"
      · clear F
        obtain ⟨t', tu, x4, x5, x6, x7, x8, x9, x10, x11, rfl, PT, hlt, hcl, F⟩ := hP
        obtain ⟨a, m, rfl, hai, hmi, ho0⟩ := ma.get hy
        have ho := F.imm ho0 rfl
        have hmm := get_mem hmi
        obtain ⟨⟨hm1, hm2⟩, hm3, hm4⟩ := hM m hmm
        walk_at "ff"
        rename_i q1 _ q2 _
        have F2 : Fp H [] [ck p (.lst [.ref q1, .ref q2]), ck q2 (msO (eM m 1)), ck q1 (msO (eM m 0)), (adsR t', t'.map rtO), ck d (.dK (tbR t'))] H1 := F
        clear F
        have F := F2
        clear F2
        refine forS w (fun jj σ' H' => ∃ (t' : List Rt) (tu : Bool) (x8 x9 x10 x11 : Option V), σ' = [some (.ref l2), some (.str n), some (.ref d), some (.bl tu), some (.str m.a), some (.int m.m), some (.str m.b), some (.int m.f), x8, x9, x10, x11] ∧ PTab φ ms n B t' ∧ (t.length ≤ t'.length ∧ (tu = true → t.length < t'.length)) ∧ (tu = false → ∀ k m, k < i → ms[k]? = some m → ∀ j, j < 2 → (eM m j).a ∈ nmsR t' → (eM m j).b ∈ nmsR t') ∧ (tu = false → ∀ j, j < jj → (eM m j).a ∈ nmsR t' → (eM m j).b ∈ nmsR t') ∧ Fp H [] [ck p (.lst [.ref q1, .ref q2]), ck q2 (msO (eM m 1)), ck q1 (msO (eM m 0)), (adsR t', t'.map rtO), ck d (.dK (tbR t'))] H') ⟨t', tu, _, _, _, _, rfl, PT, hlt, hcl, fun _ j hj => absurd hj (by omega), F⟩ (fun jj σ' H' hP => ?_) (fun jj y σ' H' hy hP => ?_) (fun σ' H' hP => ?_)
        · obtain ⟨t', tu, x8, x9, x10, x11, rfl, _, _, _, _, F⟩ := hP
          exact SqL.of (F.getN .here)
        · clear F PT hlt hcl
          obtain ⟨t', tu, x8, x9, x10, x11, rfl, PT, hlt, hcl, hjj, F⟩ := hP
          obtain ⟨q, rfl, hq⟩ : ∃ q, y = .ref q ∧ H' q = some (msO (eM m jj)) := by
            match jj, hy with
            | 0, hy => exact ⟨q1, (Option.some.inj hy).symm, F.getN (.there (.there .here))⟩
            | 1, hy => exact ⟨q2, (Option.some.inj hy).symm, F.getN (.there .here)⟩
            | _ + 2, hy => exact absurd hy (by simp)
          have he := eM_edge hmm jj
          generalize hE : eM m jj = e at he hq
          obtain ⟨ea, eu, eb, ev⟩ := e
          dsimp only at he hq
          walk_at "ff"
          have hjx : (ea ∈ nmsR t' → eb ∈ nmsR t') → tu = false → ∀ j, j < jj + 1 → (eM m j).a ∈ nmsR t' → (eM m j).b ∈ nmsR t' := fun h2 htu j hj e => by
            by_cases hjj2 : j < jj
            · exact hjj htu j hjj2 e
            · rw [show j = jj by omega, hE] at e ⊢
              exact h2 e
          by_cases hia : ea ∈ nmsR t'
          rotate_left
          · refine f_din' (.inl (F.getN (.there (.there (.there (.there .here)))))) (tb_none hia) ?_
            walk_at "ff"
            exact ⟨t', tu, _, _, _, _, rfl, PT, hlt, hcl, hjx (fun z => absurd z hia), F⟩
          obtain ⟨r, hr2, e2⟩ := List.mem_map.mp hia
          have e2 : r.nm = ea := e2
          have hv := tb_get PT.nd hr2
          rw [e2] at hv
          refine f_din (.inl (F.getN (.there (.there (.there (.there .here)))))) hv ?_
          walk_at "ff"
          by_cases hin : eb ∈ nmsR t'
          · obtain ⟨r3, hr3, e3⟩ := List.mem_map.mp hin
            have hv2 := tb_get PT.nd hr3
            rw [show r3.nm = eb from e3] at hv2
            refine f_dni' (.inl (F.getN (.there (.there (.there (.there .here)))))) hv2 ?_
            walk_at "ff"
            exact ⟨t', tu, _, _, _, _, rfl, PT, hlt, hcl, hjx (fun _ => hin), F⟩
          · refine f_dni (.inl (F.getN (.there (.there (.there (.there .here)))))) (tb_none hin) ?_
            obtain ⟨ri, hri⟩ := List.mem_iff_getElem?.mp hr2
            have hro : H' r.ad = some (qO r.q) := F.getN (.there (.there (.there (.at (map_get_some hri) (map_get_some hri)))))
            obtain ⟨hq1, hq2⟩ := PT.le hB hr2
            have he2 : Edge ms r.nm eb eu ev := by rw [e2]; exact he
            obtain ⟨_, hu1, hv1⟩ := P.edge he
            obtain ⟨hu2, hv2⟩ := hB.edge he
            have hb4 := hB.b1
            have hle := PT.le2 P hB hr2 he2 hin
            have hadd := fun a => PT.add P hB hr2 he2 hin a
            walk_at "ff"
            have hd0 : (0 : Int) < (r.q.den : Int) * ev := Int.mul_pos q_pos (by omega)
            refine ⟨-r.q.num * eu, (r.q.den : Int) * ev, rfl, by omega, by omega, fun t0 H5 G5 => ?_⟩
            rw [law_step] at G5
            replace F := F.call1 G5 .nil
            walk_at "ff"
            have htl : (tbR t').length < sizeLine := len_lt (by
              have hlt := PT.len hB
              have hnb := hB.nb
              rw [List.length_map]
              omega)
            refine f_dputS F (by walk_at "re") htl (tb_add (r := ⟨eb, r.q * Rat.divInt (0 - eu) ev, t0⟩) hin) fun H7 F => ?_
            walk_at "ff"
            replace F := Fp.snocL (as := adsR t') (os := t'.map rtO) [_, _, _] (by rw [List.length_map, List.length_map]) (F.kp (.drop Kp.rf))
            refine ⟨t' ++ [⟨eb, r.q * Rat.divInt (0 - eu) ev, t0⟩], true, _, _, _, _, rfl, hadd t0, ⟨by rw [List.length_append]; omega, fun _ => by rw [List.length_append, List.length_singleton]; omega⟩, fun z => (nomatch z), fun z => (nomatch z), ?_⟩
            rw [List.map_append]
            unfold adsR
            rw [List.map_append]
            exact F
        · obtain ⟨t', tu, x8, x9, x10, x11, rfl, PT, hlt, hcl, hjj, F⟩ := hP
          refine ⟨t', tu, _, _, _, _, _, _, _, _, rfl, PT, hlt, fun htu k m' hk hm' => ?_, F.kp (.drop (.drop (.drop Kp.rf)))⟩
          by_cases hki : k < i
          · exact hcl htu k m' hki hm'
          · rw [show k = i by omega, hmi] at hm'
            cases hm'
            exact fun j hj => hjj htu j (by simpa using hj)
      · clear F PT
        obtain ⟨t', tu, x4, x5, x6, x7, x8, x9, x10, x11, rfl, PT, hlt, hcl, F⟩ := hP
        have hNt := PT.len hB
        refine ⟨2 * (N - t'.length) + (if tu = true then 1 else 0), ?_, t', d, tu, _, _, _, _, _, _, _, _, rfl, rfl, PT, fun htu y z u v hy e => ?_, F⟩
        · cases tu with
          | false => simp only [Bool.false_eq_true, if_false, if_true]; omega
          | true => have := hlt.2 rfl; simp only [if_true]; omega
        · obtain ⟨m, hm, e⟩ := e
          obtain ⟨k, hk⟩ := List.mem_iff_getElem?.mp hm
          have hkl := (List.getElem?_eq_some_iff.mp hk).1
          have hcc := hcl htu k m (by rw [List.length_map, ma.1]; exact hkl) hk
          rcases e with ⟨e1, _, e2, _⟩ | ⟨e1, _, e2, _⟩
          · have := hcc 0 (by decide) (by show m.a ∈ _; rw [e1]; exact hy)
            rw [← e2]
            exact this
          · have := hcc 1 (by decide) (by show m.b ∈ _; rw [e1]; exact hy)
            rw [← e2]
            exact this
end
end K1

set_option Elab.async false
set_option linter.all false
set_option maxRecDepth 100000
set_option maxHeartbeats 2000000
set_option pp.maxSteps 1500
namespace K1
open PySem PySem.Spec PyProof.Rows L2 Mi
set_option hygiene false
local macro_rules | `(tactic| walk_at "lk") => `(tactic| first | (with_reducible assumption) | (with_reducible apply get_set_self; walk_at "lk") | ((with_reducible apply get_set_ne); (case' hne => with_reducible assumption); walk_at "lk"))
local macro_rules | `(tactic| walk_at "at") => `(tactic| first | (with_reducible exact At.here) | (with_reducible apply At.at; (case' h1 => assumption); walk_at "lk") | (with_reducible apply At.there; walk_at "at"))
local macro_rules | `(tactic| walk_at "rp") => `(tactic| first | (with_reducible exact Rp.here) | (with_reducible apply Rp.set; (case' h1 => assumption); walk_at "lk") | (with_reducible apply Rp.at; (case' h1 => assumption); walk_at "lk") | (with_reducible apply Rp.there; walk_at "rp"))
local macro_rules | `(tactic| walk_at "re") => `(tactic| first | (with_reducible apply Re.n; walk_at "rp") | (with_reducible apply Re.s; walk_at "rp"))
local macro_rules | `(tactic| walk_at "dl") => `(tactic| first | (with_reducible exact Dl.here) | (with_reducible apply Dl.there; walk_at "dl"))
local macro_rules | `(tactic| walk_at "pq") => `(tactic| first | (with_reducible exact Pq.nil) | ((with_reducible apply Pq.n); (case' d => walk_at "dl"); walk_at "pq") | ((with_reducible apply Pq.s); (case' d => walk_at "dl"); walk_at "pq"))
local macro_rules | `(tactic| walk_at "rc") => `(tactic| first | (with_reducible exact Rc.here) | (with_reducible apply Rc.there; walk_at "rc"))
local macro_rules | `(tactic| walk_at "rs") => `(tactic| first | (with_reducible exact Rs.nil) | ((with_reducible apply Rs.on); (case' r => walk_at "rc"); (case' hl => first | exact rfl | ((try simp only [List.length_map, List.length_set]); with_reducible assumption) | (simp; done)); walk_at "rs") | ((with_reducible apply Rs.os); (case' r => walk_at "rc"); (case' hl => first | exact rfl | ((try simp only [List.length_map, List.length_set]); with_reducible assumption) | (simp; done)); walk_at "rs"))
local macro_rules | `(tactic| walk_at "ix") => `(tactic| first | with_reducible exact atI_nat (by assumption) | with_reducible exact atI_nat1 (by assumption) | with_reducible exact atI0 | with_reducible exact atI1 | with_reducible exact atI2 | with_reducible exact atI3 | with_reducible exact atI4)
local macro_rules | `(tactic| walk_at "sl") => `(tactic| first | (with_reducible assumption) | ((with_reducible apply len_app); (case' h1 => walk_at "sl"); (case' h2 => walk_at "sl")) | (with_reducible exact Nat.le_refl _))
local macro_rules | `(tactic| walk_at "sz") => `(tactic| first | with_reducible assumption | ((with_reducible apply len_leB); (case' h => walk_at "sl"); (case' hn => exact Nat.le_of_ble_eq_true rfl)) | exact of_decide_eq_true rfl | (exact len_le (by (try simp only [List.length_append, List.length_cons, List.length_nil, List.length_map, List.length_set, List.length_reverse]); omega)) | (exact len_lt (by (try simp only [List.length_append, List.length_cons, List.length_nil, List.length_map, List.length_set, List.length_reverse]); omega)))
local macro_rules | `(tactic| walk_at "len") => `(tactic| ((try simp only [List.length_append, List.length_cons, List.length_nil, List.length_map, List.length_set, List.length_reverse, List.length_replicate]); omega))
local macro_rules | `(tactic| walk_at "ixn") => `(tactic| first | with_reducible assumption | (with_reducible apply ixN_nat; walk_at "len") | (with_reducible apply ixN_nat1; walk_at "len") | (with_reducible apply ixN_0; walk_at "len") | (with_reducible apply ixN_1; walk_at "len") | (with_reducible apply ixN_2; walk_at "len") | exact rfl)
local macro_rules | `(tactic| walk_at "st") => `(tactic| ((try simp only [L2.start, wipe, List.map_cons, List.map_nil, List.length_cons, List.length_nil, Nat.reduceAdd, Nat.reduceSub, List.replicate_succ, List.replicate_zero, List.nil_append, List.cons_append, List.set_cons_succ, List.set_cons_zero]); exact rfl))
local macro_rules | `(tactic| walk_at "kp") => `(tactic| first | (with_reducible exact Kp.nil) | (with_reducible apply Kp.keep; walk_at "kp") | (with_reducible apply Kp.drop; walk_at "kp"))
local macro_rules | `(tactic| walk_at "g") => `(tactic| first
  | with_reducible assumption
  | (with_reducible apply F.getN; walk_at "at")
  | (with_reducible apply F.getS; walk_at "at")
  | ((with_reducible apply F.imm); (case' h => with_reducible assumption); exact rfl)
  | ((with_reducible apply F.keep); (case' h => with_reducible assumption); exact rfl)
  | ((with_reducible apply F.keepL); with_reducible assumption)
  | ((with_reducible apply F.sqT); with_reducible assumption)
  | ((with_reducible apply SqL.of); walk_at "g")
  | ((with_reducible apply SqT.of); walk_at "g")
  | ((with_reducible apply Rd.of); walk_at "g")
  | ((with_reducible apply Rd.frz); walk_at "g")
  | (with_reducible apply F.tab; with_reducible assumption)
  | ((with_reducible apply f_dgetS); (case' h1 => walk_at "g"); (case' h2 => first | with_reducible assumption | ((simp (decide := true) only [valR, if_true, if_false]); exact rfl))))
local macro_rules | `(tactic| walk_at "f1") => `(tactic| first
  | (with_reducible (first | apply s_seq | apply s_cons | apply s_nil | apply s_c | apply s_op | apply s_asg | apply s_test | apply s_ifS | apply s_ret | apply s_next | apply s_call | apply s_fldE | apply s_dgetE | apply s_gCons | apply s_gNil | apply s_par | apply s_par3 | apply s_and | apply s_or | apply s_not | apply s_andV | apply s_orV | apply s_notV | apply s_ifE | apply s_chain | apply s_cb | apply s_for | apply s_lc | apply f_methE | apply f_makeE | apply s_rollE | apply s_iK | apply s_iL | apply s_iT | apply f_tup | apply f_lst))
  | ((with_reducible apply s_var); (case' h1 => first | exact rfl | with_reducible assumption))
  | ((with_reducible apply s_gNn); (case' e => walk_at "st"))
  | ((with_reducible apply s_dget); (case' h1 => walk_at "g"))
  | with_reducible apply f_tup
  | with_reducible apply f_lst
  | ((with_reducible apply newF F); (case' ho => exact rfl); clear F; intro p H1 F)
  | ((with_reducible apply s_mk0); (case' hz => first | decide | (simp only [List.length_cons, List.length_nil]; decide)))
  | with_reducible apply f_sFld
  | ((with_reducible apply f_fld F); (case' R => walk_at "re"); (case' h2 => with_reducible assumption); (case' h3 => with_reducible assumption); (case' h4 => exact of_decide_eq_true rfl); (case' hp => ((try simp (decide := true) only [putF, if_true, if_false]); exact rfl)); clear F; intro H1 F)
  | with_reducible apply f_sAug
  | ((with_reducible apply f_aug); (case' h1 => walk_at "g"); (case' h2 => with_reducible assumption); (case' h3 => with_reducible assumption); (case' h4 => exact rfl))
  | ((with_reducible apply f_fldq F); (case' R => walk_at "re"); (case' h4 => exact of_decide_eq_true rfl); (case' hp => ((try simp (decide := true) only [putF, if_true, if_false]); exact rfl)); clear F; intro H1 F)
  | with_reducible apply f_radd
  | with_reducible apply f_rsub
  | ((with_reducible apply f_setL F); (case' R => walk_at "re"); (case' h2 => walk_at "ixn"); clear F; intro H1 F)
  | with_reducible apply f_sDPut
  | ((with_reducible apply f_dputS F); (case' R => walk_at "re"); (case' hl => walk_at "sz"); (case' hp => first | with_reducible assumption | ((try simp (decide := true) only [putR, List.map_cons, List.map_nil, if_true, if_false]); exact rfl)); clear F; intro H1 F)
  | with_reducible apply f_sDAug
  | ((with_reducible apply f_daug); (case' h1 => walk_at "g"))
  | ((with_reducible apply f_dputqS F); (case' R => walk_at "re"); (case' hl => walk_at "sz"); (case' hp => first | with_reducible assumption | ((try simp (decide := true) only [putR, List.map_cons, List.map_nil, if_true, if_false]); exact rfl)); clear F; intro H1 F)
  | with_reducible apply s_dgetE
  | ((with_reducible apply s_dget); (case' h1 => walk_at "g"))
  | ((with_reducible apply f_append F); (case' R => walk_at "re"); (case' hz => walk_at "sz"); clear F; intro H1 F)
  | ((with_reducible apply f_listKL); (case' h1 => walk_at "g"))
  | ((with_reducible apply f_listKT); (case' h1 => walk_at "g"))
  | ((with_reducible apply f_tupKL); (case' h1 => walk_at "g"))
  | ((with_reducible apply f_slL); (case' h1 => walk_at "g"))
  | ((with_reducible apply f_cat); (case' h1 => walk_at "g"); (case' h2 => walk_at "g"); (case' hz => walk_at "sz"))
  | with_reducible apply f_makeE
  | with_reducible apply s_iR3
  | ((with_reducible apply s_iR3d); (case' h1 => omega); (case' hc => rfl); intro J w)
  | ((with_reducible apply s_wipe); (case' h1 => first | exact rfl | exact wipe1))
  | with_reducible apply s_revE
  | ((with_reducible apply s_rev); (case' h1 => walk_at "g"))
  | with_reducible apply f_methE
  | ((with_reducible apply s_lenD); (case' h1 => walk_at "g"))
  | ((with_reducible apply f_meth); (case' h1 => walk_at "g"); (case' h2 => exact rfl))
  | with_reducible apply s_iEL
  | ((with_reducible apply s_iEL2); (case' h1 => walk_at "g"); intro J w)
  | with_reducible apply s_iZ
  | with_reducible apply s_iI
  | ((with_reducible apply s_iI2); (case' h1 => walk_at "g"); intro J w)
  | ((with_reducible apply f_rep1); (case' h1 => walk_at "g"); (case' hk => (constructor <;> omega)))
  | with_reducible apply f_gSub
  | ((with_reducible apply f_disp F); clear F; intro p H1 F)
  | with_reducible apply f_pairC
  | with_reducible apply f_pairN
  | ((with_reducible apply f_dispQ F); (case' R => walk_at "re"); (case' e => ((simp only [List.map_cons, List.map_nil, cvK]); exact rfl)); (case' e2 => exact rfl); (case' hl => exact Nat.le_of_ble_eq_true rfl); (case' hm => first | with_reducible apply hMk | exact rfl); clear F; intro H1 F)
  | ((with_reducible apply f_dnew F); clear F; intro p H1 F)
  | ((with_reducible apply f_unl F); (case' R => walk_at "re"); clear F; intro H1 F)
  | with_reducible apply f_rSetD
  | with_reducible apply f_dnewK
  | with_reducible apply f_sDNi
  | with_reducible apply f_finS
  | with_reducible apply f_finB
  | with_reducible apply f_finB'
  | with_reducible apply f_sDIn
  | ((with_reducible apply s_catS); (case' h1 => walk_at "sl"); (case' h2 => walk_at "sl"); (case' hn => exact Nat.le_of_ble_eq_true rfl))
  | ((with_reducible apply s_logA); (case' hl => with_reducible assumption))
  | with_reducible apply s_same
  | with_reducible apply s_js
  | with_reducible apply s_js0
  | ((with_reducible apply s_js2); (case' hl => walk_at "sz"))
  | with_reducible apply s_fm
  | ((with_reducible apply s_fmS); (case' hl => walk_at "sz"))
  | ((with_reducible apply s_fmI); (case' hl => with_reducible assumption))
  | with_reducible apply f_dget2E
  | with_reducible apply s_sameE
  | with_reducible apply s_chain3
  | with_reducible apply s_notN
  | with_reducible apply s_items
  | with_reducible apply s_bb1
  | with_reducible apply s_bb2
  | walk_at "f2")
local macro_rules | `(tactic| walk_at "f2") => `(tactic| first
  | with_reducible apply s_seq
  | with_reducible apply s_gCons
  | with_reducible apply s_gNil
  | ((with_reducible apply s_gTup); (case' h1 => walk_at "g"); (case' h2 => exact rfl))
  | with_reducible apply s_asg
  | ((with_reducible apply s_I); (case' hc => first | exact ⟨by omega, by omega⟩ | exact .inl ⟨by omega, by omega⟩ | exact .inr ⟨by omega, by omega⟩ | (show (_ : Int) < _; omega) | (show (_ : Int) ≠ _; omega)))
  | with_reducible apply s_mm
  | ((with_reducible apply s_lenKL); (case' h1 => walk_at "g"))
  | ((with_reducible apply s_lenKT); (case' h1 => walk_at "g"))
  | ((with_reducible apply s_tupKT); (case' h1 => walk_at "g"))
  | with_reducible apply s_iE
  | ((with_reducible apply s_iE2); (case' h1 => walk_at "g"); intro J w)
  | with_reducible apply s_ifTT
  | with_reducible apply s_ifFF
  | with_reducible apply s_rollE
  | ((with_reducible apply s_roll); (case' h1 => walk_at "g"); (case' h2 => exact ⟨by omega, by omega⟩); intro k k0 k1)
  | with_reducible apply s_gSub
  | with_reducible apply s_ab
  | with_reducible apply s_in1
  | with_reducible apply s_in2
  | ((with_reducible apply s_lsL); (case' h1 => walk_at "g"))
  | ((with_reducible apply s_lsT); (case' h1 => walk_at "g"))
  | ((with_reducible apply s_tyL); (case' h1 => walk_at "g"))
  | with_reducible apply s_for
  | with_reducible apply s_lc
  | with_reducible apply s_dc
  | with_reducible apply s_gn
  | with_reducible apply s_yes
  | with_reducible apply s_iL
  | with_reducible apply s_iT
  | with_reducible apply s_iR1
  | with_reducible apply s_iR2
  | with_reducible apply s_iK
  | ((with_reducible apply s_iL2); (case' h1 => walk_at "g"); intro J w)
  | ((with_reducible apply s_iT2); (case' h1 => walk_at "g"); intro J w)
  | ((with_reducible apply s_iR12); (case' h1 => omega); intro J w)
  | ((with_reducible apply s_iR22); (case' h1 => omega); intro J w)
  | ((with_reducible apply s_iK2); (case' h1 => walk_at "g"); intro J w)
  | ((with_reducible apply s_gNn); (case' e => walk_at "st"))
  | ((with_reducible apply s_var); (case' h1 => first | exact rfl | with_reducible assumption))
  | with_reducible apply s_c
  | with_reducible apply s_op
  | with_reducible apply s_cons
  | with_reducible apply s_nil
  | with_reducible apply s_ret
  | with_reducible apply s_ifS
  | with_reducible apply s_test
  | with_reducible apply s_B
  | with_reducible apply s_exbl
  | with_reducible apply s_exint
  | with_reducible apply s_I0
  | ((with_reducible apply s_Eq); (case' hs => exact rfl))
  | ((with_reducible apply s_Ne); (case' hs => exact rfl))
  | with_reducible apply s_un
  | with_reducible apply s_U
  | with_reducible apply s_cb
  | with_reducible apply s_call
  | with_reducible apply s_next
  | with_reducible apply s_drop
  | with_reducible apply s_break
  | with_reducible apply s_cont
  | with_reducible apply s_retN
  | with_reducible apply s_par
  | with_reducible apply s_par2
  | with_reducible apply s_par3
  | with_reducible apply s_par33
  | ((with_reducible apply s_aug); (case' h1 => exact rfl))
  | with_reducible apply s_and
  | with_reducible apply s_or
  | with_reducible apply s_not
  | with_reducible apply s_andV
  | with_reducible apply s_orV
  | with_reducible apply s_notV
  | with_reducible apply s_ifE
  | with_reducible apply s_isN
  | with_reducible apply s_chain
  | with_reducible apply s_sl
  | with_reducible apply s_noP
  | with_reducible apply s_part
  | with_reducible apply s_bm
  | with_reducible apply s_bm0
  | with_reducible apply s_fldE
  | ((with_reducible apply s_fld); (case' h1 => walk_at "g"); (case' h2 => assumption); (case' h3 => assumption); (case' h4 => exact rfl))
  | ((with_reducible apply s_ixL); (case' h1 => walk_at "g"); (case' h2 => first | with_reducible assumption | walk_at "ix"))
  | ((with_reducible apply s_ixT); (case' h1 => walk_at "g"); (case' h2 => first | with_reducible assumption | walk_at "ix"))
  | ((with_reducible apply s_lenL); (case' h1 => walk_at "g")))
local macro_rules | `(tactic| walk_at "ff") => `(tactic| repeat walk_at "f1")
local macro_rules | `(tactic| walk_at "k0") => `(tactic| try dsimp only [L2.cxOf, Cx.nox, Cx.wish, Cx.blk, genCx])
set_option hygiene true

abbrev s_best_pair : Stmt := topS 10
abbrev n_best_pair : List Str := ["wish", "wheels", "best", "one", "other", "far"]
theorem sc_best_pair : FnScope n_best_pair ["wish", "wheels"] (defScope s_best_pair) := ⟨rfl, rfl, rfl, by decide +kernel, rfl, by decide +kernel, by decide +kernel⟩

/-- how far two wheels' ratio is from a wish, w0 / w1 -/
abbrev farQ (w0 w1 one other : Int) : Rat := Rat.divInt (if one * w1 - w0 * other < 0 then -(one * w1 - w0 * other) else one * w1 - w0 * other) (other * w1)
def isPair (w0 w1 : Int) (ws : List Int) (p : Int × Int) : Prop := p.1 ∈ ws ∧ p.2 ∈ ws ∧ ∀ a ∈ ws, ∀ b ∈ ws, ¬ farQ w0 w1 a b < farQ w0 w1 p.1 p.2 ∧ (farQ w0 w1 a b = farQ w0 w1 p.1 p.2 → ¬ (a < p.1 ∨ a = p.1 ∧ b < p.2))
def BI (w0 w1 : Int) (D : Int → Int → Prop) : Option (Int × Int) → Prop
  | none => ∀ a b, ¬ D a b
  | some p => D p.1 p.2 ∧ ∀ a b, D a b → ¬ farQ w0 w1 a b < farQ w0 w1 p.1 p.2 ∧ (farQ w0 w1 a b = farQ w0 w1 p.1 p.2 → ¬ (a < p.1 ∨ a = p.1 ∧ b < p.2))
theorem BI.ext {w0 w1 : Int} {D D' : Int → Int → Prop} (h : ∀ a b, D a b ↔ D' a b) : ∀ {p : Option (Int × Int)}, BI w0 w1 D p → BI w0 w1 D' p
  | none, hb => fun a b hd => hb a b ((h a b).mpr hd)
  | some p, ⟨h1, h2⟩ => ⟨(h _ _).mp h1, fun a b hd => h2 a b ((h a b).mpr hd)⟩
theorem BI.first {w0 w1 x y : Int} {D : Int → Int → Prop} (h : BI w0 w1 D none) : BI w0 w1 (fun a b => D a b ∨ a = x ∧ b = y) (some (x, y)) := ⟨.inr ⟨rfl, rfl⟩, fun a b hd => by
  rcases hd with hd | ⟨rfl, rfl⟩
  · exact absurd hd (h a b)
  · exact ⟨Rat.lt_irrefl, fun _ z => by dsimp only at z; omega⟩⟩
theorem BI.take {w0 w1 x y : Int} {D : Int → Int → Prop} {p : Int × Int} (h : BI w0 w1 D (some p)) (hl : farQ w0 w1 x y < farQ w0 w1 p.1 p.2) : BI w0 w1 (fun a b => D a b ∨ a = x ∧ b = y) (some (x, y)) := ⟨.inr ⟨rfl, rfl⟩, fun a b hd => by
  rcases hd with hd | ⟨rfl, rfl⟩
  · obtain ⟨h1, h2⟩ := h.2 a b hd
    dsimp only
    have h3 := Rat.not_lt.mp h1
    have h4 : farQ w0 w1 x y < farQ w0 w1 a b := by grind
    exact ⟨fun z => by grind, fun z => by grind⟩
  · exact ⟨Rat.lt_irrefl, fun _ z => by dsimp only at z; omega⟩⟩
theorem BI.keep {w0 w1 x y : Int} {D : Int → Int → Prop} {p : Int × Int} (h : BI w0 w1 D (some p)) (hl : ¬ farQ w0 w1 x y < farQ w0 w1 p.1 p.2) (ho : D x y ∨ ∀ a b, D a b → ¬ (x < a ∨ x = a ∧ y < b)) : BI w0 w1 (fun a b => D a b ∨ a = x ∧ b = y) (some p) := ⟨.inl h.1, fun a b hd => by
  rcases hd with hd | ⟨rfl, rfl⟩
  · exact h.2 a b hd
  · rcases ho with ho | ho
    · exact h.2 _ _ ho
    · exact ⟨hl, fun _ => ho _ _ h.1⟩⟩
def BP (w0 w1 : Int) (H : Hp) : Option (Int × Int) → V → Prop
  | none, v => v = .non
  | some p, v => ∃ tb tf tp, v = .ref tb ∧ H tb = some (.tup [.ref tf, .ref tp]) ∧ H tf = some (qO (farQ w0 w1 p.1 p.2)) ∧ H tp = some (.tup [.int p.1, .int p.2])
theorem BP.fp [Lw] {B H : Hp} {S N : List Ck} {w0 w1 : Int} {q : Option (Int × Int)} {v : V} (h : BP w0 w1 B q v) (F : Fp B S N H) : BP w0 w1 H q v := by
  cases q with
  | none => exact h
  | some q =>
    obtain ⟨p, t, u, e, hp, ht, hu⟩ := h
    exact ⟨p, t, u, e, F.imm hp rfl, F.imm ht rfl, F.imm hu rfl⟩
theorem srt_le {l : List Int} (hs : l.Pairwise (· ≤ ·)) {i : Nat} {x a : Int} (hx : l[i]? = some x) (ha : a ∈ l.take i) : a ≤ x := by
  have hi := (List.getElem?_eq_some_iff.mp hx)
  obtain ⟨hlt, e⟩ := hi
  obtain ⟨k, hk⟩ := List.mem_iff_getElem?.mp ha
  rw [List.getElem?_take] at hk
  split at hk
  · obtain ⟨hk1, e2⟩ := List.getElem?_eq_some_iff.mp hk
    have := List.pairwise_iff_getElem.mp hs k i hk1 hlt (by omega)
    rw [e, e2] at this
    exact this
  · cases hk
theorem m100 {a b : Int} (h1 : 1 ≤ a ∧ a ≤ 100) (h2 : 1 ≤ b ∧ b ≤ 100) : 1 ≤ a * b ∧ a * b ≤ 10000 := by
  have h3 : 1 * 1 ≤ a * b := Int.mul_le_mul h1.1 h2.1 (by omega) (by omega)
  have h4 : a * b ≤ 100 * 100 := Int.mul_le_mul h1.2 h2.2 (by omega) (by omega)
  omega
theorem far_le {w0 w1 x y : Int} (h0 : 1 ≤ w0 ∧ w0 ≤ 100) (h1 : 1 ≤ w1 ∧ w1 ≤ 100) (hx : 1 ≤ x ∧ x ≤ 100) (hy : 1 ≤ y ∧ y ≤ 100) : (farQ w0 w1 x y).num.natAbs < 1000000000 := by
  have a1 := m100 hx h1
  have a2 := m100 h0 hy
  have a3 := m100 hy h1
  have := (ex_le (p := if x * w1 - w0 * y < 0 then -(x * w1 - w0 * y) else x * w1 - w0 * y) (show 0 < y * w1 by omega)).1
  unfold farQ
  split at this <;> split <;> first | omega | contradiction
section
variable [Lw] {P : Program} {w : World} {K : PySem.W.Frag} {mg : Str → Option Value} {base : Heap} {f : Addr} {fd : FuncData} {fn : List He.DefD} {tf : List He.Defn}
def spPair (K : PySem.W.Frag) : Sp := fun vs H Q E => ∃ (pw pl : Addr) (w0 w1 : Int) (ws : List Int), vs = [.ref pw, .ref pl] ∧ SqT K H pw [.int w0, .int w1] ∧ H pl = some (.lst (ws.map V.int)) ∧ ws.length < 64 ∧ ((ws = [] ∨ w0 ≤ 0) → ∀ N H', Fp H [] N H' → E (.ref (He.ga K "GearError")) none H') ∧
  (¬ (ws = [] ∨ w0 ≤ 0) → (w0 ≤ 100 ∧ 1 ≤ w1 ∧ w1 ≤ 100 ∧ ∀ x ∈ ws, 1 ≤ x ∧ x ≤ 100) ∧ ∀ p a b N H', isPair w0 w1 ws (a, b) → H' p = some (.tup [.int a, .int b]) → Fp H [] N H' → Q (.ref p) H')
theorem ok_pair (T : Sy fa1 fn tf K mg base) (F : FnP K "best_pair" s_best_pair f fd) {f1 f2 : Addr} {fd1 fd2 : FuncData} (c_exact : Cal P w K mg base CX0 1 "exact" f1 fd1 ["part", "whole"] (spEx K)) (c_less : Cal P w K mg base CX0 1 "less" f2 fd2 ["one", "other"] (spLess K)) : FnOk P w K mg base (CX P w) 2 f fd ["wish", "wheels"] (spPair K) := by
  refine F.ok sc_best_pair (fun vs H Q E h => ?_) (fun cdv A outer s H vs Q E hr h => ⟨_, (pss_cons (ps_if (PW.pt (pw_or (pt_cmpR op_eq (pe_callB (call_lenK (K := K) rfl) rfl (T.free "len") boot_len (pa_cons (pv 1) pa_nil)) pe_int (nomark _)) (pw_or1 (pt_cmpR op_le (pe_ix (ix_tupK (K := K) rfl) (pv 0) pe_int (fun _ _ => rfl)) pe_int (nomark _))))) (pss_one (ps_raise rfl (takes_of rfl rfl rfl rfl) (pmk_own PySem.F.excBase_ValueError (T.excX "GearError") (T.glo "GearError") (T.excK "GearError") (raises_own (T.excB "GearError") (T.excT "GearError")) rfl))) pss_nil) (pss_cons (ps_set (i := 2) sc_best_pair.nd rfl (.inl rfl) pe_non) (pss_cons (ps_for (passes_of rfl) rfl (pi_listK (K := K) rfl (pe_callB cr_sorted rfl (T.free "sorted") boot_sorted (pa_cons (pv 1) pa_nil))) (pg_name (i := 3) sc_best_pair.nd rfl (.inl rfl)) (pss_one (ps_for (passes_of rfl) rfl (pi_listK (K := K) rfl (pe_callB cr_sorted rfl (T.free "sorted") boot_sorted (pa_cons (pv 1) pa_nil))) (pg_name (i := 4) sc_best_pair.nd rfl (.inl rfl)) (pss_cons (ps_set (i := 5) sc_best_pair.nd rfl (.inl rfl) (pe_cal c_exact (hr.mono (by first | decide | omega)) rfl pass0 (pa_cons (pe_callB call_abs rfl (T.free "abs") boot_abs (pa_cons (pe_op op_sub (pe_op op_mul (pv 3) (pe_ix (ix_tupK (K := K) rfl) (pv 0) pe_int (fun _ _ => rfl))) (pe_op op_mul (pe_ix (ix_tupK (K := K) rfl) (pv 0) pe_int (fun _ _ => rfl)) (pv 4))) pa_nil)) (pa_cons (pe_op op_mul (pv 4) (pe_ix (ix_tupK (K := K) rfl) (pv 0) pe_int (fun _ _ => rfl))) pa_nil)))) (pss_one (ps_if (PW.pt (pw_or (pt_cmp (pc_isN (pv 2))) (pw_or1 (pt_val (pe_cal c_less (hr.mono (by first | decide | omega)) rfl pass0 (pa_cons (pv 5) (pa_cons (pe_ix (ix_tupK (K := K) rfl) (pv 2) pe_int (fun _ _ => rfl)) pa_nil))))))) (pss_one (ps_set (i := 2) sc_best_pair.nd rfl (.inl rfl) (pe_tup (pa_cons (pv 5) (pa_cons (pe_tup (pa_cons (pv 3) (pa_cons (pv 4) pa_nil))) pa_nil))))) pss_nil)))))) (pss_one (ps_ret (pe_ix (ix_tupK (K := K) rfl) (pv 2) pe_int (fun _ _ => rfl))))))), ?_⟩)
  · obtain ⟨_, _, _, _, _, rfl, _⟩ := h
    rfl
  · obtain ⟨pw, pl, w0, w1, ws, rfl, hw, hl, hlen, bad, good⟩ := h
    have F := Fp.refl (B := H)
    have hlm : (ws.map V.int).length = ws.length := List.length_map ..
    walk_at "k0"
    walk_at "ff"
    refine ite_dec (fun h1 => ?_) (fun h1 => ?_)
    · rw [if_pos rfl]
      refine bad (.inl ?_) [] _ Fp.refl
      injection h1 with h1
      rw [hlm] at h1
      exact List.length_eq_zero_iff.mp (by omega)
    have hne : ws ≠ [] := fun z => h1 (by rw [z]; rfl)
    walk_at "ff"
    refine ite_dec (fun h2 => ?_) (fun h2 => ?_)
    · walk_at "ff"
      exact bad (.inr h2) [] _ Fp.refl
    obtain ⟨⟨hb0, hb1, hb2, hb3⟩, good⟩ := good (fun z => z.elim hne h2)
    clear bad
    walk_at "ff"
    refine ⟨pl, ws, rfl, SqL.of hl, hlen, fun so p0 hp0 hs0 hn0 => ?_⟩
    replace F := F.new (o := .lst (so.map V.int)) hn0 rfl
    generalize upd H p0 (.lst (so.map V.int)) = H1 at F
    walk_at "ff"
    refine forS w (fun i σ' H' => ∃ (bst : Option (Int × Int)) (bv : V) (x3 x4 x5 : Option V), σ' = [some (.ref pw), some (.ref pl), some bv, x3, x4, x5] ∧ BI w0 w1 (fun a b => a ∈ so.take i ∧ b ∈ ws) bst ∧ BP w0 w1 H' bst bv ∧ Fp H [] [ck p0 (.lst (so.map V.int))] H') ⟨none, _, _, _, _, rfl, fun a b h => (nomatch h.1), rfl, F⟩ (fun i σ' H' hP => ?_) (fun i y σ' H' hy hP => ?_) (fun σ' H' hP => ?_)
    · obtain ⟨bst, bv, x3, x4, x5, rfl, _, _, F⟩ := hP
      exact SqL.of (F.getN .here)
    · clear F
      obtain ⟨bst, bv, x3, x4, x5, rfl, hbi, hbv, F⟩ := hP
      obtain ⟨one, hone, rfl⟩ := map_get hy
      have hom := hp0.mem_iff.mp (get_mem hone)
      walk_at "ff"
      refine ⟨pl, ws, rfl, SqL.of (F.keep hl rfl), hlen, fun so2 p2 hp2 hs2 hn2 => ?_⟩
      have F1 := Fp.new (o := .lst (so2.map V.int)) F hn2 rfl
      have hbv := hbv.fp (Fp.refl.new (o := .lst (so2.map V.int)) hn2 rfl)
      generalize upd H' p2 (.lst (so2.map V.int)) = H2 at F1 hbv
      clear F
      have F := F1
      clear F1
      walk_at "ff"
      refine forS w (fun j σ' H' => ∃ (bst : Option (Int × Int)) (bv : V) (x4 x5 : Option V), σ' = [some (.ref pw), some (.ref pl), some bv, some (.int one), x4, x5] ∧ BI w0 w1 (fun a b => (a ∈ so.take i ∧ b ∈ ws) ∨ a = one ∧ b ∈ so2.take j) bst ∧ BP w0 w1 H' bst bv ∧ Fp H [] [ck p2 (.lst (so2.map V.int)), ck p0 (.lst (so.map V.int))] H') ⟨bst, _, _, _, rfl, hbi.ext fun a b => ⟨.inl, fun z => z.elim id fun z => (nomatch z.2)⟩, hbv, F⟩ (fun j σ' H' hP => ?_) (fun j y σ' H' hy hP => ?_) (fun σ' H' hP => ?_)
      · obtain ⟨bst, bv, x4, x5, rfl, _, _, F⟩ := hP
        exact SqL.of (F.getN .here)
      · clear F hbv hbi
        obtain ⟨bst, bv, x4, x5, rfl, hbi, hbv, F⟩ := hP
        obtain ⟨oth, hoth, rfl⟩ := map_get hy
        have hotm := hp2.mem_iff.mp (get_mem hoth)
        have hx := hb3 one hom
        have hy2 := hb3 oth hotm
        have a1 := m100 hx ⟨hb1, hb2⟩
        have a2 := m100 (a := w0) (by omega) hy2
        have a3 := m100 hy2 ⟨hb1, hb2⟩
        walk_at "ff"
        refine ⟨_, _, rfl, by omega, by omega, fun t5 H5 G5 => ?_⟩
        replace F := F.call1 G5 .nil
        replace hbv := hbv.fp G5
        have hfq : H5 t5 = some (qO (farQ w0 w1 one oth)) := F.getN .here
        have hfl := far_le (w0 := w0) (w1 := w1) (by omega) ⟨hb1, hb2⟩ hx hy2
        have hord : ((fun a b => (a ∈ so.take i ∧ b ∈ ws) ∨ a = one ∧ b ∈ so2.take j) one oth) ∨ ∀ a b, ((a ∈ so.take i ∧ b ∈ ws) ∨ a = one ∧ b ∈ so2.take j) → ¬ (one < a ∨ one = a ∧ oth < b) := by
          by_cases hc : one ∈ so.take i
          · exact .inl (.inl ⟨hc, hotm⟩)
          · refine .inr fun a b hab z => ?_
            rcases hab with ⟨h1, h2⟩ | ⟨rfl, h2⟩
            · have := srt_le hs0 hone h1
              have : a ≠ one := fun e => hc (e ▸ h1)
              omega
            · have := srt_le hs2 hoth h2
              omega
        have hD : ∀ a b, (((a ∈ so.take i ∧ b ∈ ws) ∨ a = one ∧ b ∈ so2.take j) ∨ a = one ∧ b = oth) ↔ ((a ∈ so.take i ∧ b ∈ ws) ∨ a = one ∧ b ∈ so2.take (j + 1)) := fun a b => by
          rw [take_more hoth, List.mem_append, List.mem_singleton]
          constructor
          · rintro ((h | h) | h)
            · exact .inl h
            · exact .inr ⟨h.1, .inl h.2⟩
            · exact .inr ⟨h.1, .inr h.2⟩
          · rintro (h | ⟨h, h' | h'⟩)
            · exact .inl (.inl h)
            · exact .inl (.inr ⟨h, h'⟩)
            · exact .inr ⟨h, h'⟩
        cases bst with
        | none =>
          obtain rfl : bv = .non := hbv
          walk_at "ff"
          exact ⟨some (one, oth), .ref p, _, _, rfl, (BI.first hbi).ext hD, ⟨p, t5, _, rfl, F.getN .here, F.getN (.there (.there .here)), F.getN (.there .here)⟩, F.kp (.drop (.drop (.drop Kp.rf)))⟩
        | some q =>
          obtain ⟨tb, tf, tp, rfl, h1, h2, h3⟩ := hbv
          walk_at "ff"
          rw [if_neg (show ¬ decide (V.ref tb = V.non) = true from by simp)]
          have hqm : q.1 ∈ ws ∧ q.2 ∈ ws := by
            rcases hbi.1 with ⟨z1, z2⟩ | ⟨z1, z2⟩
            · exact ⟨hp0.mem_iff.mp ((List.take_sublist _ _).subset z1), z2⟩
            · exact ⟨by rw [z1]; exact hom, hp2.mem_iff.mp ((List.take_sublist _ _).subset z2)⟩
          have hfl2 := far_le (w0 := w0) (w1 := w1) (by omega) ⟨hb1, hb2⟩ (hb3 _ hqm.1) (hb3 _ hqm.2)
          walk_at "ff"
          refine ⟨t5, tf, _, _, _, _, rfl, SqT.of hfq, SqT.of h2, hfl, hfl2, fun H6 G6 => ?_⟩
          have h1 := G6.imm h1 rfl
          have h2 := G6.imm h2 rfl
          have h3 := G6.imm h3 rfl
          replace F := F.call0 G6 .nil
          walk_at "ff"
          refine ite_dec (fun hc => ?_) (fun hc => ?_)
          · walk_at "ff"
            exact ⟨some (one, oth), .ref p, _, _, rfl, (BI.take hbi (q_lt.mpr hc)).ext hD, ⟨p, t5, _, rfl, F.getN .here, F.getN (.there (.there .here)), F.getN (.there .here)⟩, F.kp (.drop (.drop (.drop Kp.rf)))⟩
          · walk_at "ff"
            exact ⟨some q, .ref tb, _, _, rfl, (BI.keep hbi (fun z => hc (q_lt.mp z)) hord).ext hD, ⟨tb, tf, tp, rfl, h1, h2, h3⟩, F.kp (.drop Kp.rf)⟩
      · obtain ⟨bst, bv, x4, x5, rfl, hbi, hbv, F⟩ := hP
        refine ⟨bst, bv, _, _, _, rfl, hbi.ext fun a b => ?_, hbv, F.kp (.drop Kp.rf)⟩
        rw [List.length_map, List.take_length, take_more hone, List.mem_append, List.mem_singleton, hp2.mem_iff]
        constructor
        · rintro (⟨h, h'⟩ | ⟨h, h'⟩)
          · exact ⟨.inl h, h'⟩
          · exact ⟨.inr h, h'⟩
        · rintro ⟨h | h, h'⟩
          · exact .inl ⟨h, h'⟩
          · exact .inr ⟨h, h'⟩
    · clear F
      obtain ⟨bst, bv, x3, x4, x5, rfl, hbi, hbv, F⟩ := hP
      rw [List.length_map, List.take_length] at hbi
      cases bst with
      | none =>
        obtain ⟨x, hx⟩ := List.exists_mem_of_ne_nil _ hne
        exact absurd ⟨hp0.mem_iff.mpr hx, hx⟩ (hbi x x)
      | some q =>
        obtain ⟨tb, tf, tp, rfl, h1, h2, h3⟩ := hbv
        walk_at "ff"
        exact good tp q.1 q.2 _ _ ⟨hp0.mem_iff.mp hbi.1.1, hbi.1.2, fun a ha b hb => hbi.2 a b ⟨hp0.mem_iff.mpr ha, hb⟩⟩ h3 F
end
end K1

set_option Elab.async false
set_option linter.all false
set_option maxRecDepth 100000
set_option maxHeartbeats 2000000
set_option pp.maxSteps 1500
namespace K1
open PySem PySem.Spec PyProof.Rows L2 Mi
set_option hygiene false
local macro_rules | `(tactic| walk_at "lk") => `(tactic| first | (with_reducible assumption) | (with_reducible apply get_set_self; walk_at "lk") | ((with_reducible apply get_set_ne); (case' hne => with_reducible assumption); walk_at "lk"))
local macro_rules | `(tactic| walk_at "at") => `(tactic| first | (with_reducible exact At.here) | (with_reducible apply At.at; (case' h1 => assumption); walk_at "lk") | (with_reducible apply At.there; walk_at "at"))
local macro_rules | `(tactic| walk_at "rp") => `(tactic| first | (with_reducible exact Rp.here) | (with_reducible apply Rp.set; (case' h1 => assumption); walk_at "lk") | (with_reducible apply Rp.at; (case' h1 => assumption); walk_at "lk") | (with_reducible apply Rp.there; walk_at "rp"))
local macro_rules | `(tactic| walk_at "re") => `(tactic| first | (with_reducible apply Re.n; walk_at "rp") | (with_reducible apply Re.s; walk_at "rp"))
local macro_rules | `(tactic| walk_at "dl") => `(tactic| first | (with_reducible exact Dl.here) | (with_reducible apply Dl.there; walk_at "dl"))
local macro_rules | `(tactic| walk_at "pq") => `(tactic| first | (with_reducible exact Pq.nil) | ((with_reducible apply Pq.n); (case' d => walk_at "dl"); walk_at "pq") | ((with_reducible apply Pq.s); (case' d => walk_at "dl"); walk_at "pq"))
local macro_rules | `(tactic| walk_at "rc") => `(tactic| first | (with_reducible exact Rc.here) | (with_reducible apply Rc.there; walk_at "rc"))
local macro_rules | `(tactic| walk_at "rs") => `(tactic| first | (with_reducible exact Rs.nil) | ((with_reducible apply Rs.on); (case' r => walk_at "rc"); (case' hl => first | exact rfl | ((try simp only [List.length_map, List.length_set]); with_reducible assumption) | (simp; done)); walk_at "rs") | ((with_reducible apply Rs.os); (case' r => walk_at "rc"); (case' hl => first | exact rfl | ((try simp only [List.length_map, List.length_set]); with_reducible assumption) | (simp; done)); walk_at "rs"))
local macro_rules | `(tactic| walk_at "ix") => `(tactic| first | with_reducible exact atI_nat (by assumption) | with_reducible exact atI_nat1 (by assumption) | with_reducible exact atI0 | with_reducible exact atI1 | with_reducible exact atI2 | with_reducible exact atI3 | with_reducible exact atI4)
local macro_rules | `(tactic| walk_at "sl") => `(tactic| first | (with_reducible assumption) | ((with_reducible apply len_app); (case' h1 => walk_at "sl"); (case' h2 => walk_at "sl")) | (with_reducible exact Nat.le_refl _))
local macro_rules | `(tactic| walk_at "sz") => `(tactic| first | with_reducible assumption | ((with_reducible apply len_leB); (case' h => walk_at "sl"); (case' hn => exact Nat.le_of_ble_eq_true rfl)) | exact of_decide_eq_true rfl | (exact len_le (by (try simp only [List.length_append, List.length_cons, List.length_nil, List.length_map, List.length_set, List.length_reverse]); omega)) | (exact len_lt (by (try simp only [List.length_append, List.length_cons, List.length_nil, List.length_map, List.length_set, List.length_reverse]); omega)))
local macro_rules | `(tactic| walk_at "len") => `(tactic| ((try simp only [List.length_append, List.length_cons, List.length_nil, List.length_map, List.length_set, List.length_reverse, List.length_replicate]); omega))
local macro_rules | `(tactic| walk_at "ixn") => `(tactic| first | with_reducible assumption | (with_reducible apply ixN_nat; walk_at "len") | (with_reducible apply ixN_nat1; walk_at "len") | (with_reducible apply ixN_0; walk_at "len") | (with_reducible apply ixN_1; walk_at "len") | (with_reducible apply ixN_2; walk_at "len") | exact rfl)
local macro_rules | `(tactic| walk_at "st") => `(tactic| ((try simp only [L2.start, wipe, List.map_cons, List.map_nil, List.length_cons, List.length_nil, Nat.reduceAdd, Nat.reduceSub, List.replicate_succ, List.replicate_zero, List.nil_append, List.cons_append, List.set_cons_succ, List.set_cons_zero]); exact rfl))
local macro_rules | `(tactic| walk_at "kp") => `(tactic| first | (with_reducible exact Kp.nil) | (with_reducible apply Kp.keep; walk_at "kp") | (with_reducible apply Kp.drop; walk_at "kp"))
local macro_rules | `(tactic| walk_at "g") => `(tactic| first
  | with_reducible assumption
  | (with_reducible apply F.getN; walk_at "at")
  | (with_reducible apply F.getS; walk_at "at")
  | ((with_reducible apply F.imm); (case' h => with_reducible assumption); exact rfl)
  | ((with_reducible apply F.keep); (case' h => with_reducible assumption); exact rfl)
  | ((with_reducible apply F.keepL); with_reducible assumption)
  | ((with_reducible apply F.sqT); with_reducible assumption)
  | ((with_reducible apply SqL.of); walk_at "g")
  | ((with_reducible apply SqT.of); walk_at "g")
  | ((with_reducible apply Rd.of); walk_at "g")
  | ((with_reducible apply Rd.frz); walk_at "g")
  | (with_reducible apply F.tab; with_reducible assumption)
  | ((with_reducible apply f_dgetS); (case' h1 => walk_at "g"); (case' h2 => first | with_reducible assumption | ((simp (decide := true) only [valR, if_true, if_false]); exact rfl))))
local macro_rules | `(tactic| walk_at "f1") => `(tactic| first
  | (with_reducible (first | apply s_seq | apply s_cons | apply s_nil | apply s_c | apply s_op | apply s_asg | apply s_test | apply s_ifS | apply s_ret | apply s_next | apply s_call | apply s_fldE | apply s_dgetE | apply s_gCons | apply s_gNil | apply s_par | apply s_par3 | apply s_and | apply s_or | apply s_not | apply s_andV | apply s_orV | apply s_notV | apply s_ifE | apply s_chain | apply s_cb | apply s_for | apply s_lc | apply f_methE | apply f_makeE | apply s_rollE | apply s_iK | apply s_iL | apply s_iT | apply f_tup | apply f_lst))
  | ((with_reducible apply s_var); (case' h1 => first | exact rfl | with_reducible assumption))
  | ((with_reducible apply s_gNn); (case' e => walk_at "st"))
  | ((with_reducible apply s_dget); (case' h1 => walk_at "g"))
  | with_reducible apply f_tup
  | with_reducible apply f_lst
  | ((with_reducible apply newF F); (case' ho => exact rfl); clear F; intro p H1 F)
  | ((with_reducible apply s_mk0); (case' hz => first | decide | (simp only [List.length_cons, List.length_nil]; decide)))
  | with_reducible apply f_sFld
  | ((with_reducible apply f_fld F); (case' R => walk_at "re"); (case' h2 => with_reducible assumption); (case' h3 => with_reducible assumption); (case' h4 => exact of_decide_eq_true rfl); (case' hp => ((try simp (decide := true) only [putF, if_true, if_false]); exact rfl)); clear F; intro H1 F)
  | with_reducible apply f_sAug
  | ((with_reducible apply f_aug); (case' h1 => walk_at "g"); (case' h2 => with_reducible assumption); (case' h3 => with_reducible assumption); (case' h4 => exact rfl))
  | ((with_reducible apply f_fldq F); (case' R => walk_at "re"); (case' h4 => exact of_decide_eq_true rfl); (case' hp => ((try simp (decide := true) only [putF, if_true, if_false]); exact rfl)); clear F; intro H1 F)
  | with_reducible apply f_radd
  | with_reducible apply f_rsub
  | ((with_reducible apply f_setL F); (case' R => walk_at "re"); (case' h2 => walk_at "ixn"); clear F; intro H1 F)
  | with_reducible apply f_sDPut
  | ((with_reducible apply f_dputS F); (case' R => walk_at "re"); (case' hl => walk_at "sz"); (case' hp => first | with_reducible assumption | ((try simp (decide := true) only [putR, List.map_cons, List.map_nil, if_true, if_false]); exact rfl)); clear F; intro H1 F)
  | with_reducible apply f_sDAug
  | ((with_reducible apply f_daug); (case' h1 => walk_at "g"))
  | ((with_reducible apply f_dputqS F); (case' R => walk_at "re"); (case' hl => walk_at "sz"); (case' hp => first | with_reducible assumption | ((try simp (decide := true) only [putR, List.map_cons, List.map_nil, if_true, if_false]); exact rfl)); clear F; intro H1 F)
  | with_reducible apply s_dgetE
  | ((with_reducible apply s_dget); (case' h1 => walk_at "g"))
  | ((with_reducible apply f_append F); (case' R => walk_at "re"); (case' hz => walk_at "sz"); clear F; intro H1 F)
  | ((with_reducible apply f_listKL); (case' h1 => walk_at "g"))
  | ((with_reducible apply f_listKT); (case' h1 => walk_at "g"))
  | ((with_reducible apply f_tupKL); (case' h1 => walk_at "g"))
  | ((with_reducible apply f_slL); (case' h1 => walk_at "g"))
  | ((with_reducible apply f_cat); (case' h1 => walk_at "g"); (case' h2 => walk_at "g"); (case' hz => walk_at "sz"))
  | with_reducible apply f_makeE
  | with_reducible apply s_iR3
  | ((with_reducible apply s_iR3d); (case' h1 => omega); (case' hc => rfl); intro J w)
  | ((with_reducible apply s_wipe); (case' h1 => first | exact rfl | exact wipe1))
  | with_reducible apply s_revE
  | ((with_reducible apply s_rev); (case' h1 => walk_at "g"))
  | with_reducible apply f_methE
  | ((with_reducible apply s_lenD); (case' h1 => walk_at "g"))
  | ((with_reducible apply f_meth); (case' h1 => walk_at "g"); (case' h2 => exact rfl))
  | with_reducible apply s_iEL
  | ((with_reducible apply s_iEL2); (case' h1 => walk_at "g"); intro J w)
  | with_reducible apply s_iZ
  | with_reducible apply s_iI
  | ((with_reducible apply s_iI2); (case' h1 => walk_at "g"); intro J w)
  | ((with_reducible apply f_rep1); (case' h1 => walk_at "g"); (case' hk => (constructor <;> omega)))
  | with_reducible apply f_gSub
  | ((with_reducible apply f_disp F); clear F; intro p H1 F)
  | with_reducible apply f_pairC
  | with_reducible apply f_pairN
  | ((with_reducible apply f_dispQ F); (case' R => walk_at "re"); (case' e => ((simp only [List.map_cons, List.map_nil, cvK]); exact rfl)); (case' e2 => exact rfl); (case' hl => exact Nat.le_of_ble_eq_true rfl); (case' hm => first | with_reducible apply hMk | exact rfl); clear F; intro H1 F)
  | ((with_reducible apply f_dnew F); clear F; intro p H1 F)
  | ((with_reducible apply f_unl F); (case' R => walk_at "re"); clear F; intro H1 F)
  | with_reducible apply f_rSetD
  | with_reducible apply f_dnewK
  | with_reducible apply f_sDNi
  | with_reducible apply f_finS
  | with_reducible apply f_finB
  | with_reducible apply f_finB'
  | with_reducible apply f_sDIn
  | ((with_reducible apply s_catS); (case' h1 => walk_at "sl"); (case' h2 => walk_at "sl"); (case' hn => exact Nat.le_of_ble_eq_true rfl))
  | ((with_reducible apply s_logA); (case' hl => with_reducible assumption))
  | with_reducible apply s_same
  | with_reducible apply s_js
  | with_reducible apply s_js0
  | ((with_reducible apply s_js2); (case' hl => walk_at "sz"))
  | with_reducible apply s_fm
  | ((with_reducible apply s_fmS); (case' hl => walk_at "sz"))
  | ((with_reducible apply s_fmI); (case' hl => with_reducible assumption))
  | with_reducible apply f_dget2E
  | with_reducible apply s_sameE
  | with_reducible apply s_chain3
  | with_reducible apply s_notN
  | with_reducible apply s_items
  | with_reducible apply s_bb1
  | with_reducible apply s_bb2
  | walk_at "f2")
local macro_rules | `(tactic| walk_at "f2") => `(tactic| first
  | with_reducible apply s_seq
  | with_reducible apply s_gCons
  | with_reducible apply s_gNil
  | ((with_reducible apply s_gTup); (case' h1 => walk_at "g"); (case' h2 => exact rfl))
  | with_reducible apply s_asg
  | ((with_reducible apply s_I); (case' hc => first | exact ⟨by omega, by omega⟩ | exact .inl ⟨by omega, by omega⟩ | exact .inr ⟨by omega, by omega⟩ | (show (_ : Int) < _; omega) | (show (_ : Int) ≠ _; omega)))
  | with_reducible apply s_mm
  | ((with_reducible apply s_lenKL); (case' h1 => walk_at "g"))
  | ((with_reducible apply s_lenKT); (case' h1 => walk_at "g"))
  | ((with_reducible apply s_tupKT); (case' h1 => walk_at "g"))
  | with_reducible apply s_iE
  | ((with_reducible apply s_iE2); (case' h1 => walk_at "g"); intro J w)
  | with_reducible apply s_ifTT
  | with_reducible apply s_ifFF
  | with_reducible apply s_rollE
  | ((with_reducible apply s_roll); (case' h1 => walk_at "g"); (case' h2 => exact ⟨by omega, by omega⟩); intro k k0 k1)
  | with_reducible apply s_gSub
  | with_reducible apply s_ab
  | with_reducible apply s_in1
  | with_reducible apply s_in2
  | ((with_reducible apply s_lsL); (case' h1 => walk_at "g"))
  | ((with_reducible apply s_lsT); (case' h1 => walk_at "g"))
  | ((with_reducible apply s_tyL); (case' h1 => walk_at "g"))
  | with_reducible apply s_for
  | with_reducible apply s_lc
  | with_reducible apply s_dc
  | with_reducible apply s_gn
  | with_reducible apply s_yes
  | with_reducible apply s_iL
  | with_reducible apply s_iT
  | with_reducible apply s_iR1
  | with_reducible apply s_iR2
  | with_reducible apply s_iK
  | ((with_reducible apply s_iL2); (case' h1 => walk_at "g"); intro J w)
  | ((with_reducible apply s_iT2); (case' h1 => walk_at "g"); intro J w)
  | ((with_reducible apply s_iR12); (case' h1 => omega); intro J w)
  | ((with_reducible apply s_iR22); (case' h1 => omega); intro J w)
  | ((with_reducible apply s_iK2); (case' h1 => walk_at "g"); intro J w)
  | ((with_reducible apply s_gNn); (case' e => walk_at "st"))
  | ((with_reducible apply s_var); (case' h1 => first | exact rfl | with_reducible assumption))
  | with_reducible apply s_c
  | with_reducible apply s_op
  | with_reducible apply s_cons
  | with_reducible apply s_nil
  | with_reducible apply s_ret
  | with_reducible apply s_ifS
  | with_reducible apply s_test
  | with_reducible apply s_B
  | with_reducible apply s_exbl
  | with_reducible apply s_exint
  | with_reducible apply s_I0
  | ((with_reducible apply s_Eq); (case' hs => exact rfl))
  | ((with_reducible apply s_Ne); (case' hs => exact rfl))
  | with_reducible apply s_un
  | with_reducible apply s_U
  | with_reducible apply s_cb
  | with_reducible apply s_call
  | with_reducible apply s_next
  | with_reducible apply s_drop
  | with_reducible apply s_break
  | with_reducible apply s_cont
  | with_reducible apply s_retN
  | with_reducible apply s_par
  | with_reducible apply s_par2
  | with_reducible apply s_par3
  | with_reducible apply s_par33
  | ((with_reducible apply s_aug); (case' h1 => exact rfl))
  | with_reducible apply s_and
  | with_reducible apply s_or
  | with_reducible apply s_not
  | with_reducible apply s_andV
  | with_reducible apply s_orV
  | with_reducible apply s_notV
  | with_reducible apply s_ifE
  | with_reducible apply s_isN
  | with_reducible apply s_chain
  | with_reducible apply s_sl
  | with_reducible apply s_noP
  | with_reducible apply s_part
  | with_reducible apply s_bm
  | with_reducible apply s_bm0
  | with_reducible apply s_fldE
  | ((with_reducible apply s_fld); (case' h1 => walk_at "g"); (case' h2 => assumption); (case' h3 => assumption); (case' h4 => exact rfl))
  | ((with_reducible apply s_ixL); (case' h1 => walk_at "g"); (case' h2 => first | with_reducible assumption | walk_at "ix"))
  | ((with_reducible apply s_ixT); (case' h1 => walk_at "g"); (case' h2 => first | with_reducible assumption | walk_at "ix"))
  | ((with_reducible apply s_lenL); (case' h1 => walk_at "g")))
local macro_rules | `(tactic| walk_at "ff") => `(tactic| repeat walk_at "f1")
local macro_rules | `(tactic| walk_at "k0") => `(tactic| try dsimp only [L2.cxOf, Cx.nox, Cx.wish, Cx.blk, genCx])
set_option hygiene true

abbrev s_Train_apart : Stmt := clsS 9 5
abbrev n_Train_apart : List Str := ["self", "left", "found", "here", "name"]
theorem sc_Train_apart : FnScope n_Train_apart ["self"] (defScope s_Train_apart) := ⟨rfl, rfl, rfl, by decide +kernel, rfl, by decide +kernel, by decide +kernel⟩

open Classical in
/-- the shafts that one turns, in their order -/
noncomputable def comp (ms : List Ms) (names : List Str) (n : Str) : List Str := names.filter fun m => decide (Conn ms n m)
open Classical in
/-- rows of shafts that turn each other -/
noncomputable def apL (ms : List Ms) (names : List Str) : Nat → List Str → List (List Str)
  | 0, _ => []
  | _ + 1, [] => []
  | k + 1, n :: l => comp ms names n :: apL ms names k (l.filter fun m => decide (¬ Conn ms n m))
theorem apL_fuel {ms : List Ms} {names : List Str} : ∀ (k : Nat) (l : List Str), l.length ≤ k → apL ms names k l = apL ms names l.length l
  | 0, l, h => by
    rw [List.length_eq_zero_iff.mp (Nat.le_zero.mp h)]
    rfl
  | k + 1, [], _ => rfl
  | k + 1, n :: l, h => by
    classical
    have h1 := List.length_filter_le (fun m => decide (¬ Conn ms n m)) l
    rw [List.length_cons] at h ⊢
    unfold apL
    rw [apL_fuel k _ (by omega), apL_fuel l.length _ h1]
open Classical in
theorem apL_cons {ms : List Ms} {names l : List Str} {n : Str} : apL ms names (n :: l).length (n :: l) = comp ms names n :: apL ms names (l.filter fun m => decide (¬ Conn ms n m)).length (l.filter fun m => decide (¬ Conn ms n m)) := by
  rw [List.length_cons]
  conv => lhs; unfold apL
  rw [apL_fuel l.length _ (List.length_filter_le _ _)]
theorem zip_un : ∀ (R : List (Addr × HO)), (R.map (·.1)).zip (R.map (·.2)) = R
  | [] => rfl
  | p :: R => by rw [List.map_cons, List.map_cons, List.zip_cons_cons, zip_un R]
theorem fp_pickN [Lw] {B H : Hp} {S N T : List Ck} (F : Fp B S N H) (h : Pq [] N T) : Fp B S T H := by
  obtain ⟨R, hR⟩ := h.pk.perm
  rw [List.nil_append] at hR
  have F2 : Fp B S (T ++ [(R.map (·.1), R.map (·.2))]) H := F.permN (by
    rw [fl_app, fl_cons, fl_nil, List.append_nil, zip_un]
    exact hR.symm)
  refine F2.fewer ?_
  rw [fl_app]
  exact List.sublist_append_left _ _
section
variable [Lw] {P : Program} {w : World} {K : PySem.W.Frag} {mg : Str → Option Value} {base : Heap} {f : Addr} {fd : FuncData} {fn : List He.DefD} {tf : List He.Defn}
abbrev nsO (l : List Str) : HO := .tup (l.map V.str)
def spApart (K : PySem.W.Frag) : Sp := fun vs H Q _ => ∃ (x dx l1 l2 : Addr) (names : List Str) (as : List Addr) (ms : List Ms) (φ : Str → Rat) (B N : Nat), vs = [.ref x] ∧ H x = some (trO K dx l1 l2) ∧ H l1 = some (.lst (names.map V.str)) ∧ H l2 = some (.lst (as.map V.ref)) ∧ MAt H as ms ∧ names.length ≤ 1000 ∧ Pot φ ms ∧ (∀ n ∈ names, txOk n = true) ∧ (∀ m ∈ ms, m.a ∈ names ∧ m.b ∈ names) ∧ (∀ n ∈ names, Bd ms n B N) ∧ GxR.TabG H (He.cT K ("Train", some "apart")).2 ∧
  ∀ p ts N H', ts.length = (apL ms names names.length names).length → Fp H [] (ck p (.tup (ts.map V.ref)) :: (ts, (apL ms names names.length names).map nsO) :: N) H' → Q (.ref p) H'
theorem ok_apart (T : Sy fa1 fn tf1 K mg base) (F : FunD K "apart" "Train.apart" (defArgs s_Train_apart) (defBody s_Train_apart) (defScope s_Train_apart) [] [] (He.fAd K ("Train", some "apart")) fd) (hP : ¬ Lw.L (He.cT K ("Train", some "apart")).2) {f2 : Addr} {fd2 : FuncData} (c_Train_ratios : Mtd P w K mg base (CX P w) 3 (He.ga K "Train") "ratios" f2 fd2 ["self", "start"] (spRatios K)) :
    FnOk P w K mg base (CX P w) 9 (He.fAd K ("Train", some "apart")) fd ["self"] (spApart K) := by
  refine FunD.okC F sc_Train_apart (fun vs H Q E h => ?_) (fun A0 outer s H vs Q E hr h => ⟨_, (pss_cons (ps_par (i := 1) (j := 2) (by rfl) sc_Train_apart.nd rfl rfl (by decide) rfl rfl (pa_cons (pe_callTy (call_listK (K := K) rfl) rfl (T.free "list") boot_list (pa_cons (pe_fldK (K := K) rfl (pv 0) rfl) pa_nil)) (pa_cons (pe_lst pa_nil) pa_nil)) (by rfl)) (pss_cons (ps_while (passes_of rfl) (pt_cmpR (op_neDK (K := K) rfl (Room.units hr)) (pv 1) (pe_lst pa_nil) (nomark _)) (pss_cons (ps_set (i := 3) sc_Train_apart.nd rfl (.inr rfl) (pe_mtd (pv 0) c_Train_ratios (hr.mono (by first | decide | omega)) (passes_call (takes_of rfl rfl rfl rfl) fun _ _ _ _ h => h) (pa_cons (pe_ix (ix_listK (K := K) rfl) (pv 1) pe_int (fun _ _ => rfl)) pa_nil))) (pss_cons (ps_expr (pe_bm PySem.F.plainAttrs_list PySem.F.slot_list_append PySem.F.type_list_append mt_append (pv 2) (pa_cons (pe_tupG (k := 0) (own := [("name", 4)]) ⟨hr.mono (by first | decide | omega), T.tabB ("Train", some "apart"), rfl, (pi_listK (K := K) rfl (pe_fldK (K := K) rfl (pv 0) rfl)), fun _ => rfl, ⟨genOk_by (N := n_Train_apart) (sc := (defScope s_Train_apart)) (by decide +kernel), sc_Train_apart.nd, fun A s H cl L code fp => (pg_name (i := 4) sc_Train_apart.nd rfl (.inl rfl)), fun A s H cl L code fp hr2 => (pts_one (pt_cmp (pc_din (Room.u1 hr2) (pv 4) (pv 3)))), fun A s H cl L code fp hr2 => (pv 4)⟩⟩ rfl (T.free "tuple")) pa_nil))) (pss_one (ps_setLc (i := 1) (own := [("name", 4)])  rfl sc_Train_apart.nd rfl rfl (sw_true rfl rfl rfl (by decide +kernel)) (pi_listK (K := K) rfl (pv 1)) (blkOk_by (N := n_Train_apart) (sc := (defScope s_Train_apart)) (by decide +kernel)) (fun _ _ _ _ _ => (pg_name (i := 4) sc_Train_apart.nd rfl (.inl rfl))) (fun _ _ _ _ _ => pts_one (pt_cmp (pc_dnotin (Room.u1 hr) (pv 4) (pv 3))))  (fun _ _ _ _ _ => (pv 4))))))) (pss_one (ps_ret (pe_callTy (call_tupleK (K := K) rfl) rfl (T.free "tuple") boot_tuple (pa_cons (pv 2) pa_nil)))))), ?_⟩)
  · obtain ⟨_, _, _, _, _, _, _, _, _, _, rfl, _⟩ := h
    rfl
  · obtain ⟨x, dx, l1, l2, names, as, ms, φ, B, N, rfl, hx, hl1, hl2, ma, hnl, P, htx, hms, hB, hT0, good⟩ := h
    have cT := T.cls "Train"
    have n1 := T.noat "Train" "shafts"
    have F := Fp.refl (B := H)
    walk_at "k0"
    walk_at "ff"
    have hT1 := F.tab hT0
    refine whileS (fun m σ' H' => ∃ (lf : List Str) (lp fp : Addr) (ts : List Addr) (gs : List (List Str)) (x3 x4 : Option V), m = lf.length ∧ σ' = [some (.ref x), some (.ref lp), some (.ref fp), x3, x4] ∧ ts.length = gs.length ∧ gs.length + lf.length ≤ names.length ∧ gs ++ apL ms names lf.length lf = apL ms names names.length names ∧ (∀ n ∈ lf, n ∈ names) ∧ Fp H [] [ck fp (.lst (ts.map V.ref)), ck lp (.lst (lf.map V.str)), (ts, gs.map nsO)] H') ⟨_, names, _, _, [], [], _, _, rfl, rfl, rfl, Nat.le_of_eq (Nat.zero_add _), rfl, fun _ h => h, permC F.nil (perm_lst _ [_, _])⟩ fun m σ' H' hP => ?_
    clear F
    obtain ⟨lf, lp, fp, ts, gs, x3, x4, rfl, rfl, hts, hle, hap, hsub, F⟩ := hP
    cases lf with
    | nil =>
      walk_at "ff"
      refine ne_nil (SqL.of (F.getN (.there (.there .here)))) (SqL.of (F.getN .here)) ?_
      walk_at "ff"
      have e : gs = apL ms names names.length names := by
        rw [← hap]
        exact (List.append_nil _).symm
      rw [e] at F hts
      exact good p ts [] _ hts (F.kp (.keep (.drop (.drop (.drop (.keep .nil))))))
    | cons n0 rest =>
      rw [List.map_cons] at F
      walk_at "ff"
      refine ne_someD (xs := (n0 :: rest).map V.str) (SqL.of (F.getN (.there (.there .here)))) str_dp (sh_strs fun y hy => htx y (hsub y hy)) (by decide) (fun z => nomatch z) (SqL.of (F.getN .here)) ?_
      walk_at "ff"
      refine whQ ?_
      replace F := F.kp (.drop Kp.rf)
      walk_at "ff"
      have hn0 := hsub n0 List.mem_cons_self
      refine ⟨x, dx, l1, l2, names, n0, as, ms, φ, B, N, rfl, F.keep hx rfl, F.keep hl1 rfl, F.keep hl2 rfl, ma.fp F, hnl, P, htx, hms, fun z => absurd hn0 z, fun _ => ⟨hB n0 hn0, fun d t N1 H2 I G1 => ?_⟩⟩
      replace F := (F.call .nil G1).kp (.keep (.keep (Kp.app _)))
      walk_at "ff"
      classical
      have htl : (ts.map V.ref).length < sizeLine := len_lt (by
        rw [List.length_cons] at hle
        rw [List.length_map]
        omega)
      have hkey : ∀ y : Str, y ∈ nmsR t ↔ Conn ms n0 y := fun y => I.keys
      refine gnS w F hP hT0 (fun i acc H' => acc = ((names.take i).filter fun m => decide (Conn ms n0 m)).map V.str ∧ Fp H [] [ck d (.dK (tbR t)), (adsR t, t.map rtO), ck fp (.lst (ts.map V.ref)), ck lp (.lst ((n0 :: rest).map V.str)), (ts, gs.map nsO)] H') (fun H' F => ⟨rfl, F⟩) (fun i acc H' ⟨_, F⟩ => SqL.of (F.keep hl1 rfl)) (fun i y acc H' hy ⟨hacc, F⟩ => ?_) (fun acc H' ⟨hacc, F⟩ => ?_)
      · obtain ⟨n1, hn1, rfl⟩ := map_get hy
        have hlt := (List.getElem?_eq_some_iff.mp hn1).1
        have hal : acc.length ≤ i := by
          rw [hacc, List.length_map]
          exact Nat.le_trans (List.length_filter_le _ _) (by rw [List.length_take]; omega)
        walk_at "ff"
        by_cases hc : Conn ms n0 n1
        · obtain ⟨r, hr, e1, _⟩ := tb_q I hc
          have hv := tb_get I.nd hr
          rw [e1] at hv
          refine f_din (.inl (F.getN .here)) hv ?_
          walk_at "ff"
          refine ⟨len_lt (by omega), ?_, F⟩
          rw [take_more hn1, List.filter_append, List.filter_cons_of_pos (by simpa using hc), List.filter_nil, List.map_append, hacc]
          rfl
        · refine f_din' (.inl (F.getN .here)) (tb_no I hc) ?_
          walk_at "ff"
          refine ⟨?_, F⟩
          rw [take_more hn1, List.filter_append, List.filter_cons_of_neg (by simpa using hc), List.filter_nil, List.append_nil]
          exact hacc
      · rw [List.length_map, List.take_length] at hacc
        intro tn htn
        replace F : Fp H [] _ _ := F.new (o := .tup acc) htn rfl
        rw [hacc] at F ⊢
        walk_at "ff"
        refine lcS w F (fun D i H' => Fp H [] [ck D (.lst ((((n0 :: rest).take i).filter fun m => decide (¬ Conn ms n0 m)).map V.str)), ck tn (nsO (comp ms names n0)), ck d (.dK (tbR t)), (adsR t, t.map rtO), ck fp (.lst (ts.map V.ref ++ [V.ref tn])), ck lp (.lst ((n0 :: rest).map V.str)), (ts, gs.map nsO)] H') (fun D H' F => F) (fun D i H' F => SqL.of (F.getN (.there (.there (.there (.there (.there .here))))))) (fun D i y H' hy F => ?_) (fun D H' F => ?_)
        · obtain ⟨n1, hn1, rfl⟩ := map_get hy
          have hlt := (List.getElem?_eq_some_iff.mp hn1).1
          have hal : (((n0 :: rest).take i).filter fun m => decide (¬ Conn ms n0 m)).length ≤ 1000 := Nat.le_trans (List.length_filter_le _ _) (by rw [List.length_take]; omega)
          walk_at "ff"
          by_cases hc : Conn ms n0 n1
          · obtain ⟨r, hr, e1, _⟩ := tb_q I hc
            have hv := tb_get I.nd hr
            rw [e1] at hv
            refine f_dni' (.inl (F.getN (.there (.there .here)))) hv ?_
            walk_at "ff"
            rw [take_more hn1, List.filter_append, List.filter_cons_of_neg (by simpa using hc), List.filter_nil, List.append_nil]
            exact F
          · refine f_dni (.inl (F.getN (.there (.there .here)))) (tb_no I hc) ?_
            walk_at "ff"
            refine lcQ F (.n .here) (len_lt (by rw [List.length_map]; omega)) fun H6 F => ?_
            rw [take_more hn1, List.filter_append, List.filter_cons_of_pos (by simpa using hc), List.filter_nil, List.map_append]
            exact F
        · rw [List.length_map, List.take_length, List.filter_cons_of_neg (by simpa using Conn.refl)] at F
          walk_at "ff"
          rw [apL_cons] at hap
          rw [List.length_cons] at hle
          have hfl := List.length_filter_le (fun m => decide (¬ Conn ms n0 m)) rest
          refine ⟨_, by rw [List.length_cons]; exact Nat.lt_succ_of_le hfl, rest.filter fun m => decide (¬ Conn ms n0 m), D, fp, ts ++ [tn], gs ++ [comp ms names n0], _, _, rfl, rfl, by rw [List.length_append, List.length_append, hts]; rfl, by rw [List.length_append, List.length_singleton]; omega, by rw [List.append_assoc]; exact hap, fun n hn => hsub n (List.mem_cons_of_mem _ (List.mem_filter.mp hn).1), ?_⟩
          replace F : Fp H [] [ck tn (nsO (comp ms names n0)), ck fp (.lst (ts.map V.ref ++ [V.ref tn])), ck D (.lst ((rest.filter fun m => decide (¬ Conn ms n0 m)).map V.str)), (ts, gs.map nsO)] _ := fp_pickN F (by walk_at "pq")
          replace F := Fp.snocL (as := ts) (os := gs.map nsO) [_, _] (by rw [List.length_map]; exact hts) F
          rw [List.map_append, List.map_append]
          exact F
end
end K1

set_option Elab.async false
set_option linter.all false
set_option maxRecDepth 100000
set_option maxHeartbeats 2000000
namespace K1
open PySem PySem.Spec PyProof.Rows L2 Mi
local macro_rules | `(tactic| walk_at "look") => `(tactic| first
  | with_reducible assumption
  | (with_reducible exact upd_same)
  | ((with_reducible apply SqL.of); first | with_reducible assumption | with_reducible exact upd_same)
  | ((with_reducible apply SqT.of); with_reducible assumption)
  | ((with_reducible apply Mv.sqL); (case' m => with_reducible assumption); walk_at "look")
  | ((with_reducible apply Mv.sqT); (case' m => with_reducible assumption); walk_at "look")
  | ((with_reducible apply Mv.lst); (case' m => with_reducible assumption); walk_at "look")
  | ((with_reducible apply Mv.tup); (case' m => with_reducible assumption); walk_at "look")
  | ((with_reducible apply Mv.ins); (case' m => with_reducible assumption); walk_at "look")
  | ((with_reducible apply Mv.dK); (case' m => with_reducible assumption); walk_at "look")
  | ((with_reducible apply Mv.exx); (case' m => with_reducible assumption); walk_at "look")
  | ((with_reducible apply Mv.dp); (case' m => with_reducible assumption); walk_at "look")
  | ((with_reducible apply Mv.dget); (case' m => with_reducible assumption); walk_at "look")
  | ((with_reducible apply Lk.dget); (case' m => with_reducible assumption); walk_at "look")
  | ((with_reducible apply Nl.dget); (case' m => with_reducible assumption); walk_at "look")
  | ((with_reducible apply Mv.frz); (case' m => with_reducible assumption); walk_at "look")
  | ((with_reducible apply Nl.sqT); (case' m => with_reducible assumption); walk_at "look")
  | ((with_reducible apply Nl.tup); (case' m => with_reducible assumption); walk_at "look")
  | ((with_reducible apply Nl.ins); (case' m => with_reducible assumption); walk_at "look")
  | ((with_reducible apply Nl.exx); (case' m => with_reducible assumption); walk_at "look")
  | ((with_reducible apply Nd.sqL); (case' m => with_reducible assumption); walk_at "look")
  | ((with_reducible apply Nd.sqT); (case' m => with_reducible assumption); walk_at "look")
  | ((with_reducible apply Nd.lst); (case' m => with_reducible assumption); walk_at "look")
  | ((with_reducible apply Nd.tup); (case' m => with_reducible assumption); walk_at "look")
  | ((with_reducible apply Nd.ins); (case' m => with_reducible assumption); walk_at "look")
  | ((with_reducible apply Nd.exx); (case' m => with_reducible assumption); walk_at "look")
  | ((with_reducible apply Lk.sqL); (case' m => with_reducible assumption); walk_at "look")
  | ((with_reducible apply Lk.sqT); (case' m => with_reducible assumption); walk_at "look")
  | ((with_reducible apply Lk.lst); (case' m => with_reducible assumption); walk_at "look")
  | ((with_reducible apply Lk.tup); (case' m => with_reducible assumption); walk_at "look")
  | ((with_reducible apply Lk.ins); (case' m => with_reducible assumption); walk_at "look")
  | ((with_reducible apply Lk.exx); (case' m => with_reducible assumption); walk_at "look")
  | ((with_reducible apply Lk.dp); (case' m => with_reducible assumption); walk_at "look"))
local macro_rules | `(tactic| walk_at "s") => `(tactic| first
  | with_reducible apply s_seq
  | with_reducible apply s_gCons
  | with_reducible apply s_gNil
  | ((with_reducible apply s_gTup); (case' h1 => walk_at "look"); (case' h2 => exact rfl))
  | with_reducible apply s_asg
  | with_reducible apply s_dgetE
  | ((with_reducible apply s_dget); (case' h1 => walk_at "look"))
  | ((with_reducible apply s_I); (case' hc => first | exact ⟨by omega, by omega⟩ | exact .inl ⟨by omega, by omega⟩ | exact .inr ⟨by omega, by omega⟩ | (show (_ : Int) < _; omega) | (show (_ : Int) ≠ _; omega)))
  | with_reducible apply s_mm
  | with_reducible apply s_iR3
  | ((with_reducible apply s_iR3d); (case' h1 => omega); (case' hc => rfl); intro J w)
  | with_reducible apply s_sAug
  | ((with_reducible apply s_sAug2); (case' h1 => walk_at "look"); (case' h2 => assumption); (case' h3 => assumption); (case' h4 => exact rfl))
  | with_reducible apply s_radd
  | with_reducible apply s_rsub
  | ((with_reducible apply s_sAug3); (case' h1 => walk_at "look"); (case' h2 => exact of_decide_eq_true rfl))
  | with_reducible apply s_makeE
  | ((with_reducible apply s_lenKL); (case' h1 => walk_at "look"))
  | ((with_reducible apply s_lenKT); (case' h1 => walk_at "look"))
  | ((with_reducible apply s_listKL); (case' h1 => walk_at "look"))
  | ((with_reducible apply s_listKT); (case' h1 => walk_at "look"))
  | ((with_reducible apply s_tupKL); (case' h1 => walk_at "look"))
  | ((with_reducible apply s_tupKT); (case' h1 => walk_at "look"))
  | with_reducible apply s_revE
  | ((with_reducible apply s_rev); (case' h1 => walk_at "look"))
  | with_reducible apply s_iE
  | ((with_reducible apply s_iE2); (case' h1 => walk_at "look"); intro J w)
  | ((with_reducible apply s_catA); (case' h1 => walk_at "look"); (case' h2 => walk_at "look"); (case' hz => (first | decide | (simp; done) | (simp; omega))); intro p H1 mv hp)
  | ((with_reducible apply s_slA); (case' h1 => walk_at "look"); intro p H1 mv hp)
  | ((with_reducible apply s_tupOfL); (case' h1 => walk_at "look"))
  | ((with_reducible apply s_tupOfT); (case' h1 => walk_at "look"))
  | with_reducible apply s_sFld
  | ((with_reducible apply s_sFld2); (case' h1 => walk_at "look"); (case' h2 => assumption); (case' h3 => assumption); (case' h4 => exact of_decide_eq_true rfl); (try rw [upd_upd]))
  | with_reducible apply s_seal
  | ((with_reducible apply s_wipe); (case' h1 => exact rfl))
  | ((with_reducible apply s_slL); (case' h1 => walk_at "look"))
  | with_reducible apply s_ifTT
  | with_reducible apply s_ifFF
  | with_reducible apply s_rollE
  | ((with_reducible apply s_roll); (case' h1 => walk_at "look"); (case' h2 => exact ⟨by omega, by omega⟩); intro k k0 k1)
  | with_reducible apply s_gSub
  | ((with_reducible apply s_setL); (case' h1 => walk_at "look"); (case' h2 => exact rfl))
  | with_reducible apply s_ab
  | with_reducible apply s_in1
  | with_reducible apply s_in2
  | ((with_reducible apply s_lsL); (case' h1 => walk_at "look"))
  | ((with_reducible apply s_lsT); (case' h1 => walk_at "look"))
  | ((with_reducible apply s_tyL); (case' h1 => walk_at "look"))
  | with_reducible apply s_for
  | with_reducible apply s_lc
  | with_reducible apply s_dc
  | with_reducible apply s_gn
  | with_reducible apply s_yes
  | with_reducible apply s_iL
  | with_reducible apply s_iT
  | with_reducible apply s_iR1
  | with_reducible apply s_iR2
  | with_reducible apply s_iK
  | ((with_reducible apply s_iL2); (case' h1 => walk_at "look"); intro J w)
  | ((with_reducible apply s_iT2); (case' h1 => walk_at "look"); intro J w)
  | ((with_reducible apply s_iR12); (case' h1 => omega); intro J w)
  | ((with_reducible apply s_iR22); (case' h1 => omega); intro J w)
  | ((with_reducible apply s_iK2); (case' h1 => walk_at "look"); intro J w)
  | with_reducible apply s_gN
  | ((with_reducible apply s_var); (case' h1 => exact rfl))
  | with_reducible apply s_c
  | with_reducible apply s_op
  | with_reducible apply s_cons
  | with_reducible apply s_nil
  | with_reducible apply s_ret
  | with_reducible apply s_ifS
  | with_reducible apply s_test
  | with_reducible apply s_B
  | with_reducible apply s_exbl
  | with_reducible apply s_exint
  | with_reducible apply s_I0
  | ((with_reducible apply s_Eq); (case' hs => exact rfl))
  | ((with_reducible apply s_Ne); (case' hs => exact rfl))
  | with_reducible apply s_un
  | with_reducible apply s_U
  | with_reducible apply s_cb
  | with_reducible apply s_call
  | with_reducible apply s_next
  | with_reducible apply s_drop
  | with_reducible apply s_break
  | with_reducible apply s_cont
  | with_reducible apply s_retN
  | with_reducible apply s_par
  | with_reducible apply s_par2
  | with_reducible apply s_par3
  | with_reducible apply s_par33
  | ((with_reducible apply s_aug); (case' h1 => exact rfl))
  | with_reducible apply s_and
  | with_reducible apply s_or
  | with_reducible apply s_not
  | with_reducible apply s_andV
  | with_reducible apply s_orV
  | with_reducible apply s_notV
  | with_reducible apply s_ifE
  | with_reducible apply s_isN
  | with_reducible apply s_chain
  | with_reducible apply s_sl
  | with_reducible apply s_noP
  | with_reducible apply s_part
  | with_reducible apply s_bm
  | with_reducible apply s_bm0
  | with_reducible apply s_tup
  | with_reducible apply s_lst
  | with_reducible apply s_fldE
  | ((with_reducible apply s_fld); (case' h1 => walk_at "look"); (case' h2 => assumption); (case' h3 => assumption); (case' h4 => exact rfl))
  | ((with_reducible apply s_ixL); (case' h1 => walk_at "look"); (case' h2 => first | with_reducible assumption | exact rfl))
  | ((with_reducible apply s_ixT); (case' h1 => walk_at "look"); (case' h2 => first | with_reducible assumption | exact rfl))
  | ((with_reducible apply s_lenL); (case' h1 => walk_at "look"))
  | ((with_reducible apply s_mk0); (case' hz => first | decide | (simp only [List.length_cons, List.length_nil]; decide)))
  | ((with_reducible refine s_all fun p hn => ?_); generalize hg : upd _ _ _ = H1; obtain ⟨mv, hp⟩ := gen_upd hg hn; clear hg))
local macro_rules | `(tactic| walk_at "mv") => `(tactic| first
  | with_reducible assumption
  | exact Mv.refl _
  | (refine Mv.trans ?_ (by with_reducible assumption); walk_at "mv"))
local macro_rules | `(tactic| walk_at "ss") => `(tactic| repeat walk_at "s")
local macro_rules | `(tactic| walk_at "k0") => `(tactic| try dsimp only [L2.cxOf, Cx.nox, Cx.wish, Cx.blk, genCx])
local macro_rules | `(tactic| walk_at "st") => `(tactic| repeat (fail_if_success (with_reducible apply s_sAug); walk_at "s"))

section
variable [Lw] {P : Program} {w : World} {K : PySem.W.Frag} {mg : Str → Option Value} {base : Heap} {f : Addr} {fd : FuncData} {fn : List He.DefD} {tf : List He.Defn}
theorem ok_dice (T : Sy fa1 fn tf K mg base) (F : FnP K "_law_dice" s__law_dice f fd) : FnOk P w K mg base CX0 1 f fd ["cell"] spDice := by
  refine F.ok sc__law_dice (fun vs H Q E h => ?_) (fun cdv A outer s H vs Q E hr h => ⟨_, PSs.nox (pss_cons (ps_if (pt_chain op_lt op_lt (pe_op op_sub pe_int pe_int) (pv 0) pe_int) (pss_one (ps_ret (pe_lst (pa_cons (pe_callB call_abs rfl (T.free "abs") boot_abs (pa_cons (pv 0) pa_nil)) (pa_cons pe_int (pa_cons pe_int pa_nil)))))) pss_nil) (pss_one (ps_ret (pe_lst (pa_cons (pv 0) (pa_cons (pe_op op_add pe_int (pe_op op_mod (pe_callTy call_int1 rfl (T.free "int") boot_int (pa_cons (pv 0) pa_nil)) pe_int)) (pa_cons (pe_callTy call_int1 rfl (T.free "int") boot_int (pa_cons (pe_cmpR op_ge (pv 0) (pe_op op_pow pe_int pe_int) (nomark _)) pa_nil)) pa_nil))))))), ?_⟩)
  · obtain ⟨c, rfl, _⟩ := h
    rfl
  · obtain ⟨c, rfl, q⟩ := h
    walk_at "k0"
    walk_at "ss"
    refine ite_dec (fun hc => ?_) (fun hc => ?_)
    · walk_at "ss"
      refine ite_dec (fun hc => ?_) (fun hc => ?_)
      · walk_at "ss"
        exact q _ _ _ _ _ (by assumption) (by assumption) (by assumption)
      · walk_at "ss"
        exact q _ _ _ _ _ (by assumption) (by assumption) (by assumption)
    · walk_at "ss"
      exact q _ _ _ _ _ (by assumption) (by assumption) (by assumption)
theorem ok_roll (T : Sy fa1 fn tf K mg base) (F : FnP K "_law_roll" s__law_roll f fd) : FnOk P w K mg base CX0 1 f fd ["dice", "many"] spRoll := by
  refine F.ok sc__law_roll (fun vs H Q E h => ?_) (fun cdv A outer s H vs Q E hr h => ⟨_, PSs.nox (pss_cons (ps_if (PW.pt (pw_or (pt_cmpR op_eq (pe_ix (ix_listK (K := K) rfl) (pv 0) pe_int (fun _ _ => rfl)) pe_int (nomark _)) (pw_or1 (PW.pt (pw_and (pt_cmpR op_eq (pe_ix (ix_listK (K := K) rfl) (pv 0) pe_int (fun _ _ => rfl)) pe_int (nomark _)) (pw_and1 (pt_cmpR op_gt (pe_ix (ix_listK (K := K) rfl) (pv 0) pe_int (fun _ _ => rfl)) pe_int (nomark _)))))))) (pss_cons (ps_set (i := 2) sc__law_roll.nd rfl (.inl rfl) (pe_op op_mod (pe_callTy call_int1 rfl (T.free "int") boot_int (pa_cons (pe_ix (ix_listK (K := K) rfl) (pv 0) pe_int (fun _ _ => rfl)) pa_nil)) (pv 1))) (pss_cons (ps_asg (pe_op op_fdiv (pe_ix (ix_listK (K := K) rfl) (pv 0) pe_int (fun _ _ => rfl)) (pv 1)) (pg_sub (pv 0) pe_int set_list)) (pss_one (ps_ret (pv 2))))) pss_nil) (pss_cons (ps_asg pe_int (pg_sub (pv 0) pe_int set_list)) (pss_cons (ps_if (pt_cmpR op_gt (pv 1) pe_int (nomark _)) pss_never pss_nil) (pss_cons (ps_asg (pe_op op_mod (pe_callTy call_int1 rfl (T.free "int") boot_int (pa_cons (pe_op op_add (pe_op op_add (pe_op op_mul (pe_ix (ix_listK (K := K) rfl) (pv 0) pe_int (fun _ _ => rfl)) pe_int) (pe_op op_mul (pe_ix (ix_listK (K := K) rfl) (pv 0) pe_int (fun _ _ => rfl)) pe_int)) pe_int) pa_nil)) pe_int) (pg_sub (pv 0) pe_int set_list)) (pss_cons (ps_asg (pe_op op_add (pe_ix (ix_listK (K := K) rfl) (pv 0) pe_int (fun _ _ => rfl)) pe_int) (pg_sub (pv 0) pe_int set_list)) (pss_one (ps_ret (pe_op op_mod (pe_callTy call_int1 rfl (T.free "int") boot_int (pa_cons (pe_op op_fdiv (pe_ix (ix_listK (K := K) rfl) (pv 0) pe_int (fun _ _ => rfl)) pe_int) pa_nil)) (pv 1))))))))), ?_⟩)
  · obtain ⟨_, _, _, _, _, rfl, _⟩ := h
    rfl
  · obtain ⟨p, n, x, y, z, rfl, hp, h0, h1, q⟩ := h
    walk_at "k0"
    walk_at "ss"
    have fin : ∀ i : Int, 0 ≤ i % n ∧ i % n < n := fun i => ⟨Int.emod_nonneg _ (by omega), Int.emod_lt_of_pos _ h0⟩
    refine ite_dec (fun hc => ?_) (fun hc => ?_)
    · walk_at "ss"
      exact q _ _ _ _ (fin _).1 (fin _).2
    · walk_at "ss"
      refine ite_dec (fun hc => ?_) (fun hc => ?_)
      · walk_at "ss"
        refine ite_dec (fun hc => ?_) (fun hc => ?_)
        · walk_at "ss"
          exact q _ _ _ _ (fin _).1 (fin _).2
        · walk_at "ss"
          refine ite_dec (fun hc => ?_) (fun hc => ?_)
          · omega
          walk_at "ss"
          rw [upd_upd, upd_upd]
          exact q _ _ _ _ (fin _).1 (fin _).2
      · walk_at "ss"
        refine ite_dec (fun hc => ?_) (fun hc => ?_)
        · omega
        walk_at "ss"
        rw [upd_upd, upd_upd]
        exact q _ _ _ _ (fin _).1 (fin _).2
/-- the law's rounds for one turn: one dice list -/
def spRounds (K : PySem.W.Frag) : Sp := fun vs H Q _ => ∃ (a : Addr) (ns : List Int), vs = [.ref a, .int 1] ∧ SqL K H a (ns.map V.int) ∧ ∀ (p q : Addr) (H' : Hp), Mv H H' → H' p = some (.lst [.ref q]) → H' q = some (DiceO q) → Q (.ref p) H'
theorem ok_rounds (T : Sy fa1 fn tf K mg base) (F : FnP K "_law_rounds" s__law_rounds f fd) {f1 : Addr} {fd1 : FuncData} (c__law_dice : Cal P w K mg base CX0 1 "_law_dice" f1 fd1 ["cell"] spDice) : FnOk P w K mg base CX0 2 f fd ["script", "most"] (spRounds K) := by
  refine F.ok sc__law_rounds (fun vs H Q E h => ?_) (fun cdv A outer s H vs Q E hr h => ⟨_, PSs.nox (pss_cons (ps_set (i := 2) sc__law_rounds.nd rfl (.inl rfl) (pe_slice (sl_listK (K := K) rfl) (pv 0) po_none (po_some (pv 1)))) (pss_cons (ps_if (pt_cmpR (op_eqDK (K := K) rfl (Room.units hr)) (pv 2) (pe_lst pa_nil) (nomark _)) (pss_one (ps_set (i := 2) sc__law_rounds.nd rfl (.inl rfl) (pe_lst (pa_cons pe_int pa_nil)))) pss_nil) (pss_one (ps_ret (pe_lc (own := [("cell", 3)]) (tt := tYes) rfl sc__law_rounds.nd (pi_listK (K := K) rfl (pv 2)) (blkOk_by (N := n__law_rounds) (sc := (defScope s__law_rounds)) (by decide +kernel)) (fun _ _ _ _ _ => (pg_name (i := 3) sc__law_rounds.nd rfl (.inl rfl))) (fun _ _ _ _ _ => pts_nil)  (fun _ _ _ _ _ => (pe_seal (pe_cal c__law_dice (hr.mono (by first | decide | omega)) rfl pass0 (pa_cons (pv 3) pa_nil))))))))), ?_⟩)
  · obtain ⟨_, _, rfl, _⟩ := h
    rfl
  · obtain ⟨a, ns, rfl, hs, q⟩ := h
    walk_at "k0"
    walk_at "ss"
    rename_i p hn H1 mv hp p2 hn2 H2 mv2 hp2
    have hc : ∃ zs : List Int, zs.length ≤ 1 ∧ cutV (ns.map V.int) none (some 1) = zs.map V.int := by
      cases ns with
      | nil => exact ⟨[], by decide, rfl⟩
      | cons n r => exact ⟨[n], by simp, by simp [cutV, HT.sIx]⟩
    obtain ⟨zs, hz, e⟩ := hc
    rw [e] at hp
    refine s_eqD (.lst (SqL.of (mv2.lst hp)) dpAll_ints) (.lst (SqL.of hp2) .nil) ?_ rfl ?_
    · match zs, hz with
      | [], _ => rfl
      | [n], _ => rfl
    have hz2 : zs = [] ∨ ∃ n, zs = [n] := match zs, hz with
      | [], _ => .inl rfl
      | [n], _ => .inr ⟨n, rfl⟩
    rcases hz2 with rfl | ⟨n, rfl⟩
    · refine ⟨true, rfl, ?_⟩
      walk_at "ss"
      rename_i J w
      refine lcE w (fun H' m => m.sqL (by walk_at "look")) fun D hD => ⟨fun i acc H' => (i = 0 ∧ acc = []) ∨ (i = 1 ∧ ∃ q, acc = [.ref q] ∧ H' q = some (DiceO q)), fun H' _ => .inl ⟨rfl, rfl⟩, fun i y acc H' hy m hDa hP => ?_, fun acc H' m hDa hP => ?_⟩
      · have hi : i = 0 ∧ ∃ n, y = .int n := by
          match i, hy with
          | 0, hy => exact ⟨rfl, _, (Option.some.inj hy).symm⟩
          | i + 1, hy => cases (show none = some y from hy)
        obtain ⟨rfl, n, rfl⟩ := hi
        have hacc : acc = [] := by
          rcases hP with ⟨_, h⟩ | ⟨h, _⟩
          · exact h
          · cases h
        subst hacc
        walk_at "ss"
        refine ⟨_, rfl, fun p x y z H3 hn mv hp => ⟨p, x, y, z, rfl, hp, ?_⟩⟩
        have hne : D ≠ p := ne_of_none hDa hn
        refine lcP hD (by rw [upd_ne hne]; exact mv.lst hDa) (by decide) ((m.trans mv).put (m.free hn)) fun H5 m5 nl => .inr ⟨rfl, p, rfl, nl.exx upd_same⟩
      · rcases hP with ⟨h, _⟩ | ⟨_, q', rfl, hq⟩
        · cases h
        · exact q D q' H' (by walk_at "mv") hDa hq
    · refine ⟨false, rfl, ?_⟩
      walk_at "ss"
      rename_i J w
      refine lcE w (fun H' m => m.sqL (by walk_at "look")) fun D hD => ⟨fun i acc H' => (i = 0 ∧ acc = []) ∨ (i = 1 ∧ ∃ q, acc = [.ref q] ∧ H' q = some (DiceO q)), fun H' _ => .inl ⟨rfl, rfl⟩, fun i y acc H' hy m hDa hP => ?_, fun acc H' m hDa hP => ?_⟩
      · have hi : i = 0 ∧ ∃ n, y = .int n := by
          match i, hy with
          | 0, hy => exact ⟨rfl, _, (Option.some.inj hy).symm⟩
          | i + 1, hy => cases (show none = some y from hy)
        obtain ⟨rfl, n, rfl⟩ := hi
        have hacc : acc = [] := by
          rcases hP with ⟨_, h⟩ | ⟨h, _⟩
          · exact h
          · cases h
        subst hacc
        walk_at "ss"
        refine ⟨_, rfl, fun p x y z H3 hn mv hp => ⟨p, x, y, z, rfl, hp, ?_⟩⟩
        have hne : D ≠ p := ne_of_none hDa hn
        refine lcP hD (by rw [upd_ne hne]; exact mv.lst hDa) (by decide) ((m.trans mv).put (m.free hn)) fun H5 m5 nl => .inr ⟨rfl, p, rfl, nl.exx upd_same⟩
      · rcases hP with ⟨h, _⟩ | ⟨_, q', rfl, hq⟩
        · cases h
        · exact q D q' H' (by walk_at "mv") hDa hq
end
end K1

set_option Elab.async false
set_option linter.all false
set_option maxRecDepth 100000
set_option maxHeartbeats 2000000
set_option pp.maxSteps 1500
namespace K1
open PySem PySem.Spec PyProof.Rows L2 Mi LamX
set_option hygiene false
local macro_rules | `(tactic| walk_at "lk") => `(tactic| first | (with_reducible assumption) | (with_reducible apply get_set_self; walk_at "lk") | ((with_reducible apply get_set_ne); (case' hne => with_reducible assumption); walk_at "lk"))
local macro_rules | `(tactic| walk_at "at") => `(tactic| first | (with_reducible exact At.here) | (with_reducible apply At.at; (case' h1 => assumption); walk_at "lk") | (with_reducible apply At.there; walk_at "at"))
local macro_rules | `(tactic| walk_at "rp") => `(tactic| first | (with_reducible exact Rp.here) | (with_reducible apply Rp.set; (case' h1 => assumption); walk_at "lk") | (with_reducible apply Rp.at; (case' h1 => assumption); walk_at "lk") | (with_reducible apply Rp.there; walk_at "rp"))
local macro_rules | `(tactic| walk_at "re") => `(tactic| first | (with_reducible apply Re.n; walk_at "rp") | (with_reducible apply Re.s; walk_at "rp"))
local macro_rules | `(tactic| walk_at "dl") => `(tactic| first | (with_reducible exact Dl.here) | (with_reducible apply Dl.there; walk_at "dl"))
local macro_rules | `(tactic| walk_at "pq") => `(tactic| first | (with_reducible exact Pq.nil) | ((with_reducible apply Pq.n); (case' d => walk_at "dl"); walk_at "pq") | ((with_reducible apply Pq.s); (case' d => walk_at "dl"); walk_at "pq"))
local macro_rules | `(tactic| walk_at "rc") => `(tactic| first | (with_reducible exact Rc.here) | (with_reducible apply Rc.there; walk_at "rc"))
local macro_rules | `(tactic| walk_at "rs") => `(tactic| first | (with_reducible exact Rs.nil) | ((with_reducible apply Rs.on); (case' r => walk_at "rc"); (case' hl => first | exact rfl | ((try simp only [List.length_map, List.length_set]); with_reducible assumption) | (simp; done)); walk_at "rs") | ((with_reducible apply Rs.os); (case' r => walk_at "rc"); (case' hl => first | exact rfl | ((try simp only [List.length_map, List.length_set]); with_reducible assumption) | (simp; done)); walk_at "rs"))
local macro_rules | `(tactic| walk_at "ix") => `(tactic| first | with_reducible exact atI_nat (by assumption) | with_reducible exact atI_nat1 (by assumption) | with_reducible exact atI0 | with_reducible exact atI1 | with_reducible exact atI2 | with_reducible exact atI3 | with_reducible exact atI4)
local macro_rules | `(tactic| walk_at "sl") => `(tactic| first | (with_reducible assumption) | ((with_reducible apply len_app); (case' h1 => walk_at "sl"); (case' h2 => walk_at "sl")) | (with_reducible exact Nat.le_refl _))
local macro_rules | `(tactic| walk_at "sz") => `(tactic| first | with_reducible assumption | ((with_reducible apply len_leB); (case' h => walk_at "sl"); (case' hn => exact Nat.le_of_ble_eq_true rfl)) | exact of_decide_eq_true rfl | (exact len_le (by (try simp only [List.length_append, List.length_cons, List.length_nil, List.length_map, List.length_set, List.length_reverse]); omega)) | (exact len_lt (by (try simp only [List.length_append, List.length_cons, List.length_nil, List.length_map, List.length_set, List.length_reverse]); omega)))
local macro_rules | `(tactic| walk_at "len") => `(tactic| ((try simp only [List.length_append, List.length_cons, List.length_nil, List.length_map, List.length_set, List.length_reverse, List.length_replicate]); omega))
local macro_rules | `(tactic| walk_at "ixn") => `(tactic| first | with_reducible assumption | (with_reducible apply ixN_nat; walk_at "len") | (with_reducible apply ixN_nat1; walk_at "len") | (with_reducible apply ixN_0; walk_at "len") | (with_reducible apply ixN_1; walk_at "len") | (with_reducible apply ixN_2; walk_at "len") | exact rfl)
local macro_rules | `(tactic| walk_at "st") => `(tactic| ((try simp only [L2.start, wipe, List.map_cons, List.map_nil, List.length_cons, List.length_nil, Nat.reduceAdd, Nat.reduceSub, List.replicate_succ, List.replicate_zero, List.nil_append, List.cons_append, List.set_cons_succ, List.set_cons_zero]); exact rfl))
local macro_rules | `(tactic| walk_at "kp") => `(tactic| first | (with_reducible exact Kp.nil) | (with_reducible apply Kp.keep; walk_at "kp") | (with_reducible apply Kp.drop; walk_at "kp"))
local macro_rules | `(tactic| walk_at "g") => `(tactic| first
  | with_reducible assumption
  | (with_reducible apply F.getN; walk_at "at")
  | (with_reducible apply F.getS; walk_at "at")
  | ((with_reducible apply F.imm); (case' h => with_reducible assumption); exact rfl)
  | ((with_reducible apply F.keep); (case' h => with_reducible assumption); exact rfl)
  | ((with_reducible apply F.keepL); with_reducible assumption)
  | ((with_reducible apply F.sqT); with_reducible assumption)
  | ((with_reducible apply SqL.of); walk_at "g")
  | ((with_reducible apply SqT.of); walk_at "g")
  | ((with_reducible apply Rd.of); walk_at "g")
  | ((with_reducible apply Rd.frz); walk_at "g")
  | (with_reducible apply F.tab; with_reducible assumption)
  | ((with_reducible apply f_dgetS); (case' h1 => walk_at "g"); (case' h2 => first | with_reducible assumption | ((simp (decide := true) only [valR, if_true, if_false]); exact rfl))))
local macro_rules | `(tactic| walk_at "f1") => `(tactic| first
  | (with_reducible (first | apply s_seq | apply s_cons | apply s_nil | apply s_c | apply s_op | apply s_asg | apply s_test | apply s_ifS | apply s_ret | apply s_next | apply s_call | apply s_fldE | apply s_dgetE | apply s_gCons | apply s_gNil | apply s_par | apply s_par3 | apply s_and | apply s_or | apply s_not | apply s_andV | apply s_orV | apply s_notV | apply s_ifE | apply s_chain | apply s_cb | apply s_for | apply s_lc | apply f_methE | apply f_makeE | apply s_rollE | apply s_iK | apply s_iL | apply s_iT | apply f_tup | apply f_lst))
  | ((with_reducible apply s_var); (case' h1 => first | exact rfl | with_reducible assumption))
  | ((with_reducible apply s_gNn); (case' e => walk_at "st"))
  | ((with_reducible apply s_dget); (case' h1 => walk_at "g"))
  | with_reducible apply f_tup
  | with_reducible apply f_lst
  | ((with_reducible apply newF F); (case' ho => exact rfl); clear F; intro p H1 F)
  | ((with_reducible apply s_mk0); (case' hz => first | decide | (simp only [List.length_cons, List.length_nil]; decide)))
  | with_reducible apply f_sFld
  | ((with_reducible apply f_fld F); (case' R => walk_at "re"); (case' h2 => with_reducible assumption); (case' h3 => with_reducible assumption); (case' h4 => exact of_decide_eq_true rfl); (case' hp => ((try simp (decide := true) only [putF, if_true, if_false]); exact rfl)); clear F; intro H1 F)
  | with_reducible apply f_sAug
  | ((with_reducible apply f_aug); (case' h1 => walk_at "g"); (case' h2 => with_reducible assumption); (case' h3 => with_reducible assumption); (case' h4 => exact rfl))
  | ((with_reducible apply f_fldq F); (case' R => walk_at "re"); (case' h4 => exact of_decide_eq_true rfl); (case' hp => ((try simp (decide := true) only [putF, if_true, if_false]); exact rfl)); clear F; intro H1 F)
  | with_reducible apply f_radd
  | with_reducible apply f_rsub
  | ((with_reducible apply f_setL F); (case' R => walk_at "re"); (case' h2 => walk_at "ixn"); clear F; intro H1 F)
  | with_reducible apply f_sDPut
  | ((with_reducible apply f_dputS F); (case' R => walk_at "re"); (case' hl => walk_at "sz"); (case' hp => first | with_reducible assumption | ((try simp (decide := true) only [putR, List.map_cons, List.map_nil, if_true, if_false]); exact rfl)); clear F; intro H1 F)
  | with_reducible apply f_sDAug
  | ((with_reducible apply f_daug); (case' h1 => walk_at "g"))
  | ((with_reducible apply f_dputqS F); (case' R => walk_at "re"); (case' hl => walk_at "sz"); (case' hp => first | with_reducible assumption | ((try simp (decide := true) only [putR, List.map_cons, List.map_nil, if_true, if_false]); exact rfl)); clear F; intro H1 F)
  | with_reducible apply s_dgetE
  | ((with_reducible apply s_dget); (case' h1 => walk_at "g"))
  | ((with_reducible apply f_append F); (case' R => walk_at "re"); (case' hz => walk_at "sz"); clear F; intro H1 F)
  | ((with_reducible apply f_listKL); (case' h1 => walk_at "g"))
  | ((with_reducible apply f_listKT); (case' h1 => walk_at "g"))
  | ((with_reducible apply f_tupKL); (case' h1 => walk_at "g"))
  | ((with_reducible apply f_slL); (case' h1 => walk_at "g"))
  | ((with_reducible apply f_cat); (case' h1 => walk_at "g"); (case' h2 => walk_at "g"); (case' hz => walk_at "sz"))
  | with_reducible apply f_makeE
  | with_reducible apply s_iR3
  | ((with_reducible apply s_iR3d); (case' h1 => omega); (case' hc => rfl); intro J w)
  | ((with_reducible apply s_wipe); (case' h1 => first | exact rfl | exact wipe1))
  | with_reducible apply s_revE
  | ((with_reducible apply s_rev); (case' h1 => walk_at "g"))
  | with_reducible apply f_methE
  | ((with_reducible apply s_lenD); (case' h1 => walk_at "g"))
  | ((with_reducible apply f_meth); (case' h1 => walk_at "g"); (case' h2 => exact rfl))
  | with_reducible apply s_iEL
  | ((with_reducible apply s_iEL2); (case' h1 => walk_at "g"); intro J w)
  | with_reducible apply s_iZ
  | with_reducible apply s_iI
  | ((with_reducible apply s_iI2); (case' h1 => walk_at "g"); intro J w)
  | ((with_reducible apply f_rep1); (case' h1 => walk_at "g"); (case' hk => (constructor <;> omega)))
  | with_reducible apply f_gSub
  | ((with_reducible apply f_disp F); clear F; intro p H1 F)
  | with_reducible apply f_pairC
  | with_reducible apply f_pairN
  | ((with_reducible apply f_dispQ F); (case' R => walk_at "re"); (case' e => ((simp only [List.map_cons, List.map_nil, cvK]); exact rfl)); (case' e2 => exact rfl); (case' hl => exact Nat.le_of_ble_eq_true rfl); (case' hm => first | with_reducible apply hMk | exact rfl); clear F; intro H1 F)
  | ((with_reducible apply f_dnew F); clear F; intro p H1 F)
  | ((with_reducible apply f_unl F); (case' R => walk_at "re"); clear F; intro H1 F)
  | with_reducible apply f_rSetD
  | with_reducible apply f_dnewK
  | with_reducible apply f_sDNi
  | with_reducible apply f_finS
  | with_reducible apply f_finB
  | with_reducible apply f_finB'
  | with_reducible apply f_sDIn
  | ((with_reducible apply s_catS); (case' h1 => walk_at "sl"); (case' h2 => walk_at "sl"); (case' hn => exact Nat.le_of_ble_eq_true rfl))
  | ((with_reducible apply s_logA); (case' hl => with_reducible assumption))
  | with_reducible apply s_same
  | with_reducible apply s_js
  | with_reducible apply s_js0
  | ((with_reducible apply s_js2); (case' hl => walk_at "sz"))
  | with_reducible apply s_fm
  | ((with_reducible apply s_fmS); (case' hl => walk_at "sz"))
  | ((with_reducible apply s_fmI); (case' hl => with_reducible assumption))
  | with_reducible apply f_dget2E
  | with_reducible apply s_sameE
  | with_reducible apply s_chain3
  | with_reducible apply s_notN
  | with_reducible apply s_items
  | with_reducible apply s_bb1
  | with_reducible apply s_bb2
  | walk_at "f2")
local macro_rules | `(tactic| walk_at "f2") => `(tactic| first
  | with_reducible apply s_seq
  | with_reducible apply s_gCons
  | with_reducible apply s_gNil
  | ((with_reducible apply s_gTup); (case' h1 => walk_at "g"); (case' h2 => exact rfl))
  | with_reducible apply s_asg
  | ((with_reducible apply s_I); (case' hc => first | exact ⟨by omega, by omega⟩ | exact .inl ⟨by omega, by omega⟩ | exact .inr ⟨by omega, by omega⟩ | (show (_ : Int) < _; omega) | (show (_ : Int) ≠ _; omega)))
  | with_reducible apply s_mm
  | ((with_reducible apply s_lenKL); (case' h1 => walk_at "g"))
  | ((with_reducible apply s_lenKT); (case' h1 => walk_at "g"))
  | ((with_reducible apply s_tupKT); (case' h1 => walk_at "g"))
  | with_reducible apply s_iE
  | ((with_reducible apply s_iE2); (case' h1 => walk_at "g"); intro J w)
  | with_reducible apply s_ifTT
  | with_reducible apply s_ifFF
  | with_reducible apply s_rollE
  | ((with_reducible apply s_roll); (case' h1 => walk_at "g"); (case' h2 => exact ⟨by omega, by omega⟩); intro k k0 k1)
  | with_reducible apply s_gSub
  | with_reducible apply s_ab
  | with_reducible apply s_in1
  | with_reducible apply s_in2
  | ((with_reducible apply s_lsL); (case' h1 => walk_at "g"))
  | ((with_reducible apply s_lsT); (case' h1 => walk_at "g"))
  | ((with_reducible apply s_tyL); (case' h1 => walk_at "g"))
  | with_reducible apply s_for
  | with_reducible apply s_lc
  | with_reducible apply s_dc
  | with_reducible apply s_gn
  | with_reducible apply s_yes
  | with_reducible apply s_iL
  | with_reducible apply s_iT
  | with_reducible apply s_iR1
  | with_reducible apply s_iR2
  | with_reducible apply s_iK
  | ((with_reducible apply s_iL2); (case' h1 => walk_at "g"); intro J w)
  | ((with_reducible apply s_iT2); (case' h1 => walk_at "g"); intro J w)
  | ((with_reducible apply s_iR12); (case' h1 => omega); intro J w)
  | ((with_reducible apply s_iR22); (case' h1 => omega); intro J w)
  | ((with_reducible apply s_iK2); (case' h1 => walk_at "g"); intro J w)
  | ((with_reducible apply s_gNn); (case' e => walk_at "st"))
  | ((with_reducible apply s_var); (case' h1 => first | exact rfl | with_reducible assumption))
  | with_reducible apply s_c
  | with_reducible apply s_op
  | with_reducible apply s_cons
  | with_reducible apply s_nil
  | with_reducible apply s_ret
  | with_reducible apply s_ifS
  | with_reducible apply s_test
  | with_reducible apply s_B
  | with_reducible apply s_exbl
  | with_reducible apply s_exint
  | with_reducible apply s_I0
  | ((with_reducible apply s_Eq); (case' hs => exact rfl))
  | ((with_reducible apply s_Ne); (case' hs => exact rfl))
  | with_reducible apply s_un
  | with_reducible apply s_U
  | with_reducible apply s_cb
  | with_reducible apply s_call
  | with_reducible apply s_next
  | with_reducible apply s_drop
  | with_reducible apply s_break
  | with_reducible apply s_cont
  | with_reducible apply s_retN
  | with_reducible apply s_par
  | with_reducible apply s_par2
  | with_reducible apply s_par3
  | with_reducible apply s_par33
  | ((with_reducible apply s_aug); (case' h1 => exact rfl))
  | with_reducible apply s_and
  | with_reducible apply s_or
  | with_reducible apply s_not
  | with_reducible apply s_andV
  | with_reducible apply s_orV
  | with_reducible apply s_notV
  | with_reducible apply s_ifE
  | with_reducible apply s_isN
  | with_reducible apply s_chain
  | with_reducible apply s_sl
  | with_reducible apply s_noP
  | with_reducible apply s_part
  | with_reducible apply s_bm
  | with_reducible apply s_bm0
  | with_reducible apply s_fldE
  | ((with_reducible apply s_fld); (case' h1 => walk_at "g"); (case' h2 => assumption); (case' h3 => assumption); (case' h4 => exact rfl))
  | ((with_reducible apply s_ixL); (case' h1 => walk_at "g"); (case' h2 => first | with_reducible assumption | walk_at "ix"))
  | ((with_reducible apply s_ixT); (case' h1 => walk_at "g"); (case' h2 => first | with_reducible assumption | walk_at "ix"))
  | ((with_reducible apply s_lenL); (case' h1 => walk_at "g")))
local macro_rules | `(tactic| walk_at "ff") => `(tactic| repeat walk_at "f1")
local macro_rules | `(tactic| walk_at "k0") => `(tactic| try dsimp only [L2.cxOf, Cx.nox, Cx.wish, Cx.blk, genCx])
set_option hygiene true

abbrev s_law : Stmt := topS 18
abbrev n_law : List Str := ["script", "dice", "names", "rows", "train", "name", "step", "one", "other", "teeth", "more", "ratio", "good", "groups", "table", "turns", "wholes", "row", "wheels", "wish", "best", "far", "here", "nearer", "bad", "k", "many", "f"]
theorem sc_law : FnScope n_law ["script"] (defScope s_law) := ⟨rfl, rfl, rfl, by decide +kernel, rfl, by decide +kernel, by decide +kernel⟩

def lamE (i : Nat) : Expr := match (defBody s_law).getD 5 (.Pass ⟨0, 0, 0, 0⟩) with
  | .Assign _ (.List es _) _ => es.getD i (.Constant .none 0 ⟨0, 0, 0, 0⟩)
  | _ => .Constant .none 0 ⟨0, 0, 0, 0⟩
def lamI0 : Expr := (exA 0 (exA 0 (exA 0 (stT (stB 4 (stB 2 ((defBody s_law).getD 0 (.Pass ⟨0, 0, 0, 0⟩))))))))
def lamI1 : Expr := (exA 0 (exA 0 (exA 1 (stT ((defBody s_law).getD 7 (.Pass ⟨0, 0, 0, 0⟩))))))

abbrev mkD (i : Nat) (t : XK → TE) : LamD := ⟨lamP (lamE i), lamB (lamE i), lamS (lamE i), t⟩
abbrev mkI0 (t : XK → TE) : LamD := ⟨lamP lamI0, lamB lamI0, lamS lamI0, t⟩
abbrev tI0 [Lw] (K : PySem.W.Frag) : XK → TE := fun E => (tMeth (He.ga K "Train") "mesh" (spMesh K) [] E (tVar 4) (tCons (tVar 7) (tCons (tVar 9) (tCons (tVar 8) (tCons (tVar 10) tNil)))))
abbrev mkI1 (t : XK → TE) : LamD := ⟨lamP lamI1, lamB lamI1, lamS lamI1, t⟩
abbrev tI1 [Lw] (K : PySem.W.Frag) : XK → TE := fun E => (tMeth (He.ga K "Train") "add_shaft" (spShaft K) [] E (tVar 4) (tCons (tC (.str "y")) tNil))
abbrev m0 : Ms := ⟨"a", 40, "b", 10⟩
def φ0 (n : Str) : Rat := if n = "b" then -4 else 1
theorem ab_ne : ("a" : Str) ≠ "b" := by decide +kernel
theorem φ0_a : φ0 "a" = 1 := if_neg ab_ne
theorem φ0_b : φ0 "b" = -4 := if_pos rfl
theorem pot0 : Pot φ0 [m0] := by
  refine ⟨fun n => ?_, fun m hm => ?_, fun m hm => ?_⟩
  · unfold φ0
    split <;> decide
  · rw [List.mem_singleton.mp hm]
    show φ0 "b" * _ = -(φ0 "a" * _)
    rw [φ0_a, φ0_b]
    decide +kernel
  · rw [List.mem_singleton.mp hm]
    decide
theorem ed0 : Edge [m0] "a" "b" 40 10 := Edge.one (m := m0) (List.mem_singleton_self _)
theorem co0 {s n : Str} (hs : s = "a" ∨ s = "b") (h : Conn [m0] s n) : n = "a" ∨ n = "b" := by
  cases h with
  | refl => exact hs
  | step _ e =>
    obtain ⟨m, hm, ⟨_, _, e, _⟩ | ⟨_, _, e, _⟩⟩ := e
    · rw [← e, List.mem_singleton.mp hm]
      exact .inr rfl
    · rw [← e, List.mem_singleton.mp hm]
      exact .inl rfl
theorem bd0 {s : Str} (hs : s = "a" ∨ s = "b") : Bd [m0] s 40 2 := ⟨fun m hm => by rw [List.mem_singleton.mp hm]; decide, fun l h1 h2 => nodup_le (m := [("a" : Str), "b"]) h1 fun x hx => by
  rcases co0 hs (h2 x hx) with rfl | rfl
  · exact List.mem_cons_self
  · exact List.mem_cons_of_mem _ (List.mem_singleton_self _), by decide, by decide, by decide⟩
theorem MAt.one {H : Hp} {t : Addr} {r : Ms} (h : H t = some (msO r)) : MAt H [t] [r] := ⟨rfl, fun i a x e1 e2 => by
  match i, e1, e2 with
  | 0, e1, e2 =>
    cases e1
    cases e2
    exact h
  | i + 1, e1, e2 => simp at e1⟩
section
variable [Lw] {P : Program} {w : World} {K : PySem.W.Frag} {mg : Str → Option Value} {base : Heap} {fn : List He.DefD} {tf : List He.Defn}
abbrev lawX (P : Program) (w : World) (K : PySem.W.Frag) (mg : Str → Option Value) (base : Heap) (A : Around) (outer : List Env) (s : Shared) (H : Hp) (E : XK) : Cx := (cxOf (CX P w) P w K mg base n_law "law" (defScope s_law) (He.fAd K ("law", none)) (.ref (He.codeOf K ("law", none))) A outer s H E).nox
theorem Fp.atBx {PL : Addr} {B H : Hp} {S : List Ck} (bx : Bx PL B H) (G : Fp B S [] B) : Fp H S [] H := ⟨G.nd, fun q hq => ⟨bx.x _ _ (G.at q hq).1 (G.at q hq).2, (G.at q hq).2⟩, fun q h => by simp [fl] at h, fun b o _ h _ => h, fun _ _ h _ => h, fun _ h => h, fun _ _ h => h, fun _ h => h⟩
structure BadO (K : PySem.W.Frag) (B : Hp) (x dx l1 l2 ta : Addr) (names : List Str) : Prop where
  tt : B ta = some (msO m0)
  F : Fp B [ck x (trO K dx l1 l2), ck l1 (.lst (names.map V.str)), ck l2 (.lst (([ta] : List Addr).map V.ref))] [] B
  na : ("a" : Str) ∈ names
  nb : ("b" : Str) ∈ names
  nz : ("z" : Str) ∉ names
  nl : names.length = 30
  tx : ∀ n ∈ names, txOk n = true
def BadPre (K : PySem.W.Frag) (B : Hp) (σ : L2.St) : Prop := ∃ (x dx l1 l2 ta : Addr) (names : List Str), σ[4]? = some (some (V.ref x)) ∧ BadO K B x dx l1 l2 ta names
abbrev LamT (P : Program) (w : World) (K : PySem.W.Frag) (mg : Str → Option Value) (base : Heap) (i : Nat) (A : Around) (outer : List Env) (s : Shared) (H : Hp) (E : XK) : Prop :=
  ∃ t, LamOk (lawX P w K mg base A outer s H E) 10 (mkD i t) ∧ ∀ B σ PL, BadPre K B σ → LamBad K (He.ga K "GearError") PL (mkD i t) σ B
variable {f1 f2 f3 f4 f5 : Addr} {fd1 fd2 fd3 fd4 fd5 : FuncData} (T : Sy fa1 fn tf K mg base) (c_Train_add_shaft : Mtd P w K mg base (CX P w) 1 (He.ga K "Train") "add_shaft" f1 fd1 ["self", "name"] (spShaft K)) (c_Train_mesh : Mtd P w K mg base (CX P w) 4 (He.ga K "Train") "mesh" f2 fd2 ["self", "one", "teeth", "other", "more"] (spMesh K)) (c_Train_ratios : Mtd P w K mg base (CX P w) 3 (He.ga K "Train") "ratios" f3 fd3 ["self", "start"] (spRatios K))
  (c_Train_speeds : Mtd P w K mg base (CX P w) 4 (He.ga K "Train") "speeds" f4 fd4 ["self", "start", "turns"] (spSpeeds K)) (c_best_pair : Cal P w K mg base (CX P w) 2 "best_pair" f5 fd5 ["wish", "wheels"] (spPair K)) (A : Around) (outer : List Env) (s : Shared) (H : Hp) (E : XK)
include T c_Train_mesh
theorem lamI0_ok : LamOk (lawX P w K mg base A outer s H E) 10 (mkI0 (tI0 K)) := by
  refine ⟨lamS_by (sc := defScope s_law) (scope := lamS lamI0) (by decide +kernel), fun _ _ _ _ _ => by rfl, fun A outer s H E f c' hr => ?_⟩
  show PE _ (lamB lamI0) (tMeth (He.ga K "Train") "mesh" (spMesh K) [] E (tVar 4) (tCons (tVar 7) (tCons (tVar 9) (tCons (tVar 8) (tCons (tVar 10) tNil)))))
  exact (pe_mtd (pv 4) c_Train_mesh (hr.mono (by first | decide | omega)) (passes_call (takes_of rfl rfl rfl rfl) fun _ _ _ _ h => h) (pa_cons (pv 7) (pa_cons (pv 9) (pa_cons (pv 8) (pa_cons (pv 10) pa_nil)))))
include c_Train_add_shaft
theorem lamI1_ok : LamOk (lawX P w K mg base A outer s H E) 10 (mkI1 (tI1 K)) := by
  refine ⟨lamS_by (sc := defScope s_law) (scope := lamS lamI1) (by decide +kernel), fun _ _ _ _ _ => by rfl, fun A outer s H E f c' hr => ?_⟩
  show PE _ (lamB lamI1) (tMeth (He.ga K "Train") "add_shaft" (spShaft K) [] E (tVar 4) (tCons (tC (.str "y")) tNil))
  exact (pe_mtd (pv 4) c_Train_add_shaft (hr.mono (by first | decide | omega)) (passes_call (takes_of rfl rfl rfl rfl) fun _ _ _ _ h => h) (pa_cons pe_str pa_nil))
include c_Train_ratios c_Train_speeds c_best_pair
theorem lam0 : LamT P w K mg base 0 A outer s H E := by
  refine ⟨fun E => (tMeth (He.ga K "Train") "add_shaft" (spShaft K) [] E (tVar 4) (tCons (tC (.str "a")) tNil)), ⟨lamS_by (sc := defScope s_law) (scope := lamS (lamE 0)) (by decide +kernel), fun _ _ _ _ _ => by rfl, fun A outer s H E f c' hr => ?_⟩, ?_⟩
  · show PE _ (lamB (lamE 0)) (tMeth (He.ga K "Train") "add_shaft" (spShaft K) [] E (tVar 4) (tCons (tC (.str "a")) tNil))
    exact (pe_mtd (pv 4) c_Train_add_shaft (hr.mono (by first | decide | omega)) (passes_call (takes_of rfl rfl rfl rfl) fun _ _ _ _ h => h) (pa_cons pe_str pa_nil))
  · intro B σ PL hp H0 E Q' bx hE
    have xm := T.exm "GearError" "GearError" true
    obtain ⟨x, dx, l1, l2, ta, names, hs1, O⟩ := hp
    have G0 := Fp.atBx bx O.F
    have hta := bx.x _ _ O.tt rfl
    have F := G0
    show (tMeth (He.ga K "Train") "add_shaft" (spShaft K) [] E (tVar 4) (tCons (tC (.str "a")) tNil)) σ H0 Q'
    walk_at "ff"
    exact ⟨x, dx, l1, l2, names, "a", rfl, F.pq (by walk_at "pq"), by have := O.nl; omega, fun _ N H2 G2 => hE _ _ _ _ xm ((F.call_ G2).back G0), fun z => absurd (.inr (.inl O.na)) z⟩
theorem lam1 : LamT P w K mg base 1 A outer s H E := by
  refine ⟨fun E => (tMeth (He.ga K "Train") "add_shaft" (spShaft K) [] E (tVar 4) (tCons (tC (.str "")) tNil)), ⟨lamS_by (sc := defScope s_law) (scope := lamS (lamE 1)) (by decide +kernel), fun _ _ _ _ _ => by rfl, fun A outer s H E f c' hr => ?_⟩, ?_⟩
  · show PE _ (lamB (lamE 1)) (tMeth (He.ga K "Train") "add_shaft" (spShaft K) [] E (tVar 4) (tCons (tC (.str "")) tNil))
    exact (pe_mtd (pv 4) c_Train_add_shaft (hr.mono (by first | decide | omega)) (passes_call (takes_of rfl rfl rfl rfl) fun _ _ _ _ h => h) (pa_cons pe_str pa_nil))
  · intro B σ PL hp H0 E Q' bx hE
    have xm := T.exm "GearError" "GearError" true
    obtain ⟨x, dx, l1, l2, ta, names, hs1, O⟩ := hp
    have G0 := Fp.atBx bx O.F
    have hta := bx.x _ _ O.tt rfl
    have F := G0
    show (tMeth (He.ga K "Train") "add_shaft" (spShaft K) [] E (tVar 4) (tCons (tC (.str "")) tNil)) σ H0 Q'
    walk_at "ff"
    exact ⟨x, dx, l1, l2, names, "", rfl, F.pq (by walk_at "pq"), by have := O.nl; omega, fun _ N H2 G2 => hE _ _ _ _ xm ((F.call_ G2).back G0), fun z => absurd (.inl rfl) z⟩
theorem lam2 : LamT P w K mg base 2 A outer s H E := by
  refine ⟨fun E => (tMeth (He.ga K "Train") "mesh" (spMesh K) [] E (tVar 4) (tCons (tC (.str "a")) (tCons (tC (.int 40)) (tCons (tC (.str "a")) (tCons (tC (.int 10)) tNil))))), ⟨lamS_by (sc := defScope s_law) (scope := lamS (lamE 2)) (by decide +kernel), fun _ _ _ _ _ => by rfl, fun A outer s H E f c' hr => ?_⟩, ?_⟩
  · show PE _ (lamB (lamE 2)) (tMeth (He.ga K "Train") "mesh" (spMesh K) [] E (tVar 4) (tCons (tC (.str "a")) (tCons (tC (.int 40)) (tCons (tC (.str "a")) (tCons (tC (.int 10)) tNil)))))
    exact (pe_mtd (pv 4) c_Train_mesh (hr.mono (by first | decide | omega)) (passes_call (takes_of rfl rfl rfl rfl) fun _ _ _ _ h => h) (pa_cons pe_str (pa_cons pe_int (pa_cons pe_str (pa_cons pe_int pa_nil)))))
  · intro B σ PL hp H0 E Q' bx hE
    have xm := T.exm "GearError" "GearError" true
    obtain ⟨x, dx, l1, l2, ta, names, hs1, O⟩ := hp
    have G0 := Fp.atBx bx O.F
    have hta := bx.x _ _ O.tt rfl
    have F := G0
    show (tMeth (He.ga K "Train") "mesh" (spMesh K) [] E (tVar 4) (tCons (tC (.str "a")) (tCons (tC (.int 40)) (tCons (tC (.str "a")) (tCons (tC (.int 10)) tNil))))) σ H0 Q'
    walk_at "ff"
    exact ⟨x, dx, l1, l2, names, [ta], [m0], φ0, 40, 2, "a", "a", 40, 10, rfl, F.pq (by walk_at "pq"), MAt.one hta, by have := O.nl; omega, by decide, pot0, O.tx, fun m hm => by rw [List.mem_singleton.mp hm]; exact ⟨O.na, O.nb⟩, fun _ => bd0 (.inl rfl), fun _ N H2 G2 => hE _ _ _ _ xm ((F.call_ G2).back G0), fun z => absurd (.inl (.inr (.inr rfl))) z⟩
theorem lam3 : LamT P w K mg base 3 A outer s H E := by
  refine ⟨fun E => (tMeth (He.ga K "Train") "mesh" (spMesh K) [] E (tVar 4) (tCons (tC (.str "a")) (tCons (tC (.int 401)) (tCons (tC (.str "b")) (tCons (tC (.int 10)) tNil))))), ⟨lamS_by (sc := defScope s_law) (scope := lamS (lamE 3)) (by decide +kernel), fun _ _ _ _ _ => by rfl, fun A outer s H E f c' hr => ?_⟩, ?_⟩
  · show PE _ (lamB (lamE 3)) (tMeth (He.ga K "Train") "mesh" (spMesh K) [] E (tVar 4) (tCons (tC (.str "a")) (tCons (tC (.int 401)) (tCons (tC (.str "b")) (tCons (tC (.int 10)) tNil)))))
    exact (pe_mtd (pv 4) c_Train_mesh (hr.mono (by first | decide | omega)) (passes_call (takes_of rfl rfl rfl rfl) fun _ _ _ _ h => h) (pa_cons pe_str (pa_cons pe_int (pa_cons pe_str (pa_cons pe_int pa_nil)))))
  · intro B σ PL hp H0 E Q' bx hE
    have xm := T.exm "GearError" "GearError" true
    obtain ⟨x, dx, l1, l2, ta, names, hs1, O⟩ := hp
    have G0 := Fp.atBx bx O.F
    have hta := bx.x _ _ O.tt rfl
    have F := G0
    show (tMeth (He.ga K "Train") "mesh" (spMesh K) [] E (tVar 4) (tCons (tC (.str "a")) (tCons (tC (.int 401)) (tCons (tC (.str "b")) (tCons (tC (.int 10)) tNil))))) σ H0 Q'
    walk_at "ff"
    exact ⟨x, dx, l1, l2, names, [ta], [m0], φ0, 40, 2, "a", "b", 401, 10, rfl, F.pq (by walk_at "pq"), MAt.one hta, by have := O.nl; omega, by decide, pot0, O.tx, fun m hm => by rw [List.mem_singleton.mp hm]; exact ⟨O.na, O.nb⟩, fun _ => bd0 (.inl rfl), fun _ N H2 G2 => hE _ _ _ _ xm ((F.call_ G2).back G0), fun z => absurd (.inr (.inl (.inl (by decide)))) z⟩
theorem lam4 : LamT P w K mg base 4 A outer s H E := by
  refine ⟨fun E => (tMeth (He.ga K "Train") "mesh" (spMesh K) [] E (tVar 4) (tCons (tC (.str "a")) (tCons (tC (.int 40)) (tCons (tC (.str "b")) (tCons (tC (.int 11)) tNil))))), ⟨lamS_by (sc := defScope s_law) (scope := lamS (lamE 4)) (by decide +kernel), fun _ _ _ _ _ => by rfl, fun A outer s H E f c' hr => ?_⟩, ?_⟩
  · show PE _ (lamB (lamE 4)) (tMeth (He.ga K "Train") "mesh" (spMesh K) [] E (tVar 4) (tCons (tC (.str "a")) (tCons (tC (.int 40)) (tCons (tC (.str "b")) (tCons (tC (.int 11)) tNil)))))
    exact (pe_mtd (pv 4) c_Train_mesh (hr.mono (by first | decide | omega)) (passes_call (takes_of rfl rfl rfl rfl) fun _ _ _ _ h => h) (pa_cons pe_str (pa_cons pe_int (pa_cons pe_str (pa_cons pe_int pa_nil)))))
  · intro B σ PL hp H0 E Q' bx hE
    have xm := T.exm "GearError" "GearError" true
    obtain ⟨x, dx, l1, l2, ta, names, hs1, O⟩ := hp
    have G0 := Fp.atBx bx O.F
    have hta := bx.x _ _ O.tt rfl
    have F := G0
    show (tMeth (He.ga K "Train") "mesh" (spMesh K) [] E (tVar 4) (tCons (tC (.str "a")) (tCons (tC (.int 40)) (tCons (tC (.str "b")) (tCons (tC (.int 11)) tNil))))) σ H0 Q'
    walk_at "ff"
    exact ⟨x, dx, l1, l2, names, [ta], [m0], φ0, 40, 2, "a", "b", 40, 11, rfl, F.pq (by walk_at "pq"), MAt.one hta, by have := O.nl; omega, by decide, pot0, O.tx, fun m hm => by rw [List.mem_singleton.mp hm]; exact ⟨O.na, O.nb⟩, fun _ => bd0 (.inl rfl), fun _ N H2 G2 => hE _ _ _ _ xm ((F.call_ G2).back G0), fun z => absurd (.inr (.inr ⟨Conn.step .refl ed0, by rw [φ0_a, φ0_b]; decide +kernel⟩)) z⟩
theorem lam5 : LamT P w K mg base 5 A outer s H E := by
  refine ⟨fun E => (tMeth (He.ga K "Train") "ratios" (spRatios K) [] E (tVar 4) (tCons (tC (.str "z")) tNil)), ⟨lamS_by (sc := defScope s_law) (scope := lamS (lamE 5)) (by decide +kernel), fun _ _ _ _ _ => by rfl, fun A outer s H E f c' hr => ?_⟩, ?_⟩
  · show PE _ (lamB (lamE 5)) (tMeth (He.ga K "Train") "ratios" (spRatios K) [] E (tVar 4) (tCons (tC (.str "z")) tNil))
    exact (pe_mtd (pv 4) c_Train_ratios (hr.mono (by first | decide | omega)) (passes_call (takes_of rfl rfl rfl rfl) fun _ _ _ _ h => h) (pa_cons pe_str pa_nil))
  · intro B σ PL hp H0 E Q' bx hE
    have xm := T.exm "GearError" "GearError" true
    obtain ⟨x, dx, l1, l2, ta, names, hs1, O⟩ := hp
    have G0 := Fp.atBx bx O.F
    have hta := bx.x _ _ O.tt rfl
    have F := G0
    show (tMeth (He.ga K "Train") "ratios" (spRatios K) [] E (tVar 4) (tCons (tC (.str "z")) tNil)) σ H0 Q'
    walk_at "ff"
    exact ⟨x, dx, l1, l2, names, "z", [ta], [m0], φ0, 40, 2, rfl, by walk_at "g", by walk_at "g", by walk_at "g", MAt.one hta, by have := O.nl; omega, pot0, O.tx, fun m hm => by rw [List.mem_singleton.mp hm]; exact ⟨O.na, O.nb⟩, fun _ N H2 G2 => hE _ _ _ _ xm ((F.call_ G2).back G0), fun z => absurd z O.nz⟩
theorem lam6 : LamT P w K mg base 6 A outer s H E := by
  refine ⟨fun E => (tMeth (He.ga K "Train") "speeds" (spSpeeds K) [] E (tVar 4) (tCons (tC (.str "z")) (tCons (tTup (tCons (tC (.int 1)) (tCons (tC (.int 1)) tNil))) tNil))), ⟨lamS_by (sc := defScope s_law) (scope := lamS (lamE 6)) (by decide +kernel), fun _ _ _ _ _ => by rfl, fun A outer s H E f c' hr => ?_⟩, ?_⟩
  · show PE _ (lamB (lamE 6)) (tMeth (He.ga K "Train") "speeds" (spSpeeds K) [] E (tVar 4) (tCons (tC (.str "z")) (tCons (tTup (tCons (tC (.int 1)) (tCons (tC (.int 1)) tNil))) tNil)))
    exact (pe_mtd (pv 4) c_Train_speeds (hr.mono (by first | decide | omega)) (passes_call (takes_of rfl rfl rfl rfl) fun _ _ _ _ h => h) (pa_cons pe_str (pa_cons (pe_tup (pa_cons pe_int (pa_cons pe_int pa_nil))) pa_nil)))
  · intro B σ PL hp H0 E Q' bx hE
    have xm := T.exm "GearError" "GearError" true
    obtain ⟨x, dx, l1, l2, ta, names, hs1, O⟩ := hp
    have G0 := Fp.atBx bx O.F
    have hta := bx.x _ _ O.tt rfl
    have F := G0
    show (tMeth (He.ga K "Train") "speeds" (spSpeeds K) [] E (tVar 4) (tCons (tC (.str "z")) (tCons (tTup (tCons (tC (.int 1)) (tCons (tC (.int 1)) tNil))) tNil))) σ H0 Q'
    walk_at "ff"
    exact ⟨x, dx, l1, l2, _, names, "z", [ta], [m0], φ0, 40, 2, 1, 1, rfl, by walk_at "g", by walk_at "g", by walk_at "g", (MAt.one hta).fp F, by have := O.nl; omega, pot0, O.tx, fun m hm => by rw [List.mem_singleton.mp hm]; exact ⟨O.na, O.nb⟩, by walk_at "g", by decide, fun _ N H2 G2 => hE _ _ _ _ xm ((F.call_ G2).back G0), fun z => absurd z O.nz⟩
theorem lam7 : LamT P w K mg base 7 A outer s H E := by
  refine ⟨fun E => (tCall (spPair K) [] E (tCons (tTup (tCons (tC (.int 0)) (tCons (tC (.int 1)) tNil))) (tCons (tLst (tCons (tC (.int 5)) tNil)) tNil))), ⟨lamS_by (sc := defScope s_law) (scope := lamS (lamE 7)) (by decide +kernel), fun _ _ _ _ _ => by rfl, fun A outer s H E f c' hr => ?_⟩, ?_⟩
  · show PE _ (lamB (lamE 7)) (tCall (spPair K) [] E (tCons (tTup (tCons (tC (.int 0)) (tCons (tC (.int 1)) tNil))) (tCons (tLst (tCons (tC (.int 5)) tNil)) tNil)))
    exact (pe_cal c_best_pair (hr.mono (by first | decide | omega)) rfl (passes_call (takes_of rfl rfl rfl rfl) fun _ _ _ _ h => h) (pa_cons (pe_tup (pa_cons pe_int (pa_cons pe_int pa_nil))) (pa_cons (pe_lst (pa_cons pe_int pa_nil)) pa_nil)))
  · intro B σ PL hp H0 E Q' bx hE
    have xm := T.exm "GearError" "GearError" true
    obtain ⟨x, dx, l1, l2, ta, names, hs1, O⟩ := hp
    have G0 := Fp.atBx bx O.F
    have hta := bx.x _ _ O.tt rfl
    have F := G0
    show (tCall (spPair K) [] E (tCons (tTup (tCons (tC (.int 0)) (tCons (tC (.int 1)) tNil))) (tCons (tLst (tCons (tC (.int 5)) tNil)) tNil))) σ H0 Q'
    walk_at "ff"
    exact ⟨_, _, 0, 1, [5], rfl, SqT.of (F.getN (.there .here)), F.getN .here, by decide, fun _ N H2 G2 => hE _ _ _ _ xm ((F.call_ G2).back G0), fun z => absurd (.inr (by decide)) z⟩
theorem lam8 : LamT P w K mg base 8 A outer s H E := by
  refine ⟨fun E => (tCall (spPair K) [] E (tCons (tTup (tCons (tC (.int 1)) (tCons (tC (.int 1)) tNil))) (tCons (tLst tNil) tNil))), ⟨lamS_by (sc := defScope s_law) (scope := lamS (lamE 8)) (by decide +kernel), fun _ _ _ _ _ => by rfl, fun A outer s H E f c' hr => ?_⟩, ?_⟩
  · show PE _ (lamB (lamE 8)) (tCall (spPair K) [] E (tCons (tTup (tCons (tC (.int 1)) (tCons (tC (.int 1)) tNil))) (tCons (tLst tNil) tNil)))
    exact (pe_cal c_best_pair (hr.mono (by first | decide | omega)) rfl (passes_call (takes_of rfl rfl rfl rfl) fun _ _ _ _ h => h) (pa_cons (pe_tup (pa_cons pe_int (pa_cons pe_int pa_nil))) (pa_cons (pe_lst pa_nil) pa_nil)))
  · intro B σ PL hp H0 E Q' bx hE
    have xm := T.exm "GearError" "GearError" true
    obtain ⟨x, dx, l1, l2, ta, names, hs1, O⟩ := hp
    have G0 := Fp.atBx bx O.F
    have hta := bx.x _ _ O.tt rfl
    have F := G0
    show (tCall (spPair K) [] E (tCons (tTup (tCons (tC (.int 1)) (tCons (tC (.int 1)) tNil))) (tCons (tLst tNil) tNil))) σ H0 Q'
    walk_at "ff"
    exact ⟨_, _, 1, 1, [], rfl, SqT.of (F.getN (.there .here)), F.getN .here, by decide, fun _ N H2 G2 => hE _ _ _ _ xm ((F.call_ G2).back G0), fun z => absurd (.inl rfl) z⟩
end
end K1

set_option Elab.async false
set_option linter.all false
set_option maxRecDepth 100000
set_option maxHeartbeats 2000000
set_option pp.maxSteps 1500
namespace K1
open PySem PySem.Spec PyProof.Rows L2 Mi LamX
set_option hygiene false
local macro_rules | `(tactic| walk_at "lk") => `(tactic| first | (with_reducible assumption) | (with_reducible apply get_set_self; walk_at "lk") | ((with_reducible apply get_set_ne); (case' hne => with_reducible assumption); walk_at "lk"))
local macro_rules | `(tactic| walk_at "at") => `(tactic| first | (with_reducible exact At.here) | (with_reducible apply At.at; (case' h1 => assumption); walk_at "lk") | (with_reducible apply At.there; walk_at "at"))
local macro_rules | `(tactic| walk_at "rp") => `(tactic| first | (with_reducible exact Rp.here) | (with_reducible apply Rp.set; (case' h1 => assumption); walk_at "lk") | (with_reducible apply Rp.at; (case' h1 => assumption); walk_at "lk") | (with_reducible apply Rp.there; walk_at "rp"))
local macro_rules | `(tactic| walk_at "re") => `(tactic| first | (with_reducible apply Re.n; walk_at "rp") | (with_reducible apply Re.s; walk_at "rp"))
local macro_rules | `(tactic| walk_at "dl") => `(tactic| first | (with_reducible exact Dl.here) | (with_reducible apply Dl.there; walk_at "dl"))
local macro_rules | `(tactic| walk_at "pq") => `(tactic| first | (with_reducible exact Pq.nil) | ((with_reducible apply Pq.n); (case' d => walk_at "dl"); walk_at "pq") | ((with_reducible apply Pq.s); (case' d => walk_at "dl"); walk_at "pq"))
local macro_rules | `(tactic| walk_at "rc") => `(tactic| first | (with_reducible exact Rc.here) | (with_reducible apply Rc.there; walk_at "rc"))
local macro_rules | `(tactic| walk_at "rs") => `(tactic| first | (with_reducible exact Rs.nil) | ((with_reducible apply Rs.on); (case' r => walk_at "rc"); (case' hl => first | exact rfl | ((try simp only [List.length_map, List.length_set]); with_reducible assumption) | (simp; done)); walk_at "rs") | ((with_reducible apply Rs.os); (case' r => walk_at "rc"); (case' hl => first | exact rfl | ((try simp only [List.length_map, List.length_set]); with_reducible assumption) | (simp; done)); walk_at "rs"))
local macro_rules | `(tactic| walk_at "ix") => `(tactic| first | with_reducible exact atI_nat (by assumption) | with_reducible exact atI_nat1 (by assumption) | with_reducible exact atI0 | with_reducible exact atI1 | with_reducible exact atI2 | with_reducible exact atI3 | with_reducible exact atI4)
local macro_rules | `(tactic| walk_at "sl") => `(tactic| first | (with_reducible assumption) | ((with_reducible apply len_app); (case' h1 => walk_at "sl"); (case' h2 => walk_at "sl")) | (with_reducible exact Nat.le_refl _))
local macro_rules | `(tactic| walk_at "sz") => `(tactic| first | with_reducible assumption | ((with_reducible apply len_leB); (case' h => walk_at "sl"); (case' hn => exact Nat.le_of_ble_eq_true rfl)) | exact of_decide_eq_true rfl | (exact len_le (by (try simp only [List.length_append, List.length_cons, List.length_nil, List.length_map, List.length_set, List.length_reverse]); omega)) | (exact len_lt (by (try simp only [List.length_append, List.length_cons, List.length_nil, List.length_map, List.length_set, List.length_reverse]); omega)))
local macro_rules | `(tactic| walk_at "len") => `(tactic| ((try simp only [List.length_append, List.length_cons, List.length_nil, List.length_map, List.length_set, List.length_reverse, List.length_replicate]); omega))
local macro_rules | `(tactic| walk_at "ixn") => `(tactic| first | with_reducible assumption | (with_reducible apply ixN_nat; walk_at "len") | (with_reducible apply ixN_nat1; walk_at "len") | (with_reducible apply ixN_0; walk_at "len") | (with_reducible apply ixN_1; walk_at "len") | (with_reducible apply ixN_2; walk_at "len") | exact rfl)
local macro_rules | `(tactic| walk_at "st") => `(tactic| ((try simp only [L2.start, wipe, List.map_cons, List.map_nil, List.length_cons, List.length_nil, Nat.reduceAdd, Nat.reduceSub, List.replicate_succ, List.replicate_zero, List.nil_append, List.cons_append, List.set_cons_succ, List.set_cons_zero]); exact rfl))
local macro_rules | `(tactic| walk_at "kp") => `(tactic| first | (with_reducible exact Kp.nil) | (with_reducible apply Kp.keep; walk_at "kp") | (with_reducible apply Kp.drop; walk_at "kp"))
local macro_rules | `(tactic| walk_at "g") => `(tactic| first
  | with_reducible assumption
  | (with_reducible apply F.getN; walk_at "at")
  | (with_reducible apply F.getS; walk_at "at")
  | ((with_reducible apply F.imm); (case' h => with_reducible assumption); exact rfl)
  | ((with_reducible apply F.keep); (case' h => with_reducible assumption); exact rfl)
  | ((with_reducible apply F.keepL); with_reducible assumption)
  | ((with_reducible apply F.sqT); with_reducible assumption)
  | ((with_reducible apply SqL.of); walk_at "g")
  | ((with_reducible apply SqT.of); walk_at "g")
  | ((with_reducible apply Rd.of); walk_at "g")
  | ((with_reducible apply Rd.frz); walk_at "g")
  | (with_reducible apply F.tab; with_reducible assumption)
  | ((with_reducible apply f_dgetS); (case' h1 => walk_at "g"); (case' h2 => first | with_reducible assumption | ((simp (decide := true) only [valR, if_true, if_false]); exact rfl))))
local macro_rules | `(tactic| walk_at "f1") => `(tactic| first
  | (with_reducible (first | apply s_seq | apply s_cons | apply s_nil | apply s_c | apply s_op | apply s_asg | apply s_test | apply s_ifS | apply s_ret | apply s_next | apply s_call | apply s_fldE | apply s_dgetE | apply s_gCons | apply s_gNil | apply s_par | apply s_par3 | apply s_and | apply s_or | apply s_not | apply s_andV | apply s_orV | apply s_notV | apply s_ifE | apply s_chain | apply s_cb | apply s_for | apply s_lc | apply f_methE | apply f_makeE | apply s_rollE | apply s_iK | apply s_iL | apply s_iT | apply f_tup | apply f_lst))
  | ((with_reducible apply s_var); (case' h1 => first | exact rfl | with_reducible assumption))
  | ((with_reducible apply s_gNn); (case' e => walk_at "st"))
  | ((with_reducible apply s_dget); (case' h1 => walk_at "g"))
  | with_reducible apply f_tup
  | with_reducible apply f_lst
  | ((with_reducible apply newF F); (case' ho => exact rfl); clear F; intro p H1 F)
  | ((with_reducible apply s_mk0); (case' hz => first | decide | (simp only [List.length_cons, List.length_nil]; decide)))
  | with_reducible apply f_sFld
  | ((with_reducible apply f_fld F); (case' R => walk_at "re"); (case' h2 => with_reducible assumption); (case' h3 => with_reducible assumption); (case' h4 => exact of_decide_eq_true rfl); (case' hp => ((try simp (decide := true) only [putF, if_true, if_false]); exact rfl)); clear F; intro H1 F)
  | with_reducible apply f_sAug
  | ((with_reducible apply f_aug); (case' h1 => walk_at "g"); (case' h2 => with_reducible assumption); (case' h3 => with_reducible assumption); (case' h4 => exact rfl))
  | ((with_reducible apply f_fldq F); (case' R => walk_at "re"); (case' h4 => exact of_decide_eq_true rfl); (case' hp => ((try simp (decide := true) only [putF, if_true, if_false]); exact rfl)); clear F; intro H1 F)
  | with_reducible apply f_radd
  | with_reducible apply f_rsub
  | ((with_reducible apply f_setL F); (case' R => walk_at "re"); (case' h2 => walk_at "ixn"); clear F; intro H1 F)
  | with_reducible apply f_sDPut
  | ((with_reducible apply f_dputS F); (case' R => walk_at "re"); (case' hl => walk_at "sz"); (case' hp => first | with_reducible assumption | ((try simp (decide := true) only [putR, List.map_cons, List.map_nil, if_true, if_false]); exact rfl)); clear F; intro H1 F)
  | with_reducible apply f_sDAug
  | ((with_reducible apply f_daug); (case' h1 => walk_at "g"))
  | ((with_reducible apply f_dputqS F); (case' R => walk_at "re"); (case' hl => walk_at "sz"); (case' hp => first | with_reducible assumption | ((try simp (decide := true) only [putR, List.map_cons, List.map_nil, if_true, if_false]); exact rfl)); clear F; intro H1 F)
  | with_reducible apply s_dgetE
  | ((with_reducible apply s_dget); (case' h1 => walk_at "g"))
  | ((with_reducible apply f_append F); (case' R => walk_at "re"); (case' hz => walk_at "sz"); clear F; intro H1 F)
  | ((with_reducible apply f_listKL); (case' h1 => walk_at "g"))
  | ((with_reducible apply f_listKT); (case' h1 => walk_at "g"))
  | ((with_reducible apply f_tupKL); (case' h1 => walk_at "g"))
  | ((with_reducible apply f_slL); (case' h1 => walk_at "g"))
  | ((with_reducible apply f_cat); (case' h1 => walk_at "g"); (case' h2 => walk_at "g"); (case' hz => walk_at "sz"))
  | with_reducible apply f_makeE
  | with_reducible apply s_iR3
  | ((with_reducible apply s_iR3d); (case' h1 => omega); (case' hc => rfl); intro J w)
  | ((with_reducible apply s_wipe); (case' h1 => first | exact rfl | exact wipe1))
  | with_reducible apply s_revE
  | ((with_reducible apply s_rev); (case' h1 => walk_at "g"))
  | with_reducible apply f_methE
  | ((with_reducible apply s_lenD); (case' h1 => walk_at "g"))
  | ((with_reducible apply f_meth); (case' h1 => walk_at "g"); (case' h2 => exact rfl))
  | with_reducible apply s_iEL
  | ((with_reducible apply s_iEL2); (case' h1 => walk_at "g"); intro J w)
  | with_reducible apply s_iZ
  | with_reducible apply s_iI
  | ((with_reducible apply s_iI2); (case' h1 => walk_at "g"); intro J w)
  | ((with_reducible apply f_rep1); (case' h1 => walk_at "g"); (case' hk => (constructor <;> omega)))
  | with_reducible apply f_gSub
  | ((with_reducible apply f_disp F); clear F; intro p H1 F)
  | with_reducible apply f_pairC
  | with_reducible apply f_pairN
  | ((with_reducible apply f_dispQ F); (case' R => walk_at "re"); (case' e => ((simp only [List.map_cons, List.map_nil, cvK]); exact rfl)); (case' e2 => exact rfl); (case' hl => exact Nat.le_of_ble_eq_true rfl); (case' hm => first | with_reducible apply hMk | exact rfl); clear F; intro H1 F)
  | ((with_reducible apply f_dnew F); clear F; intro p H1 F)
  | ((with_reducible apply f_unl F); (case' R => walk_at "re"); clear F; intro H1 F)
  | with_reducible apply f_rSetD
  | with_reducible apply f_dnewK
  | with_reducible apply f_sDNi
  | with_reducible apply f_finS
  | with_reducible apply f_finB
  | with_reducible apply f_finB'
  | with_reducible apply f_sDIn
  | ((with_reducible apply s_catS); (case' h1 => walk_at "sl"); (case' h2 => walk_at "sl"); (case' hn => exact Nat.le_of_ble_eq_true rfl))
  | ((with_reducible apply s_logA); (case' hl => with_reducible assumption))
  | with_reducible apply s_same
  | with_reducible apply s_js
  | with_reducible apply s_js0
  | ((with_reducible apply s_js2); (case' hl => walk_at "sz"))
  | with_reducible apply s_fm
  | ((with_reducible apply s_fmS); (case' hl => walk_at "sz"))
  | ((with_reducible apply s_fmI); (case' hl => with_reducible assumption))
  | with_reducible apply f_dget2E
  | with_reducible apply s_sameE
  | with_reducible apply s_chain3
  | with_reducible apply s_notN
  | with_reducible apply s_items
  | with_reducible apply s_bb1
  | with_reducible apply s_bb2
  | walk_at "f2")
local macro_rules | `(tactic| walk_at "f2") => `(tactic| first
  | with_reducible apply s_seq
  | with_reducible apply s_gCons
  | with_reducible apply s_gNil
  | ((with_reducible apply s_gTup); (case' h1 => walk_at "g"); (case' h2 => exact rfl))
  | with_reducible apply s_asg
  | ((with_reducible apply s_I); (case' hc => first | exact ⟨by omega, by omega⟩ | exact .inl ⟨by omega, by omega⟩ | exact .inr ⟨by omega, by omega⟩ | (show (_ : Int) < _; omega) | (show (_ : Int) ≠ _; omega)))
  | with_reducible apply s_mm
  | ((with_reducible apply s_lenKL); (case' h1 => walk_at "g"))
  | ((with_reducible apply s_lenKT); (case' h1 => walk_at "g"))
  | ((with_reducible apply s_tupKT); (case' h1 => walk_at "g"))
  | with_reducible apply s_iE
  | ((with_reducible apply s_iE2); (case' h1 => walk_at "g"); intro J w)
  | with_reducible apply s_ifTT
  | with_reducible apply s_ifFF
  | with_reducible apply s_rollE
  | ((with_reducible apply s_roll); (case' h1 => walk_at "g"); (case' h2 => exact ⟨by omega, by omega⟩); intro k k0 k1)
  | with_reducible apply s_gSub
  | with_reducible apply s_ab
  | with_reducible apply s_in1
  | with_reducible apply s_in2
  | ((with_reducible apply s_lsL); (case' h1 => walk_at "g"))
  | ((with_reducible apply s_lsT); (case' h1 => walk_at "g"))
  | ((with_reducible apply s_tyL); (case' h1 => walk_at "g"))
  | with_reducible apply s_for
  | with_reducible apply s_lc
  | with_reducible apply s_dc
  | with_reducible apply s_gn
  | with_reducible apply s_yes
  | with_reducible apply s_iL
  | with_reducible apply s_iT
  | with_reducible apply s_iR1
  | with_reducible apply s_iR2
  | with_reducible apply s_iK
  | ((with_reducible apply s_iL2); (case' h1 => walk_at "g"); intro J w)
  | ((with_reducible apply s_iT2); (case' h1 => walk_at "g"); intro J w)
  | ((with_reducible apply s_iR12); (case' h1 => omega); intro J w)
  | ((with_reducible apply s_iR22); (case' h1 => omega); intro J w)
  | ((with_reducible apply s_iK2); (case' h1 => walk_at "g"); intro J w)
  | ((with_reducible apply s_gNn); (case' e => walk_at "st"))
  | ((with_reducible apply s_var); (case' h1 => first | exact rfl | with_reducible assumption))
  | with_reducible apply s_c
  | with_reducible apply s_op
  | with_reducible apply s_cons
  | with_reducible apply s_nil
  | with_reducible apply s_ret
  | with_reducible apply s_ifS
  | with_reducible apply s_test
  | with_reducible apply s_B
  | with_reducible apply s_exbl
  | with_reducible apply s_exint
  | with_reducible apply s_I0
  | ((with_reducible apply s_Eq); (case' hs => exact rfl))
  | ((with_reducible apply s_Ne); (case' hs => exact rfl))
  | with_reducible apply s_un
  | with_reducible apply s_U
  | with_reducible apply s_cb
  | with_reducible apply s_call
  | with_reducible apply s_next
  | with_reducible apply s_drop
  | with_reducible apply s_break
  | with_reducible apply s_cont
  | with_reducible apply s_retN
  | with_reducible apply s_par
  | with_reducible apply s_par2
  | with_reducible apply s_par3
  | with_reducible apply s_par33
  | ((with_reducible apply s_aug); (case' h1 => exact rfl))
  | with_reducible apply s_and
  | with_reducible apply s_or
  | with_reducible apply s_not
  | with_reducible apply s_andV
  | with_reducible apply s_orV
  | with_reducible apply s_notV
  | with_reducible apply s_ifE
  | with_reducible apply s_isN
  | with_reducible apply s_chain
  | with_reducible apply s_sl
  | with_reducible apply s_noP
  | with_reducible apply s_part
  | with_reducible apply s_bm
  | with_reducible apply s_bm0
  | with_reducible apply s_fldE
  | ((with_reducible apply s_fld); (case' h1 => walk_at "g"); (case' h2 => assumption); (case' h3 => assumption); (case' h4 => exact rfl))
  | ((with_reducible apply s_ixL); (case' h1 => walk_at "g"); (case' h2 => first | with_reducible assumption | walk_at "ix"))
  | ((with_reducible apply s_ixT); (case' h1 => walk_at "g"); (case' h2 => first | with_reducible assumption | walk_at "ix"))
  | ((with_reducible apply s_lenL); (case' h1 => walk_at "g")))
local macro_rules | `(tactic| walk_at "ff") => `(tactic| repeat walk_at "f1")
local macro_rules | `(tactic| walk_at "k0") => `(tactic| try dsimp only [L2.cxOf, Cx.nox, Cx.wish, Cx.blk, genCx])
set_option hygiene true

abbrev sg_stp : List Stmt := (stBs (nthS (stBs (nthS (defBody s_law) 0)) 2))

abbrev sg_nam : List Stmt := (stBs (nthS (stBs (nthS (defBody s_law) 0)) 5))

abbrev sg_nm2 : List Stmt := ((stBs (nthS (stBs (nthS (defBody s_law) 0)) 5)).drop 3)

abbrev sg_nm3 : List Stmt := ((stBs (nthS (stBs (nthS (defBody s_law) 0)) 5)).drop 5)

abbrev sg_aft : List Stmt := ((stBs (nthS (defBody s_law) 0)).drop 3)

abbrev sg_whe : List Stmt := ((stBs (nthS (defBody s_law) 0)).drop 7)

abbrev sg_fin : List Stmt := ((defBody s_law).drop 1)

abbrev s_told : Stmt := topS 15
theorem scTold : FnScope ["what"] ["what"] (defScope s_told) := ⟨rfl, rfl, rfl, by decide +kernel, rfl, by decide +kernel, by decide +kernel⟩
def lq : Str := (envOfC "law" (defScope s_law) 0 0 .none).qual
abbrev lawT (K : PySem.W.Frag) : List (Addr × Str) := [((He.cT K ("law", none)).2, lq ++ "<lambda>")]
/-! ### groups, as the law makes them -/
open Classical in
noncomputable def grL (ms : List Ms) (names l : List Str) : List (List Str) := l.foldl (fun g n => if comp ms names n ∈ g then g else g ++ [comp ms names n]) []
theorem comp_mem {ms : List Ms} {names : List Str} {n m : Str} : m ∈ comp ms names n ↔ m ∈ names ∧ Conn ms n m := by
  unfold comp
  rw [List.mem_filter]
  simp
open Classical in
theorem comp_eq {ms : List Ms} {names : List Str} {n m : Str} (hm : m ∈ names) : comp ms names m = comp ms names n ↔ Conn ms n m := by
  constructor
  · intro h
    have : m ∈ comp ms names m := comp_mem.mpr ⟨hm, .refl⟩
    rw [h] at this
    exact (comp_mem.mp this).2
  · intro h
    classical
    unfold comp
    refine List.filter_congr fun x _ => ?_
    exact Bool.eq_iff_iff.mpr (by rw [decide_eq_true_eq, decide_eq_true_eq]; exact ⟨fun z => h.trans z, fun z => h.symm.trans z⟩)
open Classical in
theorem grL_ap {ms : List Ms} {names : List Str} : ∀ (l : List Str) (g : List (List Str)), (∀ n ∈ l, n ∈ names) → l.foldl (fun g n => if comp ms names n ∈ g then g else g ++ [comp ms names n]) g = g ++ apL ms names (l.filter fun n => decide (comp ms names n ∉ g)).length (l.filter fun n => decide (comp ms names n ∉ g))
  | [], g, _ => by
    rw [List.foldl_nil, List.filter_nil]
    exact (List.append_nil _).symm
  | n :: l, g, h => by
    have h2 : ∀ n ∈ l, n ∈ names := fun m hm => h m (List.mem_cons_of_mem _ hm)
    rw [List.foldl_cons]
    by_cases hc : comp ms names n ∈ g
    · rw [if_pos hc, List.filter_cons_of_neg (by simpa using hc)]
      exact grL_ap l g h2
    · rw [if_neg hc, List.filter_cons_of_pos (by simpa using hc), grL_ap l _ h2, apL_cons, List.append_assoc]
      congr 1
      have e : (l.filter fun m => decide (comp ms names m ∉ g ++ [comp ms names n])) = ((l.filter fun m => decide (comp ms names m ∉ g)).filter fun m => decide (¬ Conn ms n m)) := by
        rw [List.filter_filter]
        refine List.filter_congr fun m hm => ?_
        exact Bool.eq_iff_iff.mpr (by rw [decide_eq_true_eq, Bool.and_eq_true, decide_eq_true_eq, decide_eq_true_eq, List.mem_append, List.mem_singleton, not_or, comp_eq (h2 m hm)]; exact and_comm)
      rw [e]
      rfl
theorem grL_all {ms : List Ms} {names : List Str} : grL ms names names = apL ms names names.length names := by
  classical
  unfold grL
  rw [grL_ap names [] fun _ h => h]
  have e : (names.filter fun n => decide (comp ms names n ∉ ([] : List (List Str)))) = names := List.filter_eq_self.mpr fun _ _ => by simp
  rw [e]
  rfl
open Classical in
theorem grL_more {ms : List Ms} {names l : List Str} {i : Nat} {n : Str} (h : l[i]? = some n) : grL ms names (l.take (i + 1)) = if comp ms names n ∈ grL ms names (l.take i) then grL ms names (l.take i) else grL ms names (l.take i) ++ [comp ms names n] := by
  unfold grL
  rw [take_more h, List.foldl_append]
  rfl
theorem grL_len {ms : List Ms} {names l : List Str} : (grL ms names l).length ≤ l.length := by
  classical
  have e : ∀ (l : List Str) (g : List (List Str)), (l.foldl (fun g n => if comp ms names n ∈ g then g else g ++ [comp ms names n]) g).length ≤ g.length + l.length := by
    intro l
    induction l with
    | nil => intro g; exact Nat.le_refl _
    | cons n l ih =>
      intro g
      rw [List.foldl_cons, List.length_cons]
      refine Nat.le_trans (ih _) ?_
      split
      · omega
      · rw [List.length_append, List.length_singleton]
        omega
  exact Nat.le_trans (e l []) (by simp)
theorem grL_sub {ms : List Ms} {names l : List Str} : ∀ g ∈ grL ms names l, ∃ n, g = comp ms names n := by
  classical
  have e : ∀ (l : List Str) (g0 : List (List Str)), (∀ g ∈ g0, ∃ n, g = comp ms names n) → ∀ g ∈ l.foldl (fun g n => if comp ms names n ∈ g then g else g ++ [comp ms names n]) g0, ∃ n, g = comp ms names n := by
    intro l
    induction l with
    | nil => intro g0 h; exact h
    | cons n l ih =>
      intro g0 h
      rw [List.foldl_cons]
      refine ih _ ?_
      split
      · exact h
      · intro g hg
        rcases List.mem_append.mp hg with hg | hg
        · exact h g hg
        · exact ⟨n, List.mem_singleton.mp hg⟩
  exact e l [] fun _ h => nomatch h
structure Gh where
  HB : Hp
  a : Addr
  q0 : Addr
  nl : Addr
  x : Addr
  dx : Addr
  l1 : Addr
  l2 : Addr
  names : List Str
structure Ls1 [Lw] (K : PySem.W.Frag) : Prop where
  L : Lw.L (He.cT K ("law", none)).2
  q : Lw.q (He.cT K ("law", none)).2 = lq ++ "<lambda>"
  p1 : (He.cT K ("Train", some "apart")).2 ≠ (He.cT K ("law", none)).2
structure Ok1 (K : PySem.W.Frag) (G : Gh) : Prop where
  q : G.HB G.q0 = some (DiceO G.q0)
  t1 : GxR.TabG G.HB (He.cT K ("Train", some "apart")).2
  ts : LamX.TabS G.HB (He.cT K ("law", none)).2 (lq ++ "<lambda>")
  nl : 0 < G.names.length ∧ G.names.length ≤ 7
  tx : ∀ n ∈ G.names, txOk n = true
  nz : ("zz" : Str) ∉ G.names
/-- the train's meshes, and the law's own rows -/
abbrev LB (K : PySem.W.Frag) (G : Gh) (as as2 : List Addr) (ms : List Ms) (lr : Addr) : List Ck :=
  [ck G.nl (.lst (G.names.map V.str)), ck G.x (trO K G.dx G.l1 G.l2), ck G.l1 (.lst (G.names.map V.str)), ck G.l2 (.lst (as.map V.ref)), (as, ms.map msO), ck lr (.lst (as2.map V.ref)), (as2, ms.map msO)]
structure RI (G : Gh) (i : Nat) (ms : List Ms) : Prop where
  len : ms.length ≤ i
  pot : ∃ φ, Pot φ ms
  nm : ∀ m ∈ ms, m.a ∈ G.names ∧ m.b ∈ G.names
  te : ∀ m ∈ ms, m.m ≤ 16 ∧ m.f ≤ 16
def StL [Lw] (K : PySem.W.Frag) (G : Gh × Nat) (σ : L2.St) (H : Hp) : Prop := ∃ (x5 x6 x7 x8 x9 x10 x11 x12 x13 x14 x15 x16 x17 x18 x19 x20 x21 x22 x23 x24 x25 x26 x27 : Option V) (as as2 : List Addr) (ms : List Ms) (lr : Addr), σ = [some (V.ref G.1.a), some (V.ref G.1.q0), some (V.ref G.1.nl), some (V.ref lr), some (V.ref G.1.x), x5, x6, x7, x8, x9, x10, x11, x12, x13, x14, x15, x16, x17, x18, x19, x20, x21, x22, x23, x24, x25, x26, x27] ∧
  RI G.1 G.2 ms ∧ as.length = ms.length ∧ as2.length = ms.length ∧ Fp G.1.HB [] (LB K G.1 as as2 ms lr) H
/-- the groups so far -/
def StG [Lw] (K : PySem.W.Frag) (G : Gh × Nat) (σ : L2.St) (H : Hp) : Prop := ∃ (x5 x6 x7 x8 x9 x10 x11 x12 x14 x15 x16 x17 x18 x19 x20 x21 x22 x23 x24 x25 x26 x27 : Option V) (as as2 : List Addr) (ms : List Ms) (lr gr : Addr) (ts : List Addr), σ = [some (V.ref G.1.a), some (V.ref G.1.q0), some (V.ref G.1.nl), some (V.ref lr), some (V.ref G.1.x), x5, x6, x7, x8, x9, x10, x11, x12, some (V.ref gr), x14, x15, x16, x17, x18, x19, x20, x21, x22, x23, x24, x25, x26, x27] ∧
  RI G.1 9 ms ∧ as.length = ms.length ∧ as2.length = ms.length ∧ ts.length = (grL ms G.1.names (G.1.names.take G.2)).length ∧ Fp G.1.HB [] (ck gr (.lst (ts.map V.ref)) :: (ts, (grL ms G.1.names (G.1.names.take G.2)).map nsO) :: LB K G.1 as as2 ms lr) H
/-- a name is at hand -/
def StN [Lw] (K : PySem.W.Frag) (G : Gh × Nat) (σ : L2.St) (H : Hp) : Prop := ∃ (x6 x7 x8 x9 x10 x11 x12 x14 x15 x16 x17 x18 x19 x20 x21 x22 x23 x24 x25 x26 x27 : Option V) (as as2 : List Addr) (ms : List Ms) (lr gr : Addr) (ts : List Addr) (n : Str), σ = [some (V.ref G.1.a), some (V.ref G.1.q0), some (V.ref G.1.nl), some (V.ref lr), some (V.ref G.1.x), some (.str n), x6, x7, x8, x9, x10, x11, x12, some (V.ref gr), x14, x15, x16, x17, x18, x19, x20, x21, x22, x23, x24, x25, x26, x27] ∧ G.1.names[G.2]? = some n ∧
  RI G.1 9 ms ∧ as.length = ms.length ∧ as2.length = ms.length ∧ ts.length = (grL ms G.1.names (G.1.names.take G.2)).length ∧ Fp G.1.HB [] (ck gr (.lst (ts.map V.ref)) :: (ts, (grL ms G.1.names (G.1.names.take G.2)).map nsO) :: LB K G.1 as as2 ms lr) H
/-- its table is at hand -/
def StT [Lw] (K : PySem.W.Frag) (G : Gh × Nat) (σ : L2.St) (H : Hp) : Prop := ∃ (x6 x7 x8 x9 x10 x11 x12 x15 x16 x17 x18 x19 x20 x21 x22 x23 x24 x25 x26 x27 : Option V) (as as2 : List Addr) (ms : List Ms) (lr gr : Addr) (ts : List Addr) (n : Str) (d : Addr) (t : List Rt) (φ : Str → Rat), σ = [some (V.ref G.1.a), some (V.ref G.1.q0), some (V.ref G.1.nl), some (V.ref lr), some (V.ref G.1.x), some (.str n), x6, x7, x8, x9, x10, x11, x12, some (V.ref gr), some (V.ref d), x15, x16, x17, x18, x19, x20, x21, x22, x23, x24, x25, x26, x27] ∧ G.1.names[G.2]? = some n ∧ Pot φ ms ∧ IsTab φ ms n t ∧
  RI G.1 9 ms ∧ as.length = ms.length ∧ as2.length = ms.length ∧ ts.length = (grL ms G.1.names (G.1.names.take G.2)).length ∧ Fp G.1.HB [] (ck d (.dK (tbR t)) :: (adsR t, t.map rtO) :: ck gr (.lst (ts.map V.ref)) :: (ts, (grL ms G.1.names (G.1.names.take G.2)).map nsO) :: LB K G.1 as as2 ms lr) H
theorem RI.bd {G : Gh} {i : Nat} {ms : List Ms} (h : RI G i ms) (hl : G.names.length ≤ 7) {n : Str} (hn : n ∈ G.names) : Bd ms n 16 7 := Bd.of hn h.nm h.te hl
def StW [Lw] (G : Gh) (σ : L2.St) (H : Hp) : Prop := ∃ (x2 x3 x4 x5 x6 x7 x8 x9 x10 x11 x12 x13 x14 x15 x16 x17 x18 x19 x20 x21 x22 x23 x24 x25 x26 x27 : Option V), σ = [some (V.ref G.a), some (V.ref G.q0), x2, x3, x4, x5, x6, x7, x8, x9, x10, x11, x12, x13, x14, x15, x16, x17, x18, x19, x20, x21, x22, x23, x24, x25, x26, x27] ∧ Fp G.HB [] [] H
/-- behind a round -/
def StE [Lw] (G : Gh) (σ : L2.St) (H : Hp) : Prop := ∃ (x1 x2 x3 x4 x5 x6 x7 x8 x9 x10 x11 x12 x13 x14 x15 x16 x17 x18 x19 x20 x21 x22 x23 x24 x25 x26 x27 : Option V), σ = [some (V.ref G.a), x1, x2, x3, x4, x5, x6, x7, x8, x9, x10, x11, x12, x13, x14, x15, x16, x17, x18, x19, x20, x21, x22, x23, x24, x25, x26, x27] ∧ Fp G.HB [] [] H
abbrev tSt [Lw] (K : PySem.W.Frag) (Pre Post : Gh × Nat → L2.St → Hp → Prop) : TS := tCt (fun G σ H => Ok1 K G.1 ∧ Pre G σ H) Post
/-- the last block -/
def tFin [Lw] (K : PySem.W.Frag) : TS := fun D σ H => ∃ (x0 x1 x2 x3 x4 x5 x6 x7 x8 x9 x10 x11 x12 x13 x14 x15 x16 x17 x18 x19 x20 x21 x22 x23 x24 x25 x26 x27 : Option V), σ = [x0, x1, x2, x3, x4, x5, x6, x7, x8, x9, x10, x11, x12, x13, x14, x15, x16, x17, x18, x19, x20, x21, x22, x23, x24, x25, x26, x27] ∧ LamX.TabS H (He.cT K ("law", none)).2 (lq ++ "<lambda>") ∧ ∀ H', D.rt (.bl true) H'
def spLaw (K : PySem.W.Frag) : Sp := fun vs H Q _ => ∃ (a : Addr) (ns : List Int), vs = [.ref a] ∧ SqL K H a (ns.map V.int) ∧ GxR.TabG H (He.cT K ("Train", some "apart")).2 ∧ H (He.cT K ("law", none)).2 = some (.tbl #[]) ∧ ∀ H', Q (.bl true) H'
section
variable [Lw]
/-- the lambdas stand when the list of shafts grows -/
theorem LS.grow {X : Cx} {T : List (Addr × Str)} {P : Addr} {B H H' : Hp} {Ls : List (Addr × LamD)} {x l1 : Addr} {xs ys : List V} {C dx : Addr} {fs : List (Str × V)} (L : LS X T P B Ls H) (hx : B x = some (.ins C dx fs)) (hl : B l1 = some (.lst xs)) (F : Fp H [ck l1 (.lst ys), ck x (.ins C dx fs)] [] H') (hT : ∀ p ∈ T, Lw.L p.1 ∧ Lw.q p.1 = p.2) : LS X T P (upd B l1 (.lst ys)) Ls H' := by
  have hl1 : H' l1 = some (.lst ys) := F.getS .here
  have hxx : H' x = some (.ins C dx fs) := F.getS (.there .here)
  have hb : ∀ b o, upd B l1 (.lst ys) b = some o → isTbl o = false → H' b = some o := fun b o e t => by
    by_cases z : b = l1
    · subst z
      rw [upd_same] at e
      rw [hl1]
      exact e
    · rw [upd_ne z] at e
      by_cases z2 : b = x
      · subst z2
        rw [hx] at e
        rw [hxx]
        exact e
      · exact F.x b o (fun m => by
          simp only [fl_cons, fl_nil, ck, List.zip_cons_cons, List.zip_nil_left, List.append_nil, List.cons_append, List.nil_append, List.map_cons, List.map_nil, List.mem_cons, List.not_mem_nil, or_false] at m
          exact m.elim z z2) (L.bx.x b o e t) t
  have hne : ∀ p ∈ Ls, p.1 ≠ l1 := fun p hp z => by
    have := (L.ls p hp).2.1 _ (by rw [z]; exact hl)
    cases this
  have htb : ∀ P', P' ≠ l1 → GxR.TabG (upd B l1 (.lst ys)) P' → GxR.TabG B P' := fun P' z ⟨ps, h1, h2⟩ => ⟨ps, by rw [upd_ne z] at h1; exact h1, h2⟩
  have hnl : ∀ P', GxR.TabG (upd B l1 (.lst ys)) P' → P' ≠ l1 := fun P' ⟨ps, h1, _⟩ z => by
    rw [z, upd_same] at h1
    cases h1
  refine ⟨⟨hb, fun P' hP h => F.t P' (L.bx.t P' hP (htb P' (hnl P' h) h))⟩, fun b o e n => hb b o e (by
    cases o with
    | tbl ps => exact absurd rfl (n ps)
    | _ => rfl), fun p hp => ?_, fun p hp => ⟨?_, fun o e => (L.ls p hp).2.1 o (by rw [upd_ne (hne p hp)] at e; exact e), fun hP h => (L.ls p hp).2.2 hP (htb _ (hne p hp) h)⟩⟩
  · obtain ⟨h1, h2⟩ := hT p hp
    have := L.tb p hp
    rw [← h2] at this ⊢
    exact F.l p.1 h1 this
  · obtain ⟨c', pm, ctv, h1, h2⟩ := (L.ls p hp).1
    have ex : ∀ b (o : HO), H b = some o → isTbl o = false → (∀ zs, o ≠ .lst zs) → (∀ C d fs, o ≠ .ins C d fs) → H' b = some o := fun b o e t n1 n2 => F.x b o (fun m => by
      simp only [fl_cons, fl_nil, ck, List.zip_cons_cons, List.zip_nil_left, List.append_nil, List.cons_append, List.nil_append, List.map_cons, List.map_nil, List.mem_cons, List.not_mem_nil, or_false] at m
      rcases m with z | z
      · rw [z, L.bx.x _ _ hl rfl] at e
        exact n1 _ (Option.some.inj e).symm
      · rw [z, L.bx.x _ _ hx rfl] at e
        exact n2 _ _ _ (Option.some.inj e).symm) e t
    exact ⟨c', pm, ctv, ex _ _ h1 rfl (fun _ z => nomatch z) (fun _ _ _ z => nomatch z), ex _ _ h2 rfl (fun _ z => nomatch z) (fun _ _ _ z => nomatch z)⟩
structure Cs (P : Program) (w : World) (K : PySem.W.Frag) (mg : Str → Option Value) (base : Heap) : Prop where
  rounds : ∃ f fd, Cal P w K mg base CX0 2 "_law_rounds" f fd ["script", "most"] (spRounds K)
  roll : ∃ f fd, Cal P w K mg base CX0 1 "_law_roll" f fd ["dice", "many"] spRoll
  lex : ∃ f fd, Cal P w K mg base CX0 1 "_law_ex" f fd ["part", "whole"] (spEx K)
  lrat : ∃ f fd, Cal P w K mg base CX0 2 "_law_ratios" f fd ["rows", "start"] (spLRat K)
  exact : ∃ f fd, Cal P w K mg base CX0 1 "exact" f fd ["part", "whole"] (spEx K)
  times : ∃ f fd, Cal P w K mg base CX0 2 "times" f fd ["one", "other"] (spTimes K)
  less : ∃ f fd, Cal P w K mg base CX0 1 "less" f fd ["one", "other"] (spLess K)
  train : ∃ f fd, Cmk P w K mg base CX0 1 "Train" (He.ga K "Train") f fd ["self"] (spTrain K)
  shaft : ∃ f fd, Mtd P w K mg base (CX P w) 1 (He.ga K "Train") "add_shaft" f fd ["self", "name"] (spShaft K)
  mesh : ∃ f fd, Mtd P w K mg base (CX P w) 4 (He.ga K "Train") "mesh" f fd ["self", "one", "teeth", "other", "more"] (spMesh K)
  ratios : ∃ f fd, Mtd P w K mg base (CX P w) 3 (He.ga K "Train") "ratios" f fd ["self", "start"] (spRatios K)
  speeds : ∃ f fd, Mtd P w K mg base (CX P w) 4 (He.ga K "Train") "speeds" f fd ["self", "start", "turns"] (spSpeeds K)
  apart : ∃ f fd, Mtd P w K mg base (CX P w) 9 (He.ga K "Train") "apart" f fd ["self"] (spApart K)
  tog : ∃ f fd, Mtd P w K mg base (CX P w) 4 (He.ga K "Train") "together_again" f fd ["self", "start"] (spTog K)
  pair : ∃ f fd, Cal P w K mg base (CX P w) 2 "best_pair" f fd ["wish", "wheels"] (spPair K)
  told : ∃ fd, FunD K "_law_told" "_law_told" (defArgs s_told) (defBody s_told) (defScope s_told) [] [] (He.ga K "_law_told") fd ∧ Binds K fd ["what"] []
end
end K1

set_option Elab.async false
set_option linter.all false
set_option maxRecDepth 100000
set_option maxHeartbeats 4000000
set_option pp.maxSteps 1500
namespace K1
open PySem PySem.Spec PyProof.Rows L2 Mi LamX
set_option hygiene false
local macro_rules | `(tactic| walk_at "lk") => `(tactic| first | (with_reducible assumption) | (with_reducible apply get_set_self; walk_at "lk") | ((with_reducible apply get_set_ne); (case' hne => with_reducible assumption); walk_at "lk"))
local macro_rules | `(tactic| walk_at "at") => `(tactic| first | (with_reducible exact At.here) | (with_reducible apply At.at; (case' h1 => assumption); walk_at "lk") | (with_reducible apply At.there; walk_at "at"))
local macro_rules | `(tactic| walk_at "rp") => `(tactic| first | (with_reducible exact Rp.here) | (with_reducible apply Rp.set; (case' h1 => assumption); walk_at "lk") | (with_reducible apply Rp.at; (case' h1 => assumption); walk_at "lk") | (with_reducible apply Rp.there; walk_at "rp"))
local macro_rules | `(tactic| walk_at "re") => `(tactic| first | (with_reducible apply Re.n; walk_at "rp") | (with_reducible apply Re.s; walk_at "rp"))
local macro_rules | `(tactic| walk_at "dl") => `(tactic| first | (with_reducible exact Dl.here) | (with_reducible apply Dl.there; walk_at "dl"))
local macro_rules | `(tactic| walk_at "pq") => `(tactic| first | (with_reducible exact Pq.nil) | ((with_reducible apply Pq.n); (case' d => walk_at "dl"); walk_at "pq") | ((with_reducible apply Pq.s); (case' d => walk_at "dl"); walk_at "pq"))
local macro_rules | `(tactic| walk_at "rc") => `(tactic| first | (with_reducible exact Rc.here) | (with_reducible apply Rc.there; walk_at "rc"))
local macro_rules | `(tactic| walk_at "rs") => `(tactic| first | (with_reducible exact Rs.nil) | ((with_reducible apply Rs.on); (case' r => walk_at "rc"); (case' hl => first | exact rfl | ((try simp only [List.length_map, List.length_set]); with_reducible assumption) | (simp; done)); walk_at "rs") | ((with_reducible apply Rs.os); (case' r => walk_at "rc"); (case' hl => first | exact rfl | ((try simp only [List.length_map, List.length_set]); with_reducible assumption) | (simp; done)); walk_at "rs"))
local macro_rules | `(tactic| walk_at "ix") => `(tactic| first | with_reducible exact atI_nat (by assumption) | with_reducible exact atI_nat1 (by assumption) | with_reducible exact atI0 | with_reducible exact atI1 | with_reducible exact atI2 | with_reducible exact atI3 | with_reducible exact atI4)
local macro_rules | `(tactic| walk_at "sl") => `(tactic| first | (with_reducible assumption) | ((with_reducible apply len_app); (case' h1 => walk_at "sl"); (case' h2 => walk_at "sl")) | (with_reducible exact Nat.le_refl _))
local macro_rules | `(tactic| walk_at "sz") => `(tactic| first | with_reducible assumption | ((with_reducible apply len_leB); (case' h => walk_at "sl"); (case' hn => exact Nat.le_of_ble_eq_true rfl)) | exact of_decide_eq_true rfl | (exact len_le (by (try simp only [List.length_append, List.length_cons, List.length_nil, List.length_map, List.length_set, List.length_reverse]); omega)) | (exact len_lt (by (try simp only [List.length_append, List.length_cons, List.length_nil, List.length_map, List.length_set, List.length_reverse]); omega)))
local macro_rules | `(tactic| walk_at "len") => `(tactic| ((try simp only [List.length_append, List.length_cons, List.length_nil, List.length_map, List.length_set, List.length_reverse, List.length_replicate]); omega))
local macro_rules | `(tactic| walk_at "ixn") => `(tactic| first | with_reducible assumption | (with_reducible apply ixN_nat; walk_at "len") | (with_reducible apply ixN_nat1; walk_at "len") | (with_reducible apply ixN_0; walk_at "len") | (with_reducible apply ixN_1; walk_at "len") | (with_reducible apply ixN_2; walk_at "len") | exact rfl)
local macro_rules | `(tactic| walk_at "st") => `(tactic| ((try simp only [L2.start, wipe, List.map_cons, List.map_nil, List.length_cons, List.length_nil, Nat.reduceAdd, Nat.reduceSub, List.replicate_succ, List.replicate_zero, List.nil_append, List.cons_append, List.set_cons_succ, List.set_cons_zero]); exact rfl))
local macro_rules | `(tactic| walk_at "kp") => `(tactic| first | (with_reducible exact Kp.nil) | (with_reducible apply Kp.keep; walk_at "kp") | (with_reducible apply Kp.drop; walk_at "kp"))
local macro_rules | `(tactic| walk_at "g") => `(tactic| first
  | with_reducible assumption
  | (with_reducible apply F.getN; walk_at "at")
  | (with_reducible apply F.getS; walk_at "at")
  | ((with_reducible apply F.imm); (case' h => with_reducible assumption); exact rfl)
  | ((with_reducible apply F.keep); (case' h => with_reducible assumption); exact rfl)
  | ((with_reducible apply F.keepL); with_reducible assumption)
  | ((with_reducible apply F.sqT); with_reducible assumption)
  | ((with_reducible apply SqL.of); walk_at "g")
  | ((with_reducible apply SqT.of); walk_at "g")
  | ((with_reducible apply Rd.of); walk_at "g")
  | ((with_reducible apply Rd.frz); walk_at "g")
  | (with_reducible apply F.tab; with_reducible assumption)
  | ((with_reducible apply f_dgetS); (case' h1 => walk_at "g"); (case' h2 => first | with_reducible assumption | ((simp (decide := true) only [valR, if_true, if_false]); exact rfl))))
local macro_rules | `(tactic| walk_at "f1") => `(tactic| first
  | (with_reducible (first | apply s_seq | apply s_cons | apply s_nil | apply s_c | apply s_op | apply s_asg | apply s_test | apply s_ifS | apply s_ret | apply s_next | apply s_call | apply s_fldE | apply s_dgetE | apply s_gCons | apply s_gNil | apply s_par | apply s_par3 | apply s_and | apply s_or | apply s_not | apply s_andV | apply s_orV | apply s_notV | apply s_ifE | apply s_chain | apply s_cb | apply s_for | apply s_lc | apply f_methE | apply f_makeE | apply s_rollE | apply s_iK | apply s_iL | apply s_iT | apply f_tup | apply f_lst))
  | ((with_reducible apply s_var); (case' h1 => first | exact rfl | with_reducible assumption))
  | ((with_reducible apply s_gNn); (case' e => walk_at "st"))
  | ((with_reducible apply s_dget); (case' h1 => walk_at "g"))
  | with_reducible apply f_tup
  | with_reducible apply f_lst
  | ((with_reducible apply newF F); (case' ho => exact rfl); clear F; intro p H1 F)
  | ((with_reducible apply s_mk0); (case' hz => first | decide | (simp only [List.length_cons, List.length_nil]; decide)))
  | with_reducible apply f_sFld
  | ((with_reducible apply f_fld F); (case' R => walk_at "re"); (case' h2 => with_reducible assumption); (case' h3 => with_reducible assumption); (case' h4 => exact of_decide_eq_true rfl); (case' hp => ((try simp (decide := true) only [putF, if_true, if_false]); exact rfl)); clear F; intro H1 F)
  | with_reducible apply f_sAug
  | ((with_reducible apply f_aug); (case' h1 => walk_at "g"); (case' h2 => with_reducible assumption); (case' h3 => with_reducible assumption); (case' h4 => exact rfl))
  | ((with_reducible apply f_fldq F); (case' R => walk_at "re"); (case' h4 => exact of_decide_eq_true rfl); (case' hp => ((try simp (decide := true) only [putF, if_true, if_false]); exact rfl)); clear F; intro H1 F)
  | with_reducible apply f_radd
  | with_reducible apply f_rsub
  | ((with_reducible apply f_setL F); (case' R => walk_at "re"); (case' h2 => walk_at "ixn"); clear F; intro H1 F)
  | with_reducible apply f_sDPut
  | ((with_reducible apply f_dputS F); (case' R => walk_at "re"); (case' hl => walk_at "sz"); (case' hp => first | with_reducible assumption | ((try simp (decide := true) only [putR, List.map_cons, List.map_nil, if_true, if_false]); exact rfl)); clear F; intro H1 F)
  | with_reducible apply f_sDAug
  | ((with_reducible apply f_daug); (case' h1 => walk_at "g"))
  | ((with_reducible apply f_dputqS F); (case' R => walk_at "re"); (case' hl => walk_at "sz"); (case' hp => first | with_reducible assumption | ((try simp (decide := true) only [putR, List.map_cons, List.map_nil, if_true, if_false]); exact rfl)); clear F; intro H1 F)
  | with_reducible apply s_dgetE
  | ((with_reducible apply s_dget); (case' h1 => walk_at "g"))
  | ((with_reducible apply f_append F); (case' R => walk_at "re"); (case' hz => walk_at "sz"); clear F; intro H1 F)
  | ((with_reducible apply f_listKL); (case' h1 => walk_at "g"))
  | ((with_reducible apply f_listKT); (case' h1 => walk_at "g"))
  | ((with_reducible apply f_tupKL); (case' h1 => walk_at "g"))
  | ((with_reducible apply f_slL); (case' h1 => walk_at "g"))
  | ((with_reducible apply f_cat); (case' h1 => walk_at "g"); (case' h2 => walk_at "g"); (case' hz => walk_at "sz"))
  | with_reducible apply f_makeE
  | with_reducible apply s_iR3
  | ((with_reducible apply s_iR3d); (case' h1 => omega); (case' hc => rfl); intro J w)
  | ((with_reducible apply s_wipe); (case' h1 => first | exact rfl | exact wipe1))
  | with_reducible apply s_revE
  | ((with_reducible apply s_rev); (case' h1 => walk_at "g"))
  | with_reducible apply f_methE
  | ((with_reducible apply s_lenD); (case' h1 => walk_at "g"))
  | ((with_reducible apply f_meth); (case' h1 => walk_at "g"); (case' h2 => exact rfl))
  | with_reducible apply s_iEL
  | ((with_reducible apply s_iEL2); (case' h1 => walk_at "g"); intro J w)
  | with_reducible apply s_iZ
  | with_reducible apply s_iI
  | ((with_reducible apply s_iI2); (case' h1 => walk_at "g"); intro J w)
  | ((with_reducible apply f_rep1); (case' h1 => walk_at "g"); (case' hk => (constructor <;> omega)))
  | with_reducible apply f_gSub
  | ((with_reducible apply f_disp F); clear F; intro p H1 F)
  | with_reducible apply f_pairC
  | with_reducible apply f_pairN
  | ((with_reducible apply f_dispQ F); (case' R => walk_at "re"); (case' e => ((simp only [List.map_cons, List.map_nil, cvK]); exact rfl)); (case' e2 => exact rfl); (case' hl => exact Nat.le_of_ble_eq_true rfl); (case' hm => first | with_reducible apply hMk | exact rfl); clear F; intro H1 F)
  | ((with_reducible apply f_dnew F); clear F; intro p H1 F)
  | ((with_reducible apply f_unl F); (case' R => walk_at "re"); clear F; intro H1 F)
  | with_reducible apply f_rSetD
  | with_reducible apply f_dnewK
  | with_reducible apply f_sDNi
  | with_reducible apply f_finS
  | with_reducible apply f_finB
  | with_reducible apply f_finB'
  | with_reducible apply f_sDIn
  | ((with_reducible apply s_catS); (case' h1 => walk_at "sl"); (case' h2 => walk_at "sl"); (case' hn => exact Nat.le_of_ble_eq_true rfl))
  | ((with_reducible apply s_logA); (case' hl => with_reducible assumption))
  | with_reducible apply s_same
  | with_reducible apply s_js
  | with_reducible apply s_js0
  | ((with_reducible apply s_js2); (case' hl => walk_at "sz"))
  | with_reducible apply s_fm
  | ((with_reducible apply s_fmS); (case' hl => walk_at "sz"))
  | ((with_reducible apply s_fmI); (case' hl => with_reducible assumption))
  | with_reducible apply f_dget2E
  | with_reducible apply s_sameE
  | with_reducible apply s_chain3
  | with_reducible apply s_notN
  | with_reducible apply s_items
  | with_reducible apply s_bb1
  | with_reducible apply s_bb2
  | walk_at "f2")
local macro_rules | `(tactic| walk_at "f2") => `(tactic| first
  | with_reducible apply s_seq
  | with_reducible apply s_gCons
  | with_reducible apply s_gNil
  | ((with_reducible apply s_gTup); (case' h1 => walk_at "g"); (case' h2 => exact rfl))
  | with_reducible apply s_asg
  | ((with_reducible apply s_I); (case' hc => first | exact ⟨by omega, by omega⟩ | exact .inl ⟨by omega, by omega⟩ | exact .inr ⟨by omega, by omega⟩ | (show (_ : Int) < _; omega) | (show (_ : Int) ≠ _; omega)))
  | with_reducible apply s_mm
  | ((with_reducible apply s_lenKL); (case' h1 => walk_at "g"))
  | ((with_reducible apply s_lenKT); (case' h1 => walk_at "g"))
  | ((with_reducible apply s_tupKT); (case' h1 => walk_at "g"))
  | with_reducible apply s_iE
  | ((with_reducible apply s_iE2); (case' h1 => walk_at "g"); intro J w)
  | with_reducible apply s_ifTT
  | with_reducible apply s_ifFF
  | with_reducible apply s_rollE
  | ((with_reducible apply s_roll); (case' h1 => walk_at "g"); (case' h2 => exact ⟨by omega, by omega⟩); intro k k0 k1)
  | with_reducible apply s_gSub
  | with_reducible apply s_ab
  | with_reducible apply s_in1
  | with_reducible apply s_in2
  | ((with_reducible apply s_lsL); (case' h1 => walk_at "g"))
  | ((with_reducible apply s_lsT); (case' h1 => walk_at "g"))
  | ((with_reducible apply s_tyL); (case' h1 => walk_at "g"))
  | with_reducible apply s_for
  | with_reducible apply s_lc
  | with_reducible apply s_dc
  | with_reducible apply s_gn
  | with_reducible apply s_yes
  | with_reducible apply s_iL
  | with_reducible apply s_iT
  | with_reducible apply s_iR1
  | with_reducible apply s_iR2
  | with_reducible apply s_iK
  | ((with_reducible apply s_iL2); (case' h1 => walk_at "g"); intro J w)
  | ((with_reducible apply s_iT2); (case' h1 => walk_at "g"); intro J w)
  | ((with_reducible apply s_iR12); (case' h1 => omega); intro J w)
  | ((with_reducible apply s_iR22); (case' h1 => omega); intro J w)
  | ((with_reducible apply s_iK2); (case' h1 => walk_at "g"); intro J w)
  | ((with_reducible apply s_gNn); (case' e => walk_at "st"))
  | ((with_reducible apply s_var); (case' h1 => first | exact rfl | with_reducible assumption))
  | with_reducible apply s_c
  | with_reducible apply s_op
  | with_reducible apply s_cons
  | with_reducible apply s_nil
  | with_reducible apply s_ret
  | with_reducible apply s_ifS
  | with_reducible apply s_test
  | with_reducible apply s_B
  | with_reducible apply s_exbl
  | with_reducible apply s_exint
  | with_reducible apply s_I0
  | ((with_reducible apply s_Eq); (case' hs => exact rfl))
  | ((with_reducible apply s_Ne); (case' hs => exact rfl))
  | with_reducible apply s_un
  | with_reducible apply s_U
  | with_reducible apply s_cb
  | with_reducible apply s_call
  | with_reducible apply s_next
  | with_reducible apply s_drop
  | with_reducible apply s_break
  | with_reducible apply s_cont
  | with_reducible apply s_retN
  | with_reducible apply s_par
  | with_reducible apply s_par2
  | with_reducible apply s_par3
  | with_reducible apply s_par33
  | ((with_reducible apply s_aug); (case' h1 => exact rfl))
  | with_reducible apply s_and
  | with_reducible apply s_or
  | with_reducible apply s_not
  | with_reducible apply s_andV
  | with_reducible apply s_orV
  | with_reducible apply s_notV
  | with_reducible apply s_ifE
  | with_reducible apply s_isN
  | with_reducible apply s_chain
  | with_reducible apply s_sl
  | with_reducible apply s_noP
  | with_reducible apply s_part
  | with_reducible apply s_bm
  | with_reducible apply s_bm0
  | with_reducible apply s_fldE
  | ((with_reducible apply s_fld); (case' h1 => walk_at "g"); (case' h2 => assumption); (case' h3 => assumption); (case' h4 => exact rfl))
  | ((with_reducible apply s_ixL); (case' h1 => walk_at "g"); (case' h2 => first | with_reducible assumption | walk_at "ix"))
  | ((with_reducible apply s_ixT); (case' h1 => walk_at "g"); (case' h2 => first | with_reducible assumption | walk_at "ix"))
  | ((with_reducible apply s_lenL); (case' h1 => walk_at "g")))
local macro_rules | `(tactic| walk_at "ff") => `(tactic| repeat walk_at "f1")
local macro_rules | `(tactic| walk_at "k0") => `(tactic| try dsimp only [L2.cxOf, Cx.nox, Cx.wish, Cx.blk, genCx])
set_option hygiene true

theorem ex_pos {p w : Int} (hp : 0 < p) (hw : 0 < w) : 0 < (Rat.divInt p w).num := by
  obtain ⟨e1, _⟩ := ex_num (p := p) hw rfl
  rw [← e1]
  exact Int.ediv_pos_of_pos_of_dvd hp (Int.natCast_nonneg _) (Int.ofNat_dvd_left.mpr (Nat.gcd_dvd_left _ _))
theorem inV_ints {x : Int} {xs : List Int} : inV (.int x) (xs.map V.int) = decide (x ∈ xs) := by
  unfold inV
  rw [List.any_map]
  by_cases h : x ∈ xs
  · rw [decide_eq_true h, List.any_eq_true]
    exact ⟨x, h, by simp [eqV]⟩
  · rw [decide_eq_false h, List.any_eq_false]
    intro y hy z
    have : y = x := by simpa [eqV] using z
    exact h (this ▸ hy)
theorem f_niI [Lw] {K : PySem.W.Frag} {H : Hp} {a : Addr} {Q : VK} {x : Int} {xs : List Int} (h1 : SqL K H a (xs.map V.int)) (h : Q (.bl (!decide (x ∈ xs))) H) : rIn K true (.int x) (.ref a) H Q := ⟨a, _, rfl, .inl h1, rfl, by rw [List.all_eq_true]; intro y hy; obtain ⟨z, _, rfl⟩ := List.mem_map.mp hy; rfl, by rw [inV_ints]; exact h⟩
theorem dlt_ii {a b a' b' : Int} (h : ¬ (a < a' ∨ a = a' ∧ b < b')) : PySem.W.dataLt (.tuple [.int a, .int b]) (.tuple [.int a', .int b']) = false := by
  have q : ∀ x y, PyData.eqv (.int x) (.int y) = decide (x = y) := fun x y => by simp [PyData.eqv]; rfl
  rw [PySem.W.dataLt_tuple, PySem.W.dataLt_cons rfl, PySem.W.dataLt_cons rfl, PySem.W.dataLt_int, PySem.W.dataLt_int, q, q]
  simp only [decide_eq_true_eq]
  change (if a = a' then (if b = b' then false else decide (b < b')) else decide (a < a')) = false
  by_cases e1 : a = a'
  · rw [if_pos e1]
    by_cases e2 : b = b'
    · rw [if_pos e2]
    · rw [if_neg e2, decide_eq_false_iff_not]
      omega
  · rw [if_neg e1, decide_eq_false_iff_not]
    omega
section
variable [Lw] {P : Program} {w : World} {K : PySem.W.Frag} {mg : Str → Option Value} {base : Heap} {fn : List He.DefD} (T : Sy fa1 fn tf1 K mg base) (C : Cs P w K mg base) (L : Ls1 K) (A : Around) (outer : List Env) (s : Shared) (H : Hp) (E : XK) (hr : Room 20 (A.deeper (envOfC "law" (defScope s_law) s.heap.objs.size (He.fAd K ("law", none)) (.ref (He.codeOf K ("law", none))))))
include T C L hr
theorem seg_whe : PSs (lawX P w K mg base A outer s H E) sg_whe (tSt K (fun G => StW G.1) (fun G => StE G.1)) := by
  obtain ⟨f0, fd0, c__law_rounds⟩ := C.rounds
  obtain ⟨f1, fd1, c__law_roll⟩ := C.roll
  obtain ⟨f2, fd2, c__law_ex⟩ := C.lex
  obtain ⟨f3, fd3, c__law_ratios⟩ := C.lrat
  obtain ⟨f4, fd4, c_exact⟩ := C.exact
  obtain ⟨f5, fd5, c_times⟩ := C.times
  obtain ⟨f6, fd6, c_less⟩ := C.less
  obtain ⟨f7, fd7, c_Train⟩ := C.train
  obtain ⟨f8, fd8, c_Train_add_shaft⟩ := C.shaft
  obtain ⟨f9, fd9, c_Train_mesh⟩ := C.mesh
  obtain ⟨f10, fd10, c_Train_ratios⟩ := C.ratios
  obtain ⟨f11, fd11, c_Train_speeds⟩ := C.speeds
  obtain ⟨f12, fd12, c_Train_apart⟩ := C.apart
  obtain ⟨f13, fd13, c_Train_together_again⟩ := C.tog
  obtain ⟨f14, fd14, c_best_pair⟩ := C.pair
  obtain ⟨fdt, Ft, bT⟩ := C.told
  obtain ⟨oc, od, dV, kV, doc, pm, an, cdv, ct, osl, rfl, lkT, cdT, _, _⟩ := Ft.ex
  obtain ⟨tMT, c_MT⟩ := T.int "MOST_TEETH" 400
  obtain ⟨tMS, c_MS⟩ := T.int "MOST_SHAFTS" 30
  have cT := T.cls "Train"
  have n1 := T.noat "Train" "shafts"
  have n2 := T.noat "Train" "meshes"
  refine pss_weak (pss_cons (ps_par (i := 18) (j := 19) (by rfl) sc_law.nd rfl rfl (by decide) rfl rfl (pa_cons (pe_lc (own := [("k", 25)]) (tt := tYes) rfl sc_law.nd (pi_range1 rfl (T.free "range") (pa_cons (pe_op op_add pe_int (pe_roll c__law_roll (hr.mono (by first | decide | omega)) rfl (pa_cons (pv 1) (pa_cons pe_int pa_nil)))) pa_nil)) (blkOk_by (N := n_law) (sc := (defScope s_law)) (by decide +kernel)) (fun _ _ _ _ _ => (pg_name (i := 25) sc_law.nd rfl (.inl rfl))) (fun _ _ _ _ _ => pts_nil)  (fun _ _ _ _ _ => (pe_op op_add pe_int (pe_roll c__law_roll (hr.mono (by first | decide | omega)) rfl (pa_cons (pv 1) (pa_cons pe_int pa_nil)))))) (pa_cons (pe_cal c__law_ex (hr.mono (by first | decide | omega)) rfl pass0 (pa_cons (pe_op op_add pe_int (pe_roll c__law_roll (hr.mono (by first | decide | omega)) rfl (pa_cons (pv 1) (pa_cons pe_int pa_nil)))) (pa_cons (pe_op op_add pe_int (pe_roll c__law_roll (hr.mono (by first | decide | omega)) rfl (pa_cons (pv 1) (pa_cons pe_int pa_nil)))) pa_nil))) pa_nil)) (by rfl)) (pss_cons (ps_set (i := 20) sc_law.nd rfl (.inl rfl) (pe_cal c_best_pair (hr.mono (by first | decide | omega)) rfl passF (pa_cons (pv 19) (pa_cons (pv 18) pa_nil)))) (pss_cons (ps_set (i := 21) sc_law.nd rfl (.inl rfl) (pe_cal c__law_ex (hr.mono (by first | decide | omega)) rfl pass0 (pa_cons (pe_callB call_abs rfl (T.free "abs") boot_abs (pa_cons (pe_op op_sub (pe_op op_mul (pe_ix (ix_tupK (K := K) rfl) (pv 20) pe_int (fun _ _ => rfl)) (pe_ix (ix_tupK (K := K) rfl) (pv 19) pe_int (fun _ _ => rfl))) (pe_op op_mul (pe_ix (ix_tupK (K := K) rfl) (pv 19) pe_int (fun _ _ => rfl)) (pe_ix (ix_tupK (K := K) rfl) (pv 20) pe_int (fun _ _ => rfl)))) pa_nil)) (pa_cons (pe_op op_mul (pe_ix (ix_tupK (K := K) rfl) (pv 20) pe_int (fun _ _ => rfl)) (pe_ix (ix_tupK (K := K) rfl) (pv 19) pe_int (fun _ _ => rfl))) pa_nil)))) (pss_one (ps_for PassesOwn.never rfl (pi_listK (K := K) rfl (pv 18)) (pg_name (i := 7) sc_law.nd rfl (.inr rfl)) (pss_one (ps_for PassesOwn.never rfl (pi_listK (K := K) rfl (pv 18)) (pg_name (i := 8) sc_law.nd rfl (.inr rfl)) (pss_cons (ps_set (i := 22) sc_law.nd rfl (.inl rfl) (pe_cal c__law_ex (hr.mono (by first | decide | omega)) rfl pass0 (pa_cons (pe_callB call_abs rfl (T.free "abs") boot_abs (pa_cons (pe_op op_sub (pe_op op_mul (pv 7) (pe_ix (ix_tupK (K := K) rfl) (pv 19) pe_int (fun _ _ => rfl))) (pe_op op_mul (pe_ix (ix_tupK (K := K) rfl) (pv 19) pe_int (fun _ _ => rfl)) (pv 8))) pa_nil)) (pa_cons (pe_op op_mul (pv 8) (pe_ix (ix_tupK (K := K) rfl) (pv 19) pe_int (fun _ _ => rfl))) pa_nil)))) (pss_cons (ps_set (i := 23) sc_law.nd rfl (.inl rfl) (pe_cmpR op_lt (pe_op op_mul (pe_ix (ix_tupK (K := K) rfl) (pv 22) pe_int (fun _ _ => rfl)) (pe_ix (ix_tupK (K := K) rfl) (pv 21) pe_int (fun _ _ => rfl))) (pe_op op_mul (pe_ix (ix_tupK (K := K) rfl) (pv 21) pe_int (fun _ _ => rfl)) (pe_ix (ix_tupK (K := K) rfl) (pv 22) pe_int (fun _ _ => rfl))) (nomark _))) (pss_one (ps_if (PW.pt (pw_or (pt_val (pv 23)) (pw_or (PW.pt (pw_and (pt_cmpR (op_eqDK (K := K) rfl (Room.units hr)) (pv 22) (pv 21) (nomark _)) (pw_and1 (pt_cmpR (op_ltDK (K := K) rfl (Room.units hr)) (pe_tup (pa_cons (pv 7) (pa_cons (pv 8) pa_nil))) (pv 20) (nomark _))))) (pw_or (pt_cmpR (op_niSK (K := K) rfl) (pe_ix (ix_tupK (K := K) rfl) (pv 20) pe_int (fun _ _ => rfl)) (pv 18) (by with_unfolding_all rfl)) (pw_or1 (pt_cmpR (op_niSK (K := K) rfl) (pe_ix (ix_tupK (K := K) rfl) (pv 20) pe_int (fun _ _ => rfl)) (pv 18) (by with_unfolding_all rfl))))))) (pss_one (ps_ret pe_bl)) pss_nil))))))))))) ?_
  rintro ⟨nx, rt, bk, ct⟩ σ H ⟨G, ⟨ok, x2, x3, x4, x5, x6, x7, x8, x9, x10, x11, x12, x13, x14, x15, x16, x17, x18, x19, x20, x21, x22, x23, x24, x25, x26, x27, rfl, F⟩, hB⟩
  have hq0 := ok.q
  refine seqP (fun σ' H' => ∃ (pl pw : Addr) (ws : List Int) (q : Rat) (x25 : Option V), σ' = [some (V.ref G.1.a), some (V.ref G.1.q0), x2, x3, x4, x5, x6, x7, x8, x9, x10, x11, x12, x13, x14, x15, x16, x17, some (.ref pl), some (.ref pw), x20, x21, x22, x23, x24, x25, x26, x27] ∧ ws ≠ [] ∧ ws.length < 64 ∧ (∀ x ∈ ws, 1 ≤ x ∧ x ≤ 100) ∧ ((1 ≤ q.num ∧ q.num ≤ 100) ∧ 1 ≤ (q.den : Int) ∧ (q.den : Int) ≤ 100) ∧ Fp G.1.HB [] [ck pl (.lst (ws.map V.int)), ck pw (qO q)] H') (fun σ' H' hP => ?_) (fun nx' hB => ?_)
  rotate_left
  · walk_at "ff"
    refine lcS w F (fun D i H' => ∃ fs : List Int, fs.length = i ∧ (∀ n ∈ fs, 1 ≤ n ∧ n ≤ 100) ∧ Fp G.1.HB [] [ck D (.lst (fs.map V.int))] H') (fun D H' F => ⟨[], rfl, fun n hn => (nomatch hn), F⟩) (fun _ _ _ _ => True.intro) (fun D i y H' hy hP => ?_) (fun D H' hP => ?_)
    · obtain ⟨fs, hfl, hf0, F⟩ := hP
      obtain ⟨hi, rfl⟩ := rangeL_get hy
      walk_at "ff"
      refine lcQ F (.n .here) (len_lt (by rw [List.length_map]; clear F w; omega)) fun H4 F => ⟨fs ++ [5 + k], by rw [List.length_append, hfl]; rfl, fun n hn => ?_, ?_⟩
      · rcases List.mem_append.mp hn with hn | hn
        · exact hf0 n hn
        · rw [List.mem_singleton.mp hn]
          clear F
          omega
      · rw [List.map_append]
        exact F
    · obtain ⟨fs, hfl, hf0, F⟩ := hP
      rw [rangeL_length] at hfl
      walk_at "ff"
      rename_i ka ka0 ka1
      refine ⟨1 + ka, 1 + k, rfl, by clear F w; omega, by clear F w; omega, fun t0 H5 G5 => ?_⟩
      replace F := F.call1 G5 .nil
      obtain ⟨e1, e2⟩ := ex_le (p := 1 + ka) (w := 1 + k) (by clear F w; omega)
      have e3 := ex_pos (p := 1 + ka) (w := 1 + k) (by clear F w; omega) (by clear F w; omega)
      have e4 := q_pos (q := Rat.divInt (1 + ka) (1 + k))
      walk_at "ff"
      exact hB _ _ ⟨D, t0, fs, _, _, rfl, fun z => (by rw [z] at hfl; clear F w; simp at hfl; omega), by clear F w; omega, hf0, ⟨⟨by clear F w; omega, by clear F w; omega⟩, by clear F w; omega, by clear F w; omega⟩, permC F (List.Perm.swap _ _ _)⟩
  obtain ⟨pl, pw, ws, q, x25, rfl, hwn, hwl, hwb, ⟨⟨hq1, hq2⟩, hq3, hq4⟩, F⟩ := hP
  walk_at "ff"
  refine ⟨pw, pl, q.num, q.den, ws, rfl, SqT.of (F.getN (.there .here)), F.getN .here, hwl, fun z => absurd z (fun z => z.elim hwn (by omega)), fun _ => ⟨⟨by omega, by omega, by omega, hwb⟩, fun p b0 b1 N1 H1 hbp hp1 G1 => ?_⟩⟩
  have hp1 := hp1
  replace F := F.call_ G1
  walk_at "ff"
  have Fb := F
  replace F : Fp H1 [ck pl (.lst (ws.map V.int)), ck pw (qO q)] [] H1 := F.pq (by walk_at "pq")
  have hb0m := hbp.1
  have hb1m := hbp.2.1
  dsimp only at hb0m hb1m
  have hx0 := hwb b0 hb0m
  have hy0 := hwb b1 hb1m
  have a1 := m100 hx0 ⟨hq3, hq4⟩
  have a2 := m100 ⟨hq1, hq2⟩ hy0
  have a3 := m100 hy0 ⟨hq3, hq4⟩
  have hfar := far_le (w0 := q.num) (w1 := q.den) ⟨hq1, hq2⟩ ⟨hq3, hq4⟩ hx0 hy0
  refine ⟨_, _, rfl, by omega, by omega, fun tf H5 G5 => ?_⟩
  replace F : Fp H1 [ck pl (.lst (ws.map V.int)), ck pw (qO q)] [ck tf (qO (farQ q.num q.den b0 b1))] H5 := F.call1 G5 .nil
  walk_at "ff"
  refine forS w (fun i σ' H' => ∃ (x7 x8 x22 x23 : Option V), σ' = [some (V.ref G.1.a), some (V.ref G.1.q0), x2, x3, x4, x5, x6, x7, x8, x9, x10, x11, x12, x13, x14, x15, x16, x17, some (.ref pl), some (.ref pw), some (.ref p), some (.ref tf), x22, x23, x24, x25, x26, x27] ∧ Fp H1 [ck pl (.lst (ws.map V.int)), ck pw (qO q)] [ck tf (qO (farQ q.num q.den b0 b1))] H') ⟨_, _, _, _, rfl, F⟩ (fun i σ' H' hP => ?_) (fun i y σ' H' hy hP => ?_) (fun σ' H' hP => ?_)
  · obtain ⟨x7, x8, x22, x23, rfl, F⟩ := hP
    exact SqL.of (F.getS .here)
  · clear F
    obtain ⟨x7, x8, x22, x23, rfl, F⟩ := hP
    obtain ⟨one, hone, rfl⟩ := map_get hy
    have hom := get_mem hone
    walk_at "ff"
    refine forS w (fun i σ' H' => ∃ (x8 x22 x23 : Option V), σ' = [some (V.ref G.1.a), some (V.ref G.1.q0), x2, x3, x4, x5, x6, some (.int one), x8, x9, x10, x11, x12, x13, x14, x15, x16, x17, some (.ref pl), some (.ref pw), some (.ref p), some (.ref tf), x22, x23, x24, x25, x26, x27] ∧ Fp H1 [ck pl (.lst (ws.map V.int)), ck pw (qO q)] [ck tf (qO (farQ q.num q.den b0 b1))] H') ⟨_, _, _, rfl, F⟩ (fun i σ' H' hP => ?_) (fun i y σ' H' hy hP => ?_) (fun σ' H' hP => ?_)
    · obtain ⟨x8, x22, x23, rfl, F⟩ := hP
      exact SqL.of (F.getS .here)
    · clear F
      obtain ⟨x8, x22, x23, rfl, F⟩ := hP
      obtain ⟨oth, hoth, rfl⟩ := map_get hy
      have hotm := get_mem hoth
      have hx := hwb one hom
      have hy2 := hwb oth hotm
      have c1 := m100 hx ⟨hq3, hq4⟩
      have c2 := m100 ⟨hq1, hq2⟩ hy2
      have c3 := m100 hy2 ⟨hq3, hq4⟩
      have hfar2 := far_le (w0 := q.num) (w1 := q.den) ⟨hq1, hq2⟩ ⟨hq3, hq4⟩ hx hy2
      obtain ⟨hm1, hm2⟩ := hbp.2.2 one hom oth hotm
      dsimp only at hm1 hm2
      walk_at "ff"
      refine ⟨_, _, rfl, by omega, by omega, fun th H6 G6 => ?_⟩
      replace F : Fp H1 [ck pl (.lst (ws.map V.int)), ck pw (qO q)] [ck th (qO (farQ q.num q.den one oth)), ck tf (qO (farQ q.num q.den b0 b1))] H6 := F.call1 G6 .nil
      have hlt : ¬ (farQ q.num q.den one oth).num * ((farQ q.num q.den b0 b1).den : Int) < (farQ q.num q.den b0 b1).num * ((farQ q.num q.den one oth).den : Int) := fun z => hm1 (q_lt.mpr z)
      generalize farQ q.num q.den one oth = fh at *
      generalize farQ q.num q.den b0 b1 = fb at *
      walk_at "ff"
      refine ite_dec (fun z => absurd z hlt) (fun _ => ?_)
      walk_at "ff"
      have hpf : H6 p = some (.tup [.int b0, .int b1]) := F.imm hp1 rfl
      refine s_eqD (q_dp (F.getN .here)) (q_dp (F.getN (.there .here))) (q_sh.shaped (by decide)) (q_sh.shaped (by decide)) ?_
      rw [eqv_q]
      walk_at "ff"
      refine ite_dec (fun hc => ?_) (fun hc => ?_)
      · walk_at "ff"
        have hpf := F.imm hp1 rfl
        refine s_ltD (d := .tuple [.int one, .int oth]) (e := .tuple [.int b0, .int b1]) (.tup (SqT.of (F.getN .here)) (.cons (.int _) (.cons (.int _) .nil))) (.tup (SqT.of hpf) (.cons (.int _) (.cons (.int _) .nil))) rfl (fun z => nomatch z) (Nat.le_of_ble_eq_true rfl) ?_
        rw [dlt_ii (hm2 hc)]
        walk_at "ff"
        refine f_niI (SqL.of (F.getS .here)) ?_
        walk_at "ff"
        refine ite_ndec (fun z => absurd hb0m z) (fun _ => ?_)
        walk_at "ff"
        refine f_niI (SqL.of (F.getS .here)) ?_
        walk_at "ff"
        refine ite_ndec (fun z => absurd hb1m z) (fun _ => ?_)
        walk_at "ff"
        exact ⟨_, _, _, rfl, F.kp (.drop (.drop Kp.rf))⟩
      · walk_at "ff"
        refine f_niI (SqL.of (F.getS .here)) ?_
        walk_at "ff"
        refine ite_ndec (fun z => absurd hb0m z) (fun _ => ?_)
        walk_at "ff"
        refine f_niI (SqL.of (F.getS .here)) ?_
        walk_at "ff"
        refine ite_ndec (fun z => absurd hb1m z) (fun _ => ?_)
        walk_at "ff"
        exact ⟨_, _, _, rfl, F.kp (.drop Kp.rf)⟩
    · obtain ⟨x8, x22, x23, rfl, F⟩ := hP
      exact ⟨_, _, _, _, rfl, F⟩
  · clear F
    obtain ⟨x7, x8, x22, x23, rfl, F⟩ := hP
    exact hB _ _ ⟨_, _, _, _, _, _, _, _, _, _, _, _, _, _, _, _, _, _, _, _, _, _, _, _, _, _, _, rfl, (Fb.call (by walk_at "rs") F).kp .nil⟩
end
end K1

set_option Elab.async false
set_option linter.all false
set_option maxRecDepth 100000
set_option maxHeartbeats 4000000
set_option pp.maxSteps 1500
namespace K1
open PySem PySem.Spec PyProof.Rows L2 Mi LamX
set_option hygiene false
local macro_rules | `(tactic| walk_at "lk") => `(tactic| first | (with_reducible assumption) | (with_reducible apply get_set_self; walk_at "lk") | ((with_reducible apply get_set_ne); (case' hne => with_reducible assumption); walk_at "lk"))
local macro_rules | `(tactic| walk_at "at") => `(tactic| first | (with_reducible exact At.here) | (with_reducible apply At.at; (case' h1 => assumption); walk_at "lk") | (with_reducible apply At.there; walk_at "at"))
local macro_rules | `(tactic| walk_at "rp") => `(tactic| first | (with_reducible exact Rp.here) | (with_reducible apply Rp.set; (case' h1 => assumption); walk_at "lk") | (with_reducible apply Rp.at; (case' h1 => assumption); walk_at "lk") | (with_reducible apply Rp.there; walk_at "rp"))
local macro_rules | `(tactic| walk_at "re") => `(tactic| first | (with_reducible apply Re.n; walk_at "rp") | (with_reducible apply Re.s; walk_at "rp"))
local macro_rules | `(tactic| walk_at "dl") => `(tactic| first | (with_reducible exact Dl.here) | (with_reducible apply Dl.there; walk_at "dl"))
local macro_rules | `(tactic| walk_at "pq") => `(tactic| first | (with_reducible exact Pq.nil) | ((with_reducible apply Pq.n); (case' d => walk_at "dl"); walk_at "pq") | ((with_reducible apply Pq.s); (case' d => walk_at "dl"); walk_at "pq"))
local macro_rules | `(tactic| walk_at "rc") => `(tactic| first | (with_reducible exact Rc.here) | (with_reducible apply Rc.there; walk_at "rc"))
local macro_rules | `(tactic| walk_at "rs") => `(tactic| first | (with_reducible exact Rs.nil) | ((with_reducible apply Rs.on); (case' r => walk_at "rc"); (case' hl => first | exact rfl | ((try simp only [List.length_map, List.length_set]); with_reducible assumption) | (simp; done)); walk_at "rs") | ((with_reducible apply Rs.os); (case' r => walk_at "rc"); (case' hl => first | exact rfl | ((try simp only [List.length_map, List.length_set]); with_reducible assumption) | (simp; done)); walk_at "rs"))
local macro_rules | `(tactic| walk_at "ix") => `(tactic| first | with_reducible exact atI_nat (by assumption) | with_reducible exact atI_nat1 (by assumption) | with_reducible exact atI0 | with_reducible exact atI1 | with_reducible exact atI2 | with_reducible exact atI3 | with_reducible exact atI4)
local macro_rules | `(tactic| walk_at "sl") => `(tactic| first | (with_reducible assumption) | ((with_reducible apply len_app); (case' h1 => walk_at "sl"); (case' h2 => walk_at "sl")) | (with_reducible exact Nat.le_refl _))
local macro_rules | `(tactic| walk_at "sz") => `(tactic| first | with_reducible assumption | ((with_reducible apply len_leB); (case' h => walk_at "sl"); (case' hn => exact Nat.le_of_ble_eq_true rfl)) | exact of_decide_eq_true rfl | (exact len_le (by (try simp only [List.length_append, List.length_cons, List.length_nil, List.length_map, List.length_set, List.length_reverse]); omega)) | (exact len_lt (by (try simp only [List.length_append, List.length_cons, List.length_nil, List.length_map, List.length_set, List.length_reverse]); omega)))
local macro_rules | `(tactic| walk_at "len") => `(tactic| ((try simp only [List.length_append, List.length_cons, List.length_nil, List.length_map, List.length_set, List.length_reverse, List.length_replicate]); omega))
local macro_rules | `(tactic| walk_at "ixn") => `(tactic| first | with_reducible assumption | (with_reducible apply ixN_nat; walk_at "len") | (with_reducible apply ixN_nat1; walk_at "len") | (with_reducible apply ixN_0; walk_at "len") | (with_reducible apply ixN_1; walk_at "len") | (with_reducible apply ixN_2; walk_at "len") | exact rfl)
local macro_rules | `(tactic| walk_at "st") => `(tactic| ((try simp only [L2.start, wipe, List.map_cons, List.map_nil, List.length_cons, List.length_nil, Nat.reduceAdd, Nat.reduceSub, List.replicate_succ, List.replicate_zero, List.nil_append, List.cons_append, List.set_cons_succ, List.set_cons_zero]); exact rfl))
local macro_rules | `(tactic| walk_at "kp") => `(tactic| first | (with_reducible exact Kp.nil) | (with_reducible apply Kp.keep; walk_at "kp") | (with_reducible apply Kp.drop; walk_at "kp"))
local macro_rules | `(tactic| walk_at "g") => `(tactic| first
  | with_reducible assumption
  | (with_reducible apply F.getN; walk_at "at")
  | (with_reducible apply F.getS; walk_at "at")
  | ((with_reducible apply F.imm); (case' h => with_reducible assumption); exact rfl)
  | ((with_reducible apply F.keep); (case' h => with_reducible assumption); exact rfl)
  | ((with_reducible apply F.keepL); with_reducible assumption)
  | ((with_reducible apply F.sqT); with_reducible assumption)
  | ((with_reducible apply SqL.of); walk_at "g")
  | ((with_reducible apply SqT.of); walk_at "g")
  | ((with_reducible apply Rd.of); walk_at "g")
  | ((with_reducible apply Rd.frz); walk_at "g")
  | (with_reducible apply F.tab; with_reducible assumption)
  | ((with_reducible apply f_dgetS); (case' h1 => walk_at "g"); (case' h2 => first | with_reducible assumption | ((simp (decide := true) only [valR, if_true, if_false]); exact rfl))))
local macro_rules | `(tactic| walk_at "f1") => `(tactic| first
  | (with_reducible (first | apply s_seq | apply s_cons | apply s_nil | apply s_c | apply s_op | apply s_asg | apply s_test | apply s_ifS | apply s_ret | apply s_next | apply s_call | apply s_fldE | apply s_dgetE | apply s_gCons | apply s_gNil | apply s_par | apply s_par3 | apply s_and | apply s_or | apply s_not | apply s_andV | apply s_orV | apply s_notV | apply s_ifE | apply s_chain | apply s_cb | apply s_for | apply s_lc | apply f_methE | apply f_makeE | apply s_rollE | apply s_iK | apply s_iL | apply s_iT | apply f_tup | apply f_lst))
  | ((with_reducible apply s_var); (case' h1 => first | exact rfl | with_reducible assumption))
  | ((with_reducible apply s_gNn); (case' e => walk_at "st"))
  | ((with_reducible apply s_dget); (case' h1 => walk_at "g"))
  | with_reducible apply f_tup
  | with_reducible apply f_lst
  | ((with_reducible apply newF F); (case' ho => exact rfl); clear F; intro p H1 F)
  | ((with_reducible apply s_mk0); (case' hz => first | decide | (simp only [List.length_cons, List.length_nil]; decide)))
  | with_reducible apply f_sFld
  | ((with_reducible apply f_fld F); (case' R => walk_at "re"); (case' h2 => with_reducible assumption); (case' h3 => with_reducible assumption); (case' h4 => exact of_decide_eq_true rfl); (case' hp => ((try simp (decide := true) only [putF, if_true, if_false]); exact rfl)); clear F; intro H1 F)
  | with_reducible apply f_sAug
  | ((with_reducible apply f_aug); (case' h1 => walk_at "g"); (case' h2 => with_reducible assumption); (case' h3 => with_reducible assumption); (case' h4 => exact rfl))
  | ((with_reducible apply f_fldq F); (case' R => walk_at "re"); (case' h4 => exact of_decide_eq_true rfl); (case' hp => ((try simp (decide := true) only [putF, if_true, if_false]); exact rfl)); clear F; intro H1 F)
  | with_reducible apply f_radd
  | with_reducible apply f_rsub
  | ((with_reducible apply f_setL F); (case' R => walk_at "re"); (case' h2 => walk_at "ixn"); clear F; intro H1 F)
  | with_reducible apply f_sDPut
  | ((with_reducible apply f_dputS F); (case' R => walk_at "re"); (case' hl => walk_at "sz"); (case' hp => first | with_reducible assumption | ((try simp (decide := true) only [putR, List.map_cons, List.map_nil, if_true, if_false]); exact rfl)); clear F; intro H1 F)
  | with_reducible apply f_sDAug
  | ((with_reducible apply f_daug); (case' h1 => walk_at "g"))
  | ((with_reducible apply f_dputqS F); (case' R => walk_at "re"); (case' hl => walk_at "sz"); (case' hp => first | with_reducible assumption | ((try simp (decide := true) only [putR, List.map_cons, List.map_nil, if_true, if_false]); exact rfl)); clear F; intro H1 F)
  | with_reducible apply s_dgetE
  | ((with_reducible apply s_dget); (case' h1 => walk_at "g"))
  | ((with_reducible apply f_append F); (case' R => walk_at "re"); (case' hz => walk_at "sz"); clear F; intro H1 F)
  | ((with_reducible apply f_listKL); (case' h1 => walk_at "g"))
  | ((with_reducible apply f_listKT); (case' h1 => walk_at "g"))
  | ((with_reducible apply f_tupKL); (case' h1 => walk_at "g"))
  | ((with_reducible apply f_slL); (case' h1 => walk_at "g"))
  | ((with_reducible apply f_cat); (case' h1 => walk_at "g"); (case' h2 => walk_at "g"); (case' hz => walk_at "sz"))
  | with_reducible apply f_makeE
  | with_reducible apply s_iR3
  | ((with_reducible apply s_iR3d); (case' h1 => omega); (case' hc => rfl); intro J w)
  | ((with_reducible apply s_wipe); (case' h1 => first | exact rfl | exact wipe1))
  | with_reducible apply s_revE
  | ((with_reducible apply s_rev); (case' h1 => walk_at "g"))
  | with_reducible apply f_methE
  | ((with_reducible apply s_lenD); (case' h1 => walk_at "g"))
  | ((with_reducible apply f_meth); (case' h1 => walk_at "g"); (case' h2 => exact rfl))
  | with_reducible apply s_iEL
  | ((with_reducible apply s_iEL2); (case' h1 => walk_at "g"); intro J w)
  | with_reducible apply s_iZ
  | with_reducible apply s_iI
  | ((with_reducible apply s_iI2); (case' h1 => walk_at "g"); intro J w)
  | ((with_reducible apply f_rep1); (case' h1 => walk_at "g"); (case' hk => (constructor <;> omega)))
  | with_reducible apply f_gSub
  | ((with_reducible apply f_disp F); clear F; intro p H1 F)
  | with_reducible apply f_pairC
  | with_reducible apply f_pairN
  | ((with_reducible apply f_dispQ F); (case' R => walk_at "re"); (case' e => ((simp only [List.map_cons, List.map_nil, cvK]); exact rfl)); (case' e2 => exact rfl); (case' hl => exact Nat.le_of_ble_eq_true rfl); (case' hm => first | with_reducible apply hMk | exact rfl); clear F; intro H1 F)
  | ((with_reducible apply f_dnew F); clear F; intro p H1 F)
  | ((with_reducible apply f_unl F); (case' R => walk_at "re"); clear F; intro H1 F)
  | with_reducible apply f_rSetD
  | with_reducible apply f_dnewK
  | with_reducible apply f_sDNi
  | with_reducible apply f_finS
  | with_reducible apply f_finB
  | with_reducible apply f_finB'
  | with_reducible apply f_sDIn
  | ((with_reducible apply s_catS); (case' h1 => walk_at "sl"); (case' h2 => walk_at "sl"); (case' hn => exact Nat.le_of_ble_eq_true rfl))
  | ((with_reducible apply s_logA); (case' hl => with_reducible assumption))
  | with_reducible apply s_same
  | with_reducible apply s_js
  | with_reducible apply s_js0
  | ((with_reducible apply s_js2); (case' hl => walk_at "sz"))
  | with_reducible apply s_fm
  | ((with_reducible apply s_fmS); (case' hl => walk_at "sz"))
  | ((with_reducible apply s_fmI); (case' hl => with_reducible assumption))
  | with_reducible apply f_dget2E
  | with_reducible apply s_sameE
  | with_reducible apply s_chain3
  | with_reducible apply s_notN
  | with_reducible apply s_items
  | with_reducible apply s_bb1
  | with_reducible apply s_bb2
  | walk_at "f2")
local macro_rules | `(tactic| walk_at "f2") => `(tactic| first
  | with_reducible apply s_seq
  | with_reducible apply s_gCons
  | with_reducible apply s_gNil
  | ((with_reducible apply s_gTup); (case' h1 => walk_at "g"); (case' h2 => exact rfl))
  | with_reducible apply s_asg
  | ((with_reducible apply s_I); (case' hc => first | exact ⟨by omega, by omega⟩ | exact .inl ⟨by omega, by omega⟩ | exact .inr ⟨by omega, by omega⟩ | (show (_ : Int) < _; omega) | (show (_ : Int) ≠ _; omega)))
  | with_reducible apply s_mm
  | ((with_reducible apply s_lenKL); (case' h1 => walk_at "g"))
  | ((with_reducible apply s_lenKT); (case' h1 => walk_at "g"))
  | ((with_reducible apply s_tupKT); (case' h1 => walk_at "g"))
  | with_reducible apply s_iE
  | ((with_reducible apply s_iE2); (case' h1 => walk_at "g"); intro J w)
  | with_reducible apply s_ifTT
  | with_reducible apply s_ifFF
  | with_reducible apply s_rollE
  | ((with_reducible apply s_roll); (case' h1 => walk_at "g"); (case' h2 => exact ⟨by omega, by omega⟩); intro k k0 k1)
  | with_reducible apply s_gSub
  | with_reducible apply s_ab
  | with_reducible apply s_in1
  | with_reducible apply s_in2
  | ((with_reducible apply s_lsL); (case' h1 => walk_at "g"))
  | ((with_reducible apply s_lsT); (case' h1 => walk_at "g"))
  | ((with_reducible apply s_tyL); (case' h1 => walk_at "g"))
  | with_reducible apply s_for
  | with_reducible apply s_lc
  | with_reducible apply s_dc
  | with_reducible apply s_gn
  | with_reducible apply s_yes
  | with_reducible apply s_iL
  | with_reducible apply s_iT
  | with_reducible apply s_iR1
  | with_reducible apply s_iR2
  | with_reducible apply s_iK
  | ((with_reducible apply s_iL2); (case' h1 => walk_at "g"); intro J w)
  | ((with_reducible apply s_iT2); (case' h1 => walk_at "g"); intro J w)
  | ((with_reducible apply s_iR12); (case' h1 => omega); intro J w)
  | ((with_reducible apply s_iR22); (case' h1 => omega); intro J w)
  | ((with_reducible apply s_iK2); (case' h1 => walk_at "g"); intro J w)
  | ((with_reducible apply s_gNn); (case' e => walk_at "st"))
  | ((with_reducible apply s_var); (case' h1 => first | exact rfl | with_reducible assumption))
  | with_reducible apply s_c
  | with_reducible apply s_op
  | with_reducible apply s_cons
  | with_reducible apply s_nil
  | with_reducible apply s_ret
  | with_reducible apply s_ifS
  | with_reducible apply s_test
  | with_reducible apply s_B
  | with_reducible apply s_exbl
  | with_reducible apply s_exint
  | with_reducible apply s_I0
  | ((with_reducible apply s_Eq); (case' hs => exact rfl))
  | ((with_reducible apply s_Ne); (case' hs => exact rfl))
  | with_reducible apply s_un
  | with_reducible apply s_U
  | with_reducible apply s_cb
  | with_reducible apply s_call
  | with_reducible apply s_next
  | with_reducible apply s_drop
  | with_reducible apply s_break
  | with_reducible apply s_cont
  | with_reducible apply s_retN
  | with_reducible apply s_par
  | with_reducible apply s_par2
  | with_reducible apply s_par3
  | with_reducible apply s_par33
  | ((with_reducible apply s_aug); (case' h1 => exact rfl))
  | with_reducible apply s_and
  | with_reducible apply s_or
  | with_reducible apply s_not
  | with_reducible apply s_andV
  | with_reducible apply s_orV
  | with_reducible apply s_notV
  | with_reducible apply s_ifE
  | with_reducible apply s_isN
  | with_reducible apply s_chain
  | with_reducible apply s_sl
  | with_reducible apply s_noP
  | with_reducible apply s_part
  | with_reducible apply s_bm
  | with_reducible apply s_bm0
  | with_reducible apply s_fldE
  | ((with_reducible apply s_fld); (case' h1 => walk_at "g"); (case' h2 => assumption); (case' h3 => assumption); (case' h4 => exact rfl))
  | ((with_reducible apply s_ixL); (case' h1 => walk_at "g"); (case' h2 => first | with_reducible assumption | walk_at "ix"))
  | ((with_reducible apply s_ixT); (case' h1 => walk_at "g"); (case' h2 => first | with_reducible assumption | walk_at "ix"))
  | ((with_reducible apply s_lenL); (case' h1 => walk_at "g")))
local macro_rules | `(tactic| walk_at "ff") => `(tactic| repeat walk_at "f1")
local macro_rules | `(tactic| walk_at "k0") => `(tactic| try dsimp only [L2.cxOf, Cx.nox, Cx.wish, Cx.blk, genCx])
set_option hygiene true

abbrev nsD (l : List Str) : PyData := .tuple (l.map PyData.str)
theorem eqvAll_strs : ∀ (a b : List Str), PyData.eqvAll (a.map PyData.str) (b.map PyData.str) = decide (a = b)
  | [], [] => rfl
  | [], _ :: _ => rfl
  | _ :: _, [] => rfl
  | x :: a, y :: b => by
    rw [List.map_cons, List.map_cons]
    show (PyData.eqv (.str x) (.str y) && PyData.eqvAll (a.map PyData.str) (b.map PyData.str)) = _
    rw [eqvAll_strs a b, show PyData.eqv (.str x) (.str y) = decide (x = y) by rw [Bool.eq_iff_iff]; simp [PyData.eqv]]
    by_cases h1 : x = y
    · by_cases h2 : a = b
      · simp [h1, h2]
      · simp [h1, h2]
    · simp [h1]
theorem eqv_ns {a b : List Str} : PyData.eqv (nsD a) (nsD b) = decide (a = b) := eqvAll_strs a b
theorem ns_sh {l : List Str} (h : ∀ n ∈ l, txOk n = true) : Sh 1 (nsD l) := Sh.tup (k := 0) (sh_strs h)
theorem ns_dp {K : PySem.W.Frag} {H : Hp} {a : Addr} {l : List Str} (h : H a = some (nsO l)) : Dp K H (.ref a) (nsD l) := .tup (SqT.of h) str_dp
theorem nss_dp {K : PySem.W.Frag} {H : Hp} : ∀ {ts : List Addr} {gs : List (List Str)}, ts.length = gs.length → (∀ (i : Nat) (a : Addr) (g : List Str), ts[i]? = some a → gs[i]? = some g → H a = some (nsO g)) → DpAll K H (ts.map V.ref) (gs.map nsD)
  | [], [], _, _ => .nil
  | [], _ :: _, h, _ => by simp at h
  | _ :: _, [], h, _ => by simp at h
  | a :: ts, g :: gs, h, h1 => .cons (ns_dp (h1 0 a g rfl rfl)) (nss_dp (by simpa using h) fun i a r e1 e2 => h1 (i + 1) a r e1 e2)
theorem any_ns {g : List Str} {gs : List (List Str)} : ((gs.map nsD).any fun z => PyData.eqv z (nsD g)) = decide (g ∈ gs) := by
  rw [List.any_map]
  by_cases h : g ∈ gs
  · rw [decide_eq_true h, List.any_eq_true]
    exact ⟨g, h, by show PyData.eqv (nsD g) (nsD g) = true; rw [eqv_ns, decide_eq_true rfl]⟩
  · rw [decide_eq_false h, List.any_eq_false]
    intro y hy z
    have z : PyData.eqv (nsD y) (nsD g) = true := z
    rw [eqv_ns, decide_eq_true_eq] at z
    exact h (z ▸ hy)
section
variable [Lw] {P : Program} {w : World} {K : PySem.W.Frag} {mg : Str → Option Value} {base : Heap} {fn : List He.DefD} (T : Sy fa1 fn tf1 K mg base) (C : Cs P w K mg base) (L : Ls1 K) (A : Around) (outer : List Env) (s : Shared) (H : Hp) (E : XK) (hr : Room 20 (A.deeper (envOfC "law" (defScope s_law) s.heap.objs.size (He.fAd K ("law", none)) (.ref (He.codeOf K ("law", none))))))
include T C L hr
theorem seg_nm3 : PSs (lawX P w K mg base A outer s H E) sg_nm3 (tSt K (StT K) (fun G => StG K (G.1, G.2 + 1))) := by
  obtain ⟨f0, fd0, c__law_rounds⟩ := C.rounds
  obtain ⟨f1, fd1, c__law_roll⟩ := C.roll
  obtain ⟨f2, fd2, c__law_ex⟩ := C.lex
  obtain ⟨f3, fd3, c__law_ratios⟩ := C.lrat
  obtain ⟨f4, fd4, c_exact⟩ := C.exact
  obtain ⟨f5, fd5, c_times⟩ := C.times
  obtain ⟨f6, fd6, c_less⟩ := C.less
  obtain ⟨f7, fd7, c_Train⟩ := C.train
  obtain ⟨f8, fd8, c_Train_add_shaft⟩ := C.shaft
  obtain ⟨f9, fd9, c_Train_mesh⟩ := C.mesh
  obtain ⟨f10, fd10, c_Train_ratios⟩ := C.ratios
  obtain ⟨f11, fd11, c_Train_speeds⟩ := C.speeds
  obtain ⟨f12, fd12, c_Train_apart⟩ := C.apart
  obtain ⟨f13, fd13, c_Train_together_again⟩ := C.tog
  obtain ⟨f14, fd14, c_best_pair⟩ := C.pair
  obtain ⟨fdt, Ft, bT⟩ := C.told
  obtain ⟨oc, od, dV, kV, doc, pm, an, cdv, ct, osl, rfl, lkT, cdT, _, _⟩ := Ft.ex
  obtain ⟨tMT, c_MT⟩ := T.int "MOST_TEETH" 400
  obtain ⟨tMS, c_MS⟩ := T.int "MOST_SHAFTS" 30
  have cT := T.cls "Train"
  have n1 := T.noat "Train" "shafts"
  have n2 := T.noat "Train" "meshes"
  refine pss_weak (pss_cons (ps_set (i := 17) sc_law.nd rfl (.inl rfl) (pe_callTy (call_tupleK (K := K) rfl) rfl (T.free "tuple") boot_tuple (pa_cons (pe_lc (own := [("one", 7)])  rfl sc_law.nd (pi_listK (K := K) rfl (pv 2)) (blkOk_by (N := n_law) (sc := (defScope s_law)) (by decide +kernel)) (fun _ _ _ _ _ => (pg_name (i := 7) sc_law.nd rfl (.inl rfl))) (fun _ _ _ _ _ => pts_one (pt_cmp (pc_din (Room.u1 hr) (pv 7) (pv 14))))  (fun _ _ _ _ _ => (pv 7))) pa_nil))) (pss_one (ps_set (i := 13) sc_law.nd rfl (.inl rfl) (pe_op op_cat (pv 13) (pe_op op_rep (pe_lst (pa_cons (pv 17) pa_nil)) (pe_callTy call_int1 rfl (T.free "int") boot_int (pa_cons (pe_cmpR (op_notInDK (K := K) rfl (Room.u65 hr)) (pv 17) (pv 13) (by with_unfolding_all rfl)) pa_nil))))))) ?_
  rintro ⟨nx, rt, bk, ct⟩ σ H ⟨G, ⟨ok, x6, x7, x8, x9, x10, x11, x12, x15, x16, x17, x18, x19, x20, x21, x22, x23, x24, x25, x26, x27, as, as2, ms, lr, gr, ts, n, d, t, φ, rfl, hn, P0, I, hri, hl1, hl2, hts, F⟩, hB⟩
  have hnm := get_mem hn
  have hnl := ok.nl
  classical
  walk_at "ff"
  refine lcS w F (fun D i H' => Fp G.1.HB [] (ck D (.lst (((G.1.names.take i).filter fun m => decide (Conn ms n m)).map V.str)) :: ck d (.dK (tbR t)) :: (adsR t, t.map rtO) :: ck gr (.lst (ts.map V.ref)) :: (ts, (grL ms G.1.names (G.1.names.take G.2)).map nsO) :: LB K G.1 as as2 ms lr) H') (fun D H' F => F) (fun D i H' F => SqL.of (F.getN (.there (.there (.there (.there (.there .here))))))) (fun D i y H' hy F => ?_) (fun D H' F => ?_)
  · obtain ⟨n1, hn1, rfl⟩ := map_get hy
    have hlt := (List.getElem?_eq_some_iff.mp hn1).1
    have hal : ((G.1.names.take i).filter fun m => decide (Conn ms n m)).length ≤ 1000 := Nat.le_trans (List.length_filter_le _ _) (by rw [List.length_take]; omega)
    walk_at "ff"
    by_cases hc : Conn ms n n1
    · obtain ⟨r, hr, e1, _⟩ := tb_q I hc
      have hv := tb_get I.nd hr
      rw [e1] at hv
      refine f_din (.inl (F.getN (.there .here))) hv ?_
      walk_at "ff"
      refine lcQ F (.n .here) (len_lt (by rw [List.length_map]; omega)) fun H6 F => ?_
      rw [take_more hn1, List.filter_append, List.filter_cons_of_pos (by simpa using hc), List.filter_nil, List.map_append]
      exact F
    · refine f_din' (.inl (F.getN (.there .here))) (tb_no I hc) ?_
      walk_at "ff"
      rw [take_more hn1, List.filter_append, List.filter_cons_of_neg (by simpa using hc), List.filter_nil, List.append_nil]
      exact F
  rw [List.length_map, List.take_length] at F
  walk_at "ff"
  rename_i tr _
  have hgl := grL_len (ms := ms) (names := G.1.names) (l := G.1.names.take G.2)
  rw [List.length_take] at hgl
  have hcx : ∀ n : Str, ∀ y ∈ comp ms G.1.names n, txOk y = true := fun n y hy => ok.tx y (comp_mem.mp hy).1
  have hcm : (G.1.names.filter fun m => decide (Conn ms n m)) = comp ms G.1.names n := rfl
  rw [hcm] at F
  refine ⟨nsD (comp ms G.1.names n), (grL ms G.1.names (G.1.names.take G.2)).map nsD, ns_dp (F.getN (.there .here)), .lst (SqL.of (F.getN (.there (.there (.there (.there (.there .here))))))) (nss_dp hts fun i a g e1 e2 => F.getN (.there (.there (.there (.there (.there (.there (.at e1 (map_get_some e2))))))))), (ns_sh (hcx n)).shaped (by decide), (Sh.lst (k := 1) fun z hz => by
    obtain ⟨g, hg, rfl⟩ := List.mem_map.mp hz
    obtain ⟨m, rfl⟩ := grL_sub g hg
    exact ns_sh (hcx m)).shaped (by decide), ?_⟩
  rw [any_ns]
  walk_at "ff"
  rename_i pz _
  have hgz : (ts.map V.ref).length ≤ 7 := by rw [List.length_map, hts]; omega
  have hmore := grL_more (ms := ms) (names := G.1.names) hn
  by_cases hin : comp ms G.1.names n ∈ grL ms G.1.names (G.1.names.take G.2)
  · rw [decide_eq_true hin] at F
    rw [if_pos hin] at hmore
    replace F : Fp G.1.HB [] (ck p (.lst []) :: _) _ := F
    refine f_cat (F.getN (.there (.there (.there (.there (.there (.there .here))))))) (F.getN .here) (len_le (by rw [List.length_nil]; omega)) ?_
    refine newF F rfl fun pg H7 F => ?_
    rw [List.append_nil] at F
    walk_at "ff"
    refine hB _ _ ⟨_, _, _, _, _, _, _, _, _, _, _, _, _, _, _, _, _, _, _, _, _, _, as, as2, ms, lr, pg, ts, rfl, hri, hl1, hl2, by rw [hmore]; exact hts, ?_⟩
    rw [hmore]
    exact F.kp (.keep (.drop (.drop (.drop (.drop (.drop (.drop (.drop Kp.rf))))))))
  · rw [decide_eq_false hin] at F
    rw [if_neg hin] at hmore
    replace F : Fp G.1.HB [] (ck p (.lst [V.ref tr]) :: _) _ := F
    refine f_cat (F.getN (.there (.there (.there (.there (.there (.there .here))))))) (F.getN .here) (len_le (by rw [List.length_singleton]; omega)) ?_
    refine newF F rfl fun pg H7 F => ?_
    walk_at "ff"
    refine hB _ _ ⟨_, _, _, _, _, _, _, _, _, _, _, _, _, _, _, _, _, _, _, _, _, _, as, as2, ms, lr, pg, ts ++ [tr], rfl, hri, hl1, hl2, by rw [hmore, List.length_append, List.length_append, hts]; rfl, ?_⟩
    rw [hmore, List.map_append, List.map_append]
    replace F := permC (F.kp (.keep (.drop (.drop (.keep (.drop (.drop (.drop (.drop Kp.rf))))))))) (List.Perm.swap _ _ _)
    exact Fp.snocL (as := ts) (os := (grL ms G.1.names (G.1.names.take G.2)).map nsO) [_] (by rw [List.length_map]; exact hts) F
end
end K1

set_option Elab.async false
set_option linter.all false
set_option maxRecDepth 100000
set_option maxHeartbeats 4000000
set_option pp.maxSteps 1500
namespace K1
open PySem PySem.Spec PyProof.Rows L2 Mi LamX
set_option hygiene false
local macro_rules | `(tactic| walk_at "lk") => `(tactic| first | (with_reducible assumption) | (with_reducible apply get_set_self; walk_at "lk") | ((with_reducible apply get_set_ne); (case' hne => with_reducible assumption); walk_at "lk"))
local macro_rules | `(tactic| walk_at "at") => `(tactic| first | (with_reducible exact At.here) | (with_reducible apply At.at; (case' h1 => assumption); walk_at "lk") | (with_reducible apply At.there; walk_at "at"))
local macro_rules | `(tactic| walk_at "rp") => `(tactic| first | (with_reducible exact Rp.here) | (with_reducible apply Rp.set; (case' h1 => assumption); walk_at "lk") | (with_reducible apply Rp.at; (case' h1 => assumption); walk_at "lk") | (with_reducible apply Rp.there; walk_at "rp"))
local macro_rules | `(tactic| walk_at "re") => `(tactic| first | (with_reducible apply Re.n; walk_at "rp") | (with_reducible apply Re.s; walk_at "rp"))
local macro_rules | `(tactic| walk_at "dl") => `(tactic| first | (with_reducible exact Dl.here) | (with_reducible apply Dl.there; walk_at "dl"))
local macro_rules | `(tactic| walk_at "pq") => `(tactic| first | (with_reducible exact Pq.nil) | ((with_reducible apply Pq.n); (case' d => walk_at "dl"); walk_at "pq") | ((with_reducible apply Pq.s); (case' d => walk_at "dl"); walk_at "pq"))
local macro_rules | `(tactic| walk_at "rc") => `(tactic| first | (with_reducible exact Rc.here) | (with_reducible apply Rc.there; walk_at "rc"))
local macro_rules | `(tactic| walk_at "rs") => `(tactic| first | (with_reducible exact Rs.nil) | ((with_reducible apply Rs.on); (case' r => walk_at "rc"); (case' hl => first | exact rfl | ((try simp only [List.length_map, List.length_set]); with_reducible assumption) | (simp; done)); walk_at "rs") | ((with_reducible apply Rs.os); (case' r => walk_at "rc"); (case' hl => first | exact rfl | ((try simp only [List.length_map, List.length_set]); with_reducible assumption) | (simp; done)); walk_at "rs"))
local macro_rules | `(tactic| walk_at "ix") => `(tactic| first | with_reducible exact atI_nat (by assumption) | with_reducible exact atI_nat1 (by assumption) | with_reducible exact atI0 | with_reducible exact atI1 | with_reducible exact atI2 | with_reducible exact atI3 | with_reducible exact atI4)
local macro_rules | `(tactic| walk_at "sl") => `(tactic| first | (with_reducible assumption) | ((with_reducible apply len_app); (case' h1 => walk_at "sl"); (case' h2 => walk_at "sl")) | (with_reducible exact Nat.le_refl _))
local macro_rules | `(tactic| walk_at "sz") => `(tactic| first | with_reducible assumption | ((with_reducible apply len_leB); (case' h => walk_at "sl"); (case' hn => exact Nat.le_of_ble_eq_true rfl)) | exact of_decide_eq_true rfl | (exact len_le (by (try simp only [List.length_append, List.length_cons, List.length_nil, List.length_map, List.length_set, List.length_reverse]); omega)) | (exact len_lt (by (try simp only [List.length_append, List.length_cons, List.length_nil, List.length_map, List.length_set, List.length_reverse]); omega)))
local macro_rules | `(tactic| walk_at "len") => `(tactic| ((try simp only [List.length_append, List.length_cons, List.length_nil, List.length_map, List.length_set, List.length_reverse, List.length_replicate]); omega))
local macro_rules | `(tactic| walk_at "ixn") => `(tactic| first | with_reducible assumption | (with_reducible apply ixN_nat; walk_at "len") | (with_reducible apply ixN_nat1; walk_at "len") | (with_reducible apply ixN_0; walk_at "len") | (with_reducible apply ixN_1; walk_at "len") | (with_reducible apply ixN_2; walk_at "len") | exact rfl)
local macro_rules | `(tactic| walk_at "st") => `(tactic| ((try simp only [L2.start, wipe, List.map_cons, List.map_nil, List.length_cons, List.length_nil, Nat.reduceAdd, Nat.reduceSub, List.replicate_succ, List.replicate_zero, List.nil_append, List.cons_append, List.set_cons_succ, List.set_cons_zero]); exact rfl))
local macro_rules | `(tactic| walk_at "kp") => `(tactic| first | (with_reducible exact Kp.nil) | (with_reducible apply Kp.keep; walk_at "kp") | (with_reducible apply Kp.drop; walk_at "kp"))
local macro_rules | `(tactic| walk_at "g") => `(tactic| first
  | with_reducible assumption
  | (with_reducible apply F.getN; walk_at "at")
  | (with_reducible apply F.getS; walk_at "at")
  | ((with_reducible apply F.imm); (case' h => with_reducible assumption); exact rfl)
  | ((with_reducible apply F.keep); (case' h => with_reducible assumption); exact rfl)
  | ((with_reducible apply F.keepL); with_reducible assumption)
  | ((with_reducible apply F.sqT); with_reducible assumption)
  | ((with_reducible apply SqL.of); walk_at "g")
  | ((with_reducible apply SqT.of); walk_at "g")
  | ((with_reducible apply Rd.of); walk_at "g")
  | ((with_reducible apply Rd.frz); walk_at "g")
  | (with_reducible apply F.tab; with_reducible assumption)
  | ((with_reducible apply f_dgetS); (case' h1 => walk_at "g"); (case' h2 => first | with_reducible assumption | ((simp (decide := true) only [valR, if_true, if_false]); exact rfl))))
local macro_rules | `(tactic| walk_at "f1") => `(tactic| first
  | (with_reducible (first | apply s_seq | apply s_cons | apply s_nil | apply s_c | apply s_op | apply s_asg | apply s_test | apply s_ifS | apply s_ret | apply s_next | apply s_call | apply s_fldE | apply s_dgetE | apply s_gCons | apply s_gNil | apply s_par | apply s_par3 | apply s_and | apply s_or | apply s_not | apply s_andV | apply s_orV | apply s_notV | apply s_ifE | apply s_chain | apply s_cb | apply s_for | apply s_lc | apply f_methE | apply f_makeE | apply s_rollE | apply s_iK | apply s_iL | apply s_iT | apply f_tup | apply f_lst))
  | ((with_reducible apply s_var); (case' h1 => first | exact rfl | with_reducible assumption))
  | ((with_reducible apply s_gNn); (case' e => walk_at "st"))
  | ((with_reducible apply s_dget); (case' h1 => walk_at "g"))
  | with_reducible apply f_tup
  | with_reducible apply f_lst
  | ((with_reducible apply newF F); (case' ho => exact rfl); clear F; intro p H1 F)
  | ((with_reducible apply s_mk0); (case' hz => first | decide | (simp only [List.length_cons, List.length_nil]; decide)))
  | with_reducible apply f_sFld
  | ((with_reducible apply f_fld F); (case' R => walk_at "re"); (case' h2 => with_reducible assumption); (case' h3 => with_reducible assumption); (case' h4 => exact of_decide_eq_true rfl); (case' hp => ((try simp (decide := true) only [putF, if_true, if_false]); exact rfl)); clear F; intro H1 F)
  | with_reducible apply f_sAug
  | ((with_reducible apply f_aug); (case' h1 => walk_at "g"); (case' h2 => with_reducible assumption); (case' h3 => with_reducible assumption); (case' h4 => exact rfl))
  | ((with_reducible apply f_fldq F); (case' R => walk_at "re"); (case' h4 => exact of_decide_eq_true rfl); (case' hp => ((try simp (decide := true) only [putF, if_true, if_false]); exact rfl)); clear F; intro H1 F)
  | with_reducible apply f_radd
  | with_reducible apply f_rsub
  | ((with_reducible apply f_setL F); (case' R => walk_at "re"); (case' h2 => walk_at "ixn"); clear F; intro H1 F)
  | with_reducible apply f_sDPut
  | ((with_reducible apply f_dputS F); (case' R => walk_at "re"); (case' hl => walk_at "sz"); (case' hp => first | with_reducible assumption | ((try simp (decide := true) only [putR, List.map_cons, List.map_nil, if_true, if_false]); exact rfl)); clear F; intro H1 F)
  | with_reducible apply f_sDAug
  | ((with_reducible apply f_daug); (case' h1 => walk_at "g"))
  | ((with_reducible apply f_dputqS F); (case' R => walk_at "re"); (case' hl => walk_at "sz"); (case' hp => first | with_reducible assumption | ((try simp (decide := true) only [putR, List.map_cons, List.map_nil, if_true, if_false]); exact rfl)); clear F; intro H1 F)
  | with_reducible apply s_dgetE
  | ((with_reducible apply s_dget); (case' h1 => walk_at "g"))
  | ((with_reducible apply f_append F); (case' R => walk_at "re"); (case' hz => walk_at "sz"); clear F; intro H1 F)
  | ((with_reducible apply f_listKL); (case' h1 => walk_at "g"))
  | ((with_reducible apply f_listKT); (case' h1 => walk_at "g"))
  | ((with_reducible apply f_tupKL); (case' h1 => walk_at "g"))
  | ((with_reducible apply f_slL); (case' h1 => walk_at "g"))
  | ((with_reducible apply f_cat); (case' h1 => walk_at "g"); (case' h2 => walk_at "g"); (case' hz => walk_at "sz"))
  | with_reducible apply f_makeE
  | with_reducible apply s_iR3
  | ((with_reducible apply s_iR3d); (case' h1 => omega); (case' hc => rfl); intro J w)
  | ((with_reducible apply s_wipe); (case' h1 => first | exact rfl | exact wipe1))
  | with_reducible apply s_revE
  | ((with_reducible apply s_rev); (case' h1 => walk_at "g"))
  | with_reducible apply f_methE
  | ((with_reducible apply s_lenD); (case' h1 => walk_at "g"))
  | ((with_reducible apply f_meth); (case' h1 => walk_at "g"); (case' h2 => exact rfl))
  | with_reducible apply s_iEL
  | ((with_reducible apply s_iEL2); (case' h1 => walk_at "g"); intro J w)
  | with_reducible apply s_iZ
  | with_reducible apply s_iI
  | ((with_reducible apply s_iI2); (case' h1 => walk_at "g"); intro J w)
  | ((with_reducible apply f_rep1); (case' h1 => walk_at "g"); (case' hk => (constructor <;> omega)))
  | with_reducible apply f_gSub
  | ((with_reducible apply f_disp F); clear F; intro p H1 F)
  | with_reducible apply f_pairC
  | with_reducible apply f_pairN
  | ((with_reducible apply f_dispQ F); (case' R => walk_at "re"); (case' e => ((simp only [List.map_cons, List.map_nil, cvK]); exact rfl)); (case' e2 => exact rfl); (case' hl => exact Nat.le_of_ble_eq_true rfl); (case' hm => first | with_reducible apply hMk | exact rfl); clear F; intro H1 F)
  | ((with_reducible apply f_dnew F); clear F; intro p H1 F)
  | ((with_reducible apply f_unl F); (case' R => walk_at "re"); clear F; intro H1 F)
  | with_reducible apply f_rSetD
  | with_reducible apply f_dnewK
  | with_reducible apply f_sDNi
  | with_reducible apply f_finS
  | with_reducible apply f_finB
  | with_reducible apply f_finB'
  | with_reducible apply f_sDIn
  | ((with_reducible apply s_catS); (case' h1 => walk_at "sl"); (case' h2 => walk_at "sl"); (case' hn => exact Nat.le_of_ble_eq_true rfl))
  | ((with_reducible apply s_logA); (case' hl => with_reducible assumption))
  | with_reducible apply s_same
  | with_reducible apply s_js
  | with_reducible apply s_js0
  | ((with_reducible apply s_js2); (case' hl => walk_at "sz"))
  | with_reducible apply s_fm
  | ((with_reducible apply s_fmS); (case' hl => walk_at "sz"))
  | ((with_reducible apply s_fmI); (case' hl => with_reducible assumption))
  | with_reducible apply f_dget2E
  | with_reducible apply s_sameE
  | with_reducible apply s_chain3
  | with_reducible apply s_notN
  | with_reducible apply s_items
  | with_reducible apply s_bb1
  | with_reducible apply s_bb2
  | walk_at "f2")
local macro_rules | `(tactic| walk_at "f2") => `(tactic| first
  | with_reducible apply s_seq
  | with_reducible apply s_gCons
  | with_reducible apply s_gNil
  | ((with_reducible apply s_gTup); (case' h1 => walk_at "g"); (case' h2 => exact rfl))
  | with_reducible apply s_asg
  | ((with_reducible apply s_I); (case' hc => first | exact ⟨by omega, by omega⟩ | exact .inl ⟨by omega, by omega⟩ | exact .inr ⟨by omega, by omega⟩ | (show (_ : Int) < _; omega) | (show (_ : Int) ≠ _; omega)))
  | with_reducible apply s_mm
  | ((with_reducible apply s_lenKL); (case' h1 => walk_at "g"))
  | ((with_reducible apply s_lenKT); (case' h1 => walk_at "g"))
  | ((with_reducible apply s_tupKT); (case' h1 => walk_at "g"))
  | with_reducible apply s_iE
  | ((with_reducible apply s_iE2); (case' h1 => walk_at "g"); intro J w)
  | with_reducible apply s_ifTT
  | with_reducible apply s_ifFF
  | with_reducible apply s_rollE
  | ((with_reducible apply s_roll); (case' h1 => walk_at "g"); (case' h2 => exact ⟨by omega, by omega⟩); intro k k0 k1)
  | with_reducible apply s_gSub
  | with_reducible apply s_ab
  | with_reducible apply s_in1
  | with_reducible apply s_in2
  | ((with_reducible apply s_lsL); (case' h1 => walk_at "g"))
  | ((with_reducible apply s_lsT); (case' h1 => walk_at "g"))
  | ((with_reducible apply s_tyL); (case' h1 => walk_at "g"))
  | with_reducible apply s_for
  | with_reducible apply s_lc
  | with_reducible apply s_dc
  | with_reducible apply s_gn
  | with_reducible apply s_yes
  | with_reducible apply s_iL
  | with_reducible apply s_iT
  | with_reducible apply s_iR1
  | with_reducible apply s_iR2
  | with_reducible apply s_iK
  | ((with_reducible apply s_iL2); (case' h1 => walk_at "g"); intro J w)
  | ((with_reducible apply s_iT2); (case' h1 => walk_at "g"); intro J w)
  | ((with_reducible apply s_iR12); (case' h1 => omega); intro J w)
  | ((with_reducible apply s_iR22); (case' h1 => omega); intro J w)
  | ((with_reducible apply s_iK2); (case' h1 => walk_at "g"); intro J w)
  | ((with_reducible apply s_gNn); (case' e => walk_at "st"))
  | ((with_reducible apply s_var); (case' h1 => first | exact rfl | with_reducible assumption))
  | with_reducible apply s_c
  | with_reducible apply s_op
  | with_reducible apply s_cons
  | with_reducible apply s_nil
  | with_reducible apply s_ret
  | with_reducible apply s_ifS
  | with_reducible apply s_test
  | with_reducible apply s_B
  | with_reducible apply s_exbl
  | with_reducible apply s_exint
  | with_reducible apply s_I0
  | ((with_reducible apply s_Eq); (case' hs => exact rfl))
  | ((with_reducible apply s_Ne); (case' hs => exact rfl))
  | with_reducible apply s_un
  | with_reducible apply s_U
  | with_reducible apply s_cb
  | with_reducible apply s_call
  | with_reducible apply s_next
  | with_reducible apply s_drop
  | with_reducible apply s_break
  | with_reducible apply s_cont
  | with_reducible apply s_retN
  | with_reducible apply s_par
  | with_reducible apply s_par2
  | with_reducible apply s_par3
  | with_reducible apply s_par33
  | ((with_reducible apply s_aug); (case' h1 => exact rfl))
  | with_reducible apply s_and
  | with_reducible apply s_or
  | with_reducible apply s_not
  | with_reducible apply s_andV
  | with_reducible apply s_orV
  | with_reducible apply s_notV
  | with_reducible apply s_ifE
  | with_reducible apply s_isN
  | with_reducible apply s_chain
  | with_reducible apply s_sl
  | with_reducible apply s_noP
  | with_reducible apply s_part
  | with_reducible apply s_bm
  | with_reducible apply s_bm0
  | with_reducible apply s_fldE
  | ((with_reducible apply s_fld); (case' h1 => walk_at "g"); (case' h2 => assumption); (case' h3 => assumption); (case' h4 => exact rfl))
  | ((with_reducible apply s_ixL); (case' h1 => walk_at "g"); (case' h2 => first | with_reducible assumption | walk_at "ix"))
  | ((with_reducible apply s_ixT); (case' h1 => walk_at "g"); (case' h2 => first | with_reducible assumption | walk_at "ix"))
  | ((with_reducible apply s_lenL); (case' h1 => walk_at "g")))
local macro_rules | `(tactic| walk_at "ff") => `(tactic| repeat walk_at "f1")
local macro_rules | `(tactic| walk_at "k0") => `(tactic| try dsimp only [L2.cxOf, Cx.nox, Cx.wish, Cx.blk, genCx])
set_option hygiene true

theorem ones_dp {K : PySem.W.Frag} {H : Hp} {α : Type} : ∀ (xs : List α), DpAll K H (xs.map fun _ => V.int 1) (xs.map fun _ => PyData.int 1)
  | [] => .nil
  | _ :: xs => .cons (.int 1) (ones_dp xs)
theorem eq_ones [Lw] {K : PySem.W.Frag} {H : Hp} {a b : Addr} {Q : VK} {α : Type} {xs : List α} (p : Prop) [Decidable p] (hp : xs = [] ↔ p) (h1 : SqL K H a (xs.map fun _ => V.int 1)) (h2 : SqL K H b []) (h : Q (.bl (decide p)) H) : rEqD K (.ref a) (.ref b) H Q := by
  cases xs with
  | nil =>
    rw [decide_eq_true (hp.mp rfl)] at h
    exact eq_nil h1 h2 h
  | cons x xs =>
    rw [decide_eq_false fun z => nomatch hp.mpr z] at h
    exact eq_someD (ds := (x :: xs).map fun _ => PyData.int 1) (k := 0) h1 (ones_dp _) (fun d hd => by obtain ⟨_, _, rfl⟩ := List.mem_map.mp hd; exact Sh.int) (by decide) (fun z => nomatch z) h2 h
theorem tb_dvd {φ : Str → Rat} {ms : List Ms} {s : Str} {t : List Rt} (I : IsTab φ ms s t) (k : Int) : (∀ r ∈ t, (r.q.den : Int) ∣ k) ↔ ∀ m, Conn ms s m → ((φ m / φ s).den : Int) ∣ k := by
  constructor
  · intro h m hm
    obtain ⟨r, hr, e1, e2⟩ := tb_q I hm
    rw [← e2]
    exact h r hr
  · intro h r hr
    obtain ⟨e1, e2⟩ := I.ok r hr
    rw [e1]
    exact h _ e2
abbrev wN (n : Nat) : List Int := (List.range n).map fun k : Nat => 1 + (k : Int)
theorem wN_mem {n : Nat} {x : Int} : x ∈ wN n ↔ 1 ≤ x ∧ x ≤ n := by
  rw [List.mem_map]
  constructor
  · rintro ⟨k, hk, rfl⟩
    have := List.mem_range.mp hk
    omega
  · rintro ⟨h1, h2⟩
    exact ⟨(x - 1).toNat, List.mem_range.mpr (by omega), by omega⟩
theorem wN_more {i : Nat} : wN (i + 1) = wN i ++ [1 + (i : Int)] := by
  unfold wN
  rw [List.range_succ, List.map_append]
  rfl
theorem wN_srt {n : Nat} : (wN n).Pairwise (· < ·) := List.pairwise_map.mpr (List.pairwise_lt_range.imp fun h => by omega)
theorem whole_nil {L : Int} {P : Int → Bool} (hP : ∀ x, P x = true ↔ L ∣ x) (hL : 1 ≤ L) (h : (wN 2999).filter P = []) : ¬ L < 3000 := fun z => by
  have : L ∈ (wN 2999).filter P := List.mem_filter.mpr ⟨wN_mem.mpr ⟨hL, by omega⟩, (hP L).mpr (Int.dvd_refl L)⟩
  rw [h] at this
  cases this
theorem whole_cons {L w0 : Int} {l : List Int} {P : Int → Bool} (hP : ∀ x, P x = true ↔ L ∣ x) (hL : 1 ≤ L) (h : (wN 2999).filter P = w0 :: l) : L = w0 := by
  have h0 : w0 ∈ (wN 2999).filter P := by rw [h]; exact List.mem_cons_self
  obtain ⟨h1, h2⟩ := List.mem_filter.mp h0
  have h3 := wN_mem.mp h1
  have h4 := Int.le_of_dvd (by omega) ((hP w0).mp h2)
  have h5 : L ∈ (wN 2999).filter P := List.mem_filter.mpr ⟨wN_mem.mpr ⟨hL, by omega⟩, (hP L).mpr (Int.dvd_refl L)⟩
  have h6 : ((wN 2999).filter P).Pairwise (· < ·) := wN_srt.filter _
  rw [h] at h5 h6
  rcases List.mem_cons.mp h5 with h5 | h5
  · exact h5
  · have := (List.pairwise_cons.mp h6).1 L h5
    omega
/-- d's table, its numbers, the groups, all else -/
noncomputable abbrev LT (K : PySem.W.Frag) (G : Gh × Nat) (as as2 : List Addr) (ms : List Ms) (lr gr : Addr) (ts : List Addr) (d : Addr) (t : List Rt) (o : HO) : List Ck := ck d o :: (adsR t, t.map rtO) :: ck gr (.lst (ts.map V.ref)) :: (ts, (grL ms G.1.names (G.1.names.take G.2)).map nsO) :: LB K G.1 as as2 ms lr
section
variable [Lw] {P : Program} {w : World} {K : PySem.W.Frag} {mg : Str → Option Value} {base : Heap} {fn : List He.DefD} (T : Sy fa1 fn tf1 K mg base) (C : Cs P w K mg base) (L : Ls1 K) (A : Around) (outer : List Env) (s : Shared) (H : Hp) (E : XK) (hr : Room 20 (A.deeper (envOfC "law" (defScope s_law) s.heap.objs.size (He.fAd K ("law", none)) (.ref (He.codeOf K ("law", none))))))
include T C L hr
theorem seg_nm2 (p_nm3 : PSs (lawX P w K mg base A outer s H E) sg_nm3 (tSt K (StT K) (fun G => StG K (G.1, G.2 + 1)))) : PSs (lawX P w K mg base A outer s H E) sg_nm2 (tSt K (StT K) (fun G => StG K (G.1, G.2 + 1))) := by
  obtain ⟨f0, fd0, c__law_rounds⟩ := C.rounds
  obtain ⟨f1, fd1, c__law_roll⟩ := C.roll
  obtain ⟨f2, fd2, c__law_ex⟩ := C.lex
  obtain ⟨f3, fd3, c__law_ratios⟩ := C.lrat
  obtain ⟨f4, fd4, c_exact⟩ := C.exact
  obtain ⟨f5, fd5, c_times⟩ := C.times
  obtain ⟨f6, fd6, c_less⟩ := C.less
  obtain ⟨f7, fd7, c_Train⟩ := C.train
  obtain ⟨f8, fd8, c_Train_add_shaft⟩ := C.shaft
  obtain ⟨f9, fd9, c_Train_mesh⟩ := C.mesh
  obtain ⟨f10, fd10, c_Train_ratios⟩ := C.ratios
  obtain ⟨f11, fd11, c_Train_speeds⟩ := C.speeds
  obtain ⟨f12, fd12, c_Train_apart⟩ := C.apart
  obtain ⟨f13, fd13, c_Train_together_again⟩ := C.tog
  obtain ⟨f14, fd14, c_best_pair⟩ := C.pair
  obtain ⟨fdt, Ft, bT⟩ := C.told
  obtain ⟨oc, od, dV, kV, doc, pm, an, cdv, ct, osl, rfl, lkT, cdT, _, _⟩ := Ft.ex
  obtain ⟨tMT, c_MT⟩ := T.int "MOST_TEETH" 400
  obtain ⟨tMS, c_MS⟩ := T.int "MOST_SHAFTS" 30
  have cT := T.cls "Train"
  have n1 := T.noat "Train" "shafts"
  have n2 := T.noat "Train" "meshes"
  refine pss_weak (pss_cons (ps_setLc (i := 16) (own := [("many", 26)])  rfl sc_law.nd rfl rfl (sw_true rfl rfl rfl (by decide +kernel)) (pi_range2 rfl (T.free "range") (pa_cons pe_int (pa_cons pe_int pa_nil))) (blkOk_by (N := n_law) (sc := (defScope s_law)) (by decide +kernel)) (fun _ _ _ _ _ => (pg_name (i := 26) sc_law.nd rfl (.inr rfl))) (fun _ _ _ _ _ => pts_one (pt_cmpR (op_eqDK (K := K) rfl (Room.units hr)) (pe_lock (pe_lc (own := [("one", 7)])  rfl sc_law.nd (pi_keys (pv 14)) (blkOk_by (by kernel_rfl)) (fun _ _ _ _ _ => (pg_name (i := 7) sc_law.nd rfl (.inl rfl))) (fun _ _ _ _ _ => pts_one (pt_cmpR op_ne (pe_op op_mod (pe_op op_mul (pv 26) (pe_ix (ix_tupK (K := K) rfl) (pe_dget (Room.u1 hr) (pv 14) (pv 7) (fun _ _ => rfl)) pe_int (fun _ _ => rfl))) (pe_ix (ix_tupK (K := K) rfl) (pe_dget (Room.u1 hr) (pv 14) (pv 7) (fun _ _ => rfl)) pe_int (fun _ _ => rfl))) pe_int (nomark _)))  (fun _ _ _ _ _ => pe_int))) (pe_lst pa_nil) (nomark _)))  (fun _ _ _ _ _ => (pv 26))) (pss_cons (ps_if (PW.pt (pw_or (PW.pt (pw_and (pt_cmpR (op_neDK (K := K) rfl (Room.units hr)) (pv 16) (pe_lst pa_nil) (nomark _)) (pw_and1 (pt_cmpR op_ne (pe_mtd (pv 4) c_Train_together_again (hr.mono (by first | decide | omega)) passF (pa_cons (pv 5) pa_nil)) (pe_ix (ix_listK (K := K) rfl) (pv 16) pe_int (fun _ _ => rfl)) (nomark _))))) (pw_or1 (PW.pt (pw_and (pt_cmpR (op_eqDK (K := K) rfl (Room.units hr)) (pv 16) (pe_lst pa_nil) (nomark _)) (pw_and1 (pt_cmpR op_lt (pe_mtd (pv 4) c_Train_together_again (hr.mono (by first | decide | omega)) passF (pa_cons (pv 5) pa_nil)) pe_int (nomark _)))))))) (pss_one (ps_ret pe_bl)) pss_nil) p_nm3)) ?_
  rintro ⟨nx, rt, bk, ct⟩ σ H ⟨G, ⟨ok, x6, x7, x8, x9, x10, x11, x12, x15, x16, x17, x18, x19, x20, x21, x22, x23, x24, x25, x26, x27, as, as2, ms, lr, gr, ts, n, d, t, φ, rfl, hn, P0, I, hri, hl1, hl2, hts, F⟩, hB⟩
  have hnm := get_mem hn
  have hnl := ok.nl
  have hB7 := hri.bd hnl.2 hnm
  have htl := I.lenN hB7
  classical
  obtain ⟨PW, hPW⟩ : ∃ PW : Int → Bool, ∀ x, PW x = true ↔ ∀ r ∈ t, (r.q.den : Int) ∣ x := ⟨fun x => decide (∀ r ∈ t, (r.q.den : Int) ∣ x), fun x => decide_eq_true_iff⟩
  walk_at "ff"
  refine lcS w F (fun D i H' => Fp G.1.HB [] (ck D (.lst (((wN i).filter PW).map V.int)) :: LT K G as as2 ms lr gr ts d t (.dK (tbR t))) H') (fun D H' F => F) (fun _ _ _ _ => True.intro) (fun D i y H' hy F => ?_) (fun D H' F => ?_)
  · obtain ⟨hi, rfl⟩ := rangeL_get hy
    have hi : i < 2999 := hi
    have hwl : ((wN i).filter PW).length ≤ i := Nat.le_trans (List.length_filter_le _ _) (by rw [List.length_map, List.length_range]; omega)
    walk_at "ff"
    let g : Rt → Bool := fun r => decide (¬ (r.q.den : Int) ∣ (1 + (i : Int)))
    have hfit : t.filter g = [] ↔ ∀ r ∈ t, (r.q.den : Int) ∣ (1 + (i : Int)) := by
      rw [List.filter_eq_nil_iff]
      exact ⟨fun h r hr => Classical.byContradiction fun z => h r hr (decide_eq_true z), fun h r hr z => absurd (h r hr) (of_decide_eq_true z)⟩
    refine f_lockE d F (fun od => Re.n (Rp.there Rp.here)) fun od H2 F => ?_
    walk_at "ff"
    rw [keys_tbR] at w
    refine lcS w F (fun D2 j H' => Fp G.1.HB [] (ck D2 (.lst (((t.take j).filter g).map fun _ => V.int 1)) :: ck D (.lst (((wN i).filter PW).map V.int)) :: LT K G as as2 ms lr gr ts d t (.frz od (.dK (tbR t)))) H') (fun D2 H' F => F) (fun D2 j H' F => F.getN (.there (.there .here))) (fun D2 j y H' hy F => ?_) (fun D2 H' F => ?_)
    · obtain ⟨n0, hn0, rfl⟩ := map_get hy
      obtain ⟨r, hrj, rfl⟩ : ∃ r, t[j]? = some r ∧ r.nm = n0 := by
        rw [List.getElem?_map] at hn0
        cases e : t[j]? with
        | none => rw [e] at hn0; cases hn0
        | some r => rw [e] at hn0; exact ⟨r, rfl, Option.some.inj hn0⟩
      have hrm := get_mem hrj
      have hv := tb_get I.nd hrm
      have hro : H' r.ad = some (qO r.q) := F.getN (.there (.there (.there (.at (map_get_some hrj) (map_get_some hrj)))))
      obtain ⟨hb1, hb2⟩ := I.bd r hrm
      have hb3 := q_pos (q := r.q)
      have hjl := (List.getElem?_eq_some_iff.mp hrj).1
      have hgl : ((t.take j).filter g).length ≤ 1000 := Nat.le_trans (List.length_filter_le _ _) (by rw [List.length_take]; omega)
      walk_at "ff"
      have hmx : (t.take (j + 1)).filter g = (t.take j).filter g ++ [r].filter g := by rw [take_more hrj, List.filter_append]
      refine ite_ndec (fun hc => ?_) (fun hc => ?_)
      · have hnd : g r = true := decide_eq_true fun z => hc (by rw [dvd_co z])
        walk_at "ff"
        refine lcQ F (.n .here) (len_lt (by rw [List.length_map]; omega)) fun H6 F => ?_
        rw [hmx, List.filter_cons_of_pos hnd, List.filter_nil, List.map_append]
        exact F
      · have hnd : ¬ g r = true := fun z => of_decide_eq_true z (co_dvd (by injection hc))
        rw [hmx, List.filter_cons_of_neg hnd, List.filter_nil, List.append_nil]
        exact F
    rw [List.length_map, show (nmsR t).length = t.length from List.length_map .., List.take_length] at F
    refine f_unl F (Re.n (Rp.there (Rp.there Rp.here))) fun H3 F => ?_
    walk_at "ff"
    refine eq_ones _ hfit (SqL.of (F.getN (.there .here))) (SqL.of (F.getN .here)) ?_
    walk_at "ff"
    replace F := F.kp (.drop (.drop Kp.rf))
    rw [wN_more, List.filter_append]
    refine ite_dec (fun hc => ?_) (fun hc => ?_)
    · rw [List.filter_cons_of_pos ((hPW _).mpr hc), List.filter_nil, List.map_append]
      walk_at "ff"
      exact lcQ F (.n .here) (len_lt (by rw [List.length_map]; omega)) fun H4 F => F
    · rw [List.filter_cons_of_neg (fun z => hc ((hPW _).mp z)), List.filter_nil, List.append_nil]
      exact F
  rw [rangeL_length] at F
  have ma : ∀ {H' : Hp} {dd : HO} {wl : HO}, Fp G.1.HB [] (ck D wl :: LT K G as as2 ms lr gr ts d t dd) H' → MAt H' as ms := fun F => ⟨hl1, fun i a r e1 e2 => F.getN (.there (.there (.there (.there (.there (.there (.there (.there (.there (.at e1 (map_get_some e2)))))))))))⟩
  replace F : Fp G.1.HB [] (ck D (.lst (((wN 2999).filter PW).map V.int)) :: LT K G as as2 ms lr gr ts d t (.dK (tbR t))) _ := F
  generalize hwl : (wN 2999).filter PW = wl at F
  have hPL : ∀ {L : Int}, TogOk φ ms n L → ∀ x, PW x = true ↔ L ∣ x := fun hL x => (hPW x).trans ((tb_dvd I x).trans (hL.2 x))
  walk_at "ff"
  cases wl with
  | nil =>
    refine ne_nil (SqL.of (F.getN (.there .here))) (SqL.of (F.getN .here)) ?_
    replace F := F.kp (.drop Kp.rf)
    walk_at "ff"
    refine eq_nil (SqL.of (F.getN (.there .here))) (SqL.of (F.getN .here)) ?_
    replace F := F.kp (.drop Kp.rf)
    walk_at "ff"
    refine ⟨G.1.x, G.1.dx, G.1.l1, G.1.l2, G.1.names, n, as, ms, φ, 16, 7, rfl, F.getN (.there (.there (.there (.there (.there (.there .here)))))), F.getN (.there (.there (.there (.there (.there (.there (.there .here))))))), F.getN (.there (.there (.there (.there (.there (.there (.there (.there .here)))))))), ma F, by omega, P0, ok.tx, hri.nm, hnm, hB7, fun L N2 H2 hL G2 => ?_⟩
    replace F := F.call_ G2
    have hLn := whole_nil (hPL hL) hL.1 hwl
    walk_at "ff"
    refine ite_dec (fun z => absurd z hLn) (fun _ => ?_)
    walk_at "ff"
    exact s_ct G ⟨ok, _, _, _, _, _, _, _, _, _, _, _, _, _, _, _, _, _, _, _, _, as, as2, ms, lr, gr, ts, n, d, t, φ, rfl, hn, P0, I, hri, hl1, hl2, hts, F.kp (.drop Kp.rf)⟩ hB
  | cons w0 wl =>
    refine ne_some (ns := w0 :: wl) (SqL.of (F.getN (.there .here))) (fun z => nomatch z) (SqL.of (F.getN .here)) ?_
    replace F := F.kp (.drop Kp.rf)
    walk_at "ff"
    refine ⟨G.1.x, G.1.dx, G.1.l1, G.1.l2, G.1.names, n, as, ms, φ, 16, 7, rfl, F.getN (.there (.there (.there (.there (.there (.there .here)))))), F.getN (.there (.there (.there (.there (.there (.there (.there .here))))))), F.getN (.there (.there (.there (.there (.there (.there (.there (.there .here)))))))), ma F, by omega, P0, ok.tx, hri.nm, hnm, hB7, fun L N2 H2 hL G2 => ?_⟩
    replace F := F.call_ G2
    obtain rfl := whole_cons (hPL hL) hL.1 hwl
    have hw0 : H2 D = some (.lst (V.int L :: wl.map V.int)) := F.getN .here
    walk_at "ff"
    refine eq_someD (xs := (L :: wl).map V.int) (ds := (L :: wl).map PyData.int) (k := 0) (SqL.of (F.getN (.there .here))) dpAll_ints (fun d hd => by obtain ⟨_, _, rfl⟩ := List.mem_map.mp hd; exact Sh.int) (by decide) (fun z => nomatch z) (SqL.of (F.getN .here)) ?_
    replace F := F.kp (.drop Kp.rf)
    walk_at "ff"
    exact s_ct G ⟨ok, _, _, _, _, _, _, _, _, _, _, _, _, _, _, _, _, _, _, _, _, as, as2, ms, lr, gr, ts, n, d, t, φ, rfl, hn, P0, I, hri, hl1, hl2, hts, F.kp (.drop Kp.rf)⟩ hB
end
end K1

set_option Elab.async false
set_option linter.all false
set_option maxRecDepth 100000
set_option maxHeartbeats 4000000
set_option pp.maxSteps 1500
namespace K1
open PySem PySem.Spec PyProof.Rows L2 Mi LamX
set_option hygiene false
local macro_rules | `(tactic| walk_at "lk") => `(tactic| first | (with_reducible assumption) | (with_reducible apply get_set_self; walk_at "lk") | ((with_reducible apply get_set_ne); (case' hne => with_reducible assumption); walk_at "lk"))
local macro_rules | `(tactic| walk_at "at") => `(tactic| first | (with_reducible exact At.here) | (with_reducible apply At.at; (case' h1 => assumption); walk_at "lk") | (with_reducible apply At.there; walk_at "at"))
local macro_rules | `(tactic| walk_at "rp") => `(tactic| first | (with_reducible exact Rp.here) | (with_reducible apply Rp.set; (case' h1 => assumption); walk_at "lk") | (with_reducible apply Rp.at; (case' h1 => assumption); walk_at "lk") | (with_reducible apply Rp.there; walk_at "rp"))
local macro_rules | `(tactic| walk_at "re") => `(tactic| first | (with_reducible apply Re.n; walk_at "rp") | (with_reducible apply Re.s; walk_at "rp"))
local macro_rules | `(tactic| walk_at "dl") => `(tactic| first | (with_reducible exact Dl.here) | (with_reducible apply Dl.there; walk_at "dl"))
local macro_rules | `(tactic| walk_at "pq") => `(tactic| first | (with_reducible exact Pq.nil) | ((with_reducible apply Pq.n); (case' d => walk_at "dl"); walk_at "pq") | ((with_reducible apply Pq.s); (case' d => walk_at "dl"); walk_at "pq"))
local macro_rules | `(tactic| walk_at "rc") => `(tactic| first | (with_reducible exact Rc.here) | (with_reducible apply Rc.there; walk_at "rc"))
local macro_rules | `(tactic| walk_at "rs") => `(tactic| first | (with_reducible exact Rs.nil) | ((with_reducible apply Rs.on); (case' r => walk_at "rc"); (case' hl => first | exact rfl | ((try simp only [List.length_map, List.length_set]); with_reducible assumption) | (simp; done)); walk_at "rs") | ((with_reducible apply Rs.os); (case' r => walk_at "rc"); (case' hl => first | exact rfl | ((try simp only [List.length_map, List.length_set]); with_reducible assumption) | (simp; done)); walk_at "rs"))
local macro_rules | `(tactic| walk_at "ix") => `(tactic| first | with_reducible exact atI_nat (by assumption) | with_reducible exact atI_nat1 (by assumption) | with_reducible exact atI0 | with_reducible exact atI1 | with_reducible exact atI2 | with_reducible exact atI3 | with_reducible exact atI4)
local macro_rules | `(tactic| walk_at "sl") => `(tactic| first | (with_reducible assumption) | ((with_reducible apply len_app); (case' h1 => walk_at "sl"); (case' h2 => walk_at "sl")) | (with_reducible exact Nat.le_refl _))
local macro_rules | `(tactic| walk_at "sz") => `(tactic| first | with_reducible assumption | ((with_reducible apply len_leB); (case' h => walk_at "sl"); (case' hn => exact Nat.le_of_ble_eq_true rfl)) | exact of_decide_eq_true rfl | (exact len_le (by (try simp only [List.length_append, List.length_cons, List.length_nil, List.length_map, List.length_set, List.length_reverse]); omega)) | (exact len_lt (by (try simp only [List.length_append, List.length_cons, List.length_nil, List.length_map, List.length_set, List.length_reverse]); omega)))
local macro_rules | `(tactic| walk_at "len") => `(tactic| ((try simp only [List.length_append, List.length_cons, List.length_nil, List.length_map, List.length_set, List.length_reverse, List.length_replicate]); omega))
local macro_rules | `(tactic| walk_at "ixn") => `(tactic| first | with_reducible assumption | (with_reducible apply ixN_nat; walk_at "len") | (with_reducible apply ixN_nat1; walk_at "len") | (with_reducible apply ixN_0; walk_at "len") | (with_reducible apply ixN_1; walk_at "len") | (with_reducible apply ixN_2; walk_at "len") | exact rfl)
local macro_rules | `(tactic| walk_at "st") => `(tactic| ((try simp only [L2.start, wipe, List.map_cons, List.map_nil, List.length_cons, List.length_nil, Nat.reduceAdd, Nat.reduceSub, List.replicate_succ, List.replicate_zero, List.nil_append, List.cons_append, List.set_cons_succ, List.set_cons_zero]); exact rfl))
local macro_rules | `(tactic| walk_at "kp") => `(tactic| first | (with_reducible exact Kp.nil) | (with_reducible apply Kp.keep; walk_at "kp") | (with_reducible apply Kp.drop; walk_at "kp"))
local macro_rules | `(tactic| walk_at "g") => `(tactic| first
  | with_reducible assumption
  | (with_reducible apply F.getN; walk_at "at")
  | (with_reducible apply F.getS; walk_at "at")
  | ((with_reducible apply F.imm); (case' h => with_reducible assumption); exact rfl)
  | ((with_reducible apply F.keep); (case' h => with_reducible assumption); exact rfl)
  | ((with_reducible apply F.keepL); with_reducible assumption)
  | ((with_reducible apply F.sqT); with_reducible assumption)
  | ((with_reducible apply SqL.of); walk_at "g")
  | ((with_reducible apply SqT.of); walk_at "g")
  | ((with_reducible apply Rd.of); walk_at "g")
  | ((with_reducible apply Rd.frz); walk_at "g")
  | (with_reducible apply F.tab; with_reducible assumption)
  | ((with_reducible apply f_dgetS); (case' h1 => walk_at "g"); (case' h2 => first | with_reducible assumption | ((simp (decide := true) only [valR, if_true, if_false]); exact rfl))))
local macro_rules | `(tactic| walk_at "f1") => `(tactic| first
  | (with_reducible (first | apply s_seq | apply s_cons | apply s_nil | apply s_c | apply s_op | apply s_asg | apply s_test | apply s_ifS | apply s_ret | apply s_next | apply s_call | apply s_fldE | apply s_dgetE | apply s_gCons | apply s_gNil | apply s_par | apply s_par3 | apply s_and | apply s_or | apply s_not | apply s_andV | apply s_orV | apply s_notV | apply s_ifE | apply s_chain | apply s_cb | apply s_for | apply s_lc | apply f_methE | apply f_makeE | apply s_rollE | apply s_iK | apply s_iL | apply s_iT | apply f_tup | apply f_lst))
  | ((with_reducible apply s_var); (case' h1 => first | exact rfl | with_reducible assumption))
  | ((with_reducible apply s_gNn); (case' e => walk_at "st"))
  | ((with_reducible apply s_dget); (case' h1 => walk_at "g"))
  | with_reducible apply f_tup
  | with_reducible apply f_lst
  | ((with_reducible apply newF F); (case' ho => exact rfl); clear F; intro p H1 F)
  | ((with_reducible apply s_mk0); (case' hz => first | decide | (simp only [List.length_cons, List.length_nil]; decide)))
  | with_reducible apply f_sFld
  | ((with_reducible apply f_fld F); (case' R => walk_at "re"); (case' h2 => with_reducible assumption); (case' h3 => with_reducible assumption); (case' h4 => exact of_decide_eq_true rfl); (case' hp => ((try simp (decide := true) only [putF, if_true, if_false]); exact rfl)); clear F; intro H1 F)
  | with_reducible apply f_sAug
  | ((with_reducible apply f_aug); (case' h1 => walk_at "g"); (case' h2 => with_reducible assumption); (case' h3 => with_reducible assumption); (case' h4 => exact rfl))
  | ((with_reducible apply f_fldq F); (case' R => walk_at "re"); (case' h4 => exact of_decide_eq_true rfl); (case' hp => ((try simp (decide := true) only [putF, if_true, if_false]); exact rfl)); clear F; intro H1 F)
  | with_reducible apply f_radd
  | with_reducible apply f_rsub
  | ((with_reducible apply f_setL F); (case' R => walk_at "re"); (case' h2 => walk_at "ixn"); clear F; intro H1 F)
  | with_reducible apply f_sDPut
  | ((with_reducible apply f_dputS F); (case' R => walk_at "re"); (case' hl => walk_at "sz"); (case' hp => first | with_reducible assumption | ((try simp (decide := true) only [putR, List.map_cons, List.map_nil, if_true, if_false]); exact rfl)); clear F; intro H1 F)
  | with_reducible apply f_sDAug
  | ((with_reducible apply f_daug); (case' h1 => walk_at "g"))
  | ((with_reducible apply f_dputqS F); (case' R => walk_at "re"); (case' hl => walk_at "sz"); (case' hp => first | with_reducible assumption | ((try simp (decide := true) only [putR, List.map_cons, List.map_nil, if_true, if_false]); exact rfl)); clear F; intro H1 F)
  | with_reducible apply s_dgetE
  | ((with_reducible apply s_dget); (case' h1 => walk_at "g"))
  | ((with_reducible apply f_append F); (case' R => walk_at "re"); (case' hz => walk_at "sz"); clear F; intro H1 F)
  | ((with_reducible apply f_listKL); (case' h1 => walk_at "g"))
  | ((with_reducible apply f_listKT); (case' h1 => walk_at "g"))
  | ((with_reducible apply f_tupKL); (case' h1 => walk_at "g"))
  | ((with_reducible apply f_slL); (case' h1 => walk_at "g"))
  | ((with_reducible apply f_cat); (case' h1 => walk_at "g"); (case' h2 => walk_at "g"); (case' hz => walk_at "sz"))
  | with_reducible apply f_makeE
  | with_reducible apply s_iR3
  | ((with_reducible apply s_iR3d); (case' h1 => omega); (case' hc => rfl); intro J w)
  | ((with_reducible apply s_wipe); (case' h1 => first | exact rfl | exact wipe1))
  | with_reducible apply s_revE
  | ((with_reducible apply s_rev); (case' h1 => walk_at "g"))
  | with_reducible apply f_methE
  | ((with_reducible apply s_lenD); (case' h1 => walk_at "g"))
  | ((with_reducible apply f_meth); (case' h1 => walk_at "g"); (case' h2 => exact rfl))
  | with_reducible apply s_iEL
  | ((with_reducible apply s_iEL2); (case' h1 => walk_at "g"); intro J w)
  | with_reducible apply s_iZ
  | with_reducible apply s_iI
  | ((with_reducible apply s_iI2); (case' h1 => walk_at "g"); intro J w)
  | ((with_reducible apply f_rep1); (case' h1 => walk_at "g"); (case' hk => (constructor <;> omega)))
  | with_reducible apply f_gSub
  | ((with_reducible apply f_disp F); clear F; intro p H1 F)
  | with_reducible apply f_pairC
  | with_reducible apply f_pairN
  | ((with_reducible apply f_dispQ F); (case' R => walk_at "re"); (case' e => ((simp only [List.map_cons, List.map_nil, cvK]); exact rfl)); (case' e2 => exact rfl); (case' hl => exact Nat.le_of_ble_eq_true rfl); (case' hm => first | with_reducible apply hMk | exact rfl); clear F; intro H1 F)
  | ((with_reducible apply f_dnew F); clear F; intro p H1 F)
  | ((with_reducible apply f_unl F); (case' R => walk_at "re"); clear F; intro H1 F)
  | with_reducible apply f_rSetD
  | with_reducible apply f_dnewK
  | with_reducible apply f_sDNi
  | with_reducible apply f_finS
  | with_reducible apply f_finB
  | with_reducible apply f_finB'
  | with_reducible apply f_sDIn
  | ((with_reducible apply s_catS); (case' h1 => walk_at "sl"); (case' h2 => walk_at "sl"); (case' hn => exact Nat.le_of_ble_eq_true rfl))
  | ((with_reducible apply s_logA); (case' hl => with_reducible assumption))
  | with_reducible apply s_same
  | with_reducible apply s_js
  | with_reducible apply s_js0
  | ((with_reducible apply s_js2); (case' hl => walk_at "sz"))
  | with_reducible apply s_fm
  | ((with_reducible apply s_fmS); (case' hl => walk_at "sz"))
  | ((with_reducible apply s_fmI); (case' hl => with_reducible assumption))
  | with_reducible apply f_dget2E
  | with_reducible apply s_sameE
  | with_reducible apply s_chain3
  | with_reducible apply s_notN
  | with_reducible apply s_items
  | with_reducible apply s_bb1
  | with_reducible apply s_bb2
  | walk_at "f2")
local macro_rules | `(tactic| walk_at "f2") => `(tactic| first
  | with_reducible apply s_seq
  | with_reducible apply s_gCons
  | with_reducible apply s_gNil
  | ((with_reducible apply s_gTup); (case' h1 => walk_at "g"); (case' h2 => exact rfl))
  | with_reducible apply s_asg
  | ((with_reducible apply s_I); (case' hc => first | exact ⟨by omega, by omega⟩ | exact .inl ⟨by omega, by omega⟩ | exact .inr ⟨by omega, by omega⟩ | (show (_ : Int) < _; omega) | (show (_ : Int) ≠ _; omega)))
  | with_reducible apply s_mm
  | ((with_reducible apply s_lenKL); (case' h1 => walk_at "g"))
  | ((with_reducible apply s_lenKT); (case' h1 => walk_at "g"))
  | ((with_reducible apply s_tupKT); (case' h1 => walk_at "g"))
  | with_reducible apply s_iE
  | ((with_reducible apply s_iE2); (case' h1 => walk_at "g"); intro J w)
  | with_reducible apply s_ifTT
  | with_reducible apply s_ifFF
  | with_reducible apply s_rollE
  | ((with_reducible apply s_roll); (case' h1 => walk_at "g"); (case' h2 => exact ⟨by omega, by omega⟩); intro k k0 k1)
  | with_reducible apply s_gSub
  | with_reducible apply s_ab
  | with_reducible apply s_in1
  | with_reducible apply s_in2
  | ((with_reducible apply s_lsL); (case' h1 => walk_at "g"))
  | ((with_reducible apply s_lsT); (case' h1 => walk_at "g"))
  | ((with_reducible apply s_tyL); (case' h1 => walk_at "g"))
  | with_reducible apply s_for
  | with_reducible apply s_lc
  | with_reducible apply s_dc
  | with_reducible apply s_gn
  | with_reducible apply s_yes
  | with_reducible apply s_iL
  | with_reducible apply s_iT
  | with_reducible apply s_iR1
  | with_reducible apply s_iR2
  | with_reducible apply s_iK
  | ((with_reducible apply s_iL2); (case' h1 => walk_at "g"); intro J w)
  | ((with_reducible apply s_iT2); (case' h1 => walk_at "g"); intro J w)
  | ((with_reducible apply s_iR12); (case' h1 => omega); intro J w)
  | ((with_reducible apply s_iR22); (case' h1 => omega); intro J w)
  | ((with_reducible apply s_iK2); (case' h1 => walk_at "g"); intro J w)
  | ((with_reducible apply s_gNn); (case' e => walk_at "st"))
  | ((with_reducible apply s_var); (case' h1 => first | exact rfl | with_reducible assumption))
  | with_reducible apply s_c
  | with_reducible apply s_op
  | with_reducible apply s_cons
  | with_reducible apply s_nil
  | with_reducible apply s_ret
  | with_reducible apply s_ifS
  | with_reducible apply s_test
  | with_reducible apply s_B
  | with_reducible apply s_exbl
  | with_reducible apply s_exint
  | with_reducible apply s_I0
  | ((with_reducible apply s_Eq); (case' hs => exact rfl))
  | ((with_reducible apply s_Ne); (case' hs => exact rfl))
  | with_reducible apply s_un
  | with_reducible apply s_U
  | with_reducible apply s_cb
  | with_reducible apply s_call
  | with_reducible apply s_next
  | with_reducible apply s_drop
  | with_reducible apply s_break
  | with_reducible apply s_cont
  | with_reducible apply s_retN
  | with_reducible apply s_par
  | with_reducible apply s_par2
  | with_reducible apply s_par3
  | with_reducible apply s_par33
  | ((with_reducible apply s_aug); (case' h1 => exact rfl))
  | with_reducible apply s_and
  | with_reducible apply s_or
  | with_reducible apply s_not
  | with_reducible apply s_andV
  | with_reducible apply s_orV
  | with_reducible apply s_notV
  | with_reducible apply s_ifE
  | with_reducible apply s_isN
  | with_reducible apply s_chain
  | with_reducible apply s_sl
  | with_reducible apply s_noP
  | with_reducible apply s_part
  | with_reducible apply s_bm
  | with_reducible apply s_bm0
  | with_reducible apply s_fldE
  | ((with_reducible apply s_fld); (case' h1 => walk_at "g"); (case' h2 => assumption); (case' h3 => assumption); (case' h4 => exact rfl))
  | ((with_reducible apply s_ixL); (case' h1 => walk_at "g"); (case' h2 => first | with_reducible assumption | walk_at "ix"))
  | ((with_reducible apply s_ixT); (case' h1 => walk_at "g"); (case' h2 => first | with_reducible assumption | walk_at "ix"))
  | ((with_reducible apply s_lenL); (case' h1 => walk_at "g")))
local macro_rules | `(tactic| walk_at "ff") => `(tactic| repeat walk_at "f1")
local macro_rules | `(tactic| walk_at "k0") => `(tactic| try dsimp only [L2.cxOf, Cx.nox, Cx.wish, Cx.blk, genCx])
set_option hygiene true

theorem same_tb {K : PySem.W.Frag} {H : Hp} {φ : Str → Rat} {ms : List Ms} {s : Str} {t t2 : List Rt} (I : IsTab φ ms s t) (I2 : IsTab φ ms s t2) (h : ∀ r ∈ t, H r.ad = some (qO r.q)) (h2 : ∀ r ∈ t2, H r.ad = some (qO r.q)) : (tbR t).length = (tbR t2).length ∧ ∀ p ∈ tbR t, ∃ u d k, valV (tbR t2) p.1 = some u ∧ Dp K H p.2 d ∧ Dp K H u d ∧ k ≤ 60 ∧ Sh k d := by
  refine ⟨by rw [List.length_map, List.length_map]; exact I.len I2, fun p hp => ?_⟩
  obtain ⟨r, hr, rfl⟩ := List.mem_map.mp hp
  obtain ⟨r2, hr2, e1, e2⟩ := I.same I2 hr
  refine ⟨.ref r2.ad, qD r.q, 1, ?_, q_dp (h r hr), by rw [← e2]; exact q_dp (h2 r2 hr2), by decide, q_sh⟩
  rw [valV_valR, ← e1]
  exact tb_get I2.nd hr2
theorem same_st {K : PySem.W.Frag} {H : Hp} {φ : Str → Rat} {ms : List Ms} {s : Str} {c : Rat} {t t2 : List Rt} (I : STab φ ms s c t) (I2 : STab φ ms s c t2) (h : ∀ r ∈ t, H r.ad = some (qO r.q)) (h2 : ∀ r ∈ t2, H r.ad = some (qO r.q)) : (tbR t).length = (tbR t2).length ∧ ∀ p ∈ tbR t, ∃ u d k, valV (tbR t2) p.1 = some u ∧ Dp K H p.2 d ∧ Dp K H u d ∧ k ≤ 60 ∧ Sh k d := by
  have hk : ∀ {t : List Rt}, STab φ ms s c t → ∀ n, n ∈ nmsR t ↔ Conn ms s n := fun I n => ⟨fun hn => by
    obtain ⟨r, hr, rfl⟩ := List.mem_map.mp hn
    exact (I.ok r hr).2, I.all n⟩
  have hp := (List.perm_ext_iff_of_nodup I.nd I2.nd).mpr fun n => (hk I n).trans (hk I2 n).symm
  refine ⟨by have := hp.length_eq; simpa using this, fun p hp => ?_⟩
  obtain ⟨r, hr, rfl⟩ := List.mem_map.mp hp
  obtain ⟨h3, h4⟩ := I.ok r hr
  obtain ⟨r2, hr2, e⟩ := List.mem_map.mp (I2.all _ h4)
  have e : r2.nm = r.nm := e
  have e2 : r2.q = r.q := by rw [(I2.ok r2 hr2).1, e, h3]
  refine ⟨.ref r2.ad, qD r.q, 1, ?_, q_dp (h r hr), by rw [← e2]; exact q_dp (h2 r2 hr2), by decide, q_sh⟩
  rw [valV_valR, ← e]
  exact tb_get I2.nd hr2
abbrev prO (r : Rt) : HO := .tup [.str r.nm, .ref r.ad]
theorem perm3 {α : Type} (a b c : α) (l : List α) : List.Perm (c :: a :: b :: l) (a :: b :: c :: l) := (List.Perm.swap a c (b :: l)).trans ((List.Perm.swap b c l).cons a)
section
variable [Lw] {P : Program} {w : World} {K : PySem.W.Frag} {mg : Str → Option Value} {base : Heap} {fn : List He.DefD} (T : Sy fa1 fn tf1 K mg base) (C : Cs P w K mg base) (L : Ls1 K) (A : Around) (outer : List Env) (s : Shared) (H : Hp) (E : XK) (hr : Room 20 (A.deeper (envOfC "law" (defScope s_law) s.heap.objs.size (He.fAd K ("law", none)) (.ref (He.codeOf K ("law", none))))))
include T C L hr
theorem seg_nam (p_nm2 : PSs (lawX P w K mg base A outer s H E) sg_nm2 (tSt K (StT K) (fun G => StG K (G.1, G.2 + 1)))) : PSs (lawX P w K mg base A outer s H E) sg_nam (tSt K (StN K) (fun G => StG K (G.1, G.2 + 1))) := by
  obtain ⟨f0, fd0, c__law_rounds⟩ := C.rounds
  obtain ⟨f1, fd1, c__law_roll⟩ := C.roll
  obtain ⟨f2, fd2, c__law_ex⟩ := C.lex
  obtain ⟨f3, fd3, c__law_ratios⟩ := C.lrat
  obtain ⟨f4, fd4, c_exact⟩ := C.exact
  obtain ⟨f5, fd5, c_times⟩ := C.times
  obtain ⟨f6, fd6, c_less⟩ := C.less
  obtain ⟨f7, fd7, c_Train⟩ := C.train
  obtain ⟨f8, fd8, c_Train_add_shaft⟩ := C.shaft
  obtain ⟨f9, fd9, c_Train_mesh⟩ := C.mesh
  obtain ⟨f10, fd10, c_Train_ratios⟩ := C.ratios
  obtain ⟨f11, fd11, c_Train_speeds⟩ := C.speeds
  obtain ⟨f12, fd12, c_Train_apart⟩ := C.apart
  obtain ⟨f13, fd13, c_Train_together_again⟩ := C.tog
  obtain ⟨f14, fd14, c_best_pair⟩ := C.pair
  obtain ⟨fdt, Ft, bT⟩ := C.told
  obtain ⟨oc, od, dV, kV, doc, pm, an, cdv, ct, osl, rfl, lkT, cdT, _, _⟩ := Ft.ex
  obtain ⟨tMT, c_MT⟩ := T.int "MOST_TEETH" 400
  obtain ⟨tMS, c_MS⟩ := T.int "MOST_SHAFTS" 30
  have cT := T.cls "Train"
  have n1 := T.noat "Train" "shafts"
  have n2 := T.noat "Train" "meshes"
  refine pss_weak (pss_cons (ps_set (i := 14) sc_law.nd rfl (.inr rfl) (pe_cal c__law_ratios (hr.mono (by first | decide | omega)) rfl pass0 (pa_cons (pv 3) (pa_cons (pv 5) pa_nil)))) (pss_cons (ps_set (i := 15) sc_law.nd rfl (.inr rfl) (pe_cal c__law_ex (hr.mono (by first | decide | omega)) rfl pass0 (pa_cons (pe_op op_sub (pe_roll c__law_roll (hr.mono (by first | decide | omega)) rfl (pa_cons (pv 1) (pa_cons pe_int pa_nil))) pe_int) (pa_cons (pe_op op_add pe_int (pe_roll c__law_roll (hr.mono (by first | decide | omega)) rfl (pa_cons (pv 1) (pa_cons pe_int pa_nil)))) pa_nil)))) (pss_cons (ps_if (PW.pt (pw_or (pt_cmpR (op_neMK (K := K) rfl (Room.u66 hr)) (pe_mtd (pv 4) c_Train_ratios (hr.mono (by first | decide | omega)) passF (pa_cons (pv 5) pa_nil)) (pv 14) (nomark _)) (pw_or1 (pt_cmpR (op_neMK (K := K) rfl (Room.u66 hr)) (pe_mtd (pv 4) c_Train_speeds (hr.mono (by first | decide | omega)) passF (pa_cons (pv 5) (pa_cons (pv 15) pa_nil))) (pe_callTy (call_dictPK (K := K) rfl rfl) rfl (T.free "dict") boot_dict (pa_cons (pe_lock (pe_lc (own := [("one", 7)]) (tt := tYes) rfl sc_law.nd (pi_keys (pv 14)) (blkOk_by (N := n_law) (sc := (defScope s_law)) (by decide +kernel)) (fun _ _ _ _ _ => (pg_name (i := 7) sc_law.nd rfl (.inl rfl))) (fun _ _ _ _ _ => pts_nil)  (fun _ _ _ _ _ => (pe_tup (pa_cons (pv 7) (pa_cons (pe_cal c__law_ex (hr.mono (by first | decide | omega)) rfl pass0 (pa_cons (pe_op op_mul (pe_ix (ix_tupK (K := K) rfl) (pe_dget (Room.u1 hr) (pv 14) (pv 7) (fun _ _ => rfl)) pe_int (fun _ _ => rfl)) (pe_ix (ix_tupK (K := K) rfl) (pv 15) pe_int (fun _ _ => rfl))) (pa_cons (pe_op op_mul (pe_ix (ix_tupK (K := K) rfl) (pe_dget (Room.u1 hr) (pv 14) (pv 7) (fun _ _ => rfl)) pe_int (fun _ _ => rfl)) (pe_ix (ix_tupK (K := K) rfl) (pv 15) pe_int (fun _ _ => rfl))) pa_nil))) pa_nil)))))) pa_nil)) (nomark _))))) (pss_one (ps_ret pe_bl)) pss_nil) p_nm2))) ?_
  rintro ⟨nx, rt, bk, ct⟩ σ H ⟨G, ⟨ok, x6, x7, x8, x9, x10, x11, x12, x14, x15, x16, x17, x18, x19, x20, x21, x22, x23, x24, x25, x26, x27, as, as2, ms, lr, gr, ts, n, rfl, hn, hri, hl1, hl2, hts, F⟩, hB⟩
  have hnm := get_mem hn
  have hnl := ok.nl
  have hq0 := ok.q
  have hB7 := hri.bd hnl.2 hnm
  obtain ⟨φ, P0⟩ := hri.pot
  have ma2 : MAt H as2 ms := ⟨hl2, fun i a r e1 e2 => F.getN (.there (.there (.there (.there (.there (.there (.there (.there (.at e1 (map_get_some e2))))))))))⟩
  walk_at "ff"
  refine ⟨lr, n, as2, ms, φ, 16, 7, rfl, F.getN (.there (.there (.there (.there (.there (.there (.there .here))))))), ma2, P0, hB7, fun d t N1 H1 I G1 => ?_⟩
  replace F : Fp G.1.HB [] (LT K G as as2 ms lr gr ts d t (.dK (tbR t))) H1 := (F.call .nil G1).kp (.keep (.keep (Kp.app _)))
  walk_at "ff"
  rename_i ka ka0 ka1
  refine ⟨ka - 9, 1 + k, rfl, by omega, by omega, fun tq H3 G3 => ?_⟩
  replace F : Fp G.1.HB [] (ck tq (qO (Rat.divInt (ka - 9) (1 + k))) :: LT K G as as2 ms lr gr ts d t (.dK (tbR t))) H3 := F.call1 G3 .nil
  have hq2 := (ex_le (p := ka - 9) (w := 1 + k) (by omega)).2
  have hq3 := q_pos (q := Rat.divInt (ka - 9) (1 + k))
  generalize Rat.divInt (ka - 9) (1 + k) = q at F hq2 hq3
  have ma3 : MAt H3 as ms := ⟨hl1, fun i a r e1 e2 => F.getN (.there (.there (.there (.there (.there (.there (.there (.there (.there (.at e1 (map_get_some e2)))))))))))⟩
  walk_at "ff"
  refine ⟨G.1.x, G.1.dx, G.1.l1, G.1.l2, G.1.names, n, as, ms, φ, 16, 7, rfl, F.getN (.there (.there (.there (.there (.there (.there .here)))))), F.getN (.there (.there (.there (.there (.there (.there (.there .here))))))), F.getN (.there (.there (.there (.there (.there (.there (.there (.there .here)))))))), ma3, by omega, P0, ok.tx, hri.nm, fun z => absurd hnm z, fun _ => ⟨hB7, fun d2 t2 N4 H4 I2 G4 => ?_⟩⟩
  replace F : Fp G.1.HB [] (ck d2 (.dK (tbR t2)) :: (adsR t2, t2.map rtO) :: ck tq (qO q) :: LT K G as as2 ms lr gr ts d t (.dK (tbR t))) H4 := (F.call .nil G4).kp (.keep (.keep (Kp.app _)))
  have hat : ∀ r ∈ t, H4 r.ad = some (qO r.q) := fun r hr => by
    obtain ⟨i, hi⟩ := List.mem_iff_getElem?.mp hr
    exact F.getN (.there (.there (.there (.there (.at (map_get_some hi) (map_get_some hi))))))
  have hat2 : ∀ r ∈ t2, H4 r.ad = some (qO r.q) := fun r hr => by
    obtain ⟨i, hi⟩ := List.mem_iff_getElem?.mp hr
    exact F.getN (.there (.at (map_get_some hi) (map_get_some hi)))
  obtain ⟨hs1, hs2⟩ := same_tb (K := K) I2 I hat2 hat
  walk_at "ff"
  refine neM_same (F.getN .here) (F.getN (.there (.there (.there .here)))) hs1 hs2 ?_
  replace F := F.kp (.drop (.drop Kp.rf))
  walk_at "ff"
  have ma4 : MAt H4 as ms := ⟨hl1, fun i a r e1 e2 => F.getN (.there (.there (.there (.there (.there (.there (.there (.there (.there (.at e1 (map_get_some e2)))))))))))⟩
  refine ⟨G.1.x, G.1.dx, G.1.l1, G.1.l2, tq, G.1.names, n, as, ms, φ, 16, 7, q.num, q.den, rfl, F.getN (.there (.there (.there (.there (.there (.there .here)))))), F.getN (.there (.there (.there (.there (.there (.there (.there .here))))))), F.getN (.there (.there (.there (.there (.there (.there (.there (.there .here)))))))), ma4, by omega, P0, ok.tx, hri.nm, SqT.of (F.getN .here), ⟨by omega, by omega⟩, fun z => absurd hnm z, fun _ => ⟨hB7, fun d3 t3 N5 H5 S3 G5 => ?_⟩⟩
  rw [divInt_q] at S3
  replace F : Fp G.1.HB [] (ck d3 (.dK (tbR t3)) :: (adsR t3, t3.map rtO) :: ck tq (qO q) :: LT K G as as2 ms lr gr ts d t (.dK (tbR t))) H5 := (F.call .nil G5).kp (.keep (.keep (Kp.app _)))
  walk_at "ff"
  refine f_lockE d F (fun od => Re.n (Rp.there (Rp.there (Rp.there Rp.here)))) fun od H6 F => ?_
  walk_at "ff"
  rw [keys_tbR] at w
  have htl := I.lenN hB7
  refine lcS w F (fun D j H' => ∃ (us : List Addr) (t4 : List Rt), us.length = t4.length ∧ nmsR t4 = nmsR (t.take j) ∧ (∀ r ∈ t4, r.q = φ r.nm / φ n * q ∧ Conn ms n r.nm) ∧ Fp G.1.HB [] (ck D (.lst (us.map V.ref)) :: (us, t4.map prO) :: (adsR t4, t4.map rtO) :: ck d3 (.dK (tbR t3)) :: (adsR t3, t3.map rtO) :: ck tq (qO q) :: LT K G as as2 ms lr gr ts d t (.frz od (.dK (tbR t)))) H') (fun D H' F => ⟨[], [], rfl, rfl, fun _ h => (nomatch h), F.nil.nil |> fun F => permC F (perm3 _ _ _ _)⟩) (fun D j H' ⟨_, _, _, _, _, F⟩ => F.getN (.there (.there (.there (.there (.there (.there .here))))))) (fun D j y H' hy hP => ?_) (fun D H' hP => ?_)
  · clear F
    obtain ⟨us, t4, hul, hn4, hq4, F⟩ := hP
    obtain ⟨n0, hn0, rfl⟩ := map_get hy
    obtain ⟨r, hrj, rfl⟩ : ∃ r, t[j]? = some r ∧ r.nm = n0 := by
      rw [List.getElem?_map] at hn0
      cases e : t[j]? with
      | none => rw [e] at hn0; cases hn0
      | some r => rw [e] at hn0; exact ⟨r, rfl, Option.some.inj hn0⟩
    have hrm := get_mem hrj
    have hv := tb_get I.nd hrm
    have hro : H' r.ad = some (qO r.q) := F.getN (.there (.there (.there (.there (.there (.there (.there (.at (map_get_some hrj) (map_get_some hrj)))))))))
    obtain ⟨hb1, hb2⟩ := I.bd r hrm
    have hb3 := q_pos (q := r.q)
    obtain ⟨hd1, hd2⟩ := den_le hb3 (by omega) (show (1 : Int) ≤ q.den by omega) (by omega)
    obtain ⟨hf1, hf2⟩ := nm_fresh I.nd hrj hn4
    have hjl := (List.getElem?_eq_some_iff.mp hrj).1
    have h4l : t4.length ≤ 1000 := by
      have := congrArg List.length hn4
      unfold nmsR at this
      rw [List.length_map, List.length_map, List.length_take] at this
      omega
    walk_at "ff"
    refine ⟨_, _, rfl, hd1, hd2, fun t5 H7 G7 => ?_⟩
    rw [divInt_mul2] at G7
    replace F := F.call1 G7 .nil
    walk_at "ff"
    have hul4 : (us.map V.ref).length < sizeLine := len_lt (by rw [List.length_map, hul]; omega)
    refine lcQ F (.n (.there (.there .here))) hul4 fun H9 F => ?_
    replace F := Fp.snocL (as := us) (os := t4.map prO) [_, _] (by rw [List.length_map]; exact hul) F
    replace F := Fp.snocL (as := adsR t4) (os := t4.map rtO) [_, _] (by rw [List.length_map, List.length_map]) F
    refine ⟨us ++ [p], t4 ++ [⟨r.nm, r.q * q, t5⟩], by rw [List.length_append, List.length_append, hul]; rfl, by rw [nms_add]; exact hf2, fun r2 hr2 => ?_, ?_⟩
    · rcases List.mem_append.mp hr2 with hr2 | hr2
      · exact hq4 r2 hr2
      · rw [List.mem_singleton.mp hr2]
        obtain ⟨h1, h2⟩ := I.ok r hrm
        exact ⟨by show r.q * _ = _; rw [h1], h2⟩
    · rw [List.map_append, List.map_append, List.map_append]
      unfold adsR
      rw [List.map_append]
      exact F
  obtain ⟨us, t4, hul, hn4, hq4, F⟩ := hP
  rw [List.length_map, show (nmsR t).length = t.length from List.length_map .., List.take_length] at hn4
  refine f_unl F (Re.n (Rp.there (Rp.there (Rp.there (Rp.there (Rp.there (Rp.there Rp.here))))))) fun H7 F => ?_
  walk_at "ff"
  have hnd4 : (nmsR t4).Nodup := by rw [hn4]; exact I.nd
  refine f_dictT (us := t4) (n := fun r : Rt => r.nm) (e := fun r : Rt => V.ref r.ad) (SqL.of (F.getN .here)) hul (fun e1 e2 => F.getN (.there (.at e1 (map_get_some e2)))) hnd4 ?_
  refine newF F rfl fun d4 H8 F => ?_
  walk_at "ff"
  have hat3 : ∀ r ∈ t3, _ = some (qO r.q) := fun r hr => by
    obtain ⟨i, hi⟩ := List.mem_iff_getElem?.mp hr
    exact F.getN (.there (.there (.there (.there (.there (.at (map_get_some hi) (map_get_some hi)))))))
  have hat4 : ∀ r ∈ t4, _ = some (qO r.q) := fun r hr => by
    obtain ⟨i, hi⟩ := List.mem_iff_getElem?.mp hr
    exact F.getN (.there (.there (.there (.at (map_get_some hi) (map_get_some hi)))))
  have S4 : STab φ ms n q t4 := ⟨hnd4, hq4, fun m hm => by rw [hn4]; exact I.all m hm⟩
  obtain ⟨hs3, hs4⟩ := same_st (K := K) S3 S4 hat3 hat4
  refine neM_same (F.getN (.there (.there (.there (.there .here))))) (F.getN .here) hs3 hs4 ?_
  walk_at "ff"
  exact s_ct G ⟨ok, _, _, _, _, _, _, _, _, _, _, _, _, _, _, _, _, _, _, _, _, as, as2, ms, lr, gr, ts, n, d, t, φ, rfl, hn, P0, I, hri, hl1, hl2, hts, F.kp (.drop (.drop (.drop (.drop (.drop (.drop (.drop Kp.rf)))))))⟩ hB
end
end K1

set_option Elab.async false
set_option linter.all false
set_option maxRecDepth 100000
set_option maxHeartbeats 4000000
set_option pp.maxSteps 1500
namespace K1
open PySem PySem.Spec PyProof.Rows L2 Mi LamX
set_option hygiene false
local macro_rules | `(tactic| walk_at "lk") => `(tactic| first | (with_reducible assumption) | (with_reducible apply get_set_self; walk_at "lk") | ((with_reducible apply get_set_ne); (case' hne => with_reducible assumption); walk_at "lk"))
local macro_rules | `(tactic| walk_at "at") => `(tactic| first | (with_reducible exact At.here) | (with_reducible apply At.at; (case' h1 => assumption); walk_at "lk") | (with_reducible apply At.there; walk_at "at"))
local macro_rules | `(tactic| walk_at "rp") => `(tactic| first | (with_reducible exact Rp.here) | (with_reducible apply Rp.set; (case' h1 => assumption); walk_at "lk") | (with_reducible apply Rp.at; (case' h1 => assumption); walk_at "lk") | (with_reducible apply Rp.there; walk_at "rp"))
local macro_rules | `(tactic| walk_at "re") => `(tactic| first | (with_reducible apply Re.n; walk_at "rp") | (with_reducible apply Re.s; walk_at "rp"))
local macro_rules | `(tactic| walk_at "dl") => `(tactic| first | (with_reducible exact Dl.here) | (with_reducible apply Dl.there; walk_at "dl"))
local macro_rules | `(tactic| walk_at "pq") => `(tactic| first | (with_reducible exact Pq.nil) | ((with_reducible apply Pq.n); (case' d => walk_at "dl"); walk_at "pq") | ((with_reducible apply Pq.s); (case' d => walk_at "dl"); walk_at "pq"))
local macro_rules | `(tactic| walk_at "rc") => `(tactic| first | (with_reducible exact Rc.here) | (with_reducible apply Rc.there; walk_at "rc"))
local macro_rules | `(tactic| walk_at "rs") => `(tactic| first | (with_reducible exact Rs.nil) | ((with_reducible apply Rs.on); (case' r => walk_at "rc"); (case' hl => first | exact rfl | ((try simp only [List.length_map, List.length_set]); with_reducible assumption) | (simp; done)); walk_at "rs") | ((with_reducible apply Rs.os); (case' r => walk_at "rc"); (case' hl => first | exact rfl | ((try simp only [List.length_map, List.length_set]); with_reducible assumption) | (simp; done)); walk_at "rs"))
local macro_rules | `(tactic| walk_at "ix") => `(tactic| first | with_reducible exact atI_nat (by assumption) | with_reducible exact atI_nat1 (by assumption) | with_reducible exact atI0 | with_reducible exact atI1 | with_reducible exact atI2 | with_reducible exact atI3 | with_reducible exact atI4)
local macro_rules | `(tactic| walk_at "sl") => `(tactic| first | (with_reducible assumption) | ((with_reducible apply len_app); (case' h1 => walk_at "sl"); (case' h2 => walk_at "sl")) | (with_reducible exact Nat.le_refl _))
local macro_rules | `(tactic| walk_at "sz") => `(tactic| first | with_reducible assumption | ((with_reducible apply len_leB); (case' h => walk_at "sl"); (case' hn => exact Nat.le_of_ble_eq_true rfl)) | exact of_decide_eq_true rfl | (exact len_le (by (try simp only [List.length_append, List.length_cons, List.length_nil, List.length_map, List.length_set, List.length_reverse]); omega)) | (exact len_lt (by (try simp only [List.length_append, List.length_cons, List.length_nil, List.length_map, List.length_set, List.length_reverse]); omega)))
local macro_rules | `(tactic| walk_at "len") => `(tactic| ((try simp only [List.length_append, List.length_cons, List.length_nil, List.length_map, List.length_set, List.length_reverse, List.length_replicate]); omega))
local macro_rules | `(tactic| walk_at "ixn") => `(tactic| first | with_reducible assumption | (with_reducible apply ixN_nat; walk_at "len") | (with_reducible apply ixN_nat1; walk_at "len") | (with_reducible apply ixN_0; walk_at "len") | (with_reducible apply ixN_1; walk_at "len") | (with_reducible apply ixN_2; walk_at "len") | exact rfl)
local macro_rules | `(tactic| walk_at "st") => `(tactic| ((try simp only [L2.start, wipe, List.map_cons, List.map_nil, List.length_cons, List.length_nil, Nat.reduceAdd, Nat.reduceSub, List.replicate_succ, List.replicate_zero, List.nil_append, List.cons_append, List.set_cons_succ, List.set_cons_zero]); exact rfl))
local macro_rules | `(tactic| walk_at "kp") => `(tactic| first | (with_reducible exact Kp.nil) | (with_reducible apply Kp.keep; walk_at "kp") | (with_reducible apply Kp.drop; walk_at "kp"))
local macro_rules | `(tactic| walk_at "g") => `(tactic| first
  | with_reducible assumption
  | (with_reducible apply F.getN; walk_at "at")
  | (with_reducible apply F.getS; walk_at "at")
  | ((with_reducible apply F.imm); (case' h => with_reducible assumption); exact rfl)
  | ((with_reducible apply F.keep); (case' h => with_reducible assumption); exact rfl)
  | ((with_reducible apply F.keepL); with_reducible assumption)
  | ((with_reducible apply F.sqT); with_reducible assumption)
  | ((with_reducible apply SqL.of); walk_at "g")
  | ((with_reducible apply SqT.of); walk_at "g")
  | ((with_reducible apply Rd.of); walk_at "g")
  | ((with_reducible apply Rd.frz); walk_at "g")
  | (with_reducible apply F.tab; with_reducible assumption)
  | ((with_reducible apply f_dgetS); (case' h1 => walk_at "g"); (case' h2 => first | with_reducible assumption | ((simp (decide := true) only [valR, if_true, if_false]); exact rfl))))
local macro_rules | `(tactic| walk_at "f1") => `(tactic| first
  | (with_reducible (first | apply s_seq | apply s_cons | apply s_nil | apply s_c | apply s_op | apply s_asg | apply s_test | apply s_ifS | apply s_ret | apply s_next | apply s_call | apply s_fldE | apply s_dgetE | apply s_gCons | apply s_gNil | apply s_par | apply s_par3 | apply s_and | apply s_or | apply s_not | apply s_andV | apply s_orV | apply s_notV | apply s_ifE | apply s_chain | apply s_cb | apply s_for | apply s_lc | apply f_methE | apply f_makeE | apply s_rollE | apply s_iK | apply s_iL | apply s_iT | apply f_tup | apply f_lst))
  | ((with_reducible apply s_var); (case' h1 => first | exact rfl | with_reducible assumption))
  | ((with_reducible apply s_gNn); (case' e => walk_at "st"))
  | ((with_reducible apply s_dget); (case' h1 => walk_at "g"))
  | with_reducible apply f_tup
  | with_reducible apply f_lst
  | ((with_reducible apply newF F); (case' ho => exact rfl); clear F; intro p H1 F)
  | ((with_reducible apply s_mk0); (case' hz => first | decide | (simp only [List.length_cons, List.length_nil]; decide)))
  | with_reducible apply f_sFld
  | ((with_reducible apply f_fld F); (case' R => walk_at "re"); (case' h2 => with_reducible assumption); (case' h3 => with_reducible assumption); (case' h4 => exact of_decide_eq_true rfl); (case' hp => ((try simp (decide := true) only [putF, if_true, if_false]); exact rfl)); clear F; intro H1 F)
  | with_reducible apply f_sAug
  | ((with_reducible apply f_aug); (case' h1 => walk_at "g"); (case' h2 => with_reducible assumption); (case' h3 => with_reducible assumption); (case' h4 => exact rfl))
  | ((with_reducible apply f_fldq F); (case' R => walk_at "re"); (case' h4 => exact of_decide_eq_true rfl); (case' hp => ((try simp (decide := true) only [putF, if_true, if_false]); exact rfl)); clear F; intro H1 F)
  | with_reducible apply f_radd
  | with_reducible apply f_rsub
  | ((with_reducible apply f_setL F); (case' R => walk_at "re"); (case' h2 => walk_at "ixn"); clear F; intro H1 F)
  | with_reducible apply f_sDPut
  | ((with_reducible apply f_dputS F); (case' R => walk_at "re"); (case' hl => walk_at "sz"); (case' hp => first | with_reducible assumption | ((try simp (decide := true) only [putR, List.map_cons, List.map_nil, if_true, if_false]); exact rfl)); clear F; intro H1 F)
  | with_reducible apply f_sDAug
  | ((with_reducible apply f_daug); (case' h1 => walk_at "g"))
  | ((with_reducible apply f_dputqS F); (case' R => walk_at "re"); (case' hl => walk_at "sz"); (case' hp => first | with_reducible assumption | ((try simp (decide := true) only [putR, List.map_cons, List.map_nil, if_true, if_false]); exact rfl)); clear F; intro H1 F)
  | with_reducible apply s_dgetE
  | ((with_reducible apply s_dget); (case' h1 => walk_at "g"))
  | ((with_reducible apply f_append F); (case' R => walk_at "re"); (case' hz => walk_at "sz"); clear F; intro H1 F)
  | ((with_reducible apply f_listKL); (case' h1 => walk_at "g"))
  | ((with_reducible apply f_listKT); (case' h1 => walk_at "g"))
  | ((with_reducible apply f_tupKL); (case' h1 => walk_at "g"))
  | ((with_reducible apply f_slL); (case' h1 => walk_at "g"))
  | ((with_reducible apply f_cat); (case' h1 => walk_at "g"); (case' h2 => walk_at "g"); (case' hz => walk_at "sz"))
  | with_reducible apply f_makeE
  | with_reducible apply s_iR3
  | ((with_reducible apply s_iR3d); (case' h1 => omega); (case' hc => rfl); intro J w)
  | ((with_reducible apply s_wipe); (case' h1 => first | exact rfl | exact wipe1))
  | with_reducible apply s_revE
  | ((with_reducible apply s_rev); (case' h1 => walk_at "g"))
  | with_reducible apply f_methE
  | ((with_reducible apply s_lenD); (case' h1 => walk_at "g"))
  | ((with_reducible apply f_meth); (case' h1 => walk_at "g"); (case' h2 => exact rfl))
  | with_reducible apply s_iEL
  | ((with_reducible apply s_iEL2); (case' h1 => walk_at "g"); intro J w)
  | with_reducible apply s_iZ
  | with_reducible apply s_iI
  | ((with_reducible apply s_iI2); (case' h1 => walk_at "g"); intro J w)
  | ((with_reducible apply f_rep1); (case' h1 => walk_at "g"); (case' hk => (constructor <;> omega)))
  | with_reducible apply f_gSub
  | ((with_reducible apply f_disp F); clear F; intro p H1 F)
  | with_reducible apply f_pairC
  | with_reducible apply f_pairN
  | ((with_reducible apply f_dispQ F); (case' R => walk_at "re"); (case' e => ((simp only [List.map_cons, List.map_nil, cvK]); exact rfl)); (case' e2 => exact rfl); (case' hl => exact Nat.le_of_ble_eq_true rfl); (case' hm => first | with_reducible apply hMk | exact rfl); clear F; intro H1 F)
  | ((with_reducible apply f_dnew F); clear F; intro p H1 F)
  | ((with_reducible apply f_unl F); (case' R => walk_at "re"); clear F; intro H1 F)
  | with_reducible apply f_rSetD
  | with_reducible apply f_dnewK
  | with_reducible apply f_sDNi
  | with_reducible apply f_finS
  | with_reducible apply f_finB
  | with_reducible apply f_finB'
  | with_reducible apply f_sDIn
  | ((with_reducible apply s_catS); (case' h1 => walk_at "sl"); (case' h2 => walk_at "sl"); (case' hn => exact Nat.le_of_ble_eq_true rfl))
  | ((with_reducible apply s_logA); (case' hl => with_reducible assumption))
  | with_reducible apply s_same
  | with_reducible apply s_js
  | with_reducible apply s_js0
  | ((with_reducible apply s_js2); (case' hl => walk_at "sz"))
  | with_reducible apply s_fm
  | ((with_reducible apply s_fmS); (case' hl => walk_at "sz"))
  | ((with_reducible apply s_fmI); (case' hl => with_reducible assumption))
  | with_reducible apply f_dget2E
  | with_reducible apply s_sameE
  | with_reducible apply s_chain3
  | with_reducible apply s_notN
  | with_reducible apply s_items
  | with_reducible apply s_bb1
  | with_reducible apply s_bb2
  | walk_at "f2")
local macro_rules | `(tactic| walk_at "f2") => `(tactic| first
  | with_reducible apply s_seq
  | with_reducible apply s_gCons
  | with_reducible apply s_gNil
  | ((with_reducible apply s_gTup); (case' h1 => walk_at "g"); (case' h2 => exact rfl))
  | with_reducible apply s_asg
  | ((with_reducible apply s_I); (case' hc => first | exact ⟨by omega, by omega⟩ | exact .inl ⟨by omega, by omega⟩ | exact .inr ⟨by omega, by omega⟩ | (show (_ : Int) < _; omega) | (show (_ : Int) ≠ _; omega)))
  | with_reducible apply s_mm
  | ((with_reducible apply s_lenKL); (case' h1 => walk_at "g"))
  | ((with_reducible apply s_lenKT); (case' h1 => walk_at "g"))
  | ((with_reducible apply s_tupKT); (case' h1 => walk_at "g"))
  | with_reducible apply s_iE
  | ((with_reducible apply s_iE2); (case' h1 => walk_at "g"); intro J w)
  | with_reducible apply s_ifTT
  | with_reducible apply s_ifFF
  | with_reducible apply s_rollE
  | ((with_reducible apply s_roll); (case' h1 => walk_at "g"); (case' h2 => exact ⟨by omega, by omega⟩); intro k k0 k1)
  | with_reducible apply s_gSub
  | with_reducible apply s_ab
  | with_reducible apply s_in1
  | with_reducible apply s_in2
  | ((with_reducible apply s_lsL); (case' h1 => walk_at "g"))
  | ((with_reducible apply s_lsT); (case' h1 => walk_at "g"))
  | ((with_reducible apply s_tyL); (case' h1 => walk_at "g"))
  | with_reducible apply s_for
  | with_reducible apply s_lc
  | with_reducible apply s_dc
  | with_reducible apply s_gn
  | with_reducible apply s_yes
  | with_reducible apply s_iL
  | with_reducible apply s_iT
  | with_reducible apply s_iR1
  | with_reducible apply s_iR2
  | with_reducible apply s_iK
  | ((with_reducible apply s_iL2); (case' h1 => walk_at "g"); intro J w)
  | ((with_reducible apply s_iT2); (case' h1 => walk_at "g"); intro J w)
  | ((with_reducible apply s_iR12); (case' h1 => omega); intro J w)
  | ((with_reducible apply s_iR22); (case' h1 => omega); intro J w)
  | ((with_reducible apply s_iK2); (case' h1 => walk_at "g"); intro J w)
  | ((with_reducible apply s_gNn); (case' e => walk_at "st"))
  | ((with_reducible apply s_var); (case' h1 => first | exact rfl | with_reducible assumption))
  | with_reducible apply s_c
  | with_reducible apply s_op
  | with_reducible apply s_cons
  | with_reducible apply s_nil
  | with_reducible apply s_ret
  | with_reducible apply s_ifS
  | with_reducible apply s_test
  | with_reducible apply s_B
  | with_reducible apply s_exbl
  | with_reducible apply s_exint
  | with_reducible apply s_I0
  | ((with_reducible apply s_Eq); (case' hs => exact rfl))
  | ((with_reducible apply s_Ne); (case' hs => exact rfl))
  | with_reducible apply s_un
  | with_reducible apply s_U
  | with_reducible apply s_cb
  | with_reducible apply s_call
  | with_reducible apply s_next
  | with_reducible apply s_drop
  | with_reducible apply s_break
  | with_reducible apply s_cont
  | with_reducible apply s_retN
  | with_reducible apply s_par
  | with_reducible apply s_par2
  | with_reducible apply s_par3
  | with_reducible apply s_par33
  | ((with_reducible apply s_aug); (case' h1 => exact rfl))
  | with_reducible apply s_and
  | with_reducible apply s_or
  | with_reducible apply s_not
  | with_reducible apply s_andV
  | with_reducible apply s_orV
  | with_reducible apply s_notV
  | with_reducible apply s_ifE
  | with_reducible apply s_isN
  | with_reducible apply s_chain
  | with_reducible apply s_sl
  | with_reducible apply s_noP
  | with_reducible apply s_part
  | with_reducible apply s_bm
  | with_reducible apply s_bm0
  | with_reducible apply s_fldE
  | ((with_reducible apply s_fld); (case' h1 => walk_at "g"); (case' h2 => assumption); (case' h3 => assumption); (case' h4 => exact rfl))
  | ((with_reducible apply s_ixL); (case' h1 => walk_at "g"); (case' h2 => first | with_reducible assumption | walk_at "ix"))
  | ((with_reducible apply s_ixT); (case' h1 => walk_at "g"); (case' h2 => first | with_reducible assumption | walk_at "ix"))
  | ((with_reducible apply s_lenL); (case' h1 => walk_at "g")))
local macro_rules | `(tactic| walk_at "ff") => `(tactic| repeat walk_at "f1")
local macro_rules | `(tactic| walk_at "k0") => `(tactic| try dsimp only [L2.cxOf, Cx.nox, Cx.wish, Cx.blk, genCx])
set_option hygiene true

section
variable [Lw] {P : Program} {w : World} {K : PySem.W.Frag} {mg : Str → Option Value} {base : Heap} {fn : List He.DefD} (T : Sy fa1 fn tf1 K mg base) (C : Cs P w K mg base) (L : Ls1 K) (A : Around) (outer : List Env) (s : Shared) (H : Hp) (E : XK) (hr : Room 20 (A.deeper (envOfC "law" (defScope s_law) s.heap.objs.size (He.fAd K ("law", none)) (.ref (He.codeOf K ("law", none))))))
include T C L hr
theorem seg_stp : PSs (lawX P w K mg base A outer s H E) sg_stp (tCt (fun (G : Gh × Nat) σ H => (Ok1 K G.1 ∧ G.2 ≤ 100) ∧ StL K G σ H) (fun G => StL K (G.1, G.2 + 1))) := by
  obtain ⟨f0, fd0, c__law_rounds⟩ := C.rounds
  obtain ⟨f1, fd1, c__law_roll⟩ := C.roll
  obtain ⟨f2, fd2, c__law_ex⟩ := C.lex
  obtain ⟨f3, fd3, c__law_ratios⟩ := C.lrat
  obtain ⟨f4, fd4, c_exact⟩ := C.exact
  obtain ⟨f5, fd5, c_times⟩ := C.times
  obtain ⟨f6, fd6, c_less⟩ := C.less
  obtain ⟨f7, fd7, c_Train⟩ := C.train
  obtain ⟨f8, fd8, c_Train_add_shaft⟩ := C.shaft
  obtain ⟨f9, fd9, c_Train_mesh⟩ := C.mesh
  obtain ⟨f10, fd10, c_Train_ratios⟩ := C.ratios
  obtain ⟨f11, fd11, c_Train_speeds⟩ := C.speeds
  obtain ⟨f12, fd12, c_Train_apart⟩ := C.apart
  obtain ⟨f13, fd13, c_Train_together_again⟩ := C.tog
  obtain ⟨f14, fd14, c_best_pair⟩ := C.pair
  obtain ⟨fdt, Ft, bT⟩ := C.told
  obtain ⟨oc, od, dV, kV, doc, pm, an, cdv, ct, osl, rfl, lkT, cdT, _, _⟩ := Ft.ex
  obtain ⟨tMT, c_MT⟩ := T.int "MOST_TEETH" 400
  obtain ⟨tMS, c_MS⟩ := T.int "MOST_SHAFTS" 30
  have cT := T.cls "Train"
  have n1 := T.noat "Train" "shafts"
  have n2 := T.noat "Train" "meshes"
  have OI0 := lamI0_ok T c_Train_mesh A outer s H E
  have hqq : (lawX P w K mg base A outer s H E).env.qual = lq := rfl
  have hmT : ((He.cT K ("law", none)).2, (lawX P w K mg base A outer s H E).env.qual ++ "<lambda>") ∈ lawT K := by
    rw [hqq]
    exact List.mem_singleton_self _
  have huT : ∀ p ∈ lawT K, p.1 = (He.cT K ("law", none)).2 → p.2 = (lawX P w K mg base A outer s H E).env.qual ++ "<lambda>" := fun p hp _ => by
    rw [hqq, List.mem_singleton.mp hp]
  refine pss_weak (pss_cons (ps_asg (pe_tup (pa_cons (pe_ix (ix_listK (K := K) rfl) (pv 2) (pe_roll c__law_roll (hr.mono (by first | decide | omega)) rfl (pa_cons (pv 1) (pa_cons (pe_callB (call_lenK (K := K) rfl) rfl (T.free "len") boot_len (pa_cons (pv 2) pa_nil)) pa_nil))) (fun _ _ => rfl)) (pa_cons (pe_ix (ix_listK (K := K) rfl) (pe_op op_cat (pv 2) (pe_lst (pa_cons pe_str pa_nil))) (pe_roll c__law_roll (hr.mono (by first | decide | omega)) rfl (pa_cons (pv 1) (pa_cons (pe_op op_add (pe_callB (call_lenK (K := K) rfl) rfl (T.free "len") boot_len (pa_cons (pv 2) pa_nil)) pe_int) pa_nil))) (fun _ _ => rfl)) pa_nil))) (pg_tupK (K := K) (n := 2) rfl rfl (pgs_cons (pg_name (i := 7) sc_law.nd rfl (.inr rfl)) (pgs_cons (pg_name (i := 8) sc_law.nd rfl (.inr rfl)) pgs_nil)))) (pss_cons (ps_asg (pe_tup (pa_cons (pe_op op_add pe_int (pe_roll c__law_roll (hr.mono (by first | decide | omega)) rfl (pa_cons (pv 1) (pa_cons pe_int pa_nil)))) (pa_cons (pe_op op_add pe_int (pe_roll c__law_roll (hr.mono (by first | decide | omega)) rfl (pa_cons (pv 1) (pa_cons pe_int pa_nil)))) pa_nil))) (pg_tupK (K := K) (n := 2) rfl rfl (pgs_cons (pg_name (i := 9) sc_law.nd rfl (.inr rfl)) (pgs_cons (pg_name (i := 10) sc_law.nd rfl (.inr rfl)) pgs_nil)))) (pss_cons (ps_set (i := 11) sc_law.nd rfl (.inl rfl) (pe_dget1 (Room.u1 hr) (pe_cal c__law_ratios (hr.mono (by first | decide | omega)) rfl pass0 (pa_cons (pv 3) (pa_cons (pv 7) pa_nil))) (pv 8) ⟨by rfl, by rfl, by rfl, by rfl⟩)) (pss_cons (ps_set (i := 12) sc_law.nd rfl (.inl rfl) (pe_and (pe_cmpR op_ne (pv 7) (pv 8) (nomark _)) (pe_and (pe_cmpR op_ne (pv 8) pe_str (nomark _)) (pe_and (pe_cmpR op_gt (pv 9) pe_int (nomark _)) (pe_one (pe_or (pe_cmp (pc_isN (pv 11))) (pe_one (pe_cmpR (op_eqDK (K := K) rfl (Room.units hr)) (pv 11) (pe_cal c__law_ex (hr.mono (by first | decide | omega)) rfl pass0 (pa_cons (pe_un un_neg (pv 9)) (pa_cons (pv 10) pa_nil))) (nomark _))))))))) (pss_cons (ps_if (pt_cmpR op_eq (pe_cmpR op_eq (pe_lamF (T := lawT K) (D := mkI0 (tI0 K)) rfl (T.glo "_law_told") Ft.kp lkT cdT bT scTold rfl (.inl rfl) (told_gives rfl (T.glo "GearError") (by decide) fun _ => rfl) (T.tabB ("law", none)) rfl hmT huT (hr.mono (by decide)) (by rfl) OI0) pe_str (nomark _)) (pv 12) (nomark _)) (pss_one (ps_ret pe_bl)) pss_nil) (pss_one (ps_set (i := 3) sc_law.nd rfl (.inl rfl) (pe_op op_cat (pv 3) (pe_op op_rep (pe_lst (pa_cons (pe_tup (pa_cons (pv 7) (pa_cons (pv 9) (pa_cons (pv 8) (pa_cons (pv 10) pa_nil))))) pa_nil)) (pe_callTy call_int1 rfl (T.free "int") boot_int (pa_cons (pv 12) pa_nil))))))))))) ?_
  rintro ⟨nx, rt, bk, ct⟩ σ H ⟨G, ⟨⟨ok, hi9⟩, x5, x6, x7, x8, x9, x10, x11, x12, x13, x14, x15, x16, x17, x18, x19, x20, x21, x22, x23, x24, x25, x26, x27, as, as2, ms, lr, rfl, hri, hl1, hl2, F⟩, hB⟩
  have hnl := ok.nl
  have hq0 := ok.q
  refine seqP (fun σ' H' => ∃ (one oth : Str), σ' = [some (V.ref G.1.a), some (V.ref G.1.q0), some (V.ref G.1.nl), some (V.ref lr), some (V.ref G.1.x), x5, x6, some (.str one), some (.str oth), x9, x10, x11, x12, x13, x14, x15, x16, x17, x18, x19, x20, x21, x22, x23, x24, x25, x26, x27] ∧ one ∈ G.1.names ∧ (oth ∈ G.1.names ∨ oth = "zz") ∧ Fp G.1.HB [] (LB K G.1 as as2 ms lr) H') (fun σ' H' hP => ?_) (fun nx' hB => ?_)
  rotate_left
  · walk_at "ff"
    refine ⟨G.1.q0, _, rfl, F.exx hq0, ⟨by rw [List.length_map]; omega, by rw [List.length_map]; omega⟩, fun k1 hk1 hk2 => ?_⟩
    rw [List.length_map] at hk2
    obtain ⟨j, rfl⟩ : ∃ j : Nat, k1 = (j : Int) := ⟨k1.toNat, by omega⟩
    obtain ⟨one, hone⟩ : ∃ o, G.1.names[j]? = some o := ⟨_, List.getElem?_eq_getElem (by omega)⟩
    refine s_ixL (SqL.of (F.getN .here)) (atI_nat (map_get_some hone)) ?_
    have hz9 : (G.1.names.map V.str).length + 1 ≤ 100 := by rw [List.length_map]; omega
    walk_at "ff"
    have hk3 : 0 ≤ k := by assumption
    have hk4 : k < ((G.1.names.map V.str).length : Int) + 1 := by assumption
    rw [List.length_map] at hk4
    obtain ⟨j2, hj2⟩ : ∃ j : Nat, k = (j : Int) := ⟨k.toNat, by omega⟩
    obtain ⟨oth, hoth⟩ : ∃ o, (G.1.names ++ [("zz" : Str)])[j2]? = some o := ⟨_, List.getElem?_eq_getElem (by rw [List.length_append, List.length_singleton]; omega)⟩
    have hoth2 : (G.1.names.map V.str ++ [V.str "zz"])[j2]? = some (V.str oth) := by
      have := map_get_some (g := V.str) hoth
      rw [List.map_append] at this
      exact this
    refine s_ixL (SqL.of (F.getN .here)) (by rw [hj2]; exact atI_nat hoth2) ?_
    walk_at "ff"
    have hom := get_mem hoth
    refine hB _ _ ⟨one, oth, rfl, get_mem hone, ?_, F.kp (.drop (.drop (.drop Kp.rf)))⟩
    rcases List.mem_append.mp hom with z | z
    · exact .inl z
    · exact .inr (List.mem_singleton.mp z)
  obtain ⟨one, oth, rfl, hone, hoth, F⟩ := hP
  obtain ⟨φ, P0⟩ := hri.pot
  have hB7 := hri.bd hnl.2 hone
  refine seqP (fun σ' H' => ∃ (te mo : Int), σ' = [some (V.ref G.1.a), some (V.ref G.1.q0), some (V.ref G.1.nl), some (V.ref lr), some (V.ref G.1.x), x5, x6, some (.str one), some (.str oth), some (.int te), some (.int mo), x11, x12, x13, x14, x15, x16, x17, x18, x19, x20, x21, x22, x23, x24, x25, x26, x27] ∧ (4 ≤ te ∧ te ≤ 16 ∧ 5 ≤ mo ∧ mo ≤ 16) ∧ Fp G.1.HB [] (LB K G.1 as as2 ms lr) H') (fun σ' H' hP => ?_) (fun nx' hB => ?_)
  rotate_left
  · walk_at "ff"
    rename_i ka ka0 ka1
    exact hB _ _ ⟨_, _, rfl, ⟨by clear F; omega, by clear F; omega, by clear F; omega, by clear F; omega⟩, F.kp (.drop Kp.rf)⟩
  obtain ⟨te, mo, rfl, ⟨ht1, ht2, ht3, ht4⟩, F⟩ := hP
  refine seqP (fun σ' H' => ∃ (v : V) (t : List Rt), σ' = [some (V.ref G.1.a), some (V.ref G.1.q0), some (V.ref G.1.nl), some (V.ref lr), some (V.ref G.1.x), x5, x6, some (.str one), some (.str oth), some (.int te), some (.int mo), some v, x12, x13, x14, x15, x16, x17, x18, x19, x20, x21, x22, x23, x24, x25, x26, x27] ∧ ((Conn ms one oth ∧ ∃ (ri : Nat) (p : Addr), v = .ref p ∧ (adsR t)[ri]? = some p ∧ (t.map rtO)[ri]? = some (qO (φ oth / φ one))) ∨ (¬ Conn ms one oth ∧ v = .non)) ∧ Fp G.1.HB [] ((adsR t, t.map rtO) :: LB K G.1 as as2 ms lr) H') (fun σ' H' hP => ?_) (fun nx' hB => ?_)
  rotate_left
  · walk_at "ff"
    refine f_dget1E ?_
    walk_at "ff"
    have ma2 : MAt _ as2 ms := ⟨hl2, fun i a r e1 e2 => F.getN (.there (.there (.there (.there (.there (.there (.at e1 (map_get_some e2))))))))⟩
    refine ⟨lr, one, as2, ms, φ, 16, 7, rfl, F.getN (.there (.there (.there (.there (.there .here))))), ma2, P0, hB7, fun d t N1 H2 I G1 => ?_⟩
    replace F : Fp G.1.HB [] (ck d (.dK (tbR t)) :: (adsR t, t.map rtO) :: LB K G.1 as as2 ms lr) H2 := (F.call .nil G1).kp (.keep (.keep (Kp.app _)))
    have hd1 : H2 d = some (.dK (tbR t)) := F.getN .here
    refine f_dget1K hd1 ?_
    walk_at "ff"
    by_cases hc : Conn ms one oth
    · obtain ⟨r, hr1, e1, e2⟩ := tb_q I hc
      have hv := tb_get I.nd hr1
      rw [e1] at hv
      obtain ⟨ri, hri2⟩ := List.mem_iff_getElem?.mp hr1
      refine ⟨_, f_dgetS (.inl hd1) hv, ?_⟩
      dsimp only [Option.getD_some]
      walk_at "ff"
      exact hB _ _ ⟨_, t, rfl, .inl ⟨hc, ri, r.ad, rfl, map_get_some hri2, by rw [← e2]; exact map_get_some hri2⟩, F.kp (.drop Kp.rf)⟩
    · refine ⟨_, f_dgetN (.inl hd1) (tb_no I hc), ?_⟩
      dsimp only [Option.getD_none]
      walk_at "ff"
      exact hB _ _ ⟨_, t, rfl, .inr ⟨hc, rfl⟩, F.kp (.drop Kp.rf)⟩
  obtain ⟨v, t, rfl, hv, F⟩ := hP
  have hzz : oth ∉ G.1.names ↔ oth = "zz" := ⟨fun z => hoth.elim (fun y => absurd y z) id, fun z y => ok.nz (z ▸ y)⟩
  refine seqP (fun σ' H' => ∃ (g : Bool), σ' = [some (V.ref G.1.a), some (V.ref G.1.q0), some (V.ref G.1.nl), some (V.ref lr), some (V.ref G.1.x), x5, x6, some (.str one), some (.str oth), some (.int te), some (.int mo), some v, some (.bl g), x13, x14, x15, x16, x17, x18, x19, x20, x21, x22, x23, x24, x25, x26, x27] ∧ (g = true ↔ ¬ MsBad φ ms G.1.names one te oth mo) ∧ Fp G.1.HB [] (LB K G.1 as as2 ms lr) H') (fun σ' H' hP => ?_) (fun nx' hB => ?_)
  rotate_left
  · walk_at "ff"
    refine ite_ndec (fun h1 => ?_) (fun h1 => ?_)
    rotate_left
    · walk_at "ff"
      exact hB _ _ ⟨false, rfl, ⟨fun z => (nomatch z), fun z => absurd (.inl (.inr (.inr (by injection h1)))) z⟩, F.kp (.drop Kp.rf)⟩
    have h1 : one ≠ oth := fun z => h1 (by rw [z])
    walk_at "ff"
    refine ite_ndec (fun h2 => ?_) (fun h2 => ?_)
    rotate_left
    · walk_at "ff"
      exact hB _ _ ⟨false, rfl, ⟨fun z => (nomatch z), fun z => absurd (.inl (.inr (.inl (hzz.mpr (by injection h2))))) z⟩, F.kp (.drop Kp.rf)⟩
    have h2 : oth ∈ G.1.names := hoth.elim id fun z => absurd (by rw [z]) h2
    walk_at "ff"
    refine ite_dec (fun h3 => ?_) (fun h3 => ?_)
    rotate_left
    · walk_at "ff"
      exact hB _ _ ⟨false, rfl, ⟨fun z => (nomatch z), fun z => absurd (.inr (.inl (.inl (by omega)))) z⟩, F.kp (.drop Kp.rf)⟩
    have hgood : (Conn ms one oth → φ oth / φ one = Rat.divInt (0 - te) mo) → ¬ MsBad φ ms G.1.names one te oth mo := fun z y => by
      rcases y with (y | y | y) | (y | y) | ⟨y1, y2⟩
      · exact y hone
      · exact y h2
      · exact h1 y
      · omega
      · omega
      · exact y2 (z y1)
    rcases hv with ⟨hc, ri, pv, rfl, hri1, hri2⟩ | ⟨hc, rfl⟩
    · walk_at "ff"
      rw [if_neg (show ¬ decide (V.ref pv = V.non) = true from by simp)]
      walk_at "ff"
      refine ⟨-te, mo, rfl, by omega, by omega, fun t0 H5 G5 => ?_⟩
      replace F := F.call1 G5 .nil
      refine s_eqD (q_dp (q := φ oth / φ one) (F.getN (.there (.at hri1 hri2)))) (q_dp (F.getN .here)) (q_sh.shaped (by decide)) (q_sh.shaped (by decide)) ?_
      rw [eqv_q]
      walk_at "ff"
      refine hB _ _ ⟨decide (φ oth / φ one = Rat.divInt (-te) mo), rfl, ?_, F.kp (.drop (.drop Kp.rf))⟩
      rw [decide_eq_true_eq]
      refine ⟨fun z => hgood fun _ => by rw [Int.zero_sub]; exact z, fun z => Classical.byContradiction fun y => z (.inr (.inr ⟨hc, by rw [Int.zero_sub]; exact y⟩))⟩
    · walk_at "ff"
      exact hB _ _ ⟨true, rfl, ⟨fun _ => hgood fun z => absurd z hc, fun _ => rfl⟩, F.kp (.drop Kp.rf)⟩
  obtain ⟨g, rfl, hg, F⟩ := hP
  walk_at "ff"
  refine f_lam F L.L L.q ok.ts fun H3 F => told_in ?_
  walk_at "ff"
  have ma : MAt H3 as ms := ⟨hl1, fun i a r e1 e2 => F.getN (.there (.there (.there (.there (.at e1 (map_get_some e2))))))⟩
  have hml := hri.len
  refine ⟨G.1.x, G.1.dx, G.1.l1, G.1.l2, G.1.names, as, ms, φ, 16, 7, one, oth, te, mo, rfl, F.pq (by walk_at "pq"), ma, by omega, by omega, P0, ok.tx, hri.nm, fun _ => hB7, fun hbad N4 H4 G4 => ?_, fun hgo pt N4 H4 G4 => ?_⟩
  · obtain rfl : g = false := by
      cases g with
      | false => rfl
      | true => exact absurd hbad (hg.mp rfl)
    replace F := F.call_ G4
    refine ⟨true, T.exm "GearError" "GearError" true, fun _ => ?_, fun z => nomatch z⟩
    walk_at "ff"
    replace F : Fp G.1.HB [] (ck p (.lst []) :: _) _ := F
    refine f_cat (F.getN (.there (.there (.there (.there (.there (.there (.there (.there .here))))))))) (F.getN .here) (len_le (by rw [List.length_map, List.length_nil]; omega)) ?_
    refine newF F rfl fun pg H7 F => ?_
    rw [List.append_nil] at F
    walk_at "ff"
    have F2 : Fp G.1.HB [] (LB K G.1 as as2 ms pg) _ := fp_pickN F (by walk_at "pq")
    exact hB _ _ ⟨_, _, _, _, _, _, _, _, _, _, _, _, _, _, _, _, _, _, _, _, _, _, _, as, as2, ms, pg, rfl, ⟨Nat.le_succ_of_le hri.len, hri.pot, hri.nm, hri.te⟩, hl1, hl2, F2⟩
  · obtain rfl : g = true := hg.mpr hgo
    replace F := (F.call (by walk_at "rs") G4).kp (.keep (Kp.app _))
    walk_at "ff"
    rename_i pu _ pz _
    have hpot : ∃ φ', Pot φ' (ms ++ [(⟨one, te, oth, mo⟩ : Ms)]) := by
      by_cases hc : Conn ms one oth
      · exact ⟨φ, P0.same (m := ⟨one, te, oth, mo⟩) ⟨by show 1 ≤ te; omega, by show 1 ≤ mo; omega⟩ (Classical.byContradiction fun z => hgo (.inr (.inr ⟨hc, z⟩)))⟩
      · exact P0.join (m := ⟨one, te, oth, mo⟩) ⟨by show 1 ≤ te; omega, by show 1 ≤ mo; omega⟩ hc
    have hom : oth ∈ G.1.names := Classical.byContradiction fun z => hgo (.inl (.inr (.inl z)))
    replace F : Fp G.1.HB [] (ck p (.lst [V.ref pu]) :: _) _ := F
    refine f_cat (F.getN (.there (.there (.there (.there (.there (.there (.there (.there (.there .here)))))))))) (F.getN .here) (len_le (by rw [List.length_map, List.length_singleton]; omega)) ?_
    refine newF F rfl fun pg H7 F => ?_
    walk_at "ff"
    have hmb : ms.map msO ++ [msO (⟨one, te, oth, mo⟩ : Ms)] = (ms ++ [(⟨one, te, oth, mo⟩ : Ms)]).map msO := by rw [List.map_append]; rfl
    replace F : Fp G.1.HB [] [ck pt (msO (⟨one, te, oth, mo⟩ : Ms)), ck G.1.nl (.lst (G.1.names.map V.str)), ck G.1.x (trO K G.1.dx G.1.l1 G.1.l2), ck G.1.l1 (.lst (G.1.names.map V.str)), ck G.1.l2 (.lst ((as ++ [pt]).map V.ref)), (as, ms.map msO), ck pu (HO.tup [V.str one, V.int te, V.str oth, V.int mo]), ck pg (.lst (as2.map V.ref ++ [V.ref pu])), (as2, ms.map msO)] _ := fp_pickN F (by walk_at "pq")
    replace F := Fp.snocL (as := as) (os := ms.map msO) [_, _, _, _] (by rw [List.length_map]; exact hl1) F
    rw [hmb] at F
    replace F : Fp G.1.HB [] [ck pu (msO (⟨one, te, oth, mo⟩ : Ms)), ck G.1.nl (.lst (G.1.names.map V.str)), ck G.1.x (trO K G.1.dx G.1.l1 G.1.l2), ck G.1.l1 (.lst (G.1.names.map V.str)), ck G.1.l2 (.lst ((as ++ [pt]).map V.ref)), (as ++ [pt], (ms ++ [(⟨one, te, oth, mo⟩ : Ms)]).map msO), ck pg (.lst (as2.map V.ref ++ [V.ref pu])), (as2, ms.map msO)] _ := permC F (List.perm_middle (l₁ := [_, _, _, _, _]).symm)
    replace F := Fp.snocL (as := as2) (os := ms.map msO) [_, _, _, _, _, _] (by rw [List.length_map]; exact hl2) F
    rw [hmb, show as2.map V.ref ++ [V.ref pu] = (as2 ++ [pu]).map V.ref by rw [List.map_append]; rfl] at F
    refine hB _ _ ⟨_, _, _, _, _, _, _, _, _, _, _, _, _, _, _, _, _, _, _, _, _, _, _, as ++ [pt], as2 ++ [pu], ms ++ [(⟨one, te, oth, mo⟩ : Ms)], pg, rfl, ⟨by rw [List.length_append, List.length_singleton]; omega, hpot, fun m hm => ?_, fun m hm => ?_⟩, by rw [List.length_append, List.length_append, hl1]; rfl, by rw [List.length_append, List.length_append, hl2]; rfl, F⟩
    · rcases List.mem_append.mp hm with hm | hm
      · exact hri.nm m hm
      · rw [List.mem_singleton.mp hm]
        exact ⟨hone, hom⟩
    · rcases List.mem_append.mp hm with hm | hm
      · exact hri.te m hm
      · rw [List.mem_singleton.mp hm]
        exact ⟨ht2, ht4⟩
end
end K1

set_option Elab.async false
set_option linter.all false
set_option maxRecDepth 100000
set_option maxHeartbeats 4000000
set_option pp.maxSteps 1500
namespace K1
open PySem PySem.Spec PyProof.Rows L2 Mi LamX
set_option hygiene false
local macro_rules | `(tactic| walk_at "lk") => `(tactic| first | (with_reducible assumption) | (with_reducible apply get_set_self; walk_at "lk") | ((with_reducible apply get_set_ne); (case' hne => with_reducible assumption); walk_at "lk"))
local macro_rules | `(tactic| walk_at "at") => `(tactic| first | (with_reducible exact At.here) | (with_reducible apply At.at; (case' h1 => assumption); walk_at "lk") | (with_reducible apply At.there; walk_at "at"))
local macro_rules | `(tactic| walk_at "rp") => `(tactic| first | (with_reducible exact Rp.here) | (with_reducible apply Rp.set; (case' h1 => assumption); walk_at "lk") | (with_reducible apply Rp.at; (case' h1 => assumption); walk_at "lk") | (with_reducible apply Rp.there; walk_at "rp"))
local macro_rules | `(tactic| walk_at "re") => `(tactic| first | (with_reducible apply Re.n; walk_at "rp") | (with_reducible apply Re.s; walk_at "rp"))
local macro_rules | `(tactic| walk_at "dl") => `(tactic| first | (with_reducible exact Dl.here) | (with_reducible apply Dl.there; walk_at "dl"))
local macro_rules | `(tactic| walk_at "pq") => `(tactic| first | (with_reducible exact Pq.nil) | ((with_reducible apply Pq.n); (case' d => walk_at "dl"); walk_at "pq") | ((with_reducible apply Pq.s); (case' d => walk_at "dl"); walk_at "pq"))
local macro_rules | `(tactic| walk_at "rc") => `(tactic| first | (with_reducible exact Rc.here) | (with_reducible apply Rc.there; walk_at "rc"))
local macro_rules | `(tactic| walk_at "rs") => `(tactic| first | (with_reducible exact Rs.nil) | ((with_reducible apply Rs.on); (case' r => walk_at "rc"); (case' hl => first | exact rfl | ((try simp only [List.length_map, List.length_set]); with_reducible assumption) | (simp; done)); walk_at "rs") | ((with_reducible apply Rs.os); (case' r => walk_at "rc"); (case' hl => first | exact rfl | ((try simp only [List.length_map, List.length_set]); with_reducible assumption) | (simp; done)); walk_at "rs"))
local macro_rules | `(tactic| walk_at "ix") => `(tactic| first | with_reducible exact atI_nat (by assumption) | with_reducible exact atI_nat1 (by assumption) | with_reducible exact atI0 | with_reducible exact atI1 | with_reducible exact atI2 | with_reducible exact atI3 | with_reducible exact atI4)
local macro_rules | `(tactic| walk_at "sl") => `(tactic| first | (with_reducible assumption) | ((with_reducible apply len_app); (case' h1 => walk_at "sl"); (case' h2 => walk_at "sl")) | (with_reducible exact Nat.le_refl _))
local macro_rules | `(tactic| walk_at "sz") => `(tactic| first | with_reducible assumption | ((with_reducible apply len_leB); (case' h => walk_at "sl"); (case' hn => exact Nat.le_of_ble_eq_true rfl)) | exact of_decide_eq_true rfl | (exact len_le (by (try simp only [List.length_append, List.length_cons, List.length_nil, List.length_map, List.length_set, List.length_reverse]); omega)) | (exact len_lt (by (try simp only [List.length_append, List.length_cons, List.length_nil, List.length_map, List.length_set, List.length_reverse]); omega)))
local macro_rules | `(tactic| walk_at "len") => `(tactic| ((try simp only [List.length_append, List.length_cons, List.length_nil, List.length_map, List.length_set, List.length_reverse, List.length_replicate]); omega))
local macro_rules | `(tactic| walk_at "ixn") => `(tactic| first | with_reducible assumption | (with_reducible apply ixN_nat; walk_at "len") | (with_reducible apply ixN_nat1; walk_at "len") | (with_reducible apply ixN_0; walk_at "len") | (with_reducible apply ixN_1; walk_at "len") | (with_reducible apply ixN_2; walk_at "len") | exact rfl)
local macro_rules | `(tactic| walk_at "st") => `(tactic| ((try simp only [L2.start, wipe, List.map_cons, List.map_nil, List.length_cons, List.length_nil, Nat.reduceAdd, Nat.reduceSub, List.replicate_succ, List.replicate_zero, List.nil_append, List.cons_append, List.set_cons_succ, List.set_cons_zero]); exact rfl))
local macro_rules | `(tactic| walk_at "kp") => `(tactic| first | (with_reducible exact Kp.nil) | (with_reducible apply Kp.keep; walk_at "kp") | (with_reducible apply Kp.drop; walk_at "kp"))
local macro_rules | `(tactic| walk_at "g") => `(tactic| first
  | with_reducible assumption
  | (with_reducible apply F.getN; walk_at "at")
  | (with_reducible apply F.getS; walk_at "at")
  | ((with_reducible apply F.imm); (case' h => with_reducible assumption); exact rfl)
  | ((with_reducible apply F.keep); (case' h => with_reducible assumption); exact rfl)
  | ((with_reducible apply F.keepL); with_reducible assumption)
  | ((with_reducible apply F.sqT); with_reducible assumption)
  | ((with_reducible apply SqL.of); walk_at "g")
  | ((with_reducible apply SqT.of); walk_at "g")
  | ((with_reducible apply Rd.of); walk_at "g")
  | ((with_reducible apply Rd.frz); walk_at "g")
  | (with_reducible apply F.tab; with_reducible assumption)
  | ((with_reducible apply f_dgetS); (case' h1 => walk_at "g"); (case' h2 => first | with_reducible assumption | ((simp (decide := true) only [valR, if_true, if_false]); exact rfl))))
local macro_rules | `(tactic| walk_at "f1") => `(tactic| first
  | (with_reducible (first | apply s_seq | apply s_cons | apply s_nil | apply s_c | apply s_op | apply s_asg | apply s_test | apply s_ifS | apply s_ret | apply s_next | apply s_call | apply s_fldE | apply s_dgetE | apply s_gCons | apply s_gNil | apply s_par | apply s_par3 | apply s_and | apply s_or | apply s_not | apply s_andV | apply s_orV | apply s_notV | apply s_ifE | apply s_chain | apply s_cb | apply s_for | apply s_lc | apply f_methE | apply f_makeE | apply s_rollE | apply s_iK | apply s_iL | apply s_iT | apply f_tup | apply f_lst))
  | ((with_reducible apply s_var); (case' h1 => first | exact rfl | with_reducible assumption))
  | ((with_reducible apply s_gNn); (case' e => walk_at "st"))
  | ((with_reducible apply s_dget); (case' h1 => walk_at "g"))
  | with_reducible apply f_tup
  | with_reducible apply f_lst
  | ((with_reducible apply newF F); (case' ho => exact rfl); clear F; intro p H1 F)
  | ((with_reducible apply s_mk0); (case' hz => first | decide | (simp only [List.length_cons, List.length_nil]; decide)))
  | with_reducible apply f_sFld
  | ((with_reducible apply f_fld F); (case' R => walk_at "re"); (case' h2 => with_reducible assumption); (case' h3 => with_reducible assumption); (case' h4 => exact of_decide_eq_true rfl); (case' hp => ((try simp (decide := true) only [putF, if_true, if_false]); exact rfl)); clear F; intro H1 F)
  | with_reducible apply f_sAug
  | ((with_reducible apply f_aug); (case' h1 => walk_at "g"); (case' h2 => with_reducible assumption); (case' h3 => with_reducible assumption); (case' h4 => exact rfl))
  | ((with_reducible apply f_fldq F); (case' R => walk_at "re"); (case' h4 => exact of_decide_eq_true rfl); (case' hp => ((try simp (decide := true) only [putF, if_true, if_false]); exact rfl)); clear F; intro H1 F)
  | with_reducible apply f_radd
  | with_reducible apply f_rsub
  | ((with_reducible apply f_setL F); (case' R => walk_at "re"); (case' h2 => walk_at "ixn"); clear F; intro H1 F)
  | with_reducible apply f_sDPut
  | ((with_reducible apply f_dputS F); (case' R => walk_at "re"); (case' hl => walk_at "sz"); (case' hp => first | with_reducible assumption | ((try simp (decide := true) only [putR, List.map_cons, List.map_nil, if_true, if_false]); exact rfl)); clear F; intro H1 F)
  | with_reducible apply f_sDAug
  | ((with_reducible apply f_daug); (case' h1 => walk_at "g"))
  | ((with_reducible apply f_dputqS F); (case' R => walk_at "re"); (case' hl => walk_at "sz"); (case' hp => first | with_reducible assumption | ((try simp (decide := true) only [putR, List.map_cons, List.map_nil, if_true, if_false]); exact rfl)); clear F; intro H1 F)
  | with_reducible apply s_dgetE
  | ((with_reducible apply s_dget); (case' h1 => walk_at "g"))
  | ((with_reducible apply f_append F); (case' R => walk_at "re"); (case' hz => walk_at "sz"); clear F; intro H1 F)
  | ((with_reducible apply f_listKL); (case' h1 => walk_at "g"))
  | ((with_reducible apply f_listKT); (case' h1 => walk_at "g"))
  | ((with_reducible apply f_tupKL); (case' h1 => walk_at "g"))
  | ((with_reducible apply f_slL); (case' h1 => walk_at "g"))
  | ((with_reducible apply f_cat); (case' h1 => walk_at "g"); (case' h2 => walk_at "g"); (case' hz => walk_at "sz"))
  | with_reducible apply f_makeE
  | with_reducible apply s_iR3
  | ((with_reducible apply s_iR3d); (case' h1 => omega); (case' hc => rfl); intro J w)
  | ((with_reducible apply s_wipe); (case' h1 => first | exact rfl | exact wipe1))
  | with_reducible apply s_revE
  | ((with_reducible apply s_rev); (case' h1 => walk_at "g"))
  | with_reducible apply f_methE
  | ((with_reducible apply s_lenD); (case' h1 => walk_at "g"))
  | ((with_reducible apply f_meth); (case' h1 => walk_at "g"); (case' h2 => exact rfl))
  | with_reducible apply s_iEL
  | ((with_reducible apply s_iEL2); (case' h1 => walk_at "g"); intro J w)
  | with_reducible apply s_iZ
  | with_reducible apply s_iI
  | ((with_reducible apply s_iI2); (case' h1 => walk_at "g"); intro J w)
  | ((with_reducible apply f_rep1); (case' h1 => walk_at "g"); (case' hk => (constructor <;> omega)))
  | with_reducible apply f_gSub
  | ((with_reducible apply f_disp F); clear F; intro p H1 F)
  | with_reducible apply f_pairC
  | with_reducible apply f_pairN
  | ((with_reducible apply f_dispQ F); (case' R => walk_at "re"); (case' e => ((simp only [List.map_cons, List.map_nil, cvK]); exact rfl)); (case' e2 => exact rfl); (case' hl => exact Nat.le_of_ble_eq_true rfl); (case' hm => first | with_reducible apply hMk | exact rfl); clear F; intro H1 F)
  | ((with_reducible apply f_dnew F); clear F; intro p H1 F)
  | ((with_reducible apply f_unl F); (case' R => walk_at "re"); clear F; intro H1 F)
  | with_reducible apply f_rSetD
  | with_reducible apply f_dnewK
  | with_reducible apply f_sDNi
  | with_reducible apply f_finS
  | with_reducible apply f_finB
  | with_reducible apply f_finB'
  | with_reducible apply f_sDIn
  | ((with_reducible apply s_catS); (case' h1 => walk_at "sl"); (case' h2 => walk_at "sl"); (case' hn => exact Nat.le_of_ble_eq_true rfl))
  | ((with_reducible apply s_logA); (case' hl => with_reducible assumption))
  | with_reducible apply s_same
  | with_reducible apply s_js
  | with_reducible apply s_js0
  | ((with_reducible apply s_js2); (case' hl => walk_at "sz"))
  | with_reducible apply s_fm
  | ((with_reducible apply s_fmS); (case' hl => walk_at "sz"))
  | ((with_reducible apply s_fmI); (case' hl => with_reducible assumption))
  | with_reducible apply f_dget2E
  | with_reducible apply s_sameE
  | with_reducible apply s_chain3
  | with_reducible apply s_notN
  | with_reducible apply s_items
  | with_reducible apply s_bb1
  | with_reducible apply s_bb2
  | walk_at "f2")
local macro_rules | `(tactic| walk_at "f2") => `(tactic| first
  | with_reducible apply s_seq
  | with_reducible apply s_gCons
  | with_reducible apply s_gNil
  | ((with_reducible apply s_gTup); (case' h1 => walk_at "g"); (case' h2 => exact rfl))
  | with_reducible apply s_asg
  | ((with_reducible apply s_I); (case' hc => first | exact ⟨by omega, by omega⟩ | exact .inl ⟨by omega, by omega⟩ | exact .inr ⟨by omega, by omega⟩ | (show (_ : Int) < _; omega) | (show (_ : Int) ≠ _; omega)))
  | with_reducible apply s_mm
  | ((with_reducible apply s_lenKL); (case' h1 => walk_at "g"))
  | ((with_reducible apply s_lenKT); (case' h1 => walk_at "g"))
  | ((with_reducible apply s_tupKT); (case' h1 => walk_at "g"))
  | with_reducible apply s_iE
  | ((with_reducible apply s_iE2); (case' h1 => walk_at "g"); intro J w)
  | with_reducible apply s_ifTT
  | with_reducible apply s_ifFF
  | with_reducible apply s_rollE
  | ((with_reducible apply s_roll); (case' h1 => walk_at "g"); (case' h2 => exact ⟨by omega, by omega⟩); intro k k0 k1)
  | with_reducible apply s_gSub
  | with_reducible apply s_ab
  | with_reducible apply s_in1
  | with_reducible apply s_in2
  | ((with_reducible apply s_lsL); (case' h1 => walk_at "g"))
  | ((with_reducible apply s_lsT); (case' h1 => walk_at "g"))
  | ((with_reducible apply s_tyL); (case' h1 => walk_at "g"))
  | with_reducible apply s_for
  | with_reducible apply s_lc
  | with_reducible apply s_dc
  | with_reducible apply s_gn
  | with_reducible apply s_yes
  | with_reducible apply s_iL
  | with_reducible apply s_iT
  | with_reducible apply s_iR1
  | with_reducible apply s_iR2
  | with_reducible apply s_iK
  | ((with_reducible apply s_iL2); (case' h1 => walk_at "g"); intro J w)
  | ((with_reducible apply s_iT2); (case' h1 => walk_at "g"); intro J w)
  | ((with_reducible apply s_iR12); (case' h1 => omega); intro J w)
  | ((with_reducible apply s_iR22); (case' h1 => omega); intro J w)
  | ((with_reducible apply s_iK2); (case' h1 => walk_at "g"); intro J w)
  | ((with_reducible apply s_gNn); (case' e => walk_at "st"))
  | ((with_reducible apply s_var); (case' h1 => first | exact rfl | with_reducible assumption))
  | with_reducible apply s_c
  | with_reducible apply s_op
  | with_reducible apply s_cons
  | with_reducible apply s_nil
  | with_reducible apply s_ret
  | with_reducible apply s_ifS
  | with_reducible apply s_test
  | with_reducible apply s_B
  | with_reducible apply s_exbl
  | with_reducible apply s_exint
  | with_reducible apply s_I0
  | ((with_reducible apply s_Eq); (case' hs => exact rfl))
  | ((with_reducible apply s_Ne); (case' hs => exact rfl))
  | with_reducible apply s_un
  | with_reducible apply s_U
  | with_reducible apply s_cb
  | with_reducible apply s_call
  | with_reducible apply s_next
  | with_reducible apply s_drop
  | with_reducible apply s_break
  | with_reducible apply s_cont
  | with_reducible apply s_retN
  | with_reducible apply s_par
  | with_reducible apply s_par2
  | with_reducible apply s_par3
  | with_reducible apply s_par33
  | ((with_reducible apply s_aug); (case' h1 => exact rfl))
  | with_reducible apply s_and
  | with_reducible apply s_or
  | with_reducible apply s_not
  | with_reducible apply s_andV
  | with_reducible apply s_orV
  | with_reducible apply s_notV
  | with_reducible apply s_ifE
  | with_reducible apply s_isN
  | with_reducible apply s_chain
  | with_reducible apply s_sl
  | with_reducible apply s_noP
  | with_reducible apply s_part
  | with_reducible apply s_bm
  | with_reducible apply s_bm0
  | with_reducible apply s_fldE
  | ((with_reducible apply s_fld); (case' h1 => walk_at "g"); (case' h2 => assumption); (case' h3 => assumption); (case' h4 => exact rfl))
  | ((with_reducible apply s_ixL); (case' h1 => walk_at "g"); (case' h2 => first | with_reducible assumption | walk_at "ix"))
  | ((with_reducible apply s_ixT); (case' h1 => walk_at "g"); (case' h2 => first | with_reducible assumption | walk_at "ix"))
  | ((with_reducible apply s_lenL); (case' h1 => walk_at "g")))
local macro_rules | `(tactic| walk_at "ff") => `(tactic| repeat walk_at "f1")
local macro_rules | `(tactic| walk_at "k0") => `(tactic| try dsimp only [L2.cxOf, Cx.nox, Cx.wish, Cx.blk, genCx])
set_option hygiene true

def msD (m : Ms) : PyData := .tuple [.str m.a, .int m.m, .str m.b, .int m.f]
theorem mss_dp {K : PySem.W.Frag} {H : Hp} : ∀ {as : List Addr} {ms : List Ms}, as.length = ms.length → (∀ (i : Nat) (a : Addr) (m : Ms), as[i]? = some a → ms[i]? = some m → H a = some (msO m)) → DpAll K H (as.map V.ref) (ms.map msD)
  | [], [], _, _ => .nil
  | [], _ :: _, h, _ => by simp at h
  | _ :: _, [], h, _ => by simp at h
  | a :: as, r :: ms, h, h1 => .cons (.tup (SqT.of (h1 0 a r rfl rfl)) (.cons (.str _) (.cons (.int _) (.cons (.str _) (.cons (.int _) .nil))))) (mss_dp (by simpa using h) fun i a r e1 e2 => h1 (i + 1) a r e1 e2)
theorem ms_sh {m : Ms} (h : txOk m.a = true) (h2 : txOk m.b = true) : Sh 1 (msD m) := Sh.tup (k := 0) fun d hd => by
  simp only [List.mem_cons, List.not_mem_nil, or_false] at hd
  rcases hd with rfl | rfl | rfl | rfl
  · exact Sh.str h
  · exact Sh.int
  · exact Sh.str h2
  · exact Sh.int
section
variable [Lw] {P : Program} {w : World} {K : PySem.W.Frag} {mg : Str → Option Value} {base : Heap} {fn : List He.DefD} (T : Sy fa1 fn tf1 K mg base) (C : Cs P w K mg base) (L : Ls1 K) (A : Around) (outer : List Env) (s : Shared) (H : Hp) (E : XK) (hr : Room 20 (A.deeper (envOfC "law" (defScope s_law) s.heap.objs.size (He.fAd K ("law", none)) (.ref (He.codeOf K ("law", none))))))
include T C L hr
theorem seg_aft (p_nam : PSs (lawX P w K mg base A outer s H E) sg_nam (tSt K (StN K) (fun G => StG K (G.1, G.2 + 1)))) (p_whe : PSs (lawX P w K mg base A outer s H E) sg_whe (tSt K (fun G => StW G.1) (fun G => StE G.1))) : PSs (lawX P w K mg base A outer s H E) sg_aft (tCt (fun (G : Gh × Nat) σ H => (Ok1 K G.1 ∧ G.2 ≤ 9) ∧ StL K G σ H) (fun G => StE G.1)) := by
  obtain ⟨f0, fd0, c__law_rounds⟩ := C.rounds
  obtain ⟨f1, fd1, c__law_roll⟩ := C.roll
  obtain ⟨f2, fd2, c__law_ex⟩ := C.lex
  obtain ⟨f3, fd3, c__law_ratios⟩ := C.lrat
  obtain ⟨f4, fd4, c_exact⟩ := C.exact
  obtain ⟨f5, fd5, c_times⟩ := C.times
  obtain ⟨f6, fd6, c_less⟩ := C.less
  obtain ⟨f7, fd7, c_Train⟩ := C.train
  obtain ⟨f8, fd8, c_Train_add_shaft⟩ := C.shaft
  obtain ⟨f9, fd9, c_Train_mesh⟩ := C.mesh
  obtain ⟨f10, fd10, c_Train_ratios⟩ := C.ratios
  obtain ⟨f11, fd11, c_Train_speeds⟩ := C.speeds
  obtain ⟨f12, fd12, c_Train_apart⟩ := C.apart
  obtain ⟨f13, fd13, c_Train_together_again⟩ := C.tog
  obtain ⟨f14, fd14, c_best_pair⟩ := C.pair
  obtain ⟨fdt, Ft, bT⟩ := C.told
  obtain ⟨oc, od, dV, kV, doc, pm, an, cdv, ct, osl, rfl, lkT, cdT, _, _⟩ := Ft.ex
  obtain ⟨tMT, c_MT⟩ := T.int "MOST_TEETH" 400
  obtain ⟨tMS, c_MS⟩ := T.int "MOST_SHAFTS" 30
  have cT := T.cls "Train"
  have n1 := T.noat "Train" "shafts"
  have n2 := T.noat "Train" "meshes"
  refine pss_weak (pss_cons (ps_if (PW.pt (pw_or (pt_cmpR (op_neDK (K := K) rfl (Room.units hr)) (pe_fldK (K := K) rfl (pv 4) rfl) (pv 3) (nomark _)) (pw_or1 (pt_cmpR (op_neDK (K := K) rfl (Room.units hr)) (pe_fldK (K := K) rfl (pv 4) rfl) (pv 2) (nomark _))))) (pss_one (ps_ret pe_bl)) pss_nil) (pss_cons (ps_set (i := 13) sc_law.nd rfl (.inl rfl) (pe_lst pa_nil)) (pss_cons (ps_for PassesOwn.never rfl (pi_listK (K := K) rfl (pv 2)) (pg_name (i := 5) sc_law.nd rfl (.inl rfl)) p_nam) (pss_cons (ps_if (pt_cmpR (op_neDK (K := K) rfl (Room.units hr)) (pe_callTy (call_listK (K := K) rfl) rfl (T.free "list") boot_list (pa_cons (pe_mtd0 (pv 4) c_Train_apart (hr.mono (by first | decide | omega)) passF) pa_nil)) (pv 13) (nomark _)) (pss_one (ps_ret pe_bl)) pss_nil) p_whe)))) ?_
  rintro ⟨nx, rt, bk, ct⟩ σ H ⟨G, ⟨⟨ok, hi9⟩, x5, x6, x7, x8, x9, x10, x11, x12, x13, x14, x15, x16, x17, x18, x19, x20, x21, x22, x23, x24, x25, x26, x27, as, as2, ms, lr, rfl, hri, hl1, hl2, F⟩, hB⟩
  have hnl := ok.nl
  have hri9 : RI G.1 9 ms := ⟨Nat.le_trans hri.len hi9, hri.pot, hri.nm, hri.te⟩
  walk_at "ff"
  refine ne_same (d := .list (ms.map msD)) (k := 2) (.lst (SqL.of (F.getN (.there (.there (.there .here))))) (mss_dp hl1 fun i a r e1 e2 => F.getN (.there (.there (.there (.there (.at e1 (map_get_some e2)))))))) (.lst (SqL.of (F.getN (.there (.there (.there (.there (.there .here))))))) (mss_dp hl2 fun i a r e1 e2 => F.getN (.there (.there (.there (.there (.there (.there (.at e1 (map_get_some e2)))))))))) (Sh.lst (k := 1) fun d hd => by obtain ⟨r, hr, rfl⟩ := List.mem_map.mp hd; exact ms_sh (ok.tx _ (hri.nm r hr).1) (ok.tx _ (hri.nm r hr).2)) (by decide) ?_
  walk_at "ff"
  refine ne_same (d := .list (G.1.names.map PyData.str)) (k := 1) (.lst (SqL.of (F.getN (.there (.there .here)))) str_dp) (.lst (SqL.of (F.getN .here)) str_dp) (Sh.lst (k := 0) (sh_strs ok.tx)) (by decide) ?_
  walk_at "ff"
  have F0 : Fp G.1.HB [] (ck p (.lst (([] : List Addr).map V.ref)) :: ([], ([] : List (List Str)).map nsO) :: LB K G.1 as as2 ms lr) _ := permC F.nil (List.Perm.swap _ _ _)
  refine forS w (fun i σ' H' => StG K (G.1, i) σ' H') ⟨_, _, _, _, _, _, _, _, _, _, _, _, _, _, _, _, _, _, _, _, _, _, as, as2, ms, lr, p, [], rfl, hri9, hl1, hl2, rfl, F0⟩ (fun i σ' H' hP => ?_) (fun i y σ' H' hy hP => ?_) (fun σ' H' hP => ?_)
  · obtain ⟨x5, x6, x7, x8, x9, x10, x11, x12, x14, x15, x16, x17, x18, x19, x20, x21, x22, x23, x24, x25, x26, x27, as, as2, ms, lr, gr, ts, rfl, hri, hl1, hl2, hts, F⟩ := hP
    exact SqL.of (F.getN (.there (.there .here)))
  · clear F F0
    obtain ⟨x5, x6, x7, x8, x9, x10, x11, x12, x14, x15, x16, x17, x18, x19, x20, x21, x22, x23, x24, x25, x26, x27, as, as2, ms, lr, gr, ts, rfl, hri, hl1, hl2, hts, F⟩ := hP
    obtain ⟨n, hn, rfl⟩ := map_get hy
    walk_at "ff"
    exact s_ct (G.1, i) ⟨ok, _, _, _, _, _, _, _, _, _, _, _, _, _, _, _, _, _, _, _, _, _, as, as2, ms, lr, gr, ts, n, rfl, hn, hri, hl1, hl2, hts, F⟩ fun σ3 H3 h3 => h3
  · clear F F0 hl1 hl2 hri hri9
    rw [List.length_map] at hP
    obtain ⟨x5, x6, x7, x8, x9, x10, x11, x12, x14, x15, x16, x17, x18, x19, x20, x21, x22, x23, x24, x25, x26, x27, as, as2, ms, lr, gr, ts, rfl, hri, hl1, hl2, hts, F⟩ := hP
    dsimp only at hts F
    rw [List.take_length, grL_all] at hts F
    obtain ⟨φ, P0⟩ := hri.pot
    have ma : MAt _ as ms := ⟨hl1, fun i a r e1 e2 => F.getN (.there (.there (.there (.there (.there (.there (.at e1 (map_get_some e2))))))))⟩
    have hgs : ∀ g ∈ apL ms G.1.names G.1.names.length G.1.names, ∀ y ∈ g, txOk y = true := fun g hg y hy => by
      rw [← grL_all] at hg
      obtain ⟨m, rfl⟩ := grL_sub g hg
      exact ok.tx y (comp_mem.mp hy).1
    have hgl := grL_len (ms := ms) (names := G.1.names) (l := G.1.names)
    rw [grL_all] at hgl
    generalize hap : apL ms G.1.names G.1.names.length G.1.names = gs at hts F hgs hgl
    walk_at "ff"
    refine ⟨G.1.x, G.1.dx, G.1.l1, G.1.l2, G.1.names, as, ms, φ, 16, 7, rfl, F.getN (.there (.there (.there .here))), F.getN (.there (.there (.there (.there .here)))), F.getN (.there (.there (.there (.there (.there .here))))), ma, by omega, P0, ok.tx, hri.nm, fun n hn => hri.bd hnl.2 hn, F.tab ok.t1, fun pt ts2 N4 H4 hl4 G4 => ?_⟩
    rw [hap] at G4 hl4
    replace F := (F.call .nil G4).kp (.keep (.keep (Kp.app _)))
    walk_at "ff"
    refine ne_same (d := .list (gs.map nsD)) (k := 2) (.lst (SqL.of (F.getN .here)) (nss_dp hl4 fun i a g e1 e2 => F.getN (.there (.there (.at e1 (map_get_some e2)))))) (.lst (SqL.of (F.getN (.there (.there (.there .here))))) (nss_dp hts fun i a g e1 e2 => F.getN (.there (.there (.there (.there (.at e1 (map_get_some e2)))))))) (Sh.lst (k := 1) fun d hd => by obtain ⟨g, hg, rfl⟩ := List.mem_map.mp hd; exact ns_sh (hgs g hg)) (by decide) ?_
    walk_at "ff"
    exact s_ct G ⟨ok, _, _, _, _, _, _, _, _, _, _, _, _, _, _, _, _, _, _, _, _, _, _, _, _, _, _, rfl, F.kp .nil⟩ hB
end
end K1

set_option Elab.async false
set_option linter.all false
set_option maxRecDepth 100000
set_option maxHeartbeats 4000000
set_option pp.maxSteps 1500
namespace K1
open PySem PySem.Spec PyProof.Rows L2 Mi LamX
set_option hygiene false
local macro_rules | `(tactic| walk_at "lk") => `(tactic| first | (with_reducible assumption) | (with_reducible apply get_set_self; walk_at "lk") | ((with_reducible apply get_set_ne); (case' hne => with_reducible assumption); walk_at "lk"))
local macro_rules | `(tactic| walk_at "at") => `(tactic| first | (with_reducible exact At.here) | (with_reducible apply At.at; (case' h1 => assumption); walk_at "lk") | (with_reducible apply At.there; walk_at "at"))
local macro_rules | `(tactic| walk_at "rp") => `(tactic| first | (with_reducible exact Rp.here) | (with_reducible apply Rp.set; (case' h1 => assumption); walk_at "lk") | (with_reducible apply Rp.at; (case' h1 => assumption); walk_at "lk") | (with_reducible apply Rp.there; walk_at "rp"))
local macro_rules | `(tactic| walk_at "re") => `(tactic| first | (with_reducible apply Re.n; walk_at "rp") | (with_reducible apply Re.s; walk_at "rp"))
local macro_rules | `(tactic| walk_at "dl") => `(tactic| first | (with_reducible exact Dl.here) | (with_reducible apply Dl.there; walk_at "dl"))
local macro_rules | `(tactic| walk_at "pq") => `(tactic| first | (with_reducible exact Pq.nil) | ((with_reducible apply Pq.n); (case' d => walk_at "dl"); walk_at "pq") | ((with_reducible apply Pq.s); (case' d => walk_at "dl"); walk_at "pq"))
local macro_rules | `(tactic| walk_at "rc") => `(tactic| first | (with_reducible exact Rc.here) | (with_reducible apply Rc.there; walk_at "rc"))
local macro_rules | `(tactic| walk_at "rs") => `(tactic| first | (with_reducible exact Rs.nil) | ((with_reducible apply Rs.on); (case' r => walk_at "rc"); (case' hl => first | exact rfl | ((try simp only [List.length_map, List.length_set]); with_reducible assumption) | (simp; done)); walk_at "rs") | ((with_reducible apply Rs.os); (case' r => walk_at "rc"); (case' hl => first | exact rfl | ((try simp only [List.length_map, List.length_set]); with_reducible assumption) | (simp; done)); walk_at "rs"))
local macro_rules | `(tactic| walk_at "ix") => `(tactic| first | with_reducible exact atI_nat (by assumption) | with_reducible exact atI_nat1 (by assumption) | with_reducible exact atI0 | with_reducible exact atI1 | with_reducible exact atI2 | with_reducible exact atI3 | with_reducible exact atI4)
local macro_rules | `(tactic| walk_at "sl") => `(tactic| first | (with_reducible assumption) | ((with_reducible apply len_app); (case' h1 => walk_at "sl"); (case' h2 => walk_at "sl")) | (with_reducible exact Nat.le_refl _))
local macro_rules | `(tactic| walk_at "sz") => `(tactic| first | with_reducible assumption | ((with_reducible apply len_leB); (case' h => walk_at "sl"); (case' hn => exact Nat.le_of_ble_eq_true rfl)) | exact of_decide_eq_true rfl | (exact len_le (by (try simp only [List.length_append, List.length_cons, List.length_nil, List.length_map, List.length_set, List.length_reverse]); omega)) | (exact len_lt (by (try simp only [List.length_append, List.length_cons, List.length_nil, List.length_map, List.length_set, List.length_reverse]); omega)))
local macro_rules | `(tactic| walk_at "len") => `(tactic| ((try simp only [List.length_append, List.length_cons, List.length_nil, List.length_map, List.length_set, List.length_reverse, List.length_replicate]); omega))
local macro_rules | `(tactic| walk_at "ixn") => `(tactic| first | with_reducible assumption | (with_reducible apply ixN_nat; walk_at "len") | (with_reducible apply ixN_nat1; walk_at "len") | (with_reducible apply ixN_0; walk_at "len") | (with_reducible apply ixN_1; walk_at "len") | (with_reducible apply ixN_2; walk_at "len") | exact rfl)
local macro_rules | `(tactic| walk_at "st") => `(tactic| ((try simp only [L2.start, wipe, List.map_cons, List.map_nil, List.length_cons, List.length_nil, Nat.reduceAdd, Nat.reduceSub, List.replicate_succ, List.replicate_zero, List.nil_append, List.cons_append, List.set_cons_succ, List.set_cons_zero]); exact rfl))
local macro_rules | `(tactic| walk_at "kp") => `(tactic| first | (with_reducible exact Kp.nil) | (with_reducible apply Kp.keep; walk_at "kp") | (with_reducible apply Kp.drop; walk_at "kp"))
local macro_rules | `(tactic| walk_at "g") => `(tactic| first
  | with_reducible assumption
  | (with_reducible apply F.getN; walk_at "at")
  | (with_reducible apply F.getS; walk_at "at")
  | ((with_reducible apply F.imm); (case' h => with_reducible assumption); exact rfl)
  | ((with_reducible apply F.keep); (case' h => with_reducible assumption); exact rfl)
  | ((with_reducible apply F.keepL); with_reducible assumption)
  | ((with_reducible apply F.sqT); with_reducible assumption)
  | ((with_reducible apply SqL.of); walk_at "g")
  | ((with_reducible apply SqT.of); walk_at "g")
  | ((with_reducible apply Rd.of); walk_at "g")
  | ((with_reducible apply Rd.frz); walk_at "g")
  | (with_reducible apply F.tab; with_reducible assumption)
  | ((with_reducible apply f_dgetS); (case' h1 => walk_at "g"); (case' h2 => first | with_reducible assumption | ((simp (decide := true) only [valR, if_true, if_false]); exact rfl))))
local macro_rules | `(tactic| walk_at "f1") => `(tactic| first
  | (with_reducible (first | apply s_seq | apply s_cons | apply s_nil | apply s_c | apply s_op | apply s_asg | apply s_test | apply s_ifS | apply s_ret | apply s_next | apply s_call | apply s_fldE | apply s_dgetE | apply s_gCons | apply s_gNil | apply s_par | apply s_par3 | apply s_and | apply s_or | apply s_not | apply s_andV | apply s_orV | apply s_notV | apply s_ifE | apply s_chain | apply s_cb | apply s_for | apply s_lc | apply f_methE | apply f_makeE | apply s_rollE | apply s_iK | apply s_iL | apply s_iT | apply f_tup | apply f_lst))
  | ((with_reducible apply s_var); (case' h1 => first | exact rfl | with_reducible assumption))
  | ((with_reducible apply s_gNn); (case' e => walk_at "st"))
  | ((with_reducible apply s_dget); (case' h1 => walk_at "g"))
  | with_reducible apply f_tup
  | with_reducible apply f_lst
  | ((with_reducible apply newF F); (case' ho => exact rfl); clear F; intro p H1 F)
  | ((with_reducible apply s_mk0); (case' hz => first | decide | (simp only [List.length_cons, List.length_nil]; decide)))
  | with_reducible apply f_sFld
  | ((with_reducible apply f_fld F); (case' R => walk_at "re"); (case' h2 => with_reducible assumption); (case' h3 => with_reducible assumption); (case' h4 => exact of_decide_eq_true rfl); (case' hp => ((try simp (decide := true) only [putF, if_true, if_false]); exact rfl)); clear F; intro H1 F)
  | with_reducible apply f_sAug
  | ((with_reducible apply f_aug); (case' h1 => walk_at "g"); (case' h2 => with_reducible assumption); (case' h3 => with_reducible assumption); (case' h4 => exact rfl))
  | ((with_reducible apply f_fldq F); (case' R => walk_at "re"); (case' h4 => exact of_decide_eq_true rfl); (case' hp => ((try simp (decide := true) only [putF, if_true, if_false]); exact rfl)); clear F; intro H1 F)
  | with_reducible apply f_radd
  | with_reducible apply f_rsub
  | ((with_reducible apply f_setL F); (case' R => walk_at "re"); (case' h2 => walk_at "ixn"); clear F; intro H1 F)
  | with_reducible apply f_sDPut
  | ((with_reducible apply f_dputS F); (case' R => walk_at "re"); (case' hl => walk_at "sz"); (case' hp => first | with_reducible assumption | ((try simp (decide := true) only [putR, List.map_cons, List.map_nil, if_true, if_false]); exact rfl)); clear F; intro H1 F)
  | with_reducible apply f_sDAug
  | ((with_reducible apply f_daug); (case' h1 => walk_at "g"))
  | ((with_reducible apply f_dputqS F); (case' R => walk_at "re"); (case' hl => walk_at "sz"); (case' hp => first | with_reducible assumption | ((try simp (decide := true) only [putR, List.map_cons, List.map_nil, if_true, if_false]); exact rfl)); clear F; intro H1 F)
  | with_reducible apply s_dgetE
  | ((with_reducible apply s_dget); (case' h1 => walk_at "g"))
  | ((with_reducible apply f_append F); (case' R => walk_at "re"); (case' hz => walk_at "sz"); clear F; intro H1 F)
  | ((with_reducible apply f_listKL); (case' h1 => walk_at "g"))
  | ((with_reducible apply f_listKT); (case' h1 => walk_at "g"))
  | ((with_reducible apply f_tupKL); (case' h1 => walk_at "g"))
  | ((with_reducible apply f_slL); (case' h1 => walk_at "g"))
  | ((with_reducible apply f_cat); (case' h1 => walk_at "g"); (case' h2 => walk_at "g"); (case' hz => walk_at "sz"))
  | with_reducible apply f_makeE
  | with_reducible apply s_iR3
  | ((with_reducible apply s_iR3d); (case' h1 => omega); (case' hc => rfl); intro J w)
  | ((with_reducible apply s_wipe); (case' h1 => first | exact rfl | exact wipe1))
  | with_reducible apply s_revE
  | ((with_reducible apply s_rev); (case' h1 => walk_at "g"))
  | with_reducible apply f_methE
  | ((with_reducible apply s_lenD); (case' h1 => walk_at "g"))
  | ((with_reducible apply f_meth); (case' h1 => walk_at "g"); (case' h2 => exact rfl))
  | with_reducible apply s_iEL
  | ((with_reducible apply s_iEL2); (case' h1 => walk_at "g"); intro J w)
  | with_reducible apply s_iZ
  | with_reducible apply s_iI
  | ((with_reducible apply s_iI2); (case' h1 => walk_at "g"); intro J w)
  | ((with_reducible apply f_rep1); (case' h1 => walk_at "g"); (case' hk => (constructor <;> omega)))
  | with_reducible apply f_gSub
  | ((with_reducible apply f_disp F); clear F; intro p H1 F)
  | with_reducible apply f_pairC
  | with_reducible apply f_pairN
  | ((with_reducible apply f_dispQ F); (case' R => walk_at "re"); (case' e => ((simp only [List.map_cons, List.map_nil, cvK]); exact rfl)); (case' e2 => exact rfl); (case' hl => exact Nat.le_of_ble_eq_true rfl); (case' hm => first | with_reducible apply hMk | exact rfl); clear F; intro H1 F)
  | ((with_reducible apply f_dnew F); clear F; intro p H1 F)
  | ((with_reducible apply f_unl F); (case' R => walk_at "re"); clear F; intro H1 F)
  | with_reducible apply f_rSetD
  | with_reducible apply f_dnewK
  | with_reducible apply f_sDNi
  | with_reducible apply f_finS
  | with_reducible apply f_finB
  | with_reducible apply f_finB'
  | with_reducible apply f_sDIn
  | ((with_reducible apply s_catS); (case' h1 => walk_at "sl"); (case' h2 => walk_at "sl"); (case' hn => exact Nat.le_of_ble_eq_true rfl))
  | ((with_reducible apply s_logA); (case' hl => with_reducible assumption))
  | with_reducible apply s_same
  | with_reducible apply s_js
  | with_reducible apply s_js0
  | ((with_reducible apply s_js2); (case' hl => walk_at "sz"))
  | with_reducible apply s_fm
  | ((with_reducible apply s_fmS); (case' hl => walk_at "sz"))
  | ((with_reducible apply s_fmI); (case' hl => with_reducible assumption))
  | with_reducible apply f_dget2E
  | with_reducible apply s_sameE
  | with_reducible apply s_chain3
  | with_reducible apply s_notN
  | with_reducible apply s_items
  | with_reducible apply s_bb1
  | with_reducible apply s_bb2
  | walk_at "f2")
local macro_rules | `(tactic| walk_at "f2") => `(tactic| first
  | with_reducible apply s_seq
  | with_reducible apply s_gCons
  | with_reducible apply s_gNil
  | ((with_reducible apply s_gTup); (case' h1 => walk_at "g"); (case' h2 => exact rfl))
  | with_reducible apply s_asg
  | ((with_reducible apply s_I); (case' hc => first | exact ⟨by omega, by omega⟩ | exact .inl ⟨by omega, by omega⟩ | exact .inr ⟨by omega, by omega⟩ | (show (_ : Int) < _; omega) | (show (_ : Int) ≠ _; omega)))
  | with_reducible apply s_mm
  | ((with_reducible apply s_lenKL); (case' h1 => walk_at "g"))
  | ((with_reducible apply s_lenKT); (case' h1 => walk_at "g"))
  | ((with_reducible apply s_tupKT); (case' h1 => walk_at "g"))
  | with_reducible apply s_iE
  | ((with_reducible apply s_iE2); (case' h1 => walk_at "g"); intro J w)
  | with_reducible apply s_ifTT
  | with_reducible apply s_ifFF
  | with_reducible apply s_rollE
  | ((with_reducible apply s_roll); (case' h1 => walk_at "g"); (case' h2 => exact ⟨by omega, by omega⟩); intro k k0 k1)
  | with_reducible apply s_gSub
  | with_reducible apply s_ab
  | with_reducible apply s_in1
  | with_reducible apply s_in2
  | ((with_reducible apply s_lsL); (case' h1 => walk_at "g"))
  | ((with_reducible apply s_lsT); (case' h1 => walk_at "g"))
  | ((with_reducible apply s_tyL); (case' h1 => walk_at "g"))
  | with_reducible apply s_for
  | with_reducible apply s_lc
  | with_reducible apply s_dc
  | with_reducible apply s_gn
  | with_reducible apply s_yes
  | with_reducible apply s_iL
  | with_reducible apply s_iT
  | with_reducible apply s_iR1
  | with_reducible apply s_iR2
  | with_reducible apply s_iK
  | ((with_reducible apply s_iL2); (case' h1 => walk_at "g"); intro J w)
  | ((with_reducible apply s_iT2); (case' h1 => walk_at "g"); intro J w)
  | ((with_reducible apply s_iR12); (case' h1 => omega); intro J w)
  | ((with_reducible apply s_iR22); (case' h1 => omega); intro J w)
  | ((with_reducible apply s_iK2); (case' h1 => walk_at "g"); intro J w)
  | ((with_reducible apply s_gNn); (case' e => walk_at "st"))
  | ((with_reducible apply s_var); (case' h1 => first | exact rfl | with_reducible assumption))
  | with_reducible apply s_c
  | with_reducible apply s_op
  | with_reducible apply s_cons
  | with_reducible apply s_nil
  | with_reducible apply s_ret
  | with_reducible apply s_ifS
  | with_reducible apply s_test
  | with_reducible apply s_B
  | with_reducible apply s_exbl
  | with_reducible apply s_exint
  | with_reducible apply s_I0
  | ((with_reducible apply s_Eq); (case' hs => exact rfl))
  | ((with_reducible apply s_Ne); (case' hs => exact rfl))
  | with_reducible apply s_un
  | with_reducible apply s_U
  | with_reducible apply s_cb
  | with_reducible apply s_call
  | with_reducible apply s_next
  | with_reducible apply s_drop
  | with_reducible apply s_break
  | with_reducible apply s_cont
  | with_reducible apply s_retN
  | with_reducible apply s_par
  | with_reducible apply s_par2
  | with_reducible apply s_par3
  | with_reducible apply s_par33
  | ((with_reducible apply s_aug); (case' h1 => exact rfl))
  | with_reducible apply s_and
  | with_reducible apply s_or
  | with_reducible apply s_not
  | with_reducible apply s_andV
  | with_reducible apply s_orV
  | with_reducible apply s_notV
  | with_reducible apply s_ifE
  | with_reducible apply s_isN
  | with_reducible apply s_chain
  | with_reducible apply s_sl
  | with_reducible apply s_noP
  | with_reducible apply s_part
  | with_reducible apply s_bm
  | with_reducible apply s_bm0
  | with_reducible apply s_fldE
  | ((with_reducible apply s_fld); (case' h1 => walk_at "g"); (case' h2 => assumption); (case' h3 => assumption); (case' h4 => exact rfl))
  | ((with_reducible apply s_ixL); (case' h1 => walk_at "g"); (case' h2 => first | with_reducible assumption | walk_at "ix"))
  | ((with_reducible apply s_ixT); (case' h1 => walk_at "g"); (case' h2 => first | with_reducible assumption | walk_at "ix"))
  | ((with_reducible apply s_lenL); (case' h1 => walk_at "g")))
local macro_rules | `(tactic| walk_at "ff") => `(tactic| repeat walk_at "f1")
local macro_rules | `(tactic| walk_at "k0") => `(tactic| try dsimp only [L2.cxOf, Cx.nox, Cx.wish, Cx.blk, genCx])
set_option hygiene true

def xK (k : Nat) : Str := Str.ofString "x" ++ Str.ofString (toString ((k : Nat) : Int))
abbrev nm2 : List Str := ["a", "b"]
abbrev xs (i : Nat) : List Str := nm2 ++ (List.range i).map xK
theorem xs_ok : ∀ i : Fin 28, (xK i.1 ∉ xs i.1 ∧ xK i.1 ≠ "") ∧ ((i.1 : Nat) : Int).natAbs.log2 < 1920 ∧ (Str.ofString "x").length + (Str.ofString (toString ((i.1 : Nat) : Int))).length ≤ sizeLine := by decide +kernel
theorem xs_more {i : Nat} : xs (i + 1) = xs i ++ [xK i] := by
  unfold xs
  rw [List.range_succ, List.map_append, ← List.append_assoc]
  rfl
theorem xs_z : ("z" : Str) ∉ xs 28 := by decide +kernel
theorem xs_tx : ∀ n ∈ xs 28, txOk n = true := by decide +kernel
theorem xs_len : (xs 28).length = 30 := by decide +kernel
theorem co_nil {s n : Str} (h : Conn [] s n) : n = s := by
  cases h with
  | refl => rfl
  | step _ e =>
    obtain ⟨m, hm, _⟩ := e
    cases hm
theorem bd_nil {s : Str} : Bd [] s 40 2 := ⟨fun m hm => (nomatch hm), fun l h1 h2 => Nat.le_trans (nodup_le (m := [s]) h1 fun x hx => List.mem_singleton.mpr (co_nil (h2 x hx))) (by simp), by decide, by decide, by decide⟩
theorem q11 : qO (1 / 1) = .tup [.int 1, .int 1] := by
  have h1 : (1 / 1 : Rat).num = 1 := by decide +kernel
  have h2 : (1 / 1 : Rat).den = 1 := by decide +kernel
  unfold qO
  rw [h1, h2]
  rfl
theorem q41 : qO (-4 / 1) = .tup [.int (-4), .int 1] := by
  have h1 : (-4 / 1 : Rat).num = (-4) := by decide +kernel
  have h2 : (-4 / 1 : Rat).den = 1 := by decide +kernel
  unfold qO
  rw [h1, h2]
  rfl
theorem q46 : qO (Rat.divInt 4 (-6)) = .tup [.int (-2), .int 3] := by
  have h1 : (Rat.divInt 4 (-6) : Rat).num = (-2) := by decide +kernel
  have h2 : (Rat.divInt 4 (-6) : Rat).den = 3 := by decide +kernel
  unfold qO
  rw [h1, h2]
  rfl
theorem q13 : qO (Rat.divInt (1 * 2) (2 * 3)) = .tup [.int 1, .int 3] := by
  have h1 : (Rat.divInt (1 * 2) (2 * 3) : Rat).num = 1 := by decide +kernel
  have h2 : (Rat.divInt (1 * 2) (2 * 3) : Rat).den = 3 := by decide +kernel
  unfold qO
  rw [h1, h2]
  rfl
theorem ii_dp {K : PySem.W.Frag} {H : Hp} {t : Addr} {a b : Int} (h : H t = some (.tup [.int a, .int b])) : Dp K H (.ref t) (.tuple [.int a, .int b]) := .tup (SqT.of h) (.cons (.int _) (.cons (.int _) .nil))
theorem ii_sh {a b : Int} : Sh 1 (.tuple [.int a, .int b]) := Sh.tup (k := 0) fun d hd => by
  simp only [List.mem_cons, List.not_mem_nil, or_false] at hd
  rcases hd with rfl | rfl <;> exact Sh.int
theorem vv_a {x y : V} : valV [((Sum.inr "a" : Key), x), ((Sum.inr "b" : Key), y)] (Sum.inr ("a" : Str)) = some x := by
  rw [valV_valR]
  unfold valR
  rw [if_pos rfl]
theorem vv_b {x y : V} : valV [((Sum.inr "a" : Key), x), ((Sum.inr "b" : Key), y)] (Sum.inr ("b" : Str)) = some y := by
  rw [valV_valR]
  unfold valR
  rw [if_neg (fun z => ab_ne (Sum.inr.inj z))]
  unfold valR
  rw [if_pos rfl]
theorem co_ab {n : Str} : Conn [m0] "a" n ↔ n ∈ nm2 := ⟨fun h => by
  rcases co0 (.inl rfl) h with rfl | rfl
  · exact List.mem_cons_self
  · exact List.mem_cons_of_mem _ List.mem_cons_self, fun h => by
  simp only [List.mem_cons, List.not_mem_nil, or_false] at h
  rcases h with rfl | rfl
  · exact .refl
  · exact .step .refl ed0⟩
theorem tb_two {t : List Rt} (I : IsTab φ0 [m0] "a" t) : (tbR t).length = 2 := by
  have h : (nmsR t).Perm nm2 := (List.perm_ext_iff_of_nodup I.nd (by decide +kernel)).mpr fun n => I.keys.trans co_ab
  have := h.length_eq
  rw [List.length_map] at this ⊢
  exact this
theorem tog4 {L : Int} (h : TogOk φ0 [m0] "b" L) : L = 4 := by
  have hd : ∀ m, Conn [m0] "b" m → ((φ0 m / φ0 "b").den : Int) ∣ 4 := fun m hm => by
    rcases co0 (.inr rfl) hm with rfl | rfl
    · rw [φ0_a, φ0_b]
      decide +kernel
    · rw [φ0_b]
      decide +kernel
  have h1 : L ∣ 4 := (h.2 4).mp hd
  have h2 := (h.2 L).mpr (Int.dvd_refl L) "a" (.step .refl ed0.symm)
  rw [φ0_a, φ0_b, show (((1 : Rat) / -4).den : Int) = 4 by decide +kernel] at h2
  have h3 := Int.le_of_dvd (by decide) h1
  have h4 := Int.le_of_dvd (by have := h.1; omega) h2
  omega
theorem pair_is {a b : Int} (h : isPair 2 1 [10, 21] (a, b)) : a = 21 ∧ b = 10 := by
  obtain ⟨h1, h2, h3⟩ := h
  have h4 := (h3 21 (by decide) 10 (by decide)).1
  simp only [List.mem_cons, List.not_mem_nil, or_false] at h1 h2
  rcases h1 with rfl | rfl
  · rcases h2 with rfl | rfl
    · exact absurd (by decide +kernel) h4
    · exact absurd (by decide +kernel) h4
  · rcases h2 with rfl | rfl
    · exact ⟨rfl, rfl⟩
    · exact absurd (by decide +kernel) h4
section
variable [Lw] {P : Program} {w : World} {K : PySem.W.Frag} {mg : Str → Option Value} {base : Heap} {fn : List He.DefD} (T : Sy fa1 fn tf1 K mg base) (C : Cs P w K mg base) (L : Ls1 K) (A : Around) (outer : List Env) (s : Shared) (H : Hp) (E : XK) (hr : Room 20 (A.deeper (envOfC "law" (defScope s_law) s.heap.objs.size (He.fAd K ("law", none)) (.ref (He.codeOf K ("law", none))))))
include T C L hr
theorem seg_fin : PSs (lawX P w K mg base A outer s H E) sg_fin (tFin K) := by
  obtain ⟨f0, fd0, c__law_rounds⟩ := C.rounds
  obtain ⟨f1, fd1, c__law_roll⟩ := C.roll
  obtain ⟨f2, fd2, c__law_ex⟩ := C.lex
  obtain ⟨f3, fd3, c__law_ratios⟩ := C.lrat
  obtain ⟨f4, fd4, c_exact⟩ := C.exact
  obtain ⟨f5, fd5, c_times⟩ := C.times
  obtain ⟨f6, fd6, c_less⟩ := C.less
  obtain ⟨f7, fd7, c_Train⟩ := C.train
  obtain ⟨f8, fd8, c_Train_add_shaft⟩ := C.shaft
  obtain ⟨f9, fd9, c_Train_mesh⟩ := C.mesh
  obtain ⟨f10, fd10, c_Train_ratios⟩ := C.ratios
  obtain ⟨f11, fd11, c_Train_speeds⟩ := C.speeds
  obtain ⟨f12, fd12, c_Train_apart⟩ := C.apart
  obtain ⟨f13, fd13, c_Train_together_again⟩ := C.tog
  obtain ⟨f14, fd14, c_best_pair⟩ := C.pair
  obtain ⟨fdt, Ft, bT⟩ := C.told
  obtain ⟨oc, od, dV, kV, doc, pm, an, cdv, ct, osl, rfl, lkT, cdT, _, _⟩ := Ft.ex
  obtain ⟨tMT, c_MT⟩ := T.int "MOST_TEETH" 400
  obtain ⟨tMS, c_MS⟩ := T.int "MOST_SHAFTS" 30
  have cT := T.cls "Train"
  have n1 := T.noat "Train" "shafts"
  have n2 := T.noat "Train" "meshes"
  obtain ⟨t0, O0, B0⟩ := lam0 T c_Train_add_shaft c_Train_mesh c_Train_ratios c_Train_speeds c_best_pair A outer s H E
  obtain ⟨t1, O1, B1⟩ := lam1 T c_Train_add_shaft c_Train_mesh c_Train_ratios c_Train_speeds c_best_pair A outer s H E
  obtain ⟨t2, O2, B2⟩ := lam2 T c_Train_add_shaft c_Train_mesh c_Train_ratios c_Train_speeds c_best_pair A outer s H E
  obtain ⟨t3, O3, B3⟩ := lam3 T c_Train_add_shaft c_Train_mesh c_Train_ratios c_Train_speeds c_best_pair A outer s H E
  obtain ⟨t4, O4, B4⟩ := lam4 T c_Train_add_shaft c_Train_mesh c_Train_ratios c_Train_speeds c_best_pair A outer s H E
  obtain ⟨t5, O5, B5⟩ := lam5 T c_Train_add_shaft c_Train_mesh c_Train_ratios c_Train_speeds c_best_pair A outer s H E
  obtain ⟨t6, O6, B6⟩ := lam6 T c_Train_add_shaft c_Train_mesh c_Train_ratios c_Train_speeds c_best_pair A outer s H E
  obtain ⟨t7, O7, B7⟩ := lam7 T c_Train_add_shaft c_Train_mesh c_Train_ratios c_Train_speeds c_best_pair A outer s H E
  obtain ⟨t8, O8, B8⟩ := lam8 T c_Train_add_shaft c_Train_mesh c_Train_ratios c_Train_speeds c_best_pair A outer s H E
  have OI1 := lamI1_ok T c_Train_add_shaft c_Train_mesh A outer s H E
  have hqq : (lawX P w K mg base A outer s H E).env.qual = lq := rfl
  have hmT : ((He.cT K ("law", none)).2, (lawX P w K mg base A outer s H E).env.qual ++ "<lambda>") ∈ lawT K := by
    rw [hqq]
    exact List.mem_singleton_self _
  have huT : ∀ p ∈ lawT K, p.1 = (He.cT K ("law", none)).2 → p.2 = (lawX P w K mg base A outer s H E).env.qual ++ "<lambda>" := fun p hp _ => by
    rw [hqq, List.mem_singleton.mp hp]
  refine pss_weak (pss_cons (ps_set (i := 4) sc_law.nd rfl (.inr rfl) (pe_cmk0 c_Train (hr.mono (by first | decide | omega)) rfl pass0)) (pss_cons (ps_expr (pe_mtd (pv 4) c_Train_add_shaft (hr.mono (by first | decide | omega)) passF (pa_cons pe_str pa_nil))) (pss_cons (ps_expr (pe_mtd (pv 4) c_Train_add_shaft (hr.mono (by first | decide | omega)) passF (pa_cons pe_str pa_nil))) (pss_cons (ps_expr (pe_mtd (pv 4) c_Train_mesh (hr.mono (by first | decide | omega)) passF (pa_cons pe_str (pa_cons pe_int (pa_cons pe_str (pa_cons pe_int pa_nil)))))) (pss_cons (ps_set (i := 24) sc_law.nd rfl (.inl rfl) (pe_lst (pa_cons (pe_lam (D := mkD 0 t0) (T.tabB ("law", none)) rfl hmT huT rfl O0) (pa_cons (pe_lam (D := mkD 1 t1) (T.tabB ("law", none)) rfl hmT huT rfl O1) (pa_cons (pe_lam (D := mkD 2 t2) (T.tabB ("law", none)) rfl hmT huT rfl O2) (pa_cons (pe_lam (D := mkD 3 t3) (T.tabB ("law", none)) rfl hmT huT rfl O3) (pa_cons (pe_lam (D := mkD 4 t4) (T.tabB ("law", none)) rfl hmT huT rfl O4) (pa_cons (pe_lam (D := mkD 5 t5) (T.tabB ("law", none)) rfl hmT huT rfl O5) (pa_cons (pe_lam (D := mkD 6 t6) (T.tabB ("law", none)) rfl hmT huT rfl O6) (pa_cons (pe_lam (D := mkD 7 t7) (T.tabB ("law", none)) rfl hmT huT rfl O7) (pa_cons (pe_lam (D := mkD 8 t8) (T.tabB ("law", none)) rfl hmT huT rfl O8) pa_nil))))))))))) (pss_cons (ps_for PassesOwn.never rfl (pi_range1 rfl (T.free "range") (pa_cons pe_int pa_nil)) (pg_name (i := 25) sc_law.nd rfl (.inl rfl)) (pss_one (ps_expr (pe_mtd (pv 4) c_Train_add_shaft (hr.mono (by first | decide | omega)) passF (pa_cons (pe_op op_add_str pe_str (pe_callTy call_str_int rfl (T.free "str") boot_str (pa_cons (pv 25) pa_nil))) pa_nil))))) (pss_cons (ps_if (PW.pt (pw_or (pt_cmpR (op_neDK (K := K) rfl (Room.units hr)) (lcI (own := [("f", 27)]) (te := tC (.int 1)) (g := gName 27) (tt := fun σ => tBadC (lawX P w K mg base A outer s H E) 10 27 K (He.ga K "GearError") "GearError" σ) rfl sc_law.nd (pi_listK (K := K) rfl (pv 24)) (blkOk_by (N := n_law) (sc := (defScope s_law)) (by decide +kernel)) (fun _ _ _ _ _ => (pg_name (i := 27) sc_law.nd rfl (.inl rfl))) (fun s3 H3 C cl fp pins σ I3 f3 => pts_one (pt_cmpR op_ne (pe_toldV (i := 27) (k := 10) (TT := TTold K (He.ga K "GearError") "GearError") I3 f3 rfl (T.glo "_law_told") Ft.kp lkT cdT bT scTold rfl (.inl rfl) (told_gives rfl (T.glo "GearError") (by decide) fun _ => rfl) (hr.mono (by decide)) (pv 27)) pe_str (nomark _))) (fun _ _ _ _ _ => pe_int)) (pe_lst pa_nil) (nomark _)) (pw_or1 (pt_cmpR op_ne (pe_lamF (T := lawT K) (D := mkI1 (tI1 K)) rfl (T.glo "_law_told") Ft.kp lkT cdT bT scTold rfl (.inl rfl) (told_gives rfl (T.glo "GearError") (by decide) fun _ => rfl) (T.tabB ("law", none)) rfl hmT huT (hr.mono (by decide)) (by rfl) OI1) pe_str (nomark _))))) (pss_one (ps_ret pe_bl)) pss_nil) (pss_one (ps_ret (pe_and (pe_cmpR (op_eqMK (K := K) rfl (Room.u66 hr)) (pe_mtd (pv 4) c_Train_ratios (hr.mono (by first | decide | omega)) passF (pa_cons pe_str pa_nil)) (pe_disp (pps_cons pe_str (pe_tup (pa_cons pe_int (pa_cons pe_int pa_nil))) (pps_cons pe_str (pe_tup (pa_cons (pe_un un_neg pe_int) (pa_cons pe_int pa_nil))) pps_nil)) (by rfl) (by rfl) (fun z => by cases z) (by decide)) (nomark _)) (pe_and (pe_cmpR op_eq (pe_mtd (pv 4) c_Train_together_again (hr.mono (by first | decide | omega)) passF (pa_cons pe_str pa_nil)) pe_int (nomark _)) (pe_and (pe_cmpR (op_eqDK (K := K) rfl (Room.units hr)) (pe_cal c_exact (hr.mono (by first | decide | omega)) rfl pass0 (pa_cons pe_int (pa_cons (pe_un un_neg pe_int) pa_nil))) (pe_tup (pa_cons (pe_un un_neg pe_int) (pa_cons pe_int pa_nil))) (nomark _)) (pe_and (pe_cmpR (op_eqDK (K := K) rfl (Room.units hr)) (pe_cal c_times (hr.mono (by first | decide | omega)) rfl pass0 (pa_cons (pe_tup (pa_cons pe_int (pa_cons pe_int pa_nil))) (pa_cons (pe_tup (pa_cons pe_int (pa_cons pe_int pa_nil))) pa_nil))) (pe_tup (pa_cons pe_int (pa_cons pe_int pa_nil))) (nomark _)) (pe_and (pe_cal c_less (hr.mono (by first | decide | omega)) rfl pass0 (pa_cons (pe_tup (pa_cons pe_int (pa_cons pe_int pa_nil))) (pa_cons (pe_tup (pa_cons pe_int (pa_cons pe_int pa_nil))) pa_nil))) (pe_one (pe_cmpR (op_eqDK (K := K) rfl (Room.units hr)) (pe_cal c_best_pair (hr.mono (by first | decide | omega)) rfl passF (pa_cons (pe_tup (pa_cons pe_int (pa_cons pe_int pa_nil))) (pa_cons (pe_lst (pa_cons pe_int (pa_cons pe_int pa_nil))) pa_nil))) (pe_tup (pa_cons pe_int (pa_cons pe_int pa_nil))) (nomark _))))))))))))))))) ?_
  rintro ⟨nx, rt, bk, ct⟩ σ H ⟨x0, x1, x2, x3, x4, x5, x6, x7, x8, x9, x10, x11, x12, x13, x14, x15, x16, x17, x18, x19, x20, x21, x22, x23, x24, x25, x26, x27, rfl, hTS, hQ⟩
  have F := Fp.refl (B := H)
  walk_at "ff"
  refine f_mk F fun x dx H2 F => ?_
  refine ⟨_, _, rfl, by walk_at "g", fun l1 l2 H3 G3 => ⟨rfl, ?_⟩⟩
  replace F : Fp H [] [ck l2 (.lst (([] : List Addr).map V.ref)), ck l1 (.lst (([] : List Str).map V.str)), ck x (trO K dx l1 l2)] H3 := F.call2 G3 (by walk_at "rs")
  walk_at "ff"
  refine ⟨x, dx, l1, l2, [], "a", rfl, F.pq (by walk_at "pq"), by decide, fun z => absurd z (by rintro (z | z | z); (· exact absurd z (by decide +kernel)); (· cases z); (· exact absurd z (by decide))), fun _ H4 G4 => ?_⟩
  replace F := F.call0 G4 (by walk_at "rs")
  replace F : Fp H [] [ck l2 (.lst (([] : List Addr).map V.ref)), ck l1 (.lst ([("a" : Str)].map V.str)), ck x (trO K dx l1 l2)] H4 := F
  walk_at "ff"
  refine ⟨x, dx, l1, l2, [("a" : Str)], "b", rfl, F.pq (by walk_at "pq"), by decide, fun z => absurd z (by rintro (z | z | z); (· exact absurd z (by decide +kernel)); (· exact absurd z (by decide +kernel)); (· exact absurd z (by decide))), fun _ H5 G5 => ?_⟩
  replace F := F.call0 G5 (by walk_at "rs")
  replace F : Fp H [] [ck l2 (.lst (([] : List Addr).map V.ref)), ck l1 (.lst (nm2.map V.str)), ck x (trO K dx l1 l2)] H5 := F
  walk_at "ff"
  have hna : ("a" : Str) ∈ nm2 := by decide +kernel
  have hnb : ("b" : Str) ∈ nm2 := by decide +kernel
  refine ⟨x, dx, l1, l2, nm2, [], [], fun _ => 1, 40, 2, "a", "b", 40, 10, rfl, F.pq (by walk_at "pq"), ⟨rfl, fun i a r e1 e2 => (by simp at e1)⟩, by decide, by decide, Pot.nil, by decide +kernel, fun m hm => (nomatch hm), fun _ => bd_nil, fun z => absurd z ?_, fun _ ta N6 H6 G6 => ?_⟩
  · rintro ((z | z | z) | (z | z) | ⟨z, _⟩)
    · exact z hna
    · exact z hnb
    · exact ab_ne z
    · exact absurd z (by decide)
    · exact absurd z (by decide)
    · exact ab_ne (co_nil z).symm
  replace F : Fp H [] [ck ta (msO m0), ck x (trO K dx l1 l2), ck l1 (.lst (nm2.map V.str)), ck l2 (.lst (([ta] : List Addr).map V.ref))] H6 := by
    have F2 := (F.call (by walk_at "rs") G6).kp (.keep (Kp.app _))
    have F3 : Fp H [] [ck ta (msO m0), ck l2 (.lst (([ta] : List Addr).map V.ref)), ck l1 (.lst (nm2.map V.str)), ck x (trO K dx l1 l2)] H6 := F2
    exact fp_pickN F3 (by walk_at "pq")
  walk_at "ff"
  have hT0 : Tabs (lawT K) H6 := fun p hp => by
    rw [List.mem_singleton.mp hp]
    rw [← L.q]
    exact F.l _ L.L (by rw [L.q]; exact hTS)
  have hta : H6 ta = some (msO m0) := F.getN .here
  have GM : Fp H6 [ck x (trO K dx l1 l2), ck l1 (.lst (nm2.map V.str)), ck l2 (.lst (([ta] : List Addr).map V.ref))] [] H6 := F.pq (by walk_at "pq")
  have hx6 : H6 x = some (trO K dx l1 l2) := GM.getS .here
  have hl6 : H6 l1 = some (.lst (nm2.map V.str)) := GM.getS (.there .here)
  refine f_mkLam (LS.start hT0) fun g0 G0 L0 => ?_
  walk_at "ff"
  refine f_mkLam L0 fun g1 G1 L0 => ?_
  walk_at "ff"
  refine f_mkLam L0 fun g2 G2 L0 => ?_
  walk_at "ff"
  refine f_mkLam L0 fun g3 G3 L0 => ?_
  walk_at "ff"
  refine f_mkLam L0 fun g4 G4 L0 => ?_
  walk_at "ff"
  refine f_mkLam L0 fun g5 G5 L0 => ?_
  walk_at "ff"
  refine f_mkLam L0 fun g6 G6 L0 => ?_
  walk_at "ff"
  refine f_mkLam L0 fun g7 G7 L0 => ?_
  walk_at "ff"
  refine f_mkLam L0 fun g8 G8 L0 => ?_
  simp only [List.nil_append, List.cons_append] at L0
  clear F
  have F := Fp.refl (B := G8)
  walk_at "ff"
  have hpb := F.getN .here
  have hp8 : G8 p = none := F.nw (p, HO.lst [V.ref g0, V.ref g1, V.ref g2, V.ref g3, V.ref g4, V.ref g5, V.ref g6, V.ref g7, V.ref g8]) (List.mem_singleton_self _)
  have L1 := L0.ofBx (Bx.fp F) (fun q hq => by
    have := L0.tb q hq
    rw [List.mem_singleton.mp hq] at this ⊢
    rw [← L.q] at this ⊢
    exact F.l _ L.L this)
  have GM1 := Fp.atBx L1.bx GM
  have hpx : p ≠ x := by
    intro z
    have := L0.bx.x _ _ hx6 rfl
    rw [← z, hp8] at this
    cases this
  have hpl : p ≠ l1 := by
    intro z
    have := L0.bx.x _ _ hl6 rfl
    rw [← z, hp8] at this
    cases this
  have F9 : Fp H1 [ck l1 (.lst ((xs 0).map V.str)), ck x (trO K dx l1 l2)] [] H1 := by
    have F := GM1
    have F2 : Fp H1 [ck l1 (.lst (nm2.map V.str)), ck x (trO K dx l1 l2)] [] H1 := F.pq (by walk_at "pq")
    exact F2
  clear F
  refine forS w (fun i σ' H' => ∃ (x25 : Option V), σ' = [x0, x1, x2, x3, some (.ref x), x5, x6, x7, x8, x9, x10, x11, x12, x13, x14, x15, x16, x17, x18, x19, x20, x21, x22, x23, some (.ref p), x25, x26, x27] ∧ Fp H1 [ck l1 (.lst ((xs i).map V.str)), ck x (trO K dx l1 l2)] [] H') ⟨_, rfl, F9⟩ (fun _ _ _ _ => True.intro) (fun i y σ' H' hy hP => ?_) (fun σ' H' hP => ?_)
  · clear F9
    obtain ⟨x25, rfl, F⟩ := hP
    obtain ⟨hi, rfl⟩ := rangeL_get hy
    have hi : i < 28 := hi
    rw [Int.zero_add]
    obtain ⟨⟨hk1, hk2⟩, hk3, hk4⟩ := xs_ok ⟨i, hi⟩
    dsimp only at hk1 hk2 hk3 hk4
    have hxl : (xs i).length = i + 2 := by
      unfold xs
      rw [List.length_append, List.length_map, List.length_range]
      exact Nat.add_comm _ _
    walk_at "ff"
    refine ⟨_, _, rfl, rfl, hk4, ?_⟩
    walk_at "ff"
    refine ⟨x, dx, l1, l2, xs i, xK i, rfl, F.pq (by walk_at "pq"), by omega, fun z => absurd z (by rintro (z | z | z); (· exact hk2 z); (· exact hk1 z); (· omega)), fun _ H4 G4 => ?_⟩
    replace F := F.call0 G4 (by walk_at "rs")
    rw [← xs_more] at F
    exact ⟨_, rfl, F⟩
  · obtain ⟨x25, rfl, F⟩ := hP
    replace F : Fp H1 [ck l1 (.lst ((xs 28).map V.str)), ck x (trO K dx l1 l2)] [] H' := F
    clear F9
    have L2 := LS.grow L1 hx6 hl6 F (fun q hq => by rw [List.mem_singleton.mp hq]; exact ⟨L.L, L.q⟩)
    have hp10 : H' p = some (HO.lst [V.ref g0, V.ref g1, V.ref g2, V.ref g3, V.ref g4, V.ref g5, V.ref g6, V.ref g7, V.ref g8]) := F.x p _ (fun m => by
      simp only [fl_cons, fl_nil, ck, List.zip_cons_cons, List.zip_nil_left, List.append_nil, List.cons_append, List.nil_append, List.map_cons, List.map_nil, List.mem_cons, List.not_mem_nil, or_false] at m
      exact m.elim hpl hpx) hpb rfl
    have GB : Fp (upd H6 l1 (.lst ((xs 28).map V.str))) [ck x (trO K dx l1 l2), ck l1 (.lst ((xs 28).map V.str)), ck l2 (.lst (([ta] : List Addr).map V.ref))] [] (upd H6 l1 (.lst ((xs 28).map V.str))) := by
      have F := GM.re (o' := .lst ((xs 28).map V.str)) (Re.s (Rp.there Rp.here)) rfl rfl
      exact F.pq (by walk_at "pq")
    have htl : ta ≠ l1 := fun z => by
      rw [z, hl6] at hta
      cases hta
    have BO : BadO K (upd H6 l1 (.lst ((xs 28).map V.str))) x dx l1 l2 ta (xs 28) := ⟨by rw [upd_ne htl]; exact hta, GB, List.mem_cons_self, List.mem_cons_of_mem _ List.mem_cons_self, xs_z, xs_len, xs_tx⟩
    clear F
    have F := Fp.refl (B := H')
    walk_at "ff"
    have hbp : BadPre K (upd H6 l1 (.lst ((xs 28).map V.str))) [x0, x1, x2, x3, some (.ref x), x5, x6, x7, x8, x9, x10, x11, x12, x13, x14, x15, x16, x17, x18, x19, x20, x21, x22, x23, some (.ref p), x25, x26, x27] := ⟨x, dx, l1, l2, ta, _, rfl, BO⟩
    refine bad_run (Ls := [(g0, mkD 0 t0), (g1, mkD 1 t1), (g2, mkD 2 t2), (g3, mkD 3 t3), (g4, mkD 4 t4), (g5, mkD 5 t5), (g6, mkD 6 t6), (g7, mkD 7 t7), (g8, mkD 8 t8)]) w F (fun N' H' m => m.keepL (by walk_at "g")) L2 (fun p hp => ?_) (fun p hp => ?_) (by simp) rfl fun D N' H7 F2 => ?_
    · simp only [List.mem_cons, List.not_mem_nil, or_false] at hp
      rcases hp with rfl | rfl | rfl | rfl | rfl | rfl | rfl | rfl | rfl
      · exact O0
      · exact O1
      · exact O2
      · exact O3
      · exact O4
      · exact O5
      · exact O6
      · exact O7
      · exact O8
    · simp only [List.mem_cons, List.not_mem_nil, or_false] at hp
      rcases hp with rfl | rfl | rfl | rfl | rfl | rfl | rfl | rfl | rfl
      · exact B0 _ _ _ hbp
      · exact B1 _ _ _ hbp
      · exact B2 _ _ _ hbp
      · exact B3 _ _ _ hbp
      · exact B4 _ _ _ hbp
      · exact B5 _ _ _ hbp
      · exact B6 _ _ _ hbp
      · exact B7 _ _ _ hbp
      · exact B8 _ _ _ hbp
    have GM2 := Fp.atBx L2.bx GB
    have hta2 : H' ta = some (msO m0) := L2.bx.x _ _ BO.tt rfl
    have hTS2 : LamX.TabS H' (He.cT K ("law", none)).2 (lq ++ "<lambda>") := L2.tb _ (List.mem_singleton_self _)
    have F3 := (GM2.call .nil F2).kp (.keep .nil)
    clear F
    have F := F3
    clear F3
    walk_at "ff"
    refine ne_nil (by walk_at "g") (by walk_at "g") ?_
    replace F := F.kp .nil
    walk_at "ff"
    refine f_lam F L.L L.q hTS2 fun H8 F => told_in ?_
    walk_at "ff"
    refine ⟨x, dx, l1, l2, xs 28, "y", rfl, F.pq (by walk_at "pq"), by rw [xs_len]; decide, fun _ N8 H9 G9 => ?_, fun z => absurd (.inr (.inr (by rw [xs_len]; exact Nat.le_refl _))) z⟩
    replace F := F.call_ G9
    refine ⟨true, T.exm "GearError" "GearError" true, fun _ => ?_, fun z => nomatch z⟩
    walk_at "ff"
    have hms0 : ∀ m ∈ [m0], m.a ∈ xs 28 ∧ m.b ∈ xs 28 := fun m hm => by rw [List.mem_singleton.mp hm]; exact ⟨BO.na, BO.nb⟩
    refine ⟨x, dx, l1, l2, xs 28, "a", [ta], [m0], φ0, 40, 2, rfl, F.getS .here, F.getS (.there .here), F.getS (.there (.there .here)), MAt.one (F.imm hta2 rfl), by rw [xs_len]; decide, pot0, xs_tx, hms0, fun z => absurd BO.na z, fun _ => ⟨bd0 (.inl rfl), fun d t N9 H10 I G10 => ?_⟩⟩
    replace F := (F.call .nil G10).kp (.keep (.keep .nil))
    walk_at "ff"
    rename_i pd _ pa _ _
    have hat : ∀ r ∈ t, H1 r.ad = some (qO r.q) := fun r hr => by
      obtain ⟨i, hi⟩ := List.mem_iff_getElem?.mp hr
      exact F.getN (.there (.there (.there (.there (.at (map_get_some hi) (map_get_some hi))))))
    have hpa : H1 pa = some (.tup [.int 1, .int 1]) := F.getN (.there .here)
    have hpb2 : H1 p = some (.tup [.int (-4), .int 1]) := F.getN .here
    refine eqM_same (F.getN (.there (.there (.there .here)))) (F.getN (.there (.there .here))) (tb_two I) (fun q hq => ?_) ?_
    · obtain ⟨r, hr, rfl⟩ := List.mem_map.mp hq
      obtain ⟨e1, e2⟩ := I.ok r hr
      have hd := q_dp (K := K) (hat r hr)
      rcases co0 (.inl rfl) e2 with e | e
      · rw [e] at e1 ⊢
        rw [φ0_a] at e1
        refine ⟨_, _, 1, vv_a, hd, ?_, by decide, q_sh⟩
        rw [e1]
        exact q_dp (q := 1 / 1) (by rw [q11]; exact hpa)
      · rw [e] at e1 ⊢
        rw [φ0_a, φ0_b] at e1
        refine ⟨_, _, 1, vv_b, hd, ?_, by decide, q_sh⟩
        rw [e1]
        exact q_dp (q := -4 / 1) (by rw [q41]; exact hpb2)
    replace F := F.kp .nil
    walk_at "ff"
    refine ⟨x, dx, l1, l2, xs 28, "b", [ta], [m0], φ0, 40, 2, rfl, F.getS .here, F.getS (.there .here), F.getS (.there (.there .here)), MAt.one (F.imm hta2 rfl), by rw [xs_len]; decide, pot0, xs_tx, hms0, BO.nb, bd0 (.inr rfl), fun L4 N11 H11 hL4 G11 => ?_⟩
    obtain rfl := tog4 hL4
    replace F := F.call_ G11
    walk_at "ff"
    refine ⟨4, -6, rfl, by decide, by decide, fun te H12 G12 => ?_⟩
    rw [q46] at G12
    replace F := F.call1 G12 .nil
    walk_at "ff"
    refine eq_same (k := 1) (ii_dp (F.getN (.there .here))) (ii_dp (F.getN .here)) ii_sh (by decide) ?_
    replace F := F.kp .nil
    walk_at "ff"
    refine ⟨_, _, 1, 2, 2, 3, rfl, SqT.of (F.getN (.there .here)), SqT.of (F.getN .here), by decide, by decide, by decide, by decide, fun t5 H13 G13 => ?_⟩
    rw [q13] at G13
    replace F := (F.call1 G13 .nil).kp (.keep .nil)
    walk_at "ff"
    refine eq_same (k := 1) (ii_dp (F.getN (.there .here))) (ii_dp (F.getN .here)) ii_sh (by decide) ?_
    replace F := F.kp .nil
    walk_at "ff"
    refine ⟨_, _, 1, 3, 1, 2, rfl, SqT.of (F.getN (.there .here)), SqT.of (F.getN .here), by decide, by decide, fun H14 G14 => ?_⟩
    replace F := (F.call0 G14 .nil).kp .nil
    rw [show decide ((1 : Int) * 2 < 1 * 3) = true from rfl]
    walk_at "ff"
    refine ⟨_, _, 2, 1, [10, 21], rfl, SqT.of (F.getN (.there .here)), F.getN .here, by decide, fun z => absurd z (by rintro (z | z); (· cases z); (· exact absurd z (by decide))), fun _ => ⟨by decide, fun t6 b0 b1 N15 H15 hbp hb6 G15 => ?_⟩⟩
    obtain ⟨rfl, rfl⟩ := pair_is hbp
    replace F : Fp H15 [] [] H15 := Fp.refl
    walk_at "ff"
    refine eq_same (k := 1) (ii_dp (F.imm hb6 rfl)) (ii_dp (F.getN .here)) ii_sh (by decide) ?_
    exact hQ _
end
end K1

set_option Elab.async false
set_option linter.all false
set_option maxRecDepth 100000
set_option maxHeartbeats 4000000
set_option pp.maxSteps 1500
namespace K1
open PySem PySem.Spec PyProof.Rows L2 Mi LamX
set_option hygiene false
local macro_rules | `(tactic| walk_at "lk") => `(tactic| first | (with_reducible assumption) | (with_reducible apply get_set_self; walk_at "lk") | ((with_reducible apply get_set_ne); (case' hne => with_reducible assumption); walk_at "lk"))
local macro_rules | `(tactic| walk_at "at") => `(tactic| first | (with_reducible exact At.here) | (with_reducible apply At.at; (case' h1 => assumption); walk_at "lk") | (with_reducible apply At.there; walk_at "at"))
local macro_rules | `(tactic| walk_at "rp") => `(tactic| first | (with_reducible exact Rp.here) | (with_reducible apply Rp.set; (case' h1 => assumption); walk_at "lk") | (with_reducible apply Rp.at; (case' h1 => assumption); walk_at "lk") | (with_reducible apply Rp.there; walk_at "rp"))
local macro_rules | `(tactic| walk_at "re") => `(tactic| first | (with_reducible apply Re.n; walk_at "rp") | (with_reducible apply Re.s; walk_at "rp"))
local macro_rules | `(tactic| walk_at "dl") => `(tactic| first | (with_reducible exact Dl.here) | (with_reducible apply Dl.there; walk_at "dl"))
local macro_rules | `(tactic| walk_at "pq") => `(tactic| first | (with_reducible exact Pq.nil) | ((with_reducible apply Pq.n); (case' d => walk_at "dl"); walk_at "pq") | ((with_reducible apply Pq.s); (case' d => walk_at "dl"); walk_at "pq"))
local macro_rules | `(tactic| walk_at "rc") => `(tactic| first | (with_reducible exact Rc.here) | (with_reducible apply Rc.there; walk_at "rc"))
local macro_rules | `(tactic| walk_at "rs") => `(tactic| first | (with_reducible exact Rs.nil) | ((with_reducible apply Rs.on); (case' r => walk_at "rc"); (case' hl => first | exact rfl | ((try simp only [List.length_map, List.length_set]); with_reducible assumption) | (simp; done)); walk_at "rs") | ((with_reducible apply Rs.os); (case' r => walk_at "rc"); (case' hl => first | exact rfl | ((try simp only [List.length_map, List.length_set]); with_reducible assumption) | (simp; done)); walk_at "rs"))
local macro_rules | `(tactic| walk_at "ix") => `(tactic| first | with_reducible exact atI_nat (by assumption) | with_reducible exact atI_nat1 (by assumption) | with_reducible exact atI0 | with_reducible exact atI1 | with_reducible exact atI2 | with_reducible exact atI3 | with_reducible exact atI4)
local macro_rules | `(tactic| walk_at "sl") => `(tactic| first | (with_reducible assumption) | ((with_reducible apply len_app); (case' h1 => walk_at "sl"); (case' h2 => walk_at "sl")) | (with_reducible exact Nat.le_refl _))
local macro_rules | `(tactic| walk_at "sz") => `(tactic| first | with_reducible assumption | ((with_reducible apply len_leB); (case' h => walk_at "sl"); (case' hn => exact Nat.le_of_ble_eq_true rfl)) | exact of_decide_eq_true rfl | (exact len_le (by (try simp only [List.length_append, List.length_cons, List.length_nil, List.length_map, List.length_set, List.length_reverse]); omega)) | (exact len_lt (by (try simp only [List.length_append, List.length_cons, List.length_nil, List.length_map, List.length_set, List.length_reverse]); omega)))
local macro_rules | `(tactic| walk_at "len") => `(tactic| ((try simp only [List.length_append, List.length_cons, List.length_nil, List.length_map, List.length_set, List.length_reverse, List.length_replicate]); omega))
local macro_rules | `(tactic| walk_at "ixn") => `(tactic| first | with_reducible assumption | (with_reducible apply ixN_nat; walk_at "len") | (with_reducible apply ixN_nat1; walk_at "len") | (with_reducible apply ixN_0; walk_at "len") | (with_reducible apply ixN_1; walk_at "len") | (with_reducible apply ixN_2; walk_at "len") | exact rfl)
local macro_rules | `(tactic| walk_at "st") => `(tactic| ((try simp only [L2.start, wipe, List.map_cons, List.map_nil, List.length_cons, List.length_nil, Nat.reduceAdd, Nat.reduceSub, List.replicate_succ, List.replicate_zero, List.nil_append, List.cons_append, List.set_cons_succ, List.set_cons_zero]); exact rfl))
local macro_rules | `(tactic| walk_at "kp") => `(tactic| first | (with_reducible exact Kp.nil) | (with_reducible apply Kp.keep; walk_at "kp") | (with_reducible apply Kp.drop; walk_at "kp"))
local macro_rules | `(tactic| walk_at "g") => `(tactic| first
  | with_reducible assumption
  | (with_reducible apply F.getN; walk_at "at")
  | (with_reducible apply F.getS; walk_at "at")
  | ((with_reducible apply F.imm); (case' h => with_reducible assumption); exact rfl)
  | ((with_reducible apply F.keep); (case' h => with_reducible assumption); exact rfl)
  | ((with_reducible apply F.keepL); with_reducible assumption)
  | ((with_reducible apply F.sqT); with_reducible assumption)
  | ((with_reducible apply SqL.of); walk_at "g")
  | ((with_reducible apply SqT.of); walk_at "g")
  | ((with_reducible apply Rd.of); walk_at "g")
  | ((with_reducible apply Rd.frz); walk_at "g")
  | (with_reducible apply F.tab; with_reducible assumption)
  | ((with_reducible apply f_dgetS); (case' h1 => walk_at "g"); (case' h2 => first | with_reducible assumption | ((simp (decide := true) only [valR, if_true, if_false]); exact rfl))))
local macro_rules | `(tactic| walk_at "f1") => `(tactic| first
  | (with_reducible (first | apply s_seq | apply s_cons | apply s_nil | apply s_c | apply s_op | apply s_asg | apply s_test | apply s_ifS | apply s_ret | apply s_next | apply s_call | apply s_fldE | apply s_dgetE | apply s_gCons | apply s_gNil | apply s_par | apply s_par3 | apply s_and | apply s_or | apply s_not | apply s_andV | apply s_orV | apply s_notV | apply s_ifE | apply s_chain | apply s_cb | apply s_for | apply s_lc | apply f_methE | apply f_makeE | apply s_rollE | apply s_iK | apply s_iL | apply s_iT | apply f_tup | apply f_lst))
  | ((with_reducible apply s_var); (case' h1 => first | exact rfl | with_reducible assumption))
  | ((with_reducible apply s_gNn); (case' e => walk_at "st"))
  | ((with_reducible apply s_dget); (case' h1 => walk_at "g"))
  | with_reducible apply f_tup
  | with_reducible apply f_lst
  | ((with_reducible apply newF F); (case' ho => exact rfl); clear F; intro p H1 F)
  | ((with_reducible apply s_mk0); (case' hz => first | decide | (simp only [List.length_cons, List.length_nil]; decide)))
  | with_reducible apply f_sFld
  | ((with_reducible apply f_fld F); (case' R => walk_at "re"); (case' h2 => with_reducible assumption); (case' h3 => with_reducible assumption); (case' h4 => exact of_decide_eq_true rfl); (case' hp => ((try simp (decide := true) only [putF, if_true, if_false]); exact rfl)); clear F; intro H1 F)
  | with_reducible apply f_sAug
  | ((with_reducible apply f_aug); (case' h1 => walk_at "g"); (case' h2 => with_reducible assumption); (case' h3 => with_reducible assumption); (case' h4 => exact rfl))
  | ((with_reducible apply f_fldq F); (case' R => walk_at "re"); (case' h4 => exact of_decide_eq_true rfl); (case' hp => ((try simp (decide := true) only [putF, if_true, if_false]); exact rfl)); clear F; intro H1 F)
  | with_reducible apply f_radd
  | with_reducible apply f_rsub
  | ((with_reducible apply f_setL F); (case' R => walk_at "re"); (case' h2 => walk_at "ixn"); clear F; intro H1 F)
  | with_reducible apply f_sDPut
  | ((with_reducible apply f_dputS F); (case' R => walk_at "re"); (case' hl => walk_at "sz"); (case' hp => first | with_reducible assumption | ((try simp (decide := true) only [putR, List.map_cons, List.map_nil, if_true, if_false]); exact rfl)); clear F; intro H1 F)
  | with_reducible apply f_sDAug
  | ((with_reducible apply f_daug); (case' h1 => walk_at "g"))
  | ((with_reducible apply f_dputqS F); (case' R => walk_at "re"); (case' hl => walk_at "sz"); (case' hp => first | with_reducible assumption | ((try simp (decide := true) only [putR, List.map_cons, List.map_nil, if_true, if_false]); exact rfl)); clear F; intro H1 F)
  | with_reducible apply s_dgetE
  | ((with_reducible apply s_dget); (case' h1 => walk_at "g"))
  | ((with_reducible apply f_append F); (case' R => walk_at "re"); (case' hz => walk_at "sz"); clear F; intro H1 F)
  | ((with_reducible apply f_listKL); (case' h1 => walk_at "g"))
  | ((with_reducible apply f_listKT); (case' h1 => walk_at "g"))
  | ((with_reducible apply f_tupKL); (case' h1 => walk_at "g"))
  | ((with_reducible apply f_slL); (case' h1 => walk_at "g"))
  | ((with_reducible apply f_cat); (case' h1 => walk_at "g"); (case' h2 => walk_at "g"); (case' hz => walk_at "sz"))
  | with_reducible apply f_makeE
  | with_reducible apply s_iR3
  | ((with_reducible apply s_iR3d); (case' h1 => omega); (case' hc => rfl); intro J w)
  | ((with_reducible apply s_wipe); (case' h1 => first | exact rfl | exact wipe1))
  | with_reducible apply s_revE
  | ((with_reducible apply s_rev); (case' h1 => walk_at "g"))
  | with_reducible apply f_methE
  | ((with_reducible apply s_lenD); (case' h1 => walk_at "g"))
  | ((with_reducible apply f_meth); (case' h1 => walk_at "g"); (case' h2 => exact rfl))
  | with_reducible apply s_iEL
  | ((with_reducible apply s_iEL2); (case' h1 => walk_at "g"); intro J w)
  | with_reducible apply s_iZ
  | with_reducible apply s_iI
  | ((with_reducible apply s_iI2); (case' h1 => walk_at "g"); intro J w)
  | ((with_reducible apply f_rep1); (case' h1 => walk_at "g"); (case' hk => (constructor <;> omega)))
  | with_reducible apply f_gSub
  | ((with_reducible apply f_disp F); clear F; intro p H1 F)
  | with_reducible apply f_pairC
  | with_reducible apply f_pairN
  | ((with_reducible apply f_dispQ F); (case' R => walk_at "re"); (case' e => ((simp only [List.map_cons, List.map_nil, cvK]); exact rfl)); (case' e2 => exact rfl); (case' hl => exact Nat.le_of_ble_eq_true rfl); (case' hm => first | with_reducible apply hMk | exact rfl); clear F; intro H1 F)
  | ((with_reducible apply f_dnew F); clear F; intro p H1 F)
  | ((with_reducible apply f_unl F); (case' R => walk_at "re"); clear F; intro H1 F)
  | with_reducible apply f_rSetD
  | with_reducible apply f_dnewK
  | with_reducible apply f_sDNi
  | with_reducible apply f_finS
  | with_reducible apply f_finB
  | with_reducible apply f_finB'
  | with_reducible apply f_sDIn
  | ((with_reducible apply s_catS); (case' h1 => walk_at "sl"); (case' h2 => walk_at "sl"); (case' hn => exact Nat.le_of_ble_eq_true rfl))
  | ((with_reducible apply s_logA); (case' hl => with_reducible assumption))
  | with_reducible apply s_same
  | with_reducible apply s_js
  | with_reducible apply s_js0
  | ((with_reducible apply s_js2); (case' hl => walk_at "sz"))
  | with_reducible apply s_fm
  | ((with_reducible apply s_fmS); (case' hl => walk_at "sz"))
  | ((with_reducible apply s_fmI); (case' hl => with_reducible assumption))
  | with_reducible apply f_dget2E
  | with_reducible apply s_sameE
  | with_reducible apply s_chain3
  | with_reducible apply s_notN
  | with_reducible apply s_items
  | with_reducible apply s_bb1
  | with_reducible apply s_bb2
  | walk_at "f2")
local macro_rules | `(tactic| walk_at "f2") => `(tactic| first
  | with_reducible apply s_seq
  | with_reducible apply s_gCons
  | with_reducible apply s_gNil
  | ((with_reducible apply s_gTup); (case' h1 => walk_at "g"); (case' h2 => exact rfl))
  | with_reducible apply s_asg
  | ((with_reducible apply s_I); (case' hc => first | exact ⟨by omega, by omega⟩ | exact .inl ⟨by omega, by omega⟩ | exact .inr ⟨by omega, by omega⟩ | (show (_ : Int) < _; omega) | (show (_ : Int) ≠ _; omega)))
  | with_reducible apply s_mm
  | ((with_reducible apply s_lenKL); (case' h1 => walk_at "g"))
  | ((with_reducible apply s_lenKT); (case' h1 => walk_at "g"))
  | ((with_reducible apply s_tupKT); (case' h1 => walk_at "g"))
  | with_reducible apply s_iE
  | ((with_reducible apply s_iE2); (case' h1 => walk_at "g"); intro J w)
  | with_reducible apply s_ifTT
  | with_reducible apply s_ifFF
  | with_reducible apply s_rollE
  | ((with_reducible apply s_roll); (case' h1 => walk_at "g"); (case' h2 => exact ⟨by omega, by omega⟩); intro k k0 k1)
  | with_reducible apply s_gSub
  | with_reducible apply s_ab
  | with_reducible apply s_in1
  | with_reducible apply s_in2
  | ((with_reducible apply s_lsL); (case' h1 => walk_at "g"))
  | ((with_reducible apply s_lsT); (case' h1 => walk_at "g"))
  | ((with_reducible apply s_tyL); (case' h1 => walk_at "g"))
  | with_reducible apply s_for
  | with_reducible apply s_lc
  | with_reducible apply s_dc
  | with_reducible apply s_gn
  | with_reducible apply s_yes
  | with_reducible apply s_iL
  | with_reducible apply s_iT
  | with_reducible apply s_iR1
  | with_reducible apply s_iR2
  | with_reducible apply s_iK
  | ((with_reducible apply s_iL2); (case' h1 => walk_at "g"); intro J w)
  | ((with_reducible apply s_iT2); (case' h1 => walk_at "g"); intro J w)
  | ((with_reducible apply s_iR12); (case' h1 => omega); intro J w)
  | ((with_reducible apply s_iR22); (case' h1 => omega); intro J w)
  | ((with_reducible apply s_iK2); (case' h1 => walk_at "g"); intro J w)
  | ((with_reducible apply s_gNn); (case' e => walk_at "st"))
  | ((with_reducible apply s_var); (case' h1 => first | exact rfl | with_reducible assumption))
  | with_reducible apply s_c
  | with_reducible apply s_op
  | with_reducible apply s_cons
  | with_reducible apply s_nil
  | with_reducible apply s_ret
  | with_reducible apply s_ifS
  | with_reducible apply s_test
  | with_reducible apply s_B
  | with_reducible apply s_exbl
  | with_reducible apply s_exint
  | with_reducible apply s_I0
  | ((with_reducible apply s_Eq); (case' hs => exact rfl))
  | ((with_reducible apply s_Ne); (case' hs => exact rfl))
  | with_reducible apply s_un
  | with_reducible apply s_U
  | with_reducible apply s_cb
  | with_reducible apply s_call
  | with_reducible apply s_next
  | with_reducible apply s_drop
  | with_reducible apply s_break
  | with_reducible apply s_cont
  | with_reducible apply s_retN
  | with_reducible apply s_par
  | with_reducible apply s_par2
  | with_reducible apply s_par3
  | with_reducible apply s_par33
  | ((with_reducible apply s_aug); (case' h1 => exact rfl))
  | with_reducible apply s_and
  | with_reducible apply s_or
  | with_reducible apply s_not
  | with_reducible apply s_andV
  | with_reducible apply s_orV
  | with_reducible apply s_notV
  | with_reducible apply s_ifE
  | with_reducible apply s_isN
  | with_reducible apply s_chain
  | with_reducible apply s_sl
  | with_reducible apply s_noP
  | with_reducible apply s_part
  | with_reducible apply s_bm
  | with_reducible apply s_bm0
  | with_reducible apply s_fldE
  | ((with_reducible apply s_fld); (case' h1 => walk_at "g"); (case' h2 => assumption); (case' h3 => assumption); (case' h4 => exact rfl))
  | ((with_reducible apply s_ixL); (case' h1 => walk_at "g"); (case' h2 => first | with_reducible assumption | walk_at "ix"))
  | ((with_reducible apply s_ixT); (case' h1 => walk_at "g"); (case' h2 => first | with_reducible assumption | walk_at "ix"))
  | ((with_reducible apply s_lenL); (case' h1 => walk_at "g")))
local macro_rules | `(tactic| walk_at "ff") => `(tactic| repeat walk_at "f1")
local macro_rules | `(tactic| walk_at "k0") => `(tactic| try dsimp only [L2.cxOf, Cx.nox, Cx.wish, Cx.blk, genCx])
set_option hygiene true

def sK (k : Nat) : Str := Str.ofString "s" ++ Str.ofString (toString ((k : Nat) : Int))
abbrev nS (i : Nat) : List Str := (List.range i).map sK
theorem ss_ok : ∀ i : Fin 7, (sK i.1 ∉ nS i.1 ∧ sK i.1 ≠ "") ∧ ((i.1 : Nat) : Int).natAbs.log2 < 1920 ∧ (Str.ofString "s").length + (Str.ofString (toString ((i.1 : Nat) : Int))).length ≤ sizeLine := by decide +kernel
theorem ss_more {i : Nat} : nS (i + 1) = nS i ++ [sK i] := by
  unfold nS
  rw [List.range_succ, List.map_append]
  rfl
theorem ss_sub {n : Nat} (h : n ≤ 7) : (nS n).Sublist (nS 7) := by
  refine List.Sublist.map _ ?_
  rw [show 7 = n + (7 - n) by omega, List.range_add]
  exact List.sublist_append_left _ _
theorem ss_z : ("zz" : Str) ∉ nS 7 := by decide +kernel
theorem ss_tx : ∀ n ∈ nS 7, txOk n = true := by decide +kernel
theorem ss_nd : (nS 7).Nodup := by decide +kernel
theorem ss_ne : ∀ n ∈ nS 7, n ≠ "" := by decide +kernel
theorem ss_len {n : Nat} : (nS n).length = n := by
  unfold nS
  rw [List.length_map, List.length_range]
section
variable [Lw] {P : Program} {w : World} {K : PySem.W.Frag} {mg : Str → Option Value} {base : Heap} {fn : List He.DefD}
theorem ok_law (T : Sy fa1 fn tf1 K mg base) {fd : FuncData} (F : FunD K "law" "law" (defArgs s_law) (defBody s_law) (defScope s_law) [] [] (He.fAd K ("law", none)) fd) (L : Ls1 K) (C : Cs P w K mg base) :
    FnOk P w K mg base (CX P w) 21 (He.fAd K ("law", none)) fd ["script"] (spLaw K) := by
  obtain ⟨f0, fd0, c__law_rounds⟩ := C.rounds
  obtain ⟨f1, fd1, c__law_roll⟩ := C.roll
  obtain ⟨f2, fd2, c__law_ex⟩ := C.lex
  obtain ⟨f3, fd3, c__law_ratios⟩ := C.lrat
  obtain ⟨f4, fd4, c_exact⟩ := C.exact
  obtain ⟨f5, fd5, c_times⟩ := C.times
  obtain ⟨f6, fd6, c_less⟩ := C.less
  obtain ⟨f7, fd7, c_Train⟩ := C.train
  obtain ⟨f8, fd8, c_Train_add_shaft⟩ := C.shaft
  obtain ⟨f9, fd9, c_Train_mesh⟩ := C.mesh
  obtain ⟨f10, fd10, c_Train_ratios⟩ := C.ratios
  obtain ⟨f11, fd11, c_Train_speeds⟩ := C.speeds
  obtain ⟨f12, fd12, c_Train_apart⟩ := C.apart
  obtain ⟨f13, fd13, c_Train_together_again⟩ := C.tog
  obtain ⟨f14, fd14, c_best_pair⟩ := C.pair
  obtain ⟨fdt, Ft, bT⟩ := C.told
  obtain ⟨oc, od, dV, kV, doc, pm, an, cdv, ct, osl, rfl, lkT, cdT, _, _⟩ := Ft.ex
  obtain ⟨tMT, c_MT⟩ := T.int "MOST_TEETH" 400
  obtain ⟨tMS, c_MS⟩ := T.int "MOST_SHAFTS" 30
  have cT := T.cls "Train"
  have n1 := T.noat "Train" "shafts"
  have n2 := T.noat "Train" "meshes"
  refine FunD.okC F sc_law (fun vs H Q E h => ?_) (fun A outer s H vs Q E hr h => ?_)
  · obtain ⟨_, _, rfl, _⟩ := h
    rfl
  have p_fin := seg_fin T C L A outer s H E hr
  have p_stp := seg_stp T C L A outer s H E hr
  have p_whe := seg_whe T C L A outer s H E hr
  have p_nm3 := seg_nm3 T C L A outer s H E hr
  have p_nm2 := seg_nm2 T C L A outer s H E hr p_nm3
  have p_nam := seg_nam T C L A outer s H E hr p_nm2
  have p_aft := seg_aft T C L A outer s H E hr p_nam p_whe
  refine ⟨_, PSs.nox (pss_cons (ps_for PassesOwn.never rfl (pi_listK (K := K) rfl (pe_cal c__law_rounds (hr.mono (by first | decide | omega)) rfl pass0 (pa_cons (pv 0) (pa_cons pe_int pa_nil)))) (pg_name (i := 1) sc_law.nd rfl (.inr rfl)) (pss_cons (ps_asg (pe_tup (pa_cons (pe_lc (own := [("k", 25)]) (tt := tYes) rfl sc_law.nd (pi_range1 rfl (T.free "range") (pa_cons (pe_op op_add pe_int (pe_roll c__law_roll (hr.mono (by first | decide | omega)) rfl (pa_cons (pv 1) (pa_cons pe_int pa_nil)))) pa_nil)) (blkOk_by (N := n_law) (sc := (defScope s_law)) (by decide +kernel)) (fun _ _ _ _ _ => (pg_name (i := 25) sc_law.nd rfl (.inl rfl))) (fun _ _ _ _ _ => pts_nil)  (fun _ _ _ _ _ => (pe_op op_add_str pe_str (pe_callTy call_str_int rfl (T.free "str") boot_str (pa_cons (pv 25) pa_nil))))) (pa_cons (pe_lst pa_nil) (pa_cons (pe_cmk0 c_Train (hr.mono (by first | decide | omega)) rfl pass0) pa_nil)))) (pg_tupK (K := K) (n := 3) rfl rfl (pgs_cons (pg_name (i := 2) sc_law.nd rfl (.inl rfl)) (pgs_cons (pg_name (i := 3) sc_law.nd rfl (.inl rfl)) (pgs_cons (pg_name (i := 4) sc_law.nd rfl (.inr rfl)) pgs_nil))))) (pss_cons (ps_for PassesOwn.never rfl (pi_listK (K := K) rfl (pv 2)) (pg_name (i := 5) sc_law.nd rfl (.inl rfl)) (pss_one (ps_expr (pe_mtd (pv 4) c_Train_add_shaft (hr.mono (by first | decide | omega)) passF (pa_cons (pv 5) pa_nil))))) (pss_cons (ps_for PassesOwn.never rfl (pi_range1 rfl (T.free "range") (pa_cons (pe_roll c__law_roll (hr.mono (by first | decide | omega)) rfl (pa_cons (pv 1) (pa_cons pe_int pa_nil))) pa_nil)) (pg_name (i := 6) sc_law.nd rfl (.inl rfl)) p_stp) p_aft)))) p_fin), ?_⟩
  obtain ⟨a, ns, rfl, hs, hT1, hTL, q⟩ := h
  have F := Fp.refl (B := H)
  walk_at "k0"
  walk_at "ff"
  refine ⟨a, ns, rfl, hs, fun p0 q0 HB mv1 hp0 hq0 => ?_⟩
  have hT1 := mv1.t _ hT1
  have hTS : LamX.TabS HB (He.cT K ("law", none)).2 (lq ++ "<lambda>") := ⟨_, mv1.l _ _ L.L hTL, (by first | trivial | decide | simp [PySem.TriplesOk]), fun _ _ z => by first | cases z | simp [PySem.codeAmong] at z⟩
  clear F
  have F := Fp.refl (B := HB)
  walk_at "ff"
  refine forS w (fun i σ' H' => ∃ x1 x2 x3 x4 x5 x6 x7 x8 x9 x10 x11 x12 x13 x14 x15 x16 x17 x18 x19 x20 x21 x22 x23 x24 x25 x26 x27, σ' = [some (.ref a), x1, x2, x3, x4, x5, x6, x7, x8, x9, x10, x11, x12, x13, x14, x15, x16, x17, x18, x19, x20, x21, x22, x23, x24, x25, x26, x27] ∧ Fp HB [] [] H') ⟨_, _, _, _, _, _, _, _, _, _, _, _, _, _, _, _, _, _, _, _, _, _, _, _, _, _, _, rfl, F⟩ (fun i σ' H' hP => ?_) (fun i y σ' H' hy hP => ?_) (fun σ' H' hP => ?_)
  · obtain ⟨x1, x2, x3, x4, x5, x6, x7, x8, x9, x10, x11, x12, x13, x14, x15, x16, x17, x18, x19, x20, x21, x22, x23, x24, x25, x26, x27, rfl, F⟩ := hP
    walk_at "g"
  · obtain ⟨x1, x2, x3, x4, x5, x6, x7, x8, x9, x10, x11, x12, x13, x14, x15, x16, x17, x18, x19, x20, x21, x22, x23, x24, x25, x26, x27, rfl, F⟩ := hP
    obtain rfl : y = .ref q0 := by
      match i, hy with
      | 0, hy => exact (Option.some.inj hy).symm
      | i + 1, hy => cases (show none = some y from hy)
    refine seqP (fun σ' H' => ∃ (nl lr x dx l1 l2 : Addr) (n : Nat) (x25 : Option V), σ' = [some (.ref a), some (.ref q0), some (.ref nl), some (.ref lr), some (.ref x), x5, x6, x7, x8, x9, x10, x11, x12, x13, x14, x15, x16, x17, x18, x19, x20, x21, x22, x23, x24, x25, x26, x27] ∧ (0 < n ∧ n ≤ 7) ∧ Fp HB [] [ck x (trO K dx l1 l2), ck l2 (.lst []), ck l1 (.lst []), ck lr (.lst []), ck nl (.lst ((nS n).map V.str))] H') (fun σ' H' hP => ?_) (fun nx' hB => ?_)
    rotate_left
    · walk_at "ff"
      rename_i k9 _ _
      refine lcS w F (fun D i H' => Fp HB [] [ck D (.lst ((nS i).map V.str))] H') (fun D H' F => F) (fun _ _ _ _ => True.intro) (fun D i y H' hy F => ?_) (fun D H' F => ?_)
      · obtain ⟨hi, rfl⟩ := rangeL_get hy
        rw [Int.zero_add]
        obtain ⟨_, hk3, hk4⟩ := ss_ok ⟨i, by clear F; omega⟩
        dsimp only at hk3 hk4
        walk_at "ff"
        refine ⟨_, _, rfl, rfl, hk4, ?_⟩
        refine lcQ F (.n .here) (len_lt (by rw [List.length_map, ss_len]; clear F w; omega)) fun H4 F => ?_
        rw [ss_more, List.map_append]
        exact F
      · rw [rangeL_length] at F
        walk_at "ff"
        refine f_mk F fun x dx H1 F => ?_
        refine ⟨x, dx, rfl, by walk_at "g", fun l1 l2 H4 G4 => ⟨rfl, ?_⟩⟩
        replace F := F.call2 G4 (by walk_at "rs")
        walk_at "ff"
        replace F := F.kp (.drop Kp.rf)
        refine hB _ _ ⟨D, _, x, dx, l1, l2, (1 + k).toNat, _, rfl, ⟨by clear F w; omega, by clear F w; omega⟩, ?_⟩
        exact fp_pickN F (by walk_at "pq")
    obtain ⟨nl, lr, x, dx, l1, l2, n, x25, rfl, ⟨hn0, hn7⟩, F⟩ := hP
    have hsub := ss_sub hn7
    have hnln := ss_len (n := n)
    refine seqP (fun σ' H' => ∃ (x5 : Option V), σ' = [some (.ref a), some (.ref q0), some (.ref nl), some (.ref lr), some (.ref x), x5, x6, x7, x8, x9, x10, x11, x12, x13, x14, x15, x16, x17, x18, x19, x20, x21, x22, x23, x24, x25, x26, x27] ∧ Fp HB [] [ck x (trO K dx l1 l2), ck l2 (.lst []), ck l1 (.lst ((nS n).map V.str)), ck lr (.lst []), ck nl (.lst ((nS n).map V.str))] H') (fun σ' H' hP => ?_) (fun nx' hB => ?_)
    rotate_left
    · walk_at "ff"
      refine forS w (fun i σ' H' => ∃ (x5 : Option V), σ' = [some (.ref a), some (.ref q0), some (.ref nl), some (.ref lr), some (.ref x), x5, x6, x7, x8, x9, x10, x11, x12, x13, x14, x15, x16, x17, x18, x19, x20, x21, x22, x23, x24, x25, x26, x27] ∧ Fp HB [] [ck x (trO K dx l1 l2), ck l2 (.lst []), ck l1 (.lst (((nS n).take i).map V.str)), ck lr (.lst []), ck nl (.lst ((nS n).map V.str))] H') ⟨_, rfl, F⟩ (fun i σ' H' hP => ?_) (fun i y σ' H' hy hP => ?_) (fun σ' H' hP => ?_)
      · obtain ⟨x5, rfl, F⟩ := hP
        exact SqL.of (F.getN (.there (.there (.there (.there .here)))))
      · clear F
        obtain ⟨x5, rfl, F⟩ := hP
        obtain ⟨m, hm, rfl⟩ := map_get hy
        have hml := (List.getElem?_eq_some_iff.mp hm).1
        have hm7 := hsub.subset (get_mem hm)
        have htl : ((nS n).take i).length = i := by rw [List.length_take]; omega
        have hnd : m ∉ (nS n).take i := fun z => by
          have h1 := (ss_nd.sublist hsub).sublist (List.take_sublist (i + 1) _)
          rw [take_more hm, List.nodup_append] at h1
          exact h1.2.2 m z m (List.mem_singleton_self _) rfl
        walk_at "ff"
        refine ⟨x, dx, l1, l2, (nS n).take i, m, rfl, F.pq (by walk_at "pq"), by omega, fun z => absurd z (by rintro (z | z | z); (· exact ss_ne m hm7 z); (· exact hnd z); (· omega)), fun _ H4 G4 => ?_⟩
        replace F := F.call0 G4 (by walk_at "rs")
        rw [← take_more hm] at F
        exact ⟨_, rfl, F⟩
      · obtain ⟨x5, rfl, F⟩ := hP
        rw [List.length_map, List.take_length] at F
        exact hB _ _ ⟨_, rfl, F⟩
    obtain ⟨x5, rfl, F⟩ := hP
    let G : Gh := ⟨HB, a, q0, nl, x, dx, l1, l2, nS n⟩
    have ok : Ok1 K G := ⟨hq0, hT1, hTS, by show 0 < (nS n).length ∧ (nS n).length ≤ 7; omega, fun m hm => ss_tx m (hsub.subset hm), fun z => ss_z (hsub.subset z)⟩
    have F2 : Fp HB [] [ck nl (.lst ((nS n).map V.str)), ck x (trO K dx l1 l2), ck l1 (.lst ((nS n).map V.str)), ck l2 (.lst []), ([], []), ck lr (.lst []), ([], [])] H' := by
      replace F := F.nil.nil
      exact fp_pickN F (by walk_at "pq")
    have F3 : Fp HB [] (LB K G [] [] [] lr) H' := F2
    clear F2
    walk_at "ff"
    refine forS w (fun i σ' H' => StL K (G, i) σ' H') ⟨_, _, _, _, _, _, _, _, _, _, _, _, _, _, _, _, _, _, _, _, _, _, _, [], [], [], lr, rfl, ⟨Nat.zero_le _, ⟨_, Pot.nil⟩, fun m hm => (nomatch hm), fun m hm => (nomatch hm)⟩, rfl, rfl, F3⟩ (fun _ _ _ _ => True.intro) (fun i y σ' H' hy hP => ?_) (fun σ' H' hP => ?_)
    · clear F F3
      obtain ⟨x5, x6, x7, x8, x9, x10, x11, x12, x13, x14, x15, x16, x17, x18, x19, x20, x21, x22, x23, x24, x25, x26, x27, as, as2, ms, lr2, rfl, hri, hl1, hl2, F⟩ := hP
      obtain ⟨hi, rfl⟩ := rangeL_get hy
      walk_at "ff"
      exact s_ct (G, i) ⟨⟨ok, by show i ≤ 100; omega⟩, _, _, _, _, _, _, _, _, _, _, _, _, _, _, _, _, _, _, _, _, _, _, _, as, as2, ms, lr2, rfl, hri, hl1, hl2, F⟩ fun σ3 H3 h3 => h3
    · rw [rangeL_length] at hP
      exact s_ct (G, k.toNat) ⟨⟨ok, by show k.toNat ≤ 9; omega⟩, hP⟩ fun σ3 H3 h3 => h3
  · obtain ⟨x1, x2, x3, x4, x5, x6, x7, x8, x9, x10, x11, x12, x13, x14, x15, x16, x17, x18, x19, x20, x21, x22, x23, x24, x25, x26, x27, rfl, F⟩ := hP
    exact ⟨_, _, _, _, _, _, _, _, _, _, _, _, _, _, _, _, _, _, _, _, _, _, _, _, _, _, _, _, rfl, (by rw [← L.q]; exact F.l _ L.L (by rw [L.q]; exact hTS)), q⟩
end
end K1

set_option Elab.async false
set_option linter.all false
set_option maxRecDepth 100000
set_option maxHeartbeats 4000000
namespace K1
open PySem PySem.Spec PyProof.Rows L2 Mi LamX
def dF (x : Str) (st : Stmt) : He.DefD := ⟨(x, none), x, x, defArgs st, defBody st, defScope st, [], []⟩
def dM (C m q : Str) (st : Stmt) : He.DefD := ⟨(C, some m), m, q, defArgs st, defBody st, defScope st, [], []⟩
def fnL : List He.DefD := [dF "_law_dice" s__law_dice,
  dF "_law_roll" s__law_roll,
  dF "_law_rounds" s__law_rounds,
  dF "_law_told" s_told,
  dF "_law_ex" s__law_ex,
  dF "_law_ratios" s__law_ratios,
  dF "law" s_law,
  dF "exact" s_exact,
  dF "times" s_times,
  dF "less" s_less,
  dF "best_pair" s_best_pair,
  dM "Train" "__init__" "Train.__init__" s_Train___init__,
  dM "Train" "add_shaft" "Train.add_shaft" s_Train_add_shaft,
  dM "Train" "mesh" "Train.mesh" s_Train_mesh,
  dM "Train" "ratios" "Train.ratios" s_Train_ratios,
  dM "Train" "speeds" "Train.speeds" s_Train_speeds,
  dM "Train" "apart" "Train.apart" s_Train_apart,
  dM "Train" "together_again" "Train.together_again" s_Train_together_again]
section
variable [Lw] {P : Program} {w : World} {K : PySem.W.Frag} {mg : Str → Option Value} {base : Heap}
theorem cs_of (T : Sy fa1 fnL tf1 K mg base) (hP0 : ¬ Lw.L (He.cT K ("Train", some "apart")).2) : Cs P w K mg base := by
  obtain ⟨fd0, F0⟩ := T.d _ (List.mem_of_getElem? (i := 0) (l := fnL) rfl)
  have b0 : Binds K fd0 ["cell"] [] := FunD.bindsN F0 fun _ _ _ _ _ _ us hl => match us, hl with | [_], _ => rfl
  obtain ⟨fd1, F1⟩ := T.d _ (List.mem_of_getElem? (i := 1) (l := fnL) rfl)
  have b1 : Binds K fd1 ["dice", "many"] [] := FunD.bindsN F1 fun _ _ _ _ _ _ us hl => match us, hl with | [_, _], _ => rfl
  obtain ⟨fd2, F2⟩ := T.d _ (List.mem_of_getElem? (i := 2) (l := fnL) rfl)
  have b2 : Binds K fd2 ["script", "most"] [] := FunD.bindsN F2 fun _ _ _ _ _ _ us hl => match us, hl with | [_, _], _ => rfl
  obtain ⟨fd3, F3⟩ := T.d _ (List.mem_of_getElem? (i := 3) (l := fnL) rfl)
  have b3 : Binds K fd3 ["what"] [] := FunD.bindsN F3 fun _ _ _ _ _ _ us hl => match us, hl with | [_], _ => rfl
  obtain ⟨fd4, F4⟩ := T.d _ (List.mem_of_getElem? (i := 4) (l := fnL) rfl)
  have b4 : Binds K fd4 ["part", "whole"] [] := FunD.bindsN F4 fun _ _ _ _ _ _ us hl => match us, hl with | [_, _], _ => rfl
  obtain ⟨fd5, F5⟩ := T.d _ (List.mem_of_getElem? (i := 5) (l := fnL) rfl)
  have b5 : Binds K fd5 ["rows", "start"] [] := FunD.bindsN F5 fun _ _ _ _ _ _ us hl => match us, hl with | [_, _], _ => rfl
  obtain ⟨fd7, F7⟩ := T.d _ (List.mem_of_getElem? (i := 7) (l := fnL) rfl)
  have b7 : Binds K fd7 ["part", "whole"] [] := FunD.bindsN F7 fun _ _ _ _ _ _ us hl => match us, hl with | [_, _], _ => rfl
  obtain ⟨fd8, F8⟩ := T.d _ (List.mem_of_getElem? (i := 8) (l := fnL) rfl)
  have b8 : Binds K fd8 ["one", "other"] [] := FunD.bindsN F8 fun _ _ _ _ _ _ us hl => match us, hl with | [_, _], _ => rfl
  obtain ⟨fd9, F9⟩ := T.d _ (List.mem_of_getElem? (i := 9) (l := fnL) rfl)
  have b9 : Binds K fd9 ["one", "other"] [] := FunD.bindsN F9 fun _ _ _ _ _ _ us hl => match us, hl with | [_, _], _ => rfl
  obtain ⟨fd10, F10⟩ := T.d _ (List.mem_of_getElem? (i := 10) (l := fnL) rfl)
  have b10 : Binds K fd10 ["wish", "wheels"] [] := FunD.bindsN F10 fun _ _ _ _ _ _ us hl => match us, hl with | [_, _], _ => rfl
  obtain ⟨fd11, F11⟩ := T.d _ (List.mem_of_getElem? (i := 11) (l := fnL) rfl)
  have b11 : Binds K fd11 ["self"] [] := FunD.bindsN F11 fun _ _ _ _ _ _ us hl => match us, hl with | [_], _ => rfl
  obtain ⟨fd12, F12⟩ := T.d _ (List.mem_of_getElem? (i := 12) (l := fnL) rfl)
  have b12 : Binds K fd12 ["self", "name"] [] := FunD.bindsN F12 fun _ _ _ _ _ _ us hl => match us, hl with | [_, _], _ => rfl
  obtain ⟨fd13, F13⟩ := T.d _ (List.mem_of_getElem? (i := 13) (l := fnL) rfl)
  have b13 : Binds K fd13 ["self", "one", "teeth", "other", "more"] [] := FunD.bindsN F13 fun _ _ _ _ _ _ us hl => match us, hl with | [_, _, _, _, _], _ => rfl
  obtain ⟨fd14, F14⟩ := T.d _ (List.mem_of_getElem? (i := 14) (l := fnL) rfl)
  have b14 : Binds K fd14 ["self", "start"] [] := FunD.bindsN F14 fun _ _ _ _ _ _ us hl => match us, hl with | [_, _], _ => rfl
  obtain ⟨fd15, F15⟩ := T.d _ (List.mem_of_getElem? (i := 15) (l := fnL) rfl)
  have b15 : Binds K fd15 ["self", "start", "turns"] [] := FunD.bindsN F15 fun _ _ _ _ _ _ us hl => match us, hl with | [_, _, _], _ => rfl
  obtain ⟨fd16, F16⟩ := T.d _ (List.mem_of_getElem? (i := 16) (l := fnL) rfl)
  have b16 : Binds K fd16 ["self"] [] := FunD.bindsN F16 fun _ _ _ _ _ _ us hl => match us, hl with | [_], _ => rfl
  obtain ⟨fd17, F17⟩ := T.d _ (List.mem_of_getElem? (i := 17) (l := fnL) rfl)
  have b17 : Binds K fd17 ["self", "start"] [] := FunD.bindsN F17 fun _ _ _ _ _ _ us hl => match us, hl with | [_, _], _ => rfl
  have cd := (⟨ok_dice T F0, T.glo "_law_dice", F0.kp, b0⟩ : Cal P w K mg base _ _ "_law_dice" _ fd0 _ _)
  have cro := (⟨ok_roll T F1, T.glo "_law_roll", F1.kp, b1⟩ : Cal P w K mg base _ _ "_law_roll" _ fd1 _ _)
  have cr := (⟨ok_rounds T F2 cd, T.glo "_law_rounds", F2.kp, b2⟩ : Cal P w K mg base _ _ "_law_rounds" _ fd2 _ _)
  have cle := (⟨ok_lex T F4, T.glo "_law_ex", F4.kp, b4⟩ : Cal P w K mg base _ _ "_law_ex" _ fd4 _ _)
  have clr := (⟨ok_lrat T F5 cle, T.glo "_law_ratios", F5.kp, b5⟩ : Cal P w K mg base _ _ "_law_ratios" _ fd5 _ _)
  have cex := (⟨ok_exact T F7, T.glo "exact", F7.kp, b7⟩ : Cal P w K mg base _ _ "exact" _ fd7 _ _)
  have cti := (⟨ok_times T F8 cex, T.glo "times", F8.kp, b8⟩ : Cal P w K mg base _ _ "times" _ fd8 _ _)
  have cls := (⟨ok_less T F9, T.glo "less", F9.kp, b9⟩ : Cal P w K mg base _ _ "less" _ fd9 _ _)
  have ctr := (⟨ok_train T F11, T.mkr "Train", T.glo "Train", b11⟩ : Cmk P w K mg base _ _ "Train" (He.ga K "Train") _ fd11 _ _)
  have csh := (⟨ok_shaft T F12, T.cls "Train", T.meth "Train" "add_shaft", b12⟩ : Mtd P w K mg base _ _ (He.ga K "Train") "add_shaft" _ fd12 _ _)
  have cra := (⟨ok_ratios T F14 cex cti, T.cls "Train", T.meth "Train" "ratios", b14⟩ : Mtd P w K mg base _ _ (He.ga K "Train") "ratios" _ fd14 _ _)
  have cme := (⟨ok_mesh T F13 cex cra, T.cls "Train", T.meth "Train" "mesh", b13⟩ : Mtd P w K mg base _ _ (He.ga K "Train") "mesh" _ fd13 _ _)
  have csp := (⟨ok_speeds T F15 cti cra, T.cls "Train", T.meth "Train" "speeds", b15⟩ : Mtd P w K mg base _ _ (He.ga K "Train") "speeds" _ fd15 _ _)
  have cap := (⟨ok_apart T F16 hP0 cra, T.cls "Train", T.meth "Train" "apart", b16⟩ : Mtd P w K mg base _ _ (He.ga K "Train") "apart" _ fd16 _ _)
  have cto := (⟨ok_tog T F17 cra, T.cls "Train", T.meth "Train" "together_again", b17⟩ : Mtd P w K mg base _ _ (He.ga K "Train") "together_again" _ fd17 _ _)
  have cpa := (⟨ok_pair T F10 cex cls, T.glo "best_pair", F10.kp, b10⟩ : Cal P w K mg base _ _ "best_pair" _ fd10 _ _)
  exact ⟨⟨_, _, cr⟩, ⟨_, _, cro⟩, ⟨_, _, cle⟩, ⟨_, _, clr⟩, ⟨_, _, cex⟩, ⟨_, _, cti⟩, ⟨_, _, cls⟩, ⟨_, _, ctr⟩, ⟨_, _, csh⟩, ⟨_, _, cme⟩, ⟨_, _, cra⟩, ⟨_, _, csp⟩, ⟨_, _, cap⟩, ⟨_, _, cto⟩, ⟨_, _, cpa⟩, ⟨_, F3, b3⟩⟩
end
abbrev R : PySem.W.OpenRow := PySem.W.OpenLaw.row PySem.Challenge.rw_millstack_k01_gears_that_turn_each_other
def exB (K : PySem.W.Frag) : Bool := decide ((He.cT K ("Train", some "apart")).2 ≠ (He.cT K ("law", none)).2)
abbrev hk : PySem.W.Hook := He.hookX 8 fa1 fnL [] tf1 exB
def ob (s : PySem.W.SharedT) : He.AlX := He.obsX 8 fa1 fnL [] tf1 exB (HandSHeadRun.getT s)
theorem ob_eq (s : PySem.W.SharedT) : ob s = hk.obs s.abs := He.obsX_eq (HandSHeadRun.getT_eq s)
def looseL : List PySem.Str := ["MillError", "GearError", "MOST_TEETH", "MOST_SHAFTS", "exact", "times", "less", "Train", "best_pair", "_law_dice", "_law_roll", "_law_rounds", "_law_told", "_law_ex", "_law_ratios"]
theorem run (w : World) : HandSHeadRun.RunEq R (PySem.W.view R.prog [18]) hk ob 4000 looseL w := by
  intro os
  kernel_rfl
theorem at_law {w : World} {K : PySem.W.Frag} {h : Heap} {mg : Str → Option Value} {f : Addr} (KX : K.In h) (G : h.Ns mainGlobals mg) (hfa : mg ("law" : Str) = some (.ref f)) (c : He.SaysX fa1 fnL [] tf1 exB w h K) : LawAtS PySem.Challenge.rw_millstack_k01_gears_that_turn_each_other w K (CX R.prog w) 21 63 "script" mg f h := by
  have mkT : ∀ base : Heap, (∀ p ∈ tf1, LamX.TabB base mg (He.cT K p).1 (He.cT K p).2) → Sy fa1 fnL tf1 K mg base := fun base tb => ⟨fun x hx => c.t.d.facts hx, fun x hx => c.t.d.defs hx, ⟨h, KX, G⟩, tb⟩
  obtain ⟨fd, F⟩ := c.t.d.defs (List.mem_of_getElem? (i := 6) (l := fnL) rfl)
  have e : f = He.ga K "law" := by
    have hg : mg ("law" : Str) = some (.ref (He.ga K "law")) := He.glo_ok KX G (c.t.d.facts (f := .glo "law") (List.mem_of_getElem? (i := 13) (l := fa1) rfl))
    rw [hfa] at hg
    exact Value.ref.inj (Option.some.inj hg)
  subst e
  have hne0 : (He.cT K ("Train", some "apart")).2 ≠ (He.cT K ("law", none)).2 := of_decide_eq_true c.more
  have hbnd := FunD.bindsA (ps := ["script"]) F fun _ _ _ _ _ _ us hl => match us, hl with | [_], _ => rfl
  refine ⟨fd, (tf1 : List He.Defn).map (He.cT K), spLaw K, fun p hp => ?_, fun p hp => ?_, fun p hp => ?_, fun s v => hbnd s [v] rfl, fun H a ns _ _ hH hS => ⟨a, ns, rfl, hS, ⟨#[], hH (He.cT K ("Train", some "apart")) (List.mem_map.mpr ⟨_, List.mem_cons_self, rfl⟩), True.intro⟩, hH (He.cT K ("law", none)) (List.mem_map.mpr ⟨_, (List.mem_cons_of_mem _ List.mem_cons_self), rfl⟩), fun _ => rfl⟩, fun base hb1 hb2 hTB => ?_⟩
  · obtain ⟨q, hq, rfl⟩ := List.mem_map.mp hp
    exact c.empty q hq
  · obtain ⟨q, hq, rfl⟩ := List.mem_map.mp hp
    exact c.out q hq
  · obtain ⟨q, hq, rfl⟩ := List.mem_map.mp hp
    exact PySem.W.codeHd_of_K KX (c.hd q hq)
  · letI : Lw := ⟨fun P => P = (He.cT K ("law", none)).2, fun _ => lq ++ "<lambda>"⟩
    have T := mkT base fun p hp => hTB _ (List.mem_map.mpr ⟨p, hp, rfl⟩)
    have L : Ls1 K := ⟨rfl, rfl, hne0⟩
    exact ok_law T F L (cs_of T hne0)
end K1
open PySem PySem.W PySem.Calls PyProof.Rows
theorem PySem.Challenge.cw_millstack_k01_gears_that_turn_each_other_holds : PySem.Challenge.rw_millstack_k01_gears_that_turn_each_other.Holds := by
  w_on; o_law
  refine HandSHeadRun.head_any (r := OpenLaw.row PySem.Challenge.rw_millstack_k01_gears_that_turn_each_other) (q := view (OpenLaw.row PySem.Challenge.rw_millstack_k01_gears_that_turn_each_other).prog [18]) (H := K1.hk) (ob := K1.ob) (M := 4000) (loose := K1.looseL)
    (d := HandSHeadRun.topDef (OpenLaw.row PySem.Challenge.rw_millstack_k01_gears_that_turn_each_other).prog 18) (kwd := []) K1.ob_eq (by kernel_rfl) (fun s => by kernel_rfl) K1.run (by kernel_rfl) (by kernel_rfl) (by kernel_rfl) (by rfl) (by first | assumption | decide +kernel) (by decide +kernel) ⟨rfl, rfl, rfl, rfl, rfl, by decide +kernel⟩ ?hw ?hc
  case hw => w_witness2
  case hc =>
    refine LamX.walk_ofTsE (l := PySem.Challenge.rw_millstack_k01_gears_that_turn_each_other) (n := 63) (k := 21) (x := "script") (CX := fun w => L2.CX K1.R.prog w) rfl (by decide) (by kernel_rfl) ⟨rfl, by decide, by decide⟩ ?F (fun _ _ _ _ _ ⟨_, _, _, _, _, _, _, _, _, _, _, _, z⟩ => z)
    intro w mg fa h Y G hmg0
    obtain ⟨K, KX, c⟩ := Y
    have hmg : mg ("law" : PySem.Str) = some (.ref fa) := by
      have e : (HandSHeadRun.topDef (OpenLaw.row PySem.Challenge.rw_millstack_k01_gears_that_turn_each_other).prog 18).name = ("law" : PySem.Str) := by kernel_rfl
      rw [← e]
      exact hmg0
    exact ⟨K, KX, K1.at_law KX G hmg c⟩

