import PyProof.Rows.All
import Wide.All
import OpenK.AllK
import Wide.FinOn
import HandS.ForMost
import HandS.AnyAll
import HandS.GenOver
import HandS.Words
import PySem.Challenge.RW_onewatcher_k24_whole_runs_by_papers
import KE.KStateDown
import HandS.Defaults
import HandS.Head0
import HandS.Head1
import HandS.Head2
import HandS.HeadHook1
import HandS.HeadHook2
import HandS.HeadHook3
import HandS.HeadHook4
import HandS.HeadWalk
import HandS.TupAny
import HandS.TupMul
import HandS.IsInst
import HandS.Wide
import HandS.WideBits
import HandS.WideMore
import HandS.Conv
import HandS.Flow
import HandS.Deep
import HandS.Codes
import PyProof.ListMulRoad
import PyProof.FactsAll.tuple_2
set_option Elab.async false
set_option linter.all false
set_option maxRecDepth 100000
set_option maxHeartbeats 4000000
/-! all(elt for x in iter): elt may call defs; the running def's table is tracked by what is true of it. -/
namespace K24
open PySem L2
open PyProof.Rows (AllBare)

/-- the table of a code object, whatever it holds -/
def TabF (P : Addr) (h : Heap) : Prop := ∃ ps : Array Value, h.get? P = some { cls := .none, data := .fields ps } ∧ TriplesOk ps.toList
theorem TabF.ok {P : Addr} {h : Heap} (t : TabF P h) : (∃ o, h.get? P = some o) ∧ ∀ h1 h2 : Heap, TabF P h1 → (∀ o, h1.get? P = some o → h2.get? P = some o) → TabF P h2 :=
  ⟨t.elim fun ps x => ⟨_, x.1⟩, fun _ _ t1 k => t1.elim fun ps x => ⟨ps, k _ x.1, x.2⟩⟩
/-- the def that runs has its code at c, its table at P -/
structure TabC (base : Heap) (mg : Str → Option Value) (c P : Addr) : Prop where
  code : PySem.W.CodeHd base c P
  bm : base.BuiltinsAt mg P
  gP : mainGlobals ≠ P
def HTab (H : Hp) (P : Addr) : Prop := H P = some (.ext (TabF P))

/-- the block's context: it runs in a frame of its own, over the frames of the def -/
abbrev gblk (X : Cx) (B : Around) (s : Shared) (H : Hp) (cenv : Env) (fp : List Addr) : Cx :=
  { X with A := B, s_0 := s, H_0 := H, env := cenv, outer := X.stack, stack := cenv :: X.stack, ex := fp, fn := fun _ => false, pn := [], xe := fun _ _ => False }

theorem cells_of {env : Env} {names : List (Str × NameKind)} {y : Str} {c : Addr} (hf : ∀ y ∈ names, y.2 = .free → ∃ c, env.cells.lookup y.1 = some c) (h : (cloFrom env.cells names []).lookup y = some c) :
    env.cells.lookup y = some c := by
  rcases cloFrom_mem (PySem.mem_of_lookup h) with z | ⟨z1, z2⟩
  · exact absurd z (by simp)
  · obtain ⟨d, hd⟩ := hf _ z1 rfl
    rw [z2, hd]
    rfl
theorem cells_hit {env : Env} {names : List (Str × NameKind)} {y : Str} (hf : ∀ y ∈ names, y.2 = .free → ∃ c, env.cells.lookup y.1 = some c) (h : names.lookup y = some .free) :
    ∃ c, (cloFrom env.cells names []).lookup y = some c ∧ env.cells.lookup y = some c := by
  obtain ⟨c, hc⟩ := mem_lookup (cloFrom_has (cells := env.cells) (acc := []) (PySem.mem_of_lookup h))
  exact ⟨c, hc, cells_of hf hc⟩

section
variable {X : Cx} {pins : List (Addr × Obj)} {σ : L2.St} {H : Hp} {s : Shared}

/-- the block's state as it begins -/
theorem gblk_start {scope : Scope} {own : List (Str × Nat)} {fp : List Addr} {B : Around} {code : Value} {it : Value} {gob : Obj} {h' : Heap} {G : Array GenState} {tk : Nat} (I : Inv X pins σ H s)
    (ok : BlkOk X.N X.env.scope scope own) (hN : X.N.Nodup) (hfp : ∀ b ∈ fp, FpOk X pins H b ∧ b < s.heap.objs.size) (hcell : ∀ y ∈ scope.names, y.2 ≠ .cell)
    (hBh : B.handled = none) (hBf : B.frames = some (genEnv scope (cloFrom X.env.cells scope.names []) s.heap.objs.size code builtinsNs X.env :: X.stack))
    (hn : h'.Ns s.heap.objs.size (fun y => if y = (".0" : Str) then some it else none)) (hs : Heap.SameBut s.heap.objs.size (s.heap.push { cls := .type "frame", data := .dict #[] }) h')
    (hg : AllBare G) (hd : ∀ v, gob.data ≠ .cell v) (hfr : gob.isFreed = false) :
    Inv (gblk X B s H (genEnv scope (cloFrom X.env.cells scope.names []) s.heap.objs.size code builtinsNs X.env) fp) [(h'.objs.size, gob)] (wipe σ (own.map (·.2))) H
      { s with gens := G, toks := tk, heap := h'.push gob } := by
  generalize hce : genEnv scope (cloFrom X.env.cells scope.names []) s.heap.objs.size code builtinsNs X.env = cenv at hBf ⊢
  have eL : cenv.locals = s.heap.objs.size := by rw [← hce]; rfl
  have eC : cenv.cells = cloFrom X.env.cells scope.names [] := by rw [← hce]; rfl
  have eS : cenv.scope = scope := by rw [← hce]; rfl
  have hfree : ∀ y ∈ scope.names, y.2 = .free → ∃ c, X.env.cells.lookup y.1 = some c := fun y hy e => by
    rcases ok.free y hy e with k | k
    · exact I.ok.has _ (.inl k)
    · exact I.ok.has _ (.inr k)
  have hsz : h'.objs.size = s.heap.objs.size + 1 := by rw [hs.1, Heap.size_push]
  have kp : ∀ b o, s.heap.get? b = some o → (h'.push gob).get? b = some o := fun b o e =>
    Heap.get?_push_of_some _ (hs.extBut b o (Nat.ne_of_lt (Heap.lt_size e)) (Heap.get?_push_of_some _ e))
  have cm : ∀ {y c}, cenv.cells.lookup y = some c → X.env.cells.lookup y = some c ∧ c < s.heap.objs.size := fun {y c} e => by
    rw [eC] at e
    have e2 := cells_of hfree e
    obtain ⟨v, z⟩ := I.cell _ _ e2
    exact ⟨e2, z.lt⟩
  have kC : ∀ {y k}, scope.names.lookup y = some k → k ≠ .cell := fun e => hcell _ (PySem.mem_of_lookup e)
  have okB : (gblk X B s H cenv fp).Ok := by
    refine ⟨I.ok.mod, by show cenv.scope.kind = _; rw [eS]; exact ok.kind, by show cenv.globals = _; rw [← hce]; exact I.ok.glob, by show cenv.builtins = _; rw [← hce]; rfl, by show s.heap.objs.size ≤ cenv.locals; rw [eL]; exact Nat.le_refl _,
      fun y z c e1 e2 => I.ok.inj y z c (cm e1).1 (cm e2).1, fun y hy => ?_, fun y c z => (nomatch z), fun _ => hBh, hBf, .inr ⟨rfl, by show cenv.frame = some cenv.locals; rw [← hce]; rfl⟩, fun b hb => ⟨?_, fun y c e z => ?_⟩, I.bs, Nat.le_trans I.ok.bsz I.sz, fun b o e hb => ?_, fun b hb z => ?_, I.stack, I.stkFree⟩
    · have hy2 : scope.names.lookup y = some .cell ∨ scope.names.lookup y = some .free := by
        rw [← eS]
        exact hy
      rcases hy2 with hy2 | hy2
      · exact absurd rfl (kC hy2)
      · obtain ⟨c, h1, _⟩ := cells_hit hfree hy2
        exact ⟨c, by show cenv.cells.lookup y = some c; rw [eC]; exact h1⟩
    · show b ≠ cenv.locals
      rw [eL]
      exact Nat.ne_of_lt (hfp b hb).2
    · exact (hfp b hb).1.2.2.2.2.1 y c (cm e).1 z
    · rcases (hfp b hb).1.2.2.2.1 with z | z
      · exact I.ok.noex b o e z
      · exact absurd (Nat.lt_of_lt_of_le (Heap.lt_size e) (Nat.le_trans I.ok.bsz z)) (Nat.lt_irrefl _)
    · rcases List.mem_cons.mp (I.stkSub b z) with z | z
      · exact (hfp b hb).1.2.1 z
      · exact (hfp b hb).1.2.2.1 z
  refine ⟨okB, rfl, hg, Un.kept kp, ⟨(fun y => if y = (".0" : Str) then some it else none), ?_, fun i y av e1 e2 e3 => ?_⟩, fun y c e => ?_, ?_, fun y c e => I.freeC y c (cm e).1, fun p hp => ?_, I.hok.kept kp, by rw [wipe_length]; exact I.len⟩
  · show Heap.Ns _ cenv.locals _
    rw [eL]
    exact hn.push _
  · obtain ⟨e2, hne⟩ := wipe_some e2
    have key : scope.names.lookup y = some .free := by
      have no : ∀ k, scope.names.lookup y = some k → k = .local ∨ k = .cell → False := fun k hk hk2 => by
        rcases ok.own _ (PySem.mem_of_lookup hk) hk2 with e' | e'
        · obtain ⟨p, hp, hpy⟩ := List.mem_map.mp e'
          have e4 := ok.ix p hp
          rw [show p.1 = y from hpy] at e4
          exact hne (List.mem_map.mpr ⟨p, hp, nodup_ix hN e4 e1⟩)
        · exact e' (List.mem_of_getElem? e1)
      have e5 : Vis scope y := by rw [← eS]; exact e3
      rcases e5 with e5 | e5 | e5
      · exact (no _ e5 (.inl rfl)).elim
      · exact (no _ e5 (.inr rfl)).elim
      · exact e5
    obtain ⟨m, hm, hl⟩ := I.loc
    have fr := ok.free _ (PySem.mem_of_lookup key) rfl
    obtain ⟨u, r, q⟩ := hl i y av e1 e2 (fr.elim (fun k => .inr (.inl k)) fun k => .inr (.inr k))
    refine ⟨u, r, .inr ⟨.inr (by show cenv.scope.names.lookup y = _; rw [eS]; exact key), ?_⟩⟩
    obtain ⟨c, h1, h2⟩ := cells_hit hfree key
    rcases q with ⟨k, _⟩ | ⟨_, c', e', z⟩
    · have k : X.env.scope.names.lookup y = some .local := k
      rcases fr with k' | k' <;> rw [show X.env.scope.names.lookup y = _ from k'] at k <;> cases k
    · rw [h2] at e'
      cases e'
      exact ⟨c, by show cenv.cells.lookup y = _; rw [eC]; exact h1, z.keeps kp⟩
  · obtain ⟨v, z⟩ := I.cell y c (cm e).1
    exact ⟨v, z.keeps kp⟩
  · show H cenv.locals = none
    rw [eL]
    exact I.hok.fresh (Nat.le_refl _)
  · obtain rfl : p = (h'.objs.size, gob) := by
      have z : p ∈ ([] : List (Addr × Obj)) ++ [(h'.objs.size, gob)] := hp
      simpa using z
    have hle : s.heap.objs.size ≤ h'.objs.size := by omega
    refine ⟨Heap.get?_push_size _ hfr, I.hok.fresh hle, ?_, ?_, hd⟩
    · show h'.objs.size ≠ cenv.locals
      rw [eL, hsz]
      exact Nat.succ_ne_self _
    · intro z
      have z2 : h'.objs.size ∈ frs X.stack := z
      obtain ⟨_, o, ho, _⟩ := I.stack.mem z2
      exact absurd (Heap.lt_size ho) (Nat.not_lt.mpr hle)
/-- the table at P has grown (new objects are laid); what stood stands -/
theorem Inv_tab {P : Addr} {h' : Heap} {g' : Array GenState} {d' : Drawn} {t' : Nat} (I : Inv X pins σ H s) (hP : HTab H P) (k : ∀ b o, b ≠ P → s.heap.get? b = some o → h'.get? b = some o) (hm : TabF P h') (hg : AllBare g') :
    Inv X pins σ H { s with heap := h', gens := g', drawn := d', toks := t' } := by
  have nP : ∀ b u, H b = some u → (∀ f, u ≠ .ext f) → b ≠ P := fun b u e q z => by
    rw [z, hP] at e
    exact q _ (Option.some.inj e).symm
  have nN : ∀ b, H b = none → b ≠ P := fun b e z => by
    rw [z, hP] at e
    cases e
  refine I.step (g' := g') (d' := d') (ch := []) (fun b hb => absurd hb (by simp)) (fun b o _ _ _ e n => k b o (nN b n) e) (fun b o _ _ _ e n => ⟨o.slots, k b o (nN b n) e⟩) (fun _ _ _ _ n => n) (fun b o _ e => ?_) (fun _ _ e => e) (fun _ _ _ e => e) (fun b ps e => ⟨#[], by rw [e]; simp⟩) (fun m q => ?_) (fun b u e => ?_) hg
  · by_cases hb : b = P
    · rw [hb]
      exact hm.ok.1
    · exact ⟨o, k b o hb e⟩
  · obtain ⟨ob, es, ep, ho, r⟩ := q
    exact ⟨ob, es, ep, k _ ob (nN _ I.free) ho, r⟩
  · by_cases hb : b = P
    · rw [hb, hP] at e
      cases e
      rw [hb]
      exact ⟨hm, hm.ok.1, hm.ok.2⟩
    · refine (I.hok b u e).stay (fun d v hd q => k d v ?_ q) (fun _ q => q) fun _ _ q => q
      rcases hd with z | z
      · rw [z]
        exact hb
      · exact nP d _ z fun f q => by cases q
/-- nothing but the generators' table has changed -/
theorem Inv_gens {g' : Array GenState} {d' : Drawn} {t' : Nat} (I : Inv X pins σ H s) (hg : AllBare g') : Inv X pins σ H { s with gens := g', drawn := d', toks := t' } := by
  refine I.step (h' := s.heap) (g' := g') (d' := d') (ch := []) (fun b hb => absurd hb (by simp)) (fun _ _ _ _ _ e _ => e) (fun b o _ _ _ e _ => ⟨o.slots, e⟩) (fun _ _ _ _ n => n) (fun b o _ e => ⟨o, e⟩) (fun _ _ e => e) (fun _ _ _ e => e) (fun b ps e => ⟨#[], by rw [e]; simp⟩) (fun _ q => q) I.hok hg
end

/-- between two turns of the generator only the generators' table changes -/
structure Rests (s s' : Shared) : Prop where
  heap : s'.heap = s.heap
  os : s'.os = s.os
  bare : AllBare s'.gens
theorem Inv.rests {X : Cx} {pins : List (Addr × Obj)} {σ : L2.St} {H : Hp} {s s' : Shared} (I : L2.Inv X pins σ H s) (r : Rests s s') : L2.Inv X pins σ H s' := by
  obtain ⟨h, g, d, t, o⟩ := s'
  obtain ⟨e1, e2, e3⟩ := r
  have e1 : h = s.heap := e1
  have e2 : o = s.os := e2
  subst e1 e2
  exact Inv_gens I e3
theorem setGen_gens {s : Shared} {g : Nat} {x : GenState} : (s.setGen g x).heap = s.heap ∧ (s.setGen g x).os = s.os := ⟨rfl, rfl⟩
theorem setGen_bare {s : Shared} {g : Nat} {x : GenState} (h : AllBare s.gens) (hx : x.bare = true) : AllBare (s.setGen g x).gens := by
  intro y hy
  rcases Array.mem_iff_getElem.mp hy with ⟨i, hi, e⟩
  have e2 : (s.gens.setIfInBounds g x)[i]? = some y := by
    rw [← e]
    exact Array.getElem?_eq_getElem hi
  rw [Array.getElem?_setIfInBounds] at e2
  split at e2
  · split at e2
    · cases e2
      exact hx
    · cases e2
  · exact h y (Array.mem_of_getElem? e2)
theorem setGen_rests {s : Shared} {g : Nat} {x : GenState} (h : AllBare s.gens) (hx : x.bare = true) : Rests s (s.setGen g x) := ⟨rfl, rfl, setGen_bare h hx⟩
theorem Rests.trans {s s' s'' : Shared} (a : Rests s s') (b : Rests s' s'') : Rests s s'' := ⟨b.heap.trans a.heap, b.os.trans a.os, b.bare⟩

/-! ### the block's turns -/
/-- what the generator hands out -/
def YAll (X : Cx) (P : List (Addr × Obj)) (σ : L2.St) (Q : VK) : Protocol := fun _ _ v s kap =>
  ∃ (b : Bool) (H : Hp), v = .bool b ∧ L2.Inv X P σ H s ∧ ((b = true ∧ ∀ s', Rests s s' → kap (.send .none) s') ∨ (b = false ∧ Q (.bl false) H))
def RAll (X : Cx) (P : List (Addr × Obj)) (σ : L2.St) (Q : VK) (_ : Nat) (_ s : Shared) : Prop := ∃ H, L2.Inv X P σ H s ∧ Q (.bl true) H

/-- the reading of all(elt for target in iter): vs the block's own slots -/
def tAllG (wi : TI) (g : TG) (te : TE) (vs : List Nat) : TE := fun σ H Q => wi σ H fun J H1 => ∃ W : Nat → Nat → Hp → Prop, (∃ m, W 0 m H1) ∧ ∀ i m H, W i m H →
  (J.stop i H ∧ Q (.bl true) H) ∨ (J.go i H ∧ ∃ Nx : Hp → Prop, (∀ H', Nx H' → ∃ m', m' < m ∧ W (i + 1) m' H') ∧ ∀ x H', J.yld i H x H' → g x (wipe σ vs) H' fun σ2 H2 => wipe σ2 vs = wipe σ vs ∧ te σ2 H2 fun y H3 =>
    ∃ b, y = .bl b ∧ if b = true then Nx H3 else Q (.bl false) H3)

section
variable {X : Cx} {A : Around} {elt tg iter : Expr} {scope : Scope} {gpos : Pos} {it : Addr} {fp : List Addr} {tn : Nat → Heap → Prop} {J : It} {P : List (Addr × Obj)} {σ : L2.St} {vs : List Nat} {g : TG} {te : TE} {Q : VK} {W : Nat → Nat → Hp → Prop}
abbrev GE (elt tg iter : Expr) (scope : Scope) (gpos : Pos) : Expr := .GeneratorExp elt [⟨tg, iter, [], 0⟩] scope gpos

theorem seg_turns (hA : X.A = A.over (.compLoop (GE elt tg iter scope gpos) 0 (.ref it) .none X.env) []) (hc : X.calm = true) (hxe : X.xe = fun _ _ => False) (hex : X.ex = fp) (hpn : X.pn = []) (T : Turn X.prog X.w X.K tg J fp it tn) (hg : PG X tg g) (he : PE X elt te) (hco : X.env.scope.isCoroutine = false)
    (hP : ∀ p ∈ P, ∀ b ∈ fp, p.1 ≠ b)
    (turn : ∀ i m H, W i m H → (J.stop i H ∧ Q (.bl true) H) ∨ (J.go i H ∧ ∃ Nx : Hp → Prop, (∀ H', Nx H' → ∃ m', m' < m ∧ W (i + 1) m' H') ∧ ∀ x H', J.yld i H x H' → g x (wipe σ vs) H' fun σ2 H2 => wipe σ2 vs = wipe σ vs ∧ te σ2 H2 fun y H3 =>
      ∃ b, y = .bl b ∧ if b = true then Nx H3 else Q (.bl false) H3)) :
    ∀ (n i m : Nat) (H : Hp) (s₀ s : Shared), m < n → L2.Inv X P (wipe σ vs) H s → tn i s.heap → (∀ b ∈ fp, H b = none) → W i m H →
      Seg (model X.prog X.w) A (fun n s₀ r s₁ => r = .ok .next ∧ RAll X P (wipe σ vs) Q n s₀ s₁) (YAll X P (wipe σ vs) Q) n s₀ (.compLoop (GE elt tg iter scope gpos) 0 (.ref it) .none X.env)
        ((model X.prog X.w).den (.compLoop (GE elt tg iter scope gpos) 0 (.ref it) .none X.env)) [] s := by
  intro n
  induction n with
  | zero => intro i m H s₀ s hm; exact absurd hm (Nat.not_lt_zero _)
  | succ n ih =>
    intro i m H s₀ s hm I st fr w
    have stat : ∀ {H' : Hp} {s' : Shared} {σ' : L2.St} {P' : List (Addr × Obj)}, L2.Inv X P' σ' H' s' → (∀ p ∈ P', ∀ b ∈ fp, p.1 ≠ b) → (∀ b ∈ fp, H' b = none) → ∀ b ∈ fp, FpOk X P' H' b := fun {H' s' σ' P'} I' q hn b hb =>
      ⟨hn b hb, (I'.ok.exf b (by rw [hex]; exact hb)).1, I'.ok.exfs b (by rw [hex]; exact hb), .inl (by rw [hex]; exact hb), fun x c e => (I'.ok.exf b (by rw [hex]; exact hb)).2 x c e, fun p hp => q p (by rw [hpn] at hp; exact hp) b hb⟩
    show Seg _ A _ _ _ s₀ _ ((compTurn (GE elt tg iter scope gpos) 0 (.ref it) .none X.env).onRaise (leaving X.env)) [] s
    rw [compTurn_gen, Sem.onRaise_eq_wrap]
    refine seg_bind_wrap (wpAny_standAt ?_)
    rcases turn i m H w with ⟨stop, qq⟩ | ⟨go, Nx, hNx, step⟩
    · refine seg_bind_wrap ?_
      rw [← hA]
      refine thn (T.done X rfl rfl rfl hc i P s _ H _ I (stat I hP fr) st stop) fun r s1 ⟨hr, I1⟩ => ?_
      subst hr
      exact seg_end (.ok .next) ⟨rfl, H, I1, qq⟩
    · refine seg_bind_wrap ?_
      rw [← hA]
      refine thn (T.item X rfl rfl rfl hc i P s _ H _ I (stat I hP fr) st go) fun r s1 ⟨u, hr, h1⟩ => ?_
      subst hr
      refine seg_bind_wrap ?_
      rw [← hA]
      refine thn h1 fun _ s2 ⟨x, H2, I2, r2, y2, st2, fr2⟩ => ?_
      have I2' := I2.pinned (stat I2 hP fr2) (T.obj _ _ st2)
      refine seg_bind_wrap ?_
      rw [← hA]
      have h3 := hg.run _ s2 _ H2 x u _ I2' r2 (step x H2 y2)
      rw [hxe] at h3
      refine thnF h3 fun _ s3 ⟨σ3, H3, I3, w3, q3⟩ => ?_
      refine seg_bind_wrap (wpAny_tests_nil ?_)
      try dsimp only
      try simp only [if_true]
      have hy : ∀ v, yieldOut X.env v = yieldValue v := fun v => by simp only [yieldOut, hco, Bool.false_eq_true, if_false]
      simp only [hy]
      rw [Sem.bind_eq_wrap', Sem.bind_eq_wrap', Sem.wrap_wrap, Sem.wrap_wrap]
      refine seg_wrap ?_
      rw [← hA]
      have h4 := he.run _ s3 σ3 H3 _ I3 q3
      rw [hxe] at h4
      refine thnF h4 fun y s4 ⟨yv, H4, I4, r4, b, eb, q4⟩ => ?_
      subst eb
      obtain rfl : y = .bool b := r4
      have pin' : ∀ b ∈ fp, ∀ o, s2.heap.get? b = some o → s4.heap.get? b = some o ∧ H4 b = none := fun b hb o e =>
        let z := I4.pin (b, o) (List.mem_append_right _ (List.mem_append_right _ (mem_pinsAt hb e)))
        ⟨z.1, z.2.1⟩
      have hl : (wipe σ vs).length = σ3.length := by rw [← w3, wipe_length]
      have I5 : L2.Inv X P (wipe σ vs) H4 s4 := (I4.unpinned (pins := P)).weak hl fun j v e => by
        rw [← w3] at e
        exact (wipe_some e).1
      have st5 : tn (i + 1) s4.heap := T.keep _ _ _ st2 fun b hb o e => (pin' b hb o e).1
      have fr5 : ∀ b ∈ fp, H4 b = none := fun b hb => by
        obtain ⟨o, e, _⟩ := T.obj _ _ st2 b hb
        exact (pin' b hb o e).2
      refine seg_at (seg_yield rfl rfl rfl ⟨b, H4, rfl, I5, ?_⟩)
      cases b with
      | false =>
        rw [if_neg Bool.false_ne_true] at q4
        exact .inr ⟨rfl, q4⟩
      | true =>
        rw [if_pos rfl] at q4
        obtain ⟨m', hm', w'⟩ := hNx H4 q4
        refine .inl ⟨rfl, fun s' rs => ?_⟩
        refine seg_again rfl (ih (i + 1) m' H4 s' s' (by omega) (Inv.rests I5 rs) (by rw [rs.heap]; exact st5) fr5 w')
end
end K24
set_option Elab.async false
set_option linter.all false
set_option maxRecDepth 100000
set_option maxHeartbeats 4000000
namespace K24
open PySem L2
open PyProof.Rows (AllBare)
section
variable {X : Cx} {B : Around} {a : Addr} {g : Nat} {P : List (Addr × Obj)} {σ : L2.St} {Q : VK} {gob : Obj}
theorem Rests.refl {s : Shared} (h : AllBare s.gens) : Rests s s := ⟨rfl, rfl, h⟩
theorem gens_lt {s : Shared} {gs : GenState} (h : s.gens[g]? = some gs) : g < s.gens.size := (Array.getElem?_eq_some_iff.mp h).1
theorem setGen_at {s : Shared} {x : GenState} (h : g < s.gens.size) : (s.setGen g x).gens[g]? = some x := setGen_self (gs := s.gens[g]) (Array.getElem?_eq_getElem h)
/-- the loop of all over our generator -/
theorem all_turns (hB : B.handled = none) (hd : B.depth < recursionLimit) (hP : (a, gob) ∈ P) (hgob : gob = { cls := .type "generator", data := gob.data, slots := #[] } ∧ ∃ nm qn, gob.data = .fields #[.int g 0, nm, qn])
    {R : Result → Shared → Prop} (hR : ∀ b H s, L2.Inv X P σ H s → Q (.bl b) H → R (.ok (.ret (.bool b))) s) :
    ∀ (n : Nat) (H : Hp) (s : Shared) (gs : GenState), L2.Inv X P σ H s → s.gens[g]? = some gs →
      (∀ s', Rests s s' → gs.Goes (model X.prog X.w) B.in1.in1 (fun n s₀ r s₁ => r = .ok .next ∧ RAll X P σ Q n s₀ s₁) (YAll X P σ Q) n (.send .none) s') →
      codeAny (model X.prog X.w) B (.builtin "all.loop" ⟨[.ref a], []⟩) R s := by
  have isG : ∀ {H : Hp} {s : Shared}, L2.Inv X P σ H s → s.heap.IsGen a g := fun {H s} I => by
    have e := (I.pin (a, gob) (List.mem_append_right _ hP)).1
    obtain ⟨e1, nm, qn, e2⟩ := hgob
    exact ⟨gob, nm, qn, e, by rw [e1], e2, by rw [e1]⟩
  intro n
  induction n with
  | zero =>
    intro H s gs I hgs go
    refine codeAny_builtin PySem.F.entry_all_loop ?_
    rw [Around.under_plainId PySem.F.plain_all_loop _]
    show wpAny _ B.in1 (pyNext (.ref a) >>= _) _ _ s
    refine wpAny_bind (GenW.wpAny_gsz (n := g + 1) (gens_lt hgs) (wpAny_pyNext_genexpQ (A := B.in1) hB I.nolimit hd (isG I) hgs (go _ (setGen_rests I.bare rfl)) (fun v s₁ gs' hb hv => ?_) fun s₁ hp h' hk => ?_))
    · obtain ⟨b, H1, e, I1, q⟩ := hv
      subst e
      intro hsz
      refine wpAny_bind (wpAny_holding (wpAny_truthy_bool ?_))
      refine wpAny_bind (wpAny_letGo ?_)
      rcases q with ⟨eb, q⟩ | ⟨eb, q⟩
      · exact (q s₁ (Rests.refl I1.bare)).elim
      · subst eb
        simp only [Bool.false_eq_true, if_false]
        exact wpAny_bind (wpAny_rule (wpAny_pure (hR false H1 _ (Inv.rests I1 (setGen_rests I1.bare hb)) q)))
    · obtain ⟨H1, I1, q⟩ := hp
      intro _
      exact wpAny_bind (wpAny_rule (wpAny_pure (hR true H1 _ ((Inv.rests I1 (setGen_rests I1.bare rfl)).kept (h' := h') (t' := s₁.toks) hk) q)))
  | succ n ih =>
    intro H s gs I hgs go
    refine codeAny_builtin PySem.F.entry_all_loop ?_
    rw [Around.under_plainId PySem.F.plain_all_loop _]
    show wpAny _ B.in1 (pyNext (.ref a) >>= _) _ _ s
    refine wpAny_bind (GenW.wpAny_gsz (n := g + 1) (gens_lt hgs) (wpAny_pyNext_genexpQ (A := B.in1) hB I.nolimit hd (isG I) hgs (go _ (setGen_rests I.bare rfl)) (fun v s₁ gs' hb hv => ?_) fun s₁ hp h' hk => ?_))
    · obtain ⟨b, H1, e, I1, q⟩ := hv
      subst e
      intro hsz
      have hlt : g < s₁.gens.size := by
        have z : (s₁.setGen g gs').gens.size = s₁.gens.size := GenW.setGen_size _ _ _
        rw [z] at hsz
        exact hsz
      refine wpAny_bind (wpAny_holding (wpAny_truthy_bool ?_))
      refine wpAny_bind (wpAny_letGo ?_)
      have r1 := setGen_rests (g := g) I1.bare hb
      rcases q with ⟨eb, q⟩ | ⟨eb, q⟩
      · subst eb
        simp only [if_true]
        exact wpAny_pure ⟨plainId_quiet PySem.F.plain_all_loop _, ih H1 _ gs' (Inv.rests I1 r1) (setGen_at hlt) fun s' r2 => q s' (r1.trans r2)⟩
      · subst eb
        simp only [Bool.false_eq_true, if_false]
        exact wpAny_bind (wpAny_rule (wpAny_pure (hR false H1 _ (Inv.rests I1 r1) q)))
    · obtain ⟨H1, I1, q⟩ := hp
      intro _
      exact wpAny_bind (wpAny_rule (wpAny_pure (hR true H1 _ ((Inv.rests I1 (setGen_rests I1.bare rfl)).kept (h' := h') (t' := s₁.toks) hk) q)))
end
end K24
set_option Elab.async false
set_option linter.all false
set_option maxRecDepth 100000
set_option maxHeartbeats 4000000
namespace K24
open PySem L2
open PyProof.Rows (AllBare)

/-- the block's own scope: its target and the walked thing are its locals, all else is captured or global -/
structure GenC (N : List Str) (sc scope : Scope) (own : List (Str × Nat)) : Prop where
  blk : BlkOk N sc scope own
  co : scope.isCoroutine = false
  cell : ∀ y ∈ scope.names, y.2 ≠ .cell
  dot : scope.names.lookup (".0" : Str) = some NameKind.local
def genC (N : List Str) (sc scope : Scope) (own : List (Str × Nat)) : Bool :=
  blkC N sc scope own && !scope.isCoroutine && (scope.names.all fun y => match y.2 with | .cell => false | _ => true) && decide (scope.names.lookup (".0" : Str) = some NameKind.local)
theorem genC_by {N : List Str} {sc scope : Scope} {own : List (Str × Nat)} (h : genC N sc scope own = true) : GenC N sc scope own := by
  unfold genC at h
  simp only [Bool.and_eq_true, List.all_eq_true, decide_eq_true_eq, Bool.not_eq_true'] at h
  obtain ⟨⟨⟨h1, h2⟩, h3⟩, h4⟩ := h
  refine ⟨blkOk_by h1, h2, fun y hy e => ?_, h4⟩
  have q := h3 y hy
  rw [e] at q
  exact absurd q (by simp)

/-- the reading, with the table's place -/
def tAllP (P : Addr) (wi : TI) (g : TG) (te : TE) (vs : List Nat) : TE := fun σ H Q => wi σ H fun J H1 => HTab H1 P ∧ ∃ W : Nat → Nat → Hp → Prop, (∃ m, W 0 m H1) ∧ ∀ i m H, W i m H →
  (J.stop i H ∧ Q (.bl true) H) ∨ (J.go i H ∧ ∃ Nx : Hp → Prop, (∀ H', Nx H' → ∃ m', m' < m ∧ W (i + 1) m' H') ∧ ∀ x H', J.yld i H x H' → g x (wipe σ vs) H' fun σ2 H2 => wipe σ2 vs = wipe σ vs ∧ te σ2 H2 fun y H3 =>
    ∃ b, y = .bl b ∧ if b = true then Nx H3 else Q (.bl false) H3)

section
variable {X : Cx}
/-- where the block's code runs -/
def gIn (A : Around) (elt tg iter : Expr) (scope : Scope) (gpos : Pos) (it : Addr) (cenv : Env) : Around := A.in1.in1.over (.compLoop (GE elt tg iter scope gpos) 0 (.ref it) .none cenv) []
theorem gIn_room {A : Around} {k : Nat} {elt tg iter : Expr} {scope : Scope} {gpos : Pos} {it : Addr} {cenv : Env} (r : Room (k + 1) A) : Room k (gIn A elt tg iter scope gpos it cenv) :=
  ⟨r.hd, by have := r.dp; show A.depth + 1 + 3 * k + 5 < _; omega, by have := r.un; show A.units + 1 + 1 + 3 + 16 * k + 200 < _; omega⟩
theorem gIn_frames {A : Around} {st : List Env} {elt tg iter : Expr} {scope : Scope} {gpos : Pos} {it : Addr} {cenv : Env} (h : A.frames = some st) : (gIn A elt tg iter scope gpos it cenv).frames = some (cenv :: st) := by
  show pushEnvs [cenv] A.frames = _
  rw [h]
  rfl

theorem pe_allG {c P : Addr} {elt tg iter : Expr} {p pos gpos : Pos} {scope : Scope} {own : List (Str × Nat)} {wi : TI} {g : TG} {te : TE} {k : Nat}
    (hr : Room (k + 1) X.A) (hc : X.calm = true) (hgl : Gl X "all") (hm : X.mg "all" = none) (TB : TabC X.base X.mg c P) (hcode : X.env.code = .ref c) (hN : X.N.Nodup) (S : GenC X.N X.env.scope scope own) (hi : PI X tg iter wi)
    (hg : ∀ (B : Around) (s : Shared) (H : Hp) (C : Addr) (cl : List (Str × Addr)) (code : Value) (fp : List Addr), PG (gblk X B s H (genEnv scope cl C code builtinsNs X.env) fp) tg g)
    (he : ∀ (B : Around) (s : Shared) (H : Hp) (C : Addr) (cl : List (Str × Addr)) (code : Value) (fp : List Addr), Room k B → PE (gblk X B s H (genEnv scope cl C code builtinsNs X.env) fp) elt te)
    (hs : ∀ v, genFold iter X.env v = pure v := by intro _; rfl)
    (hst : starEach [GE elt tg iter scope gpos] X.env = (false, eval (GE elt tg iter scope gpos) X.env) :: starEach [] X.env := by rfl) :
    PE X (.Call (.Name "all" p) [GE elt tg iter scope gpos] [] pos) (tAllP P wi g te (own.map (·.2))) := by
  refine ⟨fun pins s σ H Q I h => ?_⟩
  refine wpAny_Call_Name_kw (ld_blt I hgl hm (by decide +kernel : bootBuiltins "all" = some (.builtin "all")) ?_)
  refine PyProof.Rows.callWith_builtin1 ?_ hst (by rfl)
  rw [hst]
  show wpAny _ _ (spliced ((false, eval (GE elt tg iter scope gpos) X.env) :: backTo pos (starEach [] X.env))) _ _ s
  refine Calls.spliced_cons ?_
  have hfree : ∀ y ∈ scope.names, y.2 = .free → ∃ c, X.env.cells.lookup y.1 = some c := fun y hy e => by
    rcases S.blk.free y hy e with k | k
    · exact I.ok.has _ (.inl k)
    · exact I.ok.has _ (.inr k)
  refine wpAny_GeneratorExp_make S.co (closure_ok hfree) S.cell S.dot S.blk.kind hr.depth ?_ hs
  refine thn (hi.run pins s σ H _ I h) fun xv s1 hx => thn hx fun itv s2 h2 => ?_
  obtain ⟨it, fp, tn, J, H2, e, I2, T, st2, f2, hHP, W, ⟨m0, w0⟩, turn⟩ := h2
  subst e
  refine ⟨I2.nolimit, ?_⟩
  have fsz : ∀ b ∈ fp, b < s2.heap.objs.size := fun b hb => by
    obtain ⟨o, e, _⟩ := T.obj _ _ st2 b hb
    exact Heap.lt_size e
  have fnP : ∀ b ∈ fp, b ≠ P := fun b hb z => by
    have q := (f2 b hb).1
    rw [z, hHP] at q
    cases q
  obtain ⟨⟨ps, hps, htr⟩, _⟩ := I2.hok P _ hHP
  have cd : PySem.W.CodeHd s2.heap c P := TB.code.keeps I2.bk
  -- behind the making of the code object
  have cont : ∀ (code : Value) (h3 : Heap) (tk : Nat), (∀ b o, b ≠ P → s2.heap.get? b = some o → h3.get? b = some o) → s2.heap.objs.size ≤ h3.objs.size → TabF P h3 →
      wpAny (model X.prog X.w) X.A (builtinsFor X.env.globals X.env.builtins) (fun bi s₄ =>
        ∀ h', h'.Ns s₄.heap.objs.size (fun y => if y = ".0" then some (.ref it) else none) → Heap.SameBut s₄.heap.objs.size (s₄.heap.push { cls := .type "frame", data := .dict #[] }) h' →
          wpAny (model X.prog X.w) X.A (spliced (backTo pos (starEach [] X.env))) (fun us s5 => wpAny (model X.prog X.w) X.A (call (.builtin "all") (.ref h'.objs.size :: us)) (EP X pins σ Q) X.xe s5) X.xe
            { s₄ with gens := s₄.gens.push (.fresh (.compStart (GE elt tg iter scope gpos) 0 (.ref it) .none (genEnv scope (cloFrom X.env.cells scope.names []) s₄.heap.objs.size code bi X.env))), toks := s₄.toks + 1 + 1 + 1,
                      heap := h'.push { cls := .type "generator", data := .fields #[.int s₄.gens.size 0, .str "<genexpr>" (s₄.toks + 1), .str (X.env.qual ++ "<genexpr>") (s₄.toks + 1 + 1)] } }) X.xe { s2 with heap := h3, toks := tk } := by
    intro code h3 tk hk hsz hT
    have I3 : L2.Inv X pins σ H2 { s2 with heap := h3, toks := tk } := Inv_tab (g' := s2.gens) (d' := s2.drawn) I2 hHP hk hT I2.bare
    obtain ⟨bm, ob, e1, e2, e3, e4, e5, e6, e7, e8⟩ := TB.bm
    refine wpAny_builtinsFor (m := X.mg) (by rw [I.ok.glob]; exact I3.mod.glob.keeps I3.bk) e1 e2 (I3.bk _ _ e5) e6 e7 e8 ?_
    intro h' hn' hs'
    refine Calls.spliced_nil ?_
    have hh3 : h3.objs.size = ({ s2 with heap := h3, toks := tk } : Shared).heap.objs.size := rfl
    have f3 : ∀ b ∈ fp, FpOk X pins H2 b ∧ b < ({ s2 with heap := h3, toks := tk } : Shared).heap.objs.size := fun b hb => ⟨f2 b hb, Nat.lt_of_lt_of_le (fsz b hb) hsz⟩
    have hsz' : h'.objs.size = h3.objs.size + 1 := by rw [hs'.1, Heap.size_push]
    have kp5 : ∀ gob b o, h3.get? b = some o → (h'.push gob).get? b = some o := fun gob b o e =>
      Heap.get?_push_of_some _ (hs'.extBut b o (Nat.ne_of_lt (Heap.lt_size e)) (Heap.get?_push_of_some _ e))
    generalize hce : genEnv scope (cloFrom X.env.cells scope.names []) h3.objs.size code builtinsNs X.env = cenv
    generalize hB : gIn X.A elt tg iter scope gpos it cenv = B
    have rB : Room k B := by rw [← hB]; exact gIn_room hr
    have fB : B.frames = some (genEnv scope (cloFrom X.env.cells scope.names []) h3.objs.size code builtinsNs X.env :: X.stack) := by
      rw [hce, ← hB]
      exact gIn_frames I.ok.frames
    have I5 := gblk_start (B := B) (code := code) (it := .ref it) (gob := { cls := .type "generator", data := .fields #[.int s2.gens.size 0, .str "<genexpr>" (tk + 1), .str (X.env.qual ++ "<genexpr>") (tk + 1 + 1)] }) (h' := h')
      (G := s2.gens.push (.fresh (.compStart (GE elt tg iter scope gpos) 0 (.ref it) .none cenv))) (tk := tk + 1 + 1 + 1)
      I3 S.blk hN f3 S.cell rB.hd fB hn' hs' (I2.bare.push rfl) (fun v z => by cases z) rfl
    have pg := hg B { s2 with heap := h3, toks := tk } H2 h3.objs.size (cloFrom X.env.cells scope.names []) code fp
    have pe := he B { s2 with heap := h3, toks := tk } H2 h3.objs.size (cloFrom X.env.cells scope.names []) code fp rB
    have st5 : tn 0 (h'.push { cls := .type "generator", data := .fields #[.int s2.gens.size 0, .str "<genexpr>" (tk + 1), .str (X.env.qual ++ "<genexpr>") (tk + 1 + 1)] }) := T.keep _ _ _ st2 fun b hb o e => kp5 _ b o (hk b o (fnP b hb) e)
    have eco : cenv.scope.isCoroutine = false := by rw [← hce]; exact S.co
    have gP : ∀ p ∈ [(h'.objs.size, ({ cls := .type "generator", data := .fields #[.int s2.gens.size 0, .str "<genexpr>" (tk + 1), .str (X.env.qual ++ "<genexpr>") (tk + 1 + 1)] } : Obj))], ∀ b ∈ fp, p.1 ≠ b := fun p hp b hb z => by
      rw [List.mem_singleton.mp hp] at z
      have z : h'.objs.size = b := z
      have h1 := (f3 b hb).2
      rw [← z, hsz'] at h1
      exact absurd h1 (Nat.not_lt.mpr (Nat.le_succ _))
    rw [show genEnv scope (cloFrom X.env.cells scope.names []) ({ s2 with heap := h3, toks := tk } : Shared).heap.objs.size code builtinsNs X.env = cenv from hce] at I5
    rw [hce] at pg pe
    have loop := fun n i m H s₀ s => seg_turns (X := gblk X B { s2 with heap := h3, toks := tk } H2 cenv fp) (A := X.A.in1.in1) (gpos := gpos) (iter := iter) (Q := Q) hB.symm hc rfl rfl rfl T pg pe eco gP turn n i m H s₀ s
    generalize hgo : ({ cls := .type "generator", data := .fields #[.int s2.gens.size 0, .str "<genexpr>" (tk + 1), .str (X.env.qual ++ "<genexpr>") (tk + 1 + 1)] } : Obj) = gob at I5 st5 gP loop
    have go : ∀ s', Rests { s2 with gens := s2.gens.push (.fresh (.compStart (GE elt tg iter scope gpos) 0 (.ref it) .none cenv)), toks := tk + 1 + 1 + 1, heap := h'.push gob } s' →
        GenState.Goes (model X.prog X.w) X.A.in1.in1 (fun n s₀ r s₁ => r = .ok .next ∧ RAll (gblk X B { s2 with heap := h3, toks := tk } H2 cenv fp) [(h'.objs.size, gob)] (wipe σ (own.map (·.2))) Q n s₀ s₁)
          (YAll (gblk X B { s2 with heap := h3, toks := tk } H2 cenv fp) [(h'.objs.size, gob)] (wipe σ (own.map (·.2))) Q) (m0 + 1) (.fresh (.compStart (GE elt tg iter scope gpos) 0 (.ref it) .none cenv)) (.send .none) s' := by
      intro s' rs
      refine ⟨rfl, ?_⟩
      have lp := loop (m0 + 1) 0 m0 H2 s' s' (Nat.lt_succ_self _) (Inv.rests I5 rs) (by rw [rs.heap]; exact st5) (fun b hb => (f2 b hb).1) w0
      show Seg _ X.A.in1.in1 _ _ _ s' _ ((compStart (GE elt tg iter scope gpos) 0 (.ref it) .none cenv).onRaise (leaving cenv)) [] s'
      unfold compStart
      rw [Sem.onRaise_eq_wrap]
      show Seg _ X.A.in1.in1 _ _ _ s' _ ((ask >>= _).wrap _ _ _ _) [] s'
      refine seg_bind_wrap (wpAny_askSetting ?_)
      split
      · exact seg_again rfl lp
      · first
          | exact seg_bind_wrap (wpAny_rule (seg_bind_wrap (wpAny_standAt (seg_bind_wrap (T.self _ 0 s' _ _ (by rw [rs.heap]; exact st5) (seg_again rfl lp))))))
          | (refine seg_bind_wrap (wpAny_rule ?_); show Seg _ X.A.in1.in1 _ _ _ s' _ ((standAt iter.pos >>= _).wrap _ _ _ _) [] s'; exact seg_bind_wrap (wpAny_standAt (seg_bind_wrap (T.self _ 0 s' _ _ (by rw [rs.heap]; exact st5) (seg_again rfl lp)))))
    refine call_function_tree PySem.F.kind_all PySem.F.plain_all PySem.F.entry_all (PySem.F.args_all1 _) ?_
    unfold Builtin.«all»
    refine wpAny_bind (m := oneArg "all" _) (wpAny_pure ?_)
    have isg : (h'.push gob).IsGen h'.objs.size s2.gens.size := by
      rw [← hgo]
      exact ⟨_, _, _, Heap.get?_push_size _ rfl, rfl, rfl, rfl⟩
    refine wpAny_bind (wpAny_pyIter_gen isg ?_)
    refine wpAny_pure ⟨plainId_quiet PySem.F.plain_all_loop _, ?_⟩
    refine all_turns (X := gblk X B { s2 with heap := h3, toks := tk } H2 cenv fp) (B := X.A) (Q := Q) (gob := gob) (g := s2.gens.size) hr.hd hr.depth (List.mem_singleton.mpr rfl) (by rw [← hgo]; exact ⟨rfl, _, _, rfl⟩) (fun b H7 s7 I7 q7 => ?_) (m0 + 1) H2 _ _ I5 (Array.getElem?_push_size ..) go
    refine ⟨.bl b, H7, ?_, rfl, q7⟩
    exact I3.call' (ch := fp) I7.os I7.base I7.hok I7.bare fun b hb => ⟨(f3 b hb).1.2.2.2.1, (f3 b hb).1.2.1, (f3 b hb).1.2.2.2.2.1, (f3 b hb).1.2.2.2.2.2⟩
  cases hf : codeAmong gpos ps.toList with
  | none =>
    refine wpAny_genexprCodeX hcode (cd.code hps htr) (cd.tab hps) hf fun c' h' tk hx hge hlt hco' _ htab' _ => ?_
    obtain ⟨o1, vs, f1, tf, fl, tg', inF, tx, tt, op, _, _, _, _, _, _, _, _, _, htr', _⟩ := hco'
    exact cont _ h' tk (fun b o hb e => hx b o hb e) (Nat.le_trans hge (Nat.le_of_lt hlt)) ⟨_, htab'.2, htr'⟩
  | some cv =>
    refine wpAny_genexprCode_hit hcode (cd.code hps htr) hf ?_
    exact cont cv s2.heap s2.toks (fun _ _ _ e => e) (Nat.le_refl _) ⟨ps, hps, htr⟩
end
end K24
set_option Elab.async false
set_option maxRecDepth 100000
/-! The text by places. -/
namespace K24
open PySem L2
def top (i : Nat) : Stmt := PySem.Challenge.pw_onewatcher_k24_whole_runs_by_papers.main.body.getD i (.Pass ⟨0, 0, 0, 0⟩)
abbrev s_is_number : Stmt := top 11
abbrev s_is_word : Stmt := top 12
abbrev s_is_label : Stmt := top 13
abbrev s_is_parts : Stmt := top 14
abbrev s_Notary_init : Stmt := inClass (top 15) 0
abbrev s_Notary_seal : Stmt := inClass (top 15) 1
abbrev s_Notary_find : Stmt := inClass (top 15) 2
abbrev s_is_register : Stmt := top 28
abbrev s_is_place : Stmt := top 29
abbrev s_operand_kinds : Stmt := top 30
abbrev s_is_operand : Stmt := top 31
abbrev s_is_instruction : Stmt := top 32
abbrev s_is_program : Stmt := top 33
abbrev s_are_words : Stmt := top 34
abbrev s_is_input : Stmt := top 35
abbrev s_is_state : Stmt := top 36
abbrev s_first_state : Stmt := top 37
abbrev s_with_register : Stmt := top 38
abbrev s_with_place : Stmt := top 39
abbrev s_with_status : Stmt := top 40
abbrev s_computed : Stmt := top 41
abbrev s_step_memory : Stmt := top 42
abbrev s_step_input : Stmt := top 43
abbrev s_step_code : Stmt := top 44
abbrev s_step : Stmt := top 45
abbrev s_height_of : Stmt := top 48
abbrev s_leaf_count : Stmt := top 49
abbrev s_rows_of : Stmt := top 50
abbrev s_path_in : Stmt := top 51
abbrev s_root_of : Stmt := top 52
abbrev s_path_of : Stmt := top 53
abbrev s_root_by : Stmt := top 54
abbrev s_WordTree_init : Stmt := inClass (top 55) 0
abbrev s_WordTree_check : Stmt := inClass (top 55) 1
abbrev s_WordTree_set_word : Stmt := inClass (top 55) 3
abbrev s_WordTree_path : Stmt := inClass (top 55) 4
abbrev s_WordTree_root : Stmt := inClass (top 55) 5
abbrev s_WordTree_copy : Stmt := inClass (top 55) 6
abbrev s_word_leaves : Stmt := top 60
abbrev s_code_at : Stmt := top 61
abbrev s_code_leaves : Stmt := top 62
abbrev s_memory_root : Stmt := top 63
abbrev s_written_chain : Stmt := top 64
abbrev s_program_root : Stmt := top 65
abbrev s_input_root : Stmt := top 66
abbrev s_fields_of : Stmt := top 67
abbrev s_state_seal : Stmt := top 68
abbrev s_check_all : Stmt := top 69
abbrev s_question : Stmt := top 70
abbrev s_Run_init : Stmt := inClass (top 72) 0
abbrev s_Run_follow : Stmt := inClass (top 72) 1
abbrev s_Run_question : Stmt := inClass (top 72) 2
abbrev s_Run_program : Stmt := inClass (top 72) 3
abbrev s_Run_words : Stmt := inClass (top 72) 4
abbrev s_Run_start : Stmt := inClass (top 72) 5
abbrev s_Run_seals : Stmt := inClass (top 72) 6
abbrev s_Run_state_at : Stmt := inClass (top 72) 7
abbrev s_code_path : Stmt := top 73
abbrev s_word_path : Stmt := top 74
abbrev s_make_paper : Stmt := top 76
abbrev s_are_fields : Stmt := top 77
abbrev s_is_path : Stmt := top 78
abbrev s_is_state_row : Stmt := top 79
abbrev s_looked_at : Stmt := top 80
abbrev s_has_form : Stmt := top 81
abbrev s_leads : Stmt := top 82
abbrev s_shows_tree : Stmt := top 83
abbrev s_small_step : Stmt := top 84
abbrev s_fields_behind : Stmt := top 85
abbrev s_check_paper : Stmt := top 86
abbrev s_law_same : Stmt := top 88
abbrev s_law_box : Stmt := top 89
abbrev s_law_load : Stmt := top 90
abbrev s_law_draw : Stmt := top 91
abbrev s_law_word : Stmt := top 92
abbrev s_law_code : Stmt := top 93
abbrev s_law_program : Stmt := top 94
abbrev s_law_input : Stmt := top 95
abbrev s_law_state : Stmt := top 96
abbrev s_law : Stmt := top 97
end K24
set_option Elab.async false
set_option linter.all false
set_option maxRecDepth 100000
set_option maxHeartbeats 0
/-! The head: what the top leaves. -/
namespace K24
open PySem PySem.Spec PyProof.Rows L2
def dd_is_number : He.DefD := ⟨("is_number", none), "is_number", "is_number", defArgs s_is_number, defBody s_is_number, defScope s_is_number, [], []⟩
def dd_is_word : He.DefD := ⟨("is_word", none), "is_word", "is_word", defArgs s_is_word, defBody s_is_word, defScope s_is_word, [], []⟩
def dd_is_label : He.DefD := ⟨("is_label", none), "is_label", "is_label", defArgs s_is_label, defBody s_is_label, defScope s_is_label, [], []⟩
def dd_is_parts : He.DefD := ⟨("is_parts", none), "is_parts", "is_parts", defArgs s_is_parts, defBody s_is_parts, defScope s_is_parts, [], []⟩
def dd_Notary_init : He.DefD := ⟨("Notary", some "__init__"), "__init__", "Notary.__init__", defArgs s_Notary_init, defBody s_Notary_init, defScope s_Notary_init, [], []⟩
def dd_Notary_seal : He.DefD := ⟨("Notary", some "seal"), "seal", "Notary.seal", defArgs s_Notary_seal, defBody s_Notary_seal, defScope s_Notary_seal, [], []⟩
def dd_Notary_find : He.DefD := ⟨("Notary", some "find"), "find", "Notary.find", defArgs s_Notary_find, defBody s_Notary_find, defScope s_Notary_find, [], []⟩
def dd_is_register : He.DefD := ⟨("is_register", none), "is_register", "is_register", defArgs s_is_register, defBody s_is_register, defScope s_is_register, [], []⟩
def dd_is_place : He.DefD := ⟨("is_place", none), "is_place", "is_place", defArgs s_is_place, defBody s_is_place, defScope s_is_place, [], []⟩
def dd_operand_kinds : He.DefD := ⟨("operand_kinds", none), "operand_kinds", "operand_kinds", defArgs s_operand_kinds, defBody s_operand_kinds, defScope s_operand_kinds, [], []⟩
def dd_is_operand : He.DefD := ⟨("is_operand", none), "is_operand", "is_operand", defArgs s_is_operand, defBody s_is_operand, defScope s_is_operand, [], []⟩
def dd_is_instruction : He.DefD := ⟨("is_instruction", none), "is_instruction", "is_instruction", defArgs s_is_instruction, defBody s_is_instruction, defScope s_is_instruction, [], []⟩
def dd_is_program : He.DefD := ⟨("is_program", none), "is_program", "is_program", defArgs s_is_program, defBody s_is_program, defScope s_is_program, [], []⟩
def dd_are_words : He.DefD := ⟨("are_words", none), "are_words", "are_words", defArgs s_are_words, defBody s_are_words, defScope s_are_words, [], []⟩
def dd_is_input : He.DefD := ⟨("is_input", none), "is_input", "is_input", defArgs s_is_input, defBody s_is_input, defScope s_is_input, [], []⟩
def dd_is_state : He.DefD := ⟨("is_state", none), "is_state", "is_state", defArgs s_is_state, defBody s_is_state, defScope s_is_state, [], []⟩
def dd_first_state : He.DefD := ⟨("first_state", none), "first_state", "first_state", defArgs s_first_state, defBody s_first_state, defScope s_first_state, [], []⟩
def dd_with_register : He.DefD := ⟨("with_register", none), "with_register", "with_register", defArgs s_with_register, defBody s_with_register, defScope s_with_register, [], []⟩
def dd_with_place : He.DefD := ⟨("with_place", none), "with_place", "with_place", defArgs s_with_place, defBody s_with_place, defScope s_with_place, [], []⟩
def dd_with_status : He.DefD := ⟨("with_status", none), "with_status", "with_status", defArgs s_with_status, defBody s_with_status, defScope s_with_status, [], []⟩
def dd_computed : He.DefD := ⟨("computed", none), "computed", "computed", defArgs s_computed, defBody s_computed, defScope s_computed, [], []⟩
def dd_step_memory : He.DefD := ⟨("step_memory", none), "step_memory", "step_memory", defArgs s_step_memory, defBody s_step_memory, defScope s_step_memory, [], []⟩
def dd_step_input : He.DefD := ⟨("step_input", none), "step_input", "step_input", defArgs s_step_input, defBody s_step_input, defScope s_step_input, [], []⟩
def dd_step_code : He.DefD := ⟨("step_code", none), "step_code", "step_code", defArgs s_step_code, defBody s_step_code, defScope s_step_code, [], []⟩
def dd_step : He.DefD := ⟨("step", none), "step", "step", defArgs s_step, defBody s_step, defScope s_step, [], []⟩
def dd_height_of : He.DefD := ⟨("height_of", none), "height_of", "height_of", defArgs s_height_of, defBody s_height_of, defScope s_height_of, [], []⟩
def dd_leaf_count : He.DefD := ⟨("leaf_count", none), "leaf_count", "leaf_count", defArgs s_leaf_count, defBody s_leaf_count, defScope s_leaf_count, [], []⟩
def dd_rows_of : He.DefD := ⟨("rows_of", none), "rows_of", "rows_of", defArgs s_rows_of, defBody s_rows_of, defScope s_rows_of, [], []⟩
def dd_path_in : He.DefD := ⟨("path_in", none), "path_in", "path_in", defArgs s_path_in, defBody s_path_in, defScope s_path_in, [], []⟩
def dd_root_of : He.DefD := ⟨("root_of", none), "root_of", "root_of", defArgs s_root_of, defBody s_root_of, defScope s_root_of, [], []⟩
def dd_path_of : He.DefD := ⟨("path_of", none), "path_of", "path_of", defArgs s_path_of, defBody s_path_of, defScope s_path_of, [], []⟩
def dd_root_by : He.DefD := ⟨("root_by", none), "root_by", "root_by", defArgs s_root_by, defBody s_root_by, defScope s_root_by, [], []⟩
def dd_WordTree_init : He.DefD := ⟨("WordTree", some "__init__"), "__init__", "WordTree.__init__", defArgs s_WordTree_init, defBody s_WordTree_init, defScope s_WordTree_init, [], []⟩
def dd_WordTree_check : He.DefD := ⟨("WordTree", some "check"), "check", "WordTree.check", defArgs s_WordTree_check, defBody s_WordTree_check, defScope s_WordTree_check, [], []⟩
def dd_WordTree_set_word : He.DefD := ⟨("WordTree", some "set_word"), "set_word", "WordTree.set_word", defArgs s_WordTree_set_word, defBody s_WordTree_set_word, defScope s_WordTree_set_word, [], []⟩
def dd_WordTree_path : He.DefD := ⟨("WordTree", some "path"), "path", "WordTree.path", defArgs s_WordTree_path, defBody s_WordTree_path, defScope s_WordTree_path, [], []⟩
def dd_WordTree_root : He.DefD := ⟨("WordTree", some "root"), "root", "WordTree.root", defArgs s_WordTree_root, defBody s_WordTree_root, defScope s_WordTree_root, [], []⟩
def dd_WordTree_copy : He.DefD := ⟨("WordTree", some "copy"), "copy", "WordTree.copy", defArgs s_WordTree_copy, defBody s_WordTree_copy, defScope s_WordTree_copy, [], []⟩
def dd_word_leaves : He.DefD := ⟨("word_leaves", none), "word_leaves", "word_leaves", defArgs s_word_leaves, defBody s_word_leaves, defScope s_word_leaves, [], []⟩
def dd_code_at : He.DefD := ⟨("code_at", none), "code_at", "code_at", defArgs s_code_at, defBody s_code_at, defScope s_code_at, [], []⟩
def dd_code_leaves : He.DefD := ⟨("code_leaves", none), "code_leaves", "code_leaves", defArgs s_code_leaves, defBody s_code_leaves, defScope s_code_leaves, [], []⟩
def dd_memory_root : He.DefD := ⟨("memory_root", none), "memory_root", "memory_root", defArgs s_memory_root, defBody s_memory_root, defScope s_memory_root, [], []⟩
def dd_written_chain : He.DefD := ⟨("written_chain", none), "written_chain", "written_chain", defArgs s_written_chain, defBody s_written_chain, defScope s_written_chain, [], []⟩
def dd_program_root : He.DefD := ⟨("program_root", none), "program_root", "program_root", defArgs s_program_root, defBody s_program_root, defScope s_program_root, [], []⟩
def dd_input_root : He.DefD := ⟨("input_root", none), "input_root", "input_root", defArgs s_input_root, defBody s_input_root, defScope s_input_root, [], []⟩
def dd_fields_of : He.DefD := ⟨("fields_of", none), "fields_of", "fields_of", defArgs s_fields_of, defBody s_fields_of, defScope s_fields_of, [], []⟩
def dd_state_seal : He.DefD := ⟨("state_seal", none), "state_seal", "state_seal", defArgs s_state_seal, defBody s_state_seal, defScope s_state_seal, [], []⟩
def dd_check_all : He.DefD := ⟨("check_all", none), "check_all", "check_all", defArgs s_check_all, defBody s_check_all, defScope s_check_all, [], []⟩
def dd_question : He.DefD := ⟨("question", none), "question", "question", defArgs s_question, defBody s_question, defScope s_question, [], []⟩
def dd_Run_init : He.DefD := ⟨("Run", some "__init__"), "__init__", "Run.__init__", defArgs s_Run_init, defBody s_Run_init, defScope s_Run_init, [], []⟩
def dd_Run_follow : He.DefD := ⟨("Run", some "follow"), "follow", "Run.follow", defArgs s_Run_follow, defBody s_Run_follow, defScope s_Run_follow, [], []⟩
def dd_Run_question : He.DefD := ⟨("Run", some "question"), "question", "Run.question", defArgs s_Run_question, defBody s_Run_question, defScope s_Run_question, [], []⟩
def dd_Run_program : He.DefD := ⟨("Run", some "program"), "program", "Run.program", defArgs s_Run_program, defBody s_Run_program, defScope s_Run_program, [], []⟩
def dd_Run_words : He.DefD := ⟨("Run", some "words"), "words", "Run.words", defArgs s_Run_words, defBody s_Run_words, defScope s_Run_words, [], []⟩
def dd_Run_start : He.DefD := ⟨("Run", some "start"), "start", "Run.start", defArgs s_Run_start, defBody s_Run_start, defScope s_Run_start, [], []⟩
def dd_Run_seals : He.DefD := ⟨("Run", some "seals"), "seals", "Run.seals", defArgs s_Run_seals, defBody s_Run_seals, defScope s_Run_seals, [], []⟩
def dd_Run_state_at : He.DefD := ⟨("Run", some "state_at"), "state_at", "Run.state_at", defArgs s_Run_state_at, defBody s_Run_state_at, defScope s_Run_state_at, [], []⟩
def dd_code_path : He.DefD := ⟨("code_path", none), "code_path", "code_path", defArgs s_code_path, defBody s_code_path, defScope s_code_path, [], []⟩
def dd_word_path : He.DefD := ⟨("word_path", none), "word_path", "word_path", defArgs s_word_path, defBody s_word_path, defScope s_word_path, [], []⟩
def dd_make_paper : He.DefD := ⟨("make_paper", none), "make_paper", "make_paper", defArgs s_make_paper, defBody s_make_paper, defScope s_make_paper, [], []⟩
def dd_are_fields : He.DefD := ⟨("are_fields", none), "are_fields", "are_fields", defArgs s_are_fields, defBody s_are_fields, defScope s_are_fields, [], []⟩
def dd_is_path : He.DefD := ⟨("is_path", none), "is_path", "is_path", defArgs s_is_path, defBody s_is_path, defScope s_is_path, [], []⟩
def dd_is_state_row : He.DefD := ⟨("is_state_row", none), "is_state_row", "is_state_row", defArgs s_is_state_row, defBody s_is_state_row, defScope s_is_state_row, [], []⟩
def dd_looked_at : He.DefD := ⟨("looked_at", none), "looked_at", "looked_at", defArgs s_looked_at, defBody s_looked_at, defScope s_looked_at, [], []⟩
def dd_has_form : He.DefD := ⟨("has_form", none), "has_form", "has_form", defArgs s_has_form, defBody s_has_form, defScope s_has_form, [], []⟩
def dd_leads : He.DefD := ⟨("leads", none), "leads", "leads", defArgs s_leads, defBody s_leads, defScope s_leads, [], []⟩
def dd_shows_tree : He.DefD := ⟨("shows_tree", none), "shows_tree", "shows_tree", defArgs s_shows_tree, defBody s_shows_tree, defScope s_shows_tree, [], []⟩
def dd_small_step : He.DefD := ⟨("small_step", none), "small_step", "small_step", defArgs s_small_step, defBody s_small_step, defScope s_small_step, [], []⟩
def dd_fields_behind : He.DefD := ⟨("fields_behind", none), "fields_behind", "fields_behind", defArgs s_fields_behind, defBody s_fields_behind, defScope s_fields_behind, [], []⟩
def dd_check_paper : He.DefD := ⟨("check_paper", none), "check_paper", "check_paper", defArgs s_check_paper, defBody s_check_paper, defScope s_check_paper, [], []⟩
def dd_law_same : He.DefD := ⟨("_law_same", none), "_law_same", "_law_same", defArgs s_law_same, defBody s_law_same, defScope s_law_same, [], []⟩
def dd_law_box : He.DefD := ⟨("_law_box", none), "_law_box", "_law_box", defArgs s_law_box, defBody s_law_box, defScope s_law_box, [], []⟩
def dd_law_load : He.DefD := ⟨("_law_load", none), "_law_load", "_law_load", defArgs s_law_load, defBody s_law_load, defScope s_law_load, [], []⟩
def dd_law_draw : He.DefD := ⟨("_law_draw", none), "_law_draw", "_law_draw", defArgs s_law_draw, defBody s_law_draw, defScope s_law_draw, [], []⟩
def dd_law_word : He.DefD := ⟨("_law_word", none), "_law_word", "_law_word", defArgs s_law_word, defBody s_law_word, defScope s_law_word, [], []⟩
def dd_law_code : He.DefD := ⟨("_law_code", none), "_law_code", "_law_code", defArgs s_law_code, defBody s_law_code, defScope s_law_code, [], []⟩
def dd_law_program : He.DefD := ⟨("_law_program", none), "_law_program", "_law_program", defArgs s_law_program, defBody s_law_program, defScope s_law_program, [], []⟩
def dd_law_input : He.DefD := ⟨("_law_input", none), "_law_input", "_law_input", defArgs s_law_input, defBody s_law_input, defScope s_law_input, [], []⟩
def dd_law_state : He.DefD := ⟨("_law_state", none), "_law_state", "_law_state", defArgs s_law_state, defBody s_law_state, defScope s_law_state, [], []⟩
def dd_law : He.DefD := ⟨("law", none), "law", "law", defArgs s_law, defBody s_law, defScope s_law, [], []⟩
def dd_question_states : He.DefD := ⟨("question_states", none), "question", "question", defArgs s_question, defBody s_question, defScope s_question, [], []⟩
def fnl0 : List He.DefD := [dd_is_number, dd_is_word, dd_is_label, dd_is_parts, dd_Notary_init, dd_Notary_seal, dd_Notary_find, dd_is_register, dd_is_place, dd_operand_kinds, dd_is_operand, dd_is_instruction, dd_is_program, dd_are_words, dd_is_input, dd_is_state, dd_first_state, dd_with_register, dd_with_place, dd_with_status, dd_computed, dd_step_memory, dd_step_input, dd_step_code, dd_step, dd_height_of, dd_leaf_count, dd_rows_of, dd_path_in, dd_root_of]
def fnl1 : List He.DefD := [dd_path_of, dd_root_by, dd_WordTree_init, dd_WordTree_check, dd_WordTree_set_word, dd_WordTree_path, dd_WordTree_root, dd_WordTree_copy, dd_word_leaves, dd_code_at, dd_code_leaves, dd_memory_root, dd_written_chain, dd_program_root, dd_input_root, dd_fields_of, dd_state_seal, dd_check_all, dd_question, dd_Run_init, dd_Run_follow, dd_Run_question, dd_Run_program, dd_Run_words, dd_Run_start, dd_Run_seals, dd_Run_state_at, dd_code_path, dd_word_path, dd_make_paper]
def fnl2 : List He.DefD := [dd_are_fields, dd_is_path, dd_is_state_row, dd_looked_at, dd_has_form, dd_leads, dd_shows_tree, dd_small_step, dd_fields_behind, dd_check_paper, dd_law_same, dd_law_box, dd_law_load, dd_law_draw, dd_law_word, dd_law_code, dd_law_program, dd_law_input, dd_law_state, dd_law, dd_question_states]
def fnl : List He.DefD := fnl0 ++ (fnl1 ++ (fnl2))
def fal0 : List He.Fa := [.glo "is_number", .glo "is_word", .glo "is_label", .glo "is_parts", .meth "Notary" "seal", .meth "Notary" "find", .glo "is_register", .glo "is_place", .glo "operand_kinds", .glo "is_operand", .glo "is_instruction", .glo "is_program", .glo "are_words", .glo "is_input", .glo "is_state", .glo "first_state", .glo "with_register", .glo "with_place", .glo "with_status", .glo "computed", .glo "step_memory", .glo "step_input", .glo "step_code", .glo "step", .glo "height_of", .glo "leaf_count", .glo "rows_of", .glo "path_in", .glo "root_of", .glo "path_of"]
def fal1 : List He.Fa := [.glo "root_by", .meth "WordTree" "check", .meth "WordTree" "set_word", .meth "WordTree" "path", .meth "WordTree" "root", .meth "WordTree" "copy", .glo "word_leaves", .glo "code_at", .glo "code_leaves", .glo "memory_root", .glo "written_chain", .glo "program_root", .glo "input_root", .glo "fields_of", .glo "state_seal", .glo "check_all", .glo "question", .meth "Run" "follow", .meth "Run" "question", .meth "Run" "program", .meth "Run" "words", .meth "Run" "start", .meth "Run" "seals", .meth "Run" "state_at", .glo "code_path", .glo "word_path", .glo "make_paper", .glo "are_fields", .glo "is_path", .glo "is_state_row"]
def fal2 : List He.Fa := [.glo "looked_at", .glo "has_form", .glo "leads", .glo "shows_tree", .glo "small_step", .glo "fields_behind", .glo "check_paper", .glo "_law_same", .glo "_law_box", .glo "_law_load", .glo "_law_draw", .glo "_law_word", .glo "_law_code", .glo "_law_program", .glo "_law_input", .glo "_law_state", .glo "law", .glo "question_states", .glo "Notary", .cls "Notary", .mkr "Notary", .noat "Notary" "numbers", .noat "Notary" "tuples", .noat "Notary" "asked", .glo "WordTree", .cls "WordTree", .mkr "WordTree", .noat "WordTree" "notary", .noat "WordTree" "words", .noat "WordTree" "rows"]
def fal3 : List He.Fa := [.glo "Run", .cls "Run", .mkr "Run", .noat "Run" "notary", .noat "Run" "code", .noat "Run" "given", .noat "Run" "asked", .noat "Run" "states", .noat "Run" "named", .int "WORD" 4294967296, .int "MAX_PART" 281474976710656, .int "MAX_TEXT" 24, .int "MOST_PARTS" 16, .int "MEMORY" 64, .int "MAX_PROGRAM" 64, .int "MAX_INPUT" 64, .int "MAX_WRITTEN" 2048, .int "RUNS" 0, .int "STOPPED" 1, .int "FAULT" 2, .int "MAX_HEIGHT" 10, .int "TREE_HEIGHT" 6, .int "MAX_LEVEL" 10, .glo "NAMES", .glo "THREE", .glo "TWO", .glo "ONE", .glo "STATE", .free "isinstance", .free "len"]
def fal4 : List He.Fa := [.free "all", .free "range", .free "int", .free "str", .free "tuple", .free "list", .free "bool"]
def fal : List He.Fa := fal0 ++ (fal1 ++ (fal2 ++ (fal3 ++ (fal4))))
def loose0 : List PySem.Str := ["_wall", "WatchError", "BadParts", "OutOfTree", "BadState", "WORD", "MAX_PART", "MAX_TEXT", "MOST_PARTS", "is_number", "is_word", "is_label", "is_parts", "Notary", "MEMORY", "MAX_PROGRAM", "MAX_INPUT", "MAX_WRITTEN", "RUNS", "STOPPED", "FAULT", "NAMES", "THREE", "TWO", "ONE", "is_register", "is_place", "operand_kinds", "is_operand", "is_instruction"]
def loose1 : List PySem.Str := ["is_program", "are_words", "is_input", "is_state", "first_state", "with_register", "with_place", "with_status", "computed", "step_memory", "step_input", "step_code", "step", "MAX_HEIGHT", "height_of", "leaf_count", "rows_of", "path_in", "root_of", "path_of", "root_by", "WordTree", "TREE_HEIGHT", "MAX_LEVEL", "STATE", "word_leaves", "code_at", "code_leaves", "memory_root", "written_chain"]
def loose2 : List PySem.Str := ["program_root", "input_root", "fields_of", "state_seal", "check_all", "question", "question_states", "Run", "code_path", "word_path", "make_paper", "are_fields", "is_path", "is_state_row", "looked_at", "has_form", "leads", "shows_tree", "small_step", "fields_behind", "check_paper", "_law_same", "_law_box", "_law_load", "_law_draw", "_law_word", "_law_code", "_law_program", "_law_input", "_law_state"]
def loose : List PySem.Str := loose0 ++ (loose1 ++ (loose2))
def tfl : List He.Defn := [("is_label", none), ("is_parts", none), ("is_instruction", none), ("is_program", none), ("are_words", none), ("are_fields", none), ("is_path", none), ("is_state_row", none)]
def tupl (x : Str) (vs : List Str) (K : PySem.W.Frag) : Bool := He.tupB K x (vs.map He.Dv.str)
def exl (K : PySem.W.Frag) : Bool := tupl "NAMES" ["set", "copy", "add", "sub", "mul", "div", "mod", "less", "same", "load", "store", "jump", "zero", "read", "left", "write", "stop"] K && (tupl "THREE" ["add", "sub", "mul", "div", "mod", "less", "same"] K && (tupl "TWO" ["copy", "load", "store"] K && (tupl "ONE" ["read", "left", "write"] K && (tupl "STATE" ["state"] K))))
abbrev rowR : PySem.W.OpenRow := PySem.W.OpenLaw.row PySem.Challenge.rw_onewatcher_k24_whole_runs_by_papers
/-! own hook: HeadHook4's, over a short list of addresses -/
def valsM (g : Addr → Option Obj) (a : Addr) : List Addr := match g a with
  | some ⟨_, _, .dict es _, _⟩ => es.toList.flatMap fun e => He.refV e.val
  | _ => []
def clsM (g : Addr → Option Obj) (a : Addr) : List Addr := match g a with
  | some ⟨_, _, .cls cd, _⟩ => cd.ns :: (valsM g cd.ns ++ cd.mro.flatMap He.refV)
  | _ => []
def fnM (g : Addr → Option Obj) (a : Addr) : List Addr := match g a with
  | some ⟨_, _, .func fd, _⟩ => a :: He.refV fd.code
  | some ⟨_, _, .cls _, _⟩ => [a]
  | some ⟨_, _, .seq _ _, _⟩ => [a]
  | some ⟨_, _, .dict _ _, _⟩ => [a]
  | _ => []
def asM (g : Addr → Option Obj) : List Addr := mainGlobals :: ((valsM g mainGlobals ++ (valsM g mainGlobals).flatMap (clsM g)).flatMap (fnM g))
/-- what the hook looks at: HeadHook4's, over that list -/
def frM (g : Addr → Option Obj) : PySem.W.Frag := He.frT g (asM g)
def obsM (g : Addr → Option Obj) : He.AlX := (He.obsT fal fnl [] (frM g), exl (frM g) && He.tabsB g tfl (frM g))
/-- a table that is told empty -/
theorem tab_told {g : Addr → Option Obj} (t : He.tabsB g tfl (frM g) = true) {x : He.Defn} (hx : x ∈ tfl) : PySem.W.codeHdIn (frM g) (He.cT (frM g) x).1 (He.cT (frM g) x).2 = true ∧ ∃ u, g (He.cT (frM g) x).2 = some u ∧ He.emptyTab u = true := by
  have one := List.all_eq_true.mp t x hx
  rw [Bool.and_eq_true] at one
  refine ⟨one.1, ?_⟩
  have two := one.2
  revert two
  cases g (He.cT (frM g) x).2 with
  | none => exact fun z => nomatch z
  | some u => exact fun z => ⟨u, rfl, z⟩
theorem told_M {w : World} {h : Heap} (e : obsM h.get? = He.valX fnl [] w) : He.SaysX fal fnl [] tfl exl w h (frM h.get?) := by
  obtain ⟨e1, e2⟩ := Prod.mk.inj e
  rw [Bool.and_eq_true] at e2
  constructor
  · exact e1
  · exact e2.1
  · exact fun x hx => (tab_told e2.2 hx).1
  · intro x hx
    obtain ⟨_, u, hu, hz⟩ := tab_told e2.2 hx
    exact He.frT_none hu hz
  · intro x hx
    obtain ⟨_, u, hu, hz⟩ := tab_told e2.2 hx
    exact hu.trans (congrArg some (He.emptyTab_eq hz))
def hkM : PySem.W.Hook where
  α := He.AlX
  val := He.valX fnl []
  obs := fun s => obsM s.heap.get?
  says := fun w h => ∃ K : PySem.W.Frag, K.In h ∧ He.SaysX fal fnl [] tfl exl w h K
  of := fun _ _ e => ⟨frM _, He.frT_in, told_M e⟩
  keeps := by
    rintro w h h' ⟨K, inK, S⟩ kept
    refine ⟨K, PySem.W.Frag.In.keeps inK kept, S.t, S.more, S.hd, S.out, fun x hx => ?_⟩
    exact kept _ _ (S.empty x hx)
def obM (s : PySem.W.SharedT) : He.AlX := obsM (HandSHeadRun.getT s)
theorem obM_eq (s : PySem.W.SharedT) : obM s = hkM.obs s.abs := congrArg obsM (funext fun a => HandSHeadRun.getT_eq s a)
theorem runM (w : World) : HandSHeadRun.RunEq rowR (PySem.W.view rowR.prog [97]) hkM obM 20000 loose w := by
  intro os
  kernel_rfl
end K24
set_option Elab.async false
set_option autoImplicit false
set_option linter.all false
set_option maxRecDepth 100000
set_option maxHeartbeats 4000000
/-! The defs' promises: how they are stated and used. -/
namespace K24
open PySem PySem.Spec PyProof.Rows L2

/-- a def of the module that keeps a promise -/
structure Def (P : Program) (w : World) (K : PySem.W.Frag) (mg : Str → Option Value) (base : Heap) (k : Nat) (x : Str) (ps : List Str) (sp : Sp) : Prop where
  ex : ∃ f fd, FnOk P w K mg base CX0 k f fd ps sp ∧ mg x = some (.ref f) ∧ PySem.W.keepIn K (.ref f) = true ∧ Binds K fd ps []
/-- a method of the class at C -/
structure Mth (P : Program) (w : World) (K : PySem.W.Frag) (mg : Str → Option Value) (base : Heap) (k : Nat) (C : Addr) (m : Str) (ps : List Str) (sp : Sp) : Prop where
  ex : ∃ f fd, FnOk P w K mg base CX0 k f fd ps sp ∧ Meth K C m f ∧ Binds K fd ps []
/-- the class x, at C, is made by its __init__ -/
structure Mkr (P : Program) (w : World) (K : PySem.W.Frag) (mg : Str → Option Value) (base : Heap) (k : Nat) (x : Str) (C : Addr) (ps : List Str) (sp : Sp) : Prop where
  ex : ∃ f fd, FnOk P w K mg base CX0 k f fd ps sp ∧ Mk K C f ∧ mg x = some (.ref C) ∧ Binds K fd ps []
/-- where the text's defs stand behind the top -/
def FnF (K : PySem.W.Frag) (mg : Str → Option Value) (x n : Str) (st : Stmt) : Prop := ∃ f fd, Fun K n n st f fd ∧ mg x = some (.ref f)
def FnM (K : PySem.W.Frag) (C : Addr) (m q : Str) (st : Stmt) : Prop := ∃ f fd, Fun K m q st f fd ∧ Meth K C m f
def FnI (K : PySem.W.Frag) (mg : Str → Option Value) (x : Str) (C : Addr) (q : Str) (st : Stmt) : Prop := ∃ f fd, Fun K "__init__" q st f fd ∧ Mk K C f ∧ mg x = some (.ref C)
/-- a def that holds a generator expression: its code at c, its table at t -/
structure FunG (K : PySem.W.Frag) (x : Str) (st : Stmt) (c f : Addr) (fd : FuncData) : Prop where
  ex : ∃ (oc : Value) (od : Option Addr) (kV doc pm : Value) (an : Option Addr) (ct : Value) (osl : Array (Option Value)),
    fd = PySem.W.fnOf x x (defArgs st) (defBody st) (defScope st) .none kV doc pm an (.ref c) ct ∧ K.lookup f = some ⟨oc, od, .func fd, osl⟩ ∧ PySem.W.codeIn K (.ref c) x = true
  kp : PySem.W.keepIn K (.ref f) = true
def FnG (K : PySem.W.Frag) (mg : Str → Option Value) (base : Heap) (x : Str) (st : Stmt) (t : Addr) : Prop := ∃ c f fd, FunG K x st c f fd ∧ mg x = some (.ref f) ∧ TabC base mg c t

section
variable {P : Program} {w : World} {K : PySem.W.Frag} {mg : Str → Option Value} {base : Heap}
/-- what binds the arguments -/
def BindOk (x q : Str) (st : Stmt) (ps : List Str) : Prop := ∀ (kV doc pm : Value) (an : Option Addr) (cdv ct : Value) (us : List Value), us.length = ps.length →
  bindArgs (PySem.W.fnOf x q (defArgs st) (defBody st) (defScope st) .none kV doc pm an cdv ct) ⟨us, []⟩ = pure (ps.zip us)
theorem Def.of {x n : Str} {st : Stmt} {N ps : List Str} {k : Nat} {sp : Sp} (F : FnF K mg x n st) (S : FnScope N ps (defScope st)) (B : BindOk n n st ps) (len : ∀ vs H Q E, sp vs H Q E → vs.length = ps.length)
    (body : ∀ (f : Addr) (cdv : Value) (A : Around) (outer : List Env) (s : Shared) (H : Hp) (vs : List V) (Q : VK) (E : XK), Room k (A.deeper (envOfC n (defScope st) s.heap.objs.size f cdv)) → sp vs H Q E →
      ∃ t, PSs (cxOf CX0 P w K mg base N n (defScope st) f cdv A outer s H E).nox (defBody st) t ∧ t { nx := fun _ H' => Q .non H', rt := Q } (start N vs) H) : Def P w K mg base (k + 1) x ps sp := by
  obtain ⟨f, fd, F, hm⟩ := F
  exact ⟨f, fd, F.ok S len (body f), hm, F.kp, F.binds B⟩
theorem Mth.of {C : Addr} {m q : Str} {st : Stmt} {N ps : List Str} {k : Nat} {sp : Sp} (F : FnM K C m q st) (S : FnScope N ps (defScope st)) (B : BindOk m q st ps) (len : ∀ vs H Q E, sp vs H Q E → vs.length = ps.length)
    (body : ∀ (f : Addr) (cdv : Value) (A : Around) (outer : List Env) (s : Shared) (H : Hp) (vs : List V) (Q : VK) (E : XK), Room k (A.deeper (envOfC q (defScope st) s.heap.objs.size f cdv)) → sp vs H Q E →
      ∃ t, PSs (cxOf CX0 P w K mg base N q (defScope st) f cdv A outer s H E).nox (defBody st) t ∧ t { nx := fun _ H' => Q .non H', rt := Q } (start N vs) H) : Mth P w K mg base (k + 1) C m ps sp := by
  obtain ⟨f, fd, F, hm⟩ := F
  exact ⟨f, fd, F.ok S len (body f), hm, F.binds B⟩
theorem Mkr.of {x : Str} {C : Addr} {q : Str} {st : Stmt} {N ps : List Str} {k : Nat} {sp : Sp} (F : FnI K mg x C q st) (S : FnScope N ps (defScope st)) (B : BindOk "__init__" q st ps) (len : ∀ vs H Q E, sp vs H Q E → vs.length = ps.length)
    (body : ∀ (f : Addr) (cdv : Value) (A : Around) (outer : List Env) (s : Shared) (H : Hp) (vs : List V) (Q : VK) (E : XK), Room k (A.deeper (envOfC q (defScope st) s.heap.objs.size f cdv)) → sp vs H Q E →
      ∃ t, PSs (cxOf CX0 P w K mg base N q (defScope st) f cdv A outer s H E).nox (defBody st) t ∧ t { nx := fun _ H' => Q .non H', rt := Q } (start N vs) H) : Mkr P w K mg base (k + 1) x C ps sp := by
  obtain ⟨f, fd, F, hm, hg⟩ := F
  exact ⟨f, fd, F.ok S len (body f), hm, hg, F.binds B⟩
theorem Def.ofG {x : Str} {st : Stmt} {t : Addr} {N ps : List Str} {k : Nat} {sp : Sp} (F : FnG K mg base x st t) (S : FnScope N ps (defScope st)) (B : BindOk x x st ps) (len : ∀ vs H Q E, sp vs H Q E → vs.length = ps.length)
    (body : ∀ (f c : Addr), TabC base mg c t → ∀ (A : Around) (outer : List Env) (s : Shared) (H : Hp) (vs : List V) (Q : VK) (E : XK), Room k (A.deeper (envOfC x (defScope st) s.heap.objs.size f (.ref c))) → sp vs H Q E →
      ∃ t, PSs (cxOf CX0 P w K mg base N x (defScope st) f (.ref c) A outer s H E).nox (defBody st) t ∧ t { nx := fun _ H' => Q .non H', rt := Q } (start N vs) H) : Def P w K mg base (k + 1) x ps sp := by
  obtain ⟨c, f, fd, F, hm, T⟩ := F
  obtain ⟨⟨oc, od, kV, doc, pm, an, ct, osl, rfl, lk, hcd⟩, kp⟩ := F
  refine ⟨f, _, fn_of lk hcd S len fun A outer s H vs Q E hr hsp => ?_, hm, kp, .all (B kV doc pm an (.ref c) ct)⟩
  obtain ⟨t, h, q⟩ := body f c T A outer s H vs Q E hr hsp
  exact ⟨t, h.nox, q⟩
end
/-! ### the rules of use -/
section
variable {X : Cx} {k : Nat} {C : Addr} {x m : Str} {ps : List Str} {sp : Sp} {p pos apos : Pos} {e o : Expr} {es : List Expr} {t : TA} {ta : TE}
theorem pe_d (D : Def X.prog X.w X.K X.mg X.base k x ps sp) (hr : Room k X.A) (hg : Gl X x) (ha : PA X (e :: es) t) (hdb : (x == ("__debug__" : Str)) = false := by decide)
    (he : starEach (e :: es) X.env = (false, eval e X.env) :: starEach es X.env := by rfl) (hpl : (backTo pos (starEach es X.env)).any (·.1) = false := by rfl) : PE X (.Call (.Name x p) (e :: es) [] pos) (tCall sp [] E0 t) := by
  obtain ⟨f, fd, F, hm, kp, b⟩ := D.ex
  exact pe_call F hr hg hm kp b .nil pass0 ha hdb he hpl
theorem pe_d0 (D : Def X.prog X.w X.K X.mg X.base k x ps sp) (hr : Room k X.A) (hg : Gl X x) (hdb : (x == ("__debug__" : Str)) = false := by decide) : PE X (.Call (.Name x p) [] [] pos) (tCall sp [] E0 tNil) := by
  obtain ⟨f, fd, F, hm, kp, b⟩ := D.ex
  exact pe_call0 F hr hg hm kp b .nil pass0 hdb
theorem pe_m {pl : Sem Bool} (D : Mth X.prog X.w X.K X.mg X.base k C m ps sp) (he : PE X o ta) (c : Cls X.K C) (hr : Room k X.A) (ha : PA X (e :: es) t)
    (hst : starEach (e :: es) X.env = (false, eval e X.env) :: starEach es X.env := by rfl) (hpl : (backTo pos (starEach es X.env)).any (·.1) = false := by rfl)
    (ht : eval (.Call (.Attribute o m apos) (e :: es) [] pos) X.env = (do
      let ov ← eval o X.env
      standAt apos.atName
      let (f, first) ← holding [ov] (getMethod ov m pl)
      callWith pos f first (backTo pos (starEach (e :: es) X.env)) (backToKw pos (keywordEach [] X.env))) := by rfl) :
    PE X (.Call (.Attribute o m apos) (e :: es) [] pos) (tMeth C m sp [] E0 ta t) := by
  obtain ⟨f, fd, F, hm, b⟩ := D.ex
  exact pe_meth he c hm F hr b .nil pass0 ha hst hpl ht
theorem pe_m0 {pl : Sem Bool} (D : Mth X.prog X.w X.K X.mg X.base k C m ps sp) (he : PE X o ta) (c : Cls X.K C) (hr : Room k X.A)
    (ht : eval (.Call (.Attribute o m apos) [] [] pos) X.env = (do
      let ov ← eval o X.env
      standAt apos.atName
      let (f, first) ← holding [ov] (getMethod ov m pl)
      callWith pos f first (backTo pos (starEach [] X.env)) (backToKw pos (keywordEach [] X.env))) := by rfl) :
    PE X (.Call (.Attribute o m apos) [] [] pos) (tMeth C m sp [] E0 ta tNil) := by
  obtain ⟨f, fd, F, hm, b⟩ := D.ex
  exact pe_meth0 he c hm F hr b .nil pass0 ht
theorem pe_mk (D : Mkr X.prog X.w X.K X.mg X.base k x C ps sp) (hr : Room (k + 1) X.A) (hg : Gl X x) (ha : PA X (e :: es) t) (hdb : (x == ("__debug__" : Str)) = false := by decide)
    (he : starEach (e :: es) X.env = (false, eval e X.env) :: starEach es X.env := by rfl) (hpl : (backTo pos (starEach es X.env)).any (·.1) = false := by rfl) : PE X (.Call (.Name x p) (e :: es) [] pos) (tMake C sp [] E0 t) := by
  obtain ⟨f, fd, F, hm, hgl, b⟩ := D.ex
  exact pe_make hm F hr hg hgl b .nil pass0 ha hdb he hpl
theorem pe_mk0 (D : Mkr X.prog X.w X.K X.mg X.base k x C ps sp) (hr : Room (k + 1) X.A) (hg : Gl X x) (hdb : (x == ("__debug__" : Str)) = false := by decide) : PE X (.Call (.Name x p) [] [] pos) (tMake C sp [] E0 tNil) := by
  obtain ⟨f, fd, F, hm, hgl, b⟩ := D.ex
  exact pe_make0 hm F hr hg hgl b .nil pass0 hdb
/-- a number of the module -/
theorem pe_gi {i : Int} (h : ∃ u, X.mg x = some (.int i u)) (hg : Gl X x) (hdb : (x == ("__debug__" : Str)) = false := by decide) : PE X (.Name x p) (tC (.int i)) := by
  obtain ⟨u, h⟩ := h
  exact pe_glob hg h ⟨u, rfl⟩ hdb
/-- isinstance(e, T) -/
theorem pe_isi {T : String} {p2 : Pos} (hm : X.mg "isinstance" = none) (hT : X.mg x = none) (hv : bootBuiltins x = some (.type T)) (hg : Gl X "isinstance") (hg2 : Gl X x) (he : PE X e ta) (hn : x ≠ "__name__" := by decide) (hdb : (x == ("__debug__" : Str)) = false := by decide)
    (hs1 : starEach [e, .Name x p2] X.env = (false, eval e X.env) :: starEach [.Name x p2] X.env := by rfl) (hs2 : starEach [.Name x p2] X.env = (false, eval (.Name x p2) X.env) :: starEach [] X.env := by rfl)
    (hpl : (backTo pos (starEach [.Name x p2] X.env)).any (·.1) = false := by rfl) :
    PE X (.Call (.Name "isinstance" p) [e, .Name x p2] [] pos) (tCB (rIsi X.K) (tCons ta (tCons (tC (.ty T)) tNil))) :=
  pe_callB call_isi hg hm PyProof.Rows.boot_isinstance (pa_cons he (pa_cons (pe_bltn hg2 hT hv rfl hn hdb) pa_nil hs2) hs1) (by decide) (by decide) hs1 hpl
end

/-! ### all over what is walked, the heap unchanged -/
section
variable {K : PySem.W.Frag} {g : TG} {te : TE} {vs : List Nat} {σ : L2.St} {H1 : Hp} {Q : VK}
abbrev AllW (J : It) (g : TG) (te : TE) (vs : List Nat) (σ : L2.St) (H1 : Hp) (Q : VK) : Prop :=
  ∃ W : Nat → Nat → Hp → Prop, (∃ m, W 0 m H1) ∧ ∀ i m H, W i m H →
    (J.stop i H ∧ Q (.bl true) H) ∨ (J.go i H ∧ ∃ Nx : Hp → Prop, (∀ H', Nx H' → ∃ m', m' < m ∧ W (i + 1) m' H') ∧ ∀ x H', J.yld i H x H' → g x (wipe σ vs) H' fun σ2 H2 => wipe σ2 vs = wipe σ vs ∧ te σ2 H2 fun y H3 =>
      ∃ b, y = .bl b ∧ if b = true then Nx H3 else Q (.bl false) H3)
theorem allb {J : It} {n : Nat} (f : Nat → Bool) (hgo : ∀ i, i < n → J.go i H1) (hst : J.stop n H1)
    (hs : ∀ i x H' (R : VK), i < n → J.yld i H1 x H' → R (.bl (f i)) H1 → g x (wipe σ vs) H' fun σ2 H2 => wipe σ2 vs = wipe σ vs ∧ te σ2 H2 R) (q : Q (.bl ((List.range n).all f)) H1) :
    AllW J g te vs σ H1 Q := by
  refine ⟨fun i m H => m = n - i ∧ i ≤ n ∧ H = H1 ∧ ∀ j, j < i → f j = true, ⟨n, by simp, Nat.zero_le _, rfl, fun j hj => absurd hj (Nat.not_lt_zero _)⟩, ?_⟩
  rintro i m H ⟨rfl, hi, rfl, hf⟩
  by_cases hlt : i < n
  · refine .inr ⟨hgo i hlt, fun H' => H' = H ∧ f i = true, fun H' e => ⟨n - (i + 1), by omega, rfl, hlt, e.1, fun j hj => ?_⟩, fun x H' y => hs i x H' _ hlt y ⟨f i, rfl, ?_⟩⟩
    · rcases Nat.lt_succ_iff_lt_or_eq.mp hj with z | z
      · exact hf j z
      · rw [z]; exact e.2
    · cases e : f i with
      | true => exact iteT ⟨rfl, rfl⟩
      | false =>
        refine iteF ?_
        have z : (List.range n).all f = false := by
          rw [Bool.eq_false_iff]
          intro z
          rw [List.all_eq_true.mp z i (List.mem_range.mpr hlt)] at e
          cases e
        rw [z] at q
        exact q
  · have e : i = n := by omega
    subst e
    have z : (List.range i).all f = true := List.all_eq_true.mpr fun j hj => hf j (List.mem_range.mp hj)
    rw [z] at q
    exact .inl ⟨hst, q⟩
def atB {α : Type} (f : α → Bool) (xs : List α) (i : Nat) : Bool := match xs[i]? with | some x => f x | none => false
theorem atB_some {α : Type} {f : α → Bool} {xs : List α} {i : Nat} {x : α} (h : xs[i]? = some x) : atB f xs i = f x := by
  unfold atB
  rw [h]
theorem all_range {α : Type} (xs : List α) (f : α → Bool) : (List.range xs.length).all (atB f xs) = xs.all f := by
  rw [Bool.eq_iff_iff, List.all_eq_true, List.all_eq_true]
  constructor
  · intro h x hx
    obtain ⟨i, hi, rfl⟩ := List.getElem_of_mem hx
    have q := h i (List.mem_range.mpr hi)
    rw [atB_some (List.getElem?_eq_getElem hi)] at q
    exact q
  · intro h i hi
    have hi2 := List.mem_range.mp hi
    rw [atB_some (List.getElem?_eq_getElem hi2)]
    exact h _ (List.getElem_mem hi2)
theorem allb_tup {a : Addr} {xs : List V} (f : V → Bool) (hq : SqT K H1 a xs) (hs : ∀ (i : Nat) (x : V) (R : VK), xs[i]? = some x → R (.bl (f x)) H1 → g x (wipe σ vs) H1 fun σ2 H2 => wipe σ2 vs = wipe σ vs ∧ te σ2 H2 R) (q : Q (.bl (xs.all f)) H1) : AllW (Itt K a) g te vs σ H1 Q :=
  allb (Q := Q) (J := Itt K a) (n := xs.length) (g := g) (te := te) (vs := vs) (σ := σ) (H1 := H1) (atB f xs) (fun i hi => ⟨xs, xs[i], hq, List.getElem?_eq_getElem hi⟩) ⟨xs, hq, Nat.le_refl _⟩
    (fun i x H' R hi y r => by
      obtain ⟨e, y⟩ := y
      subst e
      have hx := y xs hq
      rw [atB_some hx] at r
      exact hs i x R hx r) (by rw [all_range]; exact q)
theorem allb_str {x : Str} (f : Nat → Bool) (hs : ∀ c (R : VK), c ∈ x.cps.toList → R (.bl (f c)) H1 → g (.str ⟨#[c]⟩) (wipe σ vs) H1 fun σ2 H2 => wipe σ2 vs = wipe σ vs ∧ te σ2 H2 R) (q : Q (.bl (x.cps.toList.all f)) H1) : AllW (Its x) g te vs σ H1 Q :=
  allb (Q := Q) (J := Its x) (n := x.cps.toList.length) (g := g) (te := te) (vs := vs) (σ := σ) (H1 := H1) (atB f x.cps.toList) (fun i hi => by show i < x.cps.size; simpa using hi) (by show x.cps.size ≤ _; simp)
    (fun i v H' R hi y r => by
      obtain ⟨e, c, hc, ev⟩ := y
      subst e ev
      have hx : x.cps.toList[i]? = some c := by rw [Array.getElem?_toList]; exact hc
      rw [atB_some hx] at r
      exact hs c R (List.mem_of_getElem? hx) r) (by rw [all_range]; exact q)
theorem allb_rng {lo : Int} {n : Nat} (f : Nat → Bool) (hs : ∀ i (R : VK), i < n → R (.bl (f i)) H1 → g (.int (lo + i)) (wipe σ vs) H1 fun σ2 H2 => wipe σ2 vs = wipe σ vs ∧ te σ2 H2 R) (q : Q (.bl ((List.range n).all f)) H1) : AllW (Itr lo n) g te vs σ H1 Q :=
  allb (Q := Q) (J := Itr lo n) (n := n) (g := g) (te := te) (vs := vs) (σ := σ) (H1 := H1) f (fun i hi => hi) (Nat.le_refl n)
    (fun i v H' R hi y r => by
      obtain ⟨e, ev⟩ := y
      subst e ev
      exact hs i R hi r) q
end
theorem vb {Q : VK} {H : Hp} {b b' : Bool} (e : b = b') (q : Q (.bl b) H) : Q (.bl b') H := e ▸ q
end K24
set_option Elab.async false
set_option autoImplicit false
set_option linter.all false
set_option maxRecDepth 100000
set_option maxHeartbeats 4000000
namespace K24
open PySem PySem.Spec PyProof.Rows L2

def namesL : List Str := ["set", "copy", "add", "sub", "mul", "div", "mod", "less", "same", "load", "store", "jump", "zero", "read", "left", "write", "stop"]
def threeL : List Str := ["add", "sub", "mul", "div", "mod", "less", "same"]
def twoL : List Str := ["copy", "load", "store"]
def oneL : List Str := ["read", "left", "write"]
/-- the module's constants, and that the built-ins are still themselves -/
structure Cst (K : PySem.W.Frag) (mg : Str → Option Value) : Prop where
  isi : mg "isinstance" = none
  len : mg "len" = none
  all : mg "all" = none
  range : mg "range" = none
  int : mg "int" = none
  str : mg "str" = none
  tuple : mg "tuple" = none
  list : mg "list" = none
  bool : mg "bool" = none
  nWORD : ∃ t, mg "WORD" = some (.int 4294967296 t)
  nMAX_PART : ∃ t, mg "MAX_PART" = some (.int 281474976710656 t)
  nMAX_TEXT : ∃ t, mg "MAX_TEXT" = some (.int 24 t)
  nMOST_PARTS : ∃ t, mg "MOST_PARTS" = some (.int 16 t)
  nMEMORY : ∃ t, mg "MEMORY" = some (.int 64 t)
  nMAX_PROGRAM : ∃ t, mg "MAX_PROGRAM" = some (.int 64 t)
  nMAX_INPUT : ∃ t, mg "MAX_INPUT" = some (.int 64 t)
  nMAX_WRITTEN : ∃ t, mg "MAX_WRITTEN" = some (.int 2048 t)
  nRUNS : ∃ t, mg "RUNS" = some (.int 0 t)
  nSTOPPED : ∃ t, mg "STOPPED" = some (.int 1 t)
  nFAULT : ∃ t, mg "FAULT" = some (.int 2 t)
  nMAX_HEIGHT : ∃ t, mg "MAX_HEIGHT" = some (.int 10 t)
  nTREE_HEIGHT : ∃ t, mg "TREE_HEIGHT" = some (.int 6 t)
  nMAX_LEVEL : ∃ t, mg "MAX_LEVEL" = some (.int 10 t)
  tNAMES : ∃ a, mg "NAMES" = some (.ref a) ∧ ∀ H, SqT K H a (namesL.map V.str)
  tTHREE : ∃ a, mg "THREE" = some (.ref a) ∧ ∀ H, SqT K H a (threeL.map V.str)
  tTWO : ∃ a, mg "TWO" = some (.ref a) ∧ ∀ H, SqT K H a (twoL.map V.str)
  tONE : ∃ a, mg "ONE" = some (.ref a) ∧ ∀ H, SqT K H a (oneL.map V.str)
  tSTATE : ∃ a, mg "STATE" = some (.ref a) ∧ ∀ H, SqT K H a [V.str "state"]

section
variable {P : Program} {w : World} {K : PySem.W.Frag} {mg : Str → Option Value} {base : Heap}

/-! ### is_number, is_word -/
def spNumber : Sp := fun vs H Q _ => ∃ lo hi : Int, (∃ i : Int, vs = [.int i, .int lo, .int hi] ∧ Q (.bl (decide (lo ≤ i ∧ i ≤ hi))) H) ∨ (∃ s : Str, vs = [.str s, .int lo, .int hi] ∧ Q (.bl false) H)
theorem sc_is_number : FnScope ["value", "least", "most"] ["value", "least", "most"] (defScope s_is_number) := ⟨rfl, rfl, rfl, by decide +kernel, rfl, by decide +kernel, by decide +kernel⟩
theorem ok_is_number (F : FnF K mg "is_number" "is_number" s_is_number) (C : Cst K mg) : Def P w K mg base 1 "is_number" ["value", "least", "most"] spNumber := by
  refine Def.of F sc_is_number (fun _ _ _ _ _ _ us hl => match us, hl with | [_, _, _], _ => rfl) (fun vs H Q E h => ?_) (fun f cdv A outer s H vs Q E hr h => ?_)
  · obtain ⟨lo, hi, ⟨i, rfl, _⟩ | ⟨x, rfl, _⟩⟩ := h <;> rfl
  · refine ⟨_, pss_one (ps_ret (pe_and (pe_isi C.isi C.int boot_int rfl rfl (pv 0)) (pe_and (pe_not (pe_isi C.isi C.bool boot_bool rfl rfl (pv 0)))
      (pe_one (pe_chain op_le op_le (pv 1) (pv 0) (pv 2)))))), ?_⟩
    obtain ⟨lo, hi, ⟨i, rfl, q⟩ | ⟨x, rfl, q⟩⟩ := h
    · refine ⟨_, rfl, _, _, .type "int", .type "int", true, rfl, .ty _, .base (.int _), kit_ty (by decide +kernel), true, rfl, iteT ?_⟩
      refine ⟨_, rfl, _, _, .type "int", .type "bool", false, rfl, .ty _, .base (.int _), kit_ty (by decide +kernel), false, rfl, true, rfl, iteT ?_⟩
      refine ⟨_, rfl, _, rfl, _, _, rfl, rfl, _, rfl, ?_⟩
      by_cases h1 : lo ≤ i
      · rw [decide_eq_true h1]
        refine iteT ⟨_, rfl, _, _, rfl, rfl, ?_⟩
        exact vb (by simp [h1]) q
      · rw [decide_eq_false h1]
        refine iteF ?_
        exact vb (by simp [h1]) q
    · refine ⟨_, rfl, _, _, .type "str", .type "int", false, rfl, .ty _, .base (.str _), kit_ty (by decide +kernel), false, rfl, iteF ?_⟩
      exact q

def spWord : Sp := fun vs H Q _ => ∃ i : Int, vs = [.int i] ∧ Q (.bl (decide (0 ≤ i ∧ i ≤ 4294967295))) H
theorem sc_is_word : FnScope ["value"] ["value"] (defScope s_is_word) := ⟨rfl, rfl, rfl, by decide +kernel, rfl, by decide +kernel, by decide +kernel⟩
theorem ok_is_word (F : FnF K mg "is_word" "is_word" s_is_word) (C : Cst K mg) (D : Def P w K mg base 1 "is_number" ["value", "least", "most"] spNumber) : Def P w K mg base 2 "is_word" ["value"] spWord := by
  refine Def.of F sc_is_word (fun _ _ _ _ _ _ us hl => match us, hl with | [_], _ => rfl) (fun vs H Q E h => ?_) (fun f cdv A outer s H vs Q E hr h => ?_)
  · obtain ⟨i, rfl, _⟩ := h; rfl
  · refine ⟨_, pss_one (ps_ret (pe_d D hr rfl (pa_cons (pv 0) (pa_cons pe_int (pa_cons (pe_op op_sub (pe_gi C.nWORD rfl) pe_int) pa_nil))))), ?_⟩
    obtain ⟨i, rfl, q⟩ := h
    exact ⟨_, rfl, _, _, rfl, rfl, _, _, .inl ⟨i, rfl, q⟩⟩

/-! ### is_label, is_parts -/
def okChar (c : Nat) : Bool := decide (32 ≤ c ∧ c ≤ 126)
def okText (s : Str) : Prop := s.length ≤ 24 ∧ s.cps.toList.all okChar = true
def spLabel (tl : Addr) : Sp := fun vs H Q _ => ∃ x : Str, vs = [.str x] ∧ okText x ∧ HTab H tl ∧ Q (.bl true) H
theorem sc_is_label : FnScope ["value", "char"] ["value"] (defScope s_is_label) := ⟨rfl, rfl, rfl, by decide +kernel, rfl, by decide +kernel, by decide +kernel⟩
theorem lt_one {a b : Nat} : decide ([a] < [b]) = decide (a < b) := by
  rw [Bool.eq_iff_iff, decide_eq_true_iff, decide_eq_true_iff]
  constructor
  · intro h
    rcases List.cons_lt_cons_iff.mp h with z | ⟨_, z⟩
    · exact z
    · exact absurd z (by simp)
  · intro h
    exact List.cons_lt_cons_iff.mpr (.inl h)
theorem ok_is_label {tl : Addr} (F : FnG K mg base "is_label" s_is_label tl) (C : Cst K mg) : Def P w K mg base 2 "is_label" ["value"] (spLabel tl) := by
  refine Def.ofG F sc_is_label (fun _ _ _ _ _ _ us hl => match us, hl with | [_], _ => rfl) (fun vs H Q E h => ?_) (fun f c T A outer s H vs Q E hr h => ?_)
  · obtain ⟨i, rfl, _⟩ := h; rfl
  · refine ⟨_, pss_cons (ps_if (PW.pt (pw_or (pt_not (pt_val (pe_isi C.isi C.str boot_str rfl rfl (pv 0)))) (pw_or1 (pt_cmpR op_gt (pe_callB call_len_str rfl C.len PySem.boot_len (pa_cons (pv 0) pa_nil)) (pe_gi C.nMAX_TEXT rfl) (nomark _))))) (pss_one (ps_ret pe_bl)) pss_nil)
      (pss_one (ps_ret (pe_allG (k := 0) hr rfl rfl C.all T rfl sc_is_label.nd (genC_by (own := [("char", 1)]) (N := ["value", "char"]) (sc := defScope s_is_label) (by decide +kernel)) (pi_str (pv 0)) (fun _ _ _ _ _ _ _ => pg_name (i := 1) sc_is_label.nd rfl (Or.inl rfl))
        (fun _ _ _ _ _ _ _ _ => pe_chain op_le_str op_le_str pe_str (pv 1) pe_str)))), ?_⟩
    obtain ⟨x, rfl, ⟨hx, hc⟩, hT, q⟩ := h
    refine ⟨_, rfl, _, _, .type "str", .type "str", true, rfl, .ty _, .base (.str _), kit_ty (by decide +kernel), _, rfl, iteF ?_⟩
    refine ⟨_, rfl, _, rfl, Nat.le_trans hx (by decide), _, _, rfl, rfl, _, rfl, ?_⟩
    rw [decide_eq_false (show ¬ (24 : Int) < (x.length : Int) by omega)]
    refine iteF ⟨_, rfl, _, rfl, hT, allb_str okChar (fun ch R hch r => ⟨rfl, ?_⟩) (vb hc.symm q)⟩
    refine ⟨_, rfl, _, _, rfl, rfl, _, rfl, ?_⟩
    have hk := List.all_eq_true.mp hc ch hch
    have hk2 : 32 ≤ ch ∧ ch ≤ 126 := of_decide_eq_true hk
    have e1 : (!decide ([ch] < (" " : Str).cps.toList)) = true := by
      rw [show (" " : Str).cps.toList = [32] by decide +kernel, lt_one]
      simp; omega
    have e2 : (!decide (("~" : Str).cps.toList < [ch])) = true := by
      rw [show ("~" : Str).cps.toList = [126] by decide +kernel, lt_one]
      simp; omega
    rw [e1]
    refine iteT ⟨_, _, rfl, rfl, ?_⟩
    exact vb (hk.trans e2.symm) r
end
end K24
set_option Elab.async false
set_option autoImplicit false
set_option linter.all false
set_option maxRecDepth 100000
set_option maxHeartbeats 4000000
namespace K24
open PySem PySem.Spec PyProof.Rows L2

/-- a notary's book: the tuples that were sealed, in order -/
abbrev Parts := List Key
abbrev Book := List Parts
def okKey : Key → Prop
  | .inl i => 0 ≤ i ∧ i ≤ 281474976710656
  | .inr s => okText s
structure PartsOk (ps : Parts) : Prop where
  lo : 1 ≤ ps.length
  hi : ps.length ≤ 16
  all : ∀ k ∈ ps, okKey k
/-- the seal of parts, 0 if they have none -/
def findB : Book → Parts → Nat
  | [], _ => 0
  | q :: r, p => if q = p then 1 else if findB r p = 0 then 0 else findB r p + 1
def addB (b : Book) (p : Parts) : Book := if findB b p = 0 then b ++ [p] else b
def kvFrom : Nat → Book → List (Parts × V)
  | _, [] => []
  | n, p :: r => (p, V.int ((n : Int) + 1)) :: kvFrom (n + 1) r
abbrev kvB (b : Book) : List (Parts × V) := kvFrom 0 b

theorem findB_nil (p : Parts) : findB [] p = 0 := rfl
theorem findB_cons (q : Parts) (r : Book) (p : Parts) : findB (q :: r) p = if q = p then 1 else if findB r p = 0 then 0 else findB r p + 1 := rfl
theorem findB_le : ∀ (b : Book) (p : Parts), findB b p ≤ b.length
  | [], _ => Nat.le_refl _
  | q :: r, p => by
    have ih := findB_le r p
    rw [findB_cons]
    by_cases h : q = p
    · rw [if_pos h]; simp
    · rw [if_neg h]
      by_cases h2 : findB r p = 0
      · rw [if_pos h2]; simp
      · rw [if_neg h2]; simp; omega
theorem findB_zero : ∀ {b : Book} {p : Parts}, findB b p = 0 ↔ p ∉ b
  | [], _ => by simp [findB]
  | q :: r, p => by
    have ih := @findB_zero r p
    rw [findB_cons]
    by_cases h : q = p
    · rw [if_pos h, h]; simp
    · rw [if_neg h]
      by_cases h2 : findB r p = 0
      · rw [if_pos h2]
        have := ih.mp h2
        simp only [List.mem_cons, not_or, true_iff]
        exact ⟨fun e => h e.symm, this⟩
      · rw [if_neg h2]
        have h3 : p ∈ r := Classical.byContradiction fun z => h2 (ih.mpr z)
        simp [h3]
theorem findB_get : ∀ {b : Book} {p : Parts}, findB b p ≠ 0 → b[findB b p - 1]? = some p
  | [], _, h => absurd rfl h
  | q :: r, p, h => by
    rw [findB_cons] at h ⊢
    by_cases e : q = p
    · rw [if_pos e, e]; rfl
    · rw [if_neg e] at h ⊢
      by_cases h2 : findB r p = 0
      · rw [if_pos h2] at h; exact absurd rfl h
      · rw [if_neg h2]
        have ih := findB_get h2
        have e2 : findB r p + 1 - 1 = (findB r p - 1) + 1 := by omega
        rw [e2, List.getElem?_cons_succ]
        exact ih
/-- different parts have different seals -/
theorem findB_inj {b : Book} {p q : Parts} (h : findB b p = findB b q) (hp : findB b p ≠ 0) : p = q := by
  have e1 := findB_get hp
  rw [h] at e1
  have e2 := findB_get (h ▸ hp)
  rw [e1] at e2
  exact Option.some.inj e2
theorem findB_append : ∀ {b : Book} (c : Book) {p : Parts}, findB b p ≠ 0 → findB (b ++ c) p = findB b p
  | [], _, _, h => absurd rfl h
  | q :: r, c, p, h => by
    rw [List.cons_append, findB_cons] 
    rw [findB_cons] at h ⊢
    by_cases e : q = p
    · rw [if_pos e, if_pos e]
    · rw [if_neg e] at h ⊢
      rw [if_neg e]
      by_cases h2 : findB r p = 0
      · rw [if_pos h2] at h; exact absurd rfl h
      · rw [findB_append c h2]
theorem findB_new : ∀ {b : Book} {p : Parts}, findB b p = 0 → findB (b ++ [p]) p = b.length + 1
  | [], p, _ => by simp [findB]
  | q :: r, p, h => by
    rw [List.cons_append, findB_cons]
    rw [findB_cons] at h
    by_cases e : q = p
    · rw [if_pos e] at h; exact absurd h (by decide)
    · rw [if_neg e] at h ⊢
      by_cases h2 : findB r p = 0
      · rw [findB_new h2]; simp
      · rw [if_neg h2] at h; omega
/-- the book b' holds all that b holds, with the same seals -/
def Ext (b b' : Book) : Prop := ∃ c, b' = b ++ c
theorem Ext.refl (b : Book) : Ext b b := ⟨[], by simp⟩
theorem Ext.trans {a b c : Book} (h : Ext a b) (h' : Ext b c) : Ext a c := by
  obtain ⟨x, rfl⟩ := h
  obtain ⟨y, rfl⟩ := h'
  exact ⟨x ++ y, by rw [List.append_assoc]⟩
theorem Ext.find {b b' : Book} (h : Ext b b') {p : Parts} (hp : findB b p ≠ 0) : findB b' p = findB b p := by
  obtain ⟨c, rfl⟩ := h
  exact findB_append c hp
theorem Ext.len {b b' : Book} (h : Ext b b') : b.length ≤ b'.length := by
  obtain ⟨c, rfl⟩ := h
  simp
theorem ext_add (b : Book) (p : Parts) : Ext b (addB b p) := by
  unfold addB
  split
  · exact ⟨[p], rfl⟩
  · exact .refl b
theorem addB_len (b : Book) (p : Parts) : (addB b p).length ≤ b.length + 1 := by
  unfold addB
  split
  · simp
  · simp
theorem addB_find (b : Book) (p : Parts) : findB (addB b p) p ≠ 0 := by
  unfold addB
  split
  · rename_i h
    rw [findB_new h]
    omega
  · rename_i h
    exact h
theorem addB_nodup {b : Book} {p : Parts} (h : b.Nodup) : (addB b p).Nodup := by
  unfold addB
  split
  · rename_i e
    rw [List.nodup_append]
    refine ⟨h, by simp, fun x hx y hy z => ?_⟩
    rw [List.mem_singleton.mp hy] at z
    rw [z] at hx
    exact findB_zero.mp e hx
  · exact h
theorem kvFrom_len : ∀ (n : Nat) (b : Book), (kvFrom n b).length = b.length
  | _, [] => rfl
  | n, p :: r => by
    show (kvFrom (n + 1) r).length + 1 = r.length + 1
    rw [kvFrom_len]
theorem kvFrom_snoc : ∀ (n : Nat) (b : Book) (p : Parts), kvFrom n (b ++ [p]) = kvFrom n b ++ [(p, V.int (((n + b.length : Nat) : Int) + 1))]
  | n, [], p => by simp [kvFrom]
  | n, q :: r, p => by
    show (q, _) :: kvFrom (n + 1) (r ++ [p]) = (q, _) :: (kvFrom (n + 1) r ++ [_])
    rw [kvFrom_snoc (n + 1) r p]
    have e : n + 1 + r.length = n + (q :: r).length := by simp; omega
    rw [e]
theorem kv_val : ∀ (n : Nat) (b : Book) (p : Parts), valV (kvFrom n b) p = if findB b p = 0 then none else some (V.int (((n + findB b p : Nat) : Int)))
  | n, [], p => by simp [kvFrom, findB, valV_nil]
  | n, q :: r, p => by
    have ih := kv_val (n + 1) r p
    by_cases e : q = p
    · rw [show kvFrom n (q :: r) = (q, V.int ((n : Int) + 1)) :: kvFrom (n + 1) r from rfl, valV_pos e]
      rw [findB_cons]
      rw [if_pos e]
      simp
    · rw [show kvFrom n (q :: r) = (q, V.int ((n : Int) + 1)) :: kvFrom (n + 1) r from rfl, valV_neg e, ih]
      rw [findB_cons]
      rw [if_neg e]
      by_cases h2 : findB r p = 0
      · rw [if_pos h2, if_pos h2, if_pos rfl]
      · rw [if_neg h2, if_neg h2, if_neg (by omega)]
        have e3 : n + 1 + findB r p = n + (findB r p + 1) := by omega
        rw [e3]
theorem kvB_val (b : Book) (p : Parts) : valV (kvB b) p = if findB b p = 0 then none else some (V.int (findB b p : Int)) := by
  rw [kv_val 0 b p, Nat.zero_add]
theorem kvB_put {b : Book} {p : Parts} (h : findB b p = 0) : putK (kvB b) p (V.int ((b.length : Int) + 1)) = kvB (b ++ [p]) := by
  rw [putK_new _ (by rw [kvB_val, if_pos h]), show kvB (b ++ [p]) = _ from kvFrom_snoc 0 b p, Nat.zero_add]
end K24
set_option Elab.async false
set_option autoImplicit false
set_option linter.all false
set_option maxRecDepth 100000
set_option maxHeartbeats 4000000
namespace K24
open PySem PySem.Spec PyProof.Rows L2

section
variable {P : Program} {w : World} {K : PySem.W.Frag} {mg : Str → Option Value} {base : Heap}

/-! ### is_parts -/
def spParts (tl tp : Addr) : Sp := fun vs H Q _ => ∃ (a : Addr) (ps : Parts), vs = [.ref a] ∧ H a = some (.tup (ps.map kV)) ∧ PartsOk ps ∧ HTab H tl ∧ HTab H tp ∧ Q (.bl true) H
theorem sc_is_parts : FnScope ["value", "part"] ["value"] (defScope s_is_parts) := ⟨rfl, rfl, rfl, by decide +kernel, rfl, by decide +kernel, by decide +kernel⟩
theorem ok_is_parts {tl tp : Addr} (F : FnG K mg base "is_parts" s_is_parts tp) (C : Cst K mg) (D1 : Def P w K mg base 1 "is_number" ["value", "least", "most"] spNumber) (D2 : Def P w K mg base 2 "is_label" ["value"] (spLabel tl)) :
    Def P w K mg base 4 "is_parts" ["value"] (spParts tl tp) := by
  refine Def.ofG F sc_is_parts (fun _ _ _ _ _ _ us hl => match us, hl with | [_], _ => rfl) (fun vs H Q E h => ?_) (fun f c T A outer s H vs Q E hr h => ?_)
  · obtain ⟨a, ps, rfl, _⟩ := h; rfl
  · refine ⟨_, pss_cons (ps_if (PW.pt (pw_or (pt_not (pt_val (pe_isi C.isi C.tuple boot_tuple rfl rfl (pv 0)))) (pw_or1 (pt_not (pt_chain op_le op_le pe_int (pe_callB call_len_seq rfl C.len PySem.boot_len (pa_cons (pv 0) pa_nil)) (pe_gi C.nMOST_PARTS rfl)))))) (pss_one (ps_ret pe_bl)) pss_nil)
      (pss_one (ps_ret (pe_allG (k := 2) hr rfl rfl C.all T rfl sc_is_parts.nd (genC_by (own := [("part", 1)]) (N := ["value", "part"]) (sc := defScope s_is_parts) (by decide +kernel)) (pi_tup (pv 0)) (fun _ _ _ _ _ _ _ => pg_name (i := 1) sc_is_parts.nd rfl (Or.inl rfl))
        (fun _ _ _ _ _ _ _ hr2 => pe_or (pe_d D1 (hr2.mono (by decide)) rfl (pa_cons (pv 1) (pa_cons pe_int (pa_cons (pe_gi C.nMAX_PART rfl) pa_nil)))) (pe_one (pe_d D2 hr2 rfl (pa_cons (pv 1) pa_nil))))))), ?_⟩
    obtain ⟨a, ps, rfl, ha, hk, hl, hp, q⟩ := h
    refine ⟨_, rfl, _, _, .type "tuple", .type "tuple", true, rfl, .ty _, .base (.tup ha), kit_ty (by decide +kernel), _, rfl, iteF ?_⟩
    have hlen : (ps.map kV).length = ps.length := List.length_map _
    have h1 := hk.lo
    have h2 := hk.hi
    refine ⟨_, rfl, a, _, rfl, .inr (SqT.of ha), _, _, rfl, rfl, _, rfl, ?_⟩
    rw [hlen, decide_eq_true (show (1 : Int) ≤ (ps.length : Int) by omega)]
    refine iteT ⟨_, _, rfl, rfl, _, rfl, ?_⟩
    rw [decide_eq_true (show (ps.length : Int) ≤ 16 by omega)]
    refine iteF ⟨_, rfl, a, rfl, ⟨_, SqT.of ha⟩, hp, allb_tup (fun _ => true) (SqT.of ha) (fun i x R hx r => ⟨rfl, ?_⟩) (vb (by simp) q)⟩
    rw [List.getElem?_map] at hx
    obtain ⟨k, hk1, rfl⟩ := Option.map_eq_some_iff.mp hx
    have ok := hk.all k (List.mem_of_getElem? hk1)
    cases k with
    | inl z =>
      refine ⟨_, rfl, _, _, .inl ⟨z, rfl, true, congrArg V.bl (decide_eq_true ok), iteT r⟩⟩
    | inr z =>
      refine ⟨_, rfl, _, _, .inr ⟨z, rfl, false, rfl, iteF ⟨_, rfl, z, rfl, ok, hl, r⟩⟩⟩

/-! ### the notary -/
theorem lk_hit {f : Str} {v : V} {r : List (Str × V)} : List.lookup f ((f, v) :: r) = some v := by simp [List.lookup]
theorem lk_miss {f g : Str} {v : V} {r : List (Str × V)} (h : (g == f) = false) : List.lookup g ((f, v) :: r) = List.lookup g r := by simp [List.lookup, h]
theorem put_nil {f : Str} {v : V} : putF f v [] = [(f, v)] := rfl
theorem put_hit {f : Str} {v x : V} {r : List (Str × V)} : putF f v ((f, x) :: r) = (f, v) :: r := by
  show (if f = f then _ else _) = _
  rw [if_pos rfl]
theorem put_miss {f g : Str} {v x : V} {r : List (Str × V)} (h : (g == f) = false) : putF f v ((g, x) :: r) = (g, x) :: putF f v r := by
  show (if g = f then _ else _) = _
  rw [if_neg (beq_eq_false_iff_ne.mp h)]
/-- a notary's own objects: it, its dict, its list -/
structure Nt where
  n : Addr
  d : Addr
  l : Addr
def nfl (nt : Nt) (z : Int) : List (Str × V) := [("numbers", .ref nt.d), ("tuples", .ref nt.l), ("asked", .int z)]
theorem nfl_numbers (nt : Nt) (z : Int) : (nfl nt z).lookup ("numbers" : Str) = some (.ref nt.d) := lk_hit
theorem nfl_tuples (nt : Nt) (z : Int) : (nfl nt z).lookup ("tuples" : Str) = some (.ref nt.l) := (lk_miss (by decide +kernel)).trans lk_hit
theorem nfl_asked (nt : Nt) (z : Int) : (nfl nt z).lookup ("asked" : Str) = some (.int z) := (lk_miss (by decide +kernel)).trans ((lk_miss (by decide +kernel)).trans lk_hit)
theorem nfl_put (nt : Nt) (z y : Int) : putF "asked" (.int y) (nfl nt z) = nfl nt y := by
  unfold nfl
  rw [put_miss (by decide +kernel), put_miss (by decide +kernel), put_hit]
/-- the notary stands, its book is b -/
structure NotAt (CN : Addr) (nt : Nt) (H : Hp) (b : Book) : Prop where
  ob : ∃ dx z, H nt.n = some (.ins CN dx (nfl nt z))
  dc : H nt.d = some (.dT (kvB b))
  ls : ∃ ts, H nt.l = some (.lst ts) ∧ ts.length = b.length
/-- nothing but the notary's own objects has changed -/
def Keep (nt : Nt) (H H' : Hp) : Prop := ∀ a o, H a = some o → a ≠ nt.n → a ≠ nt.d → a ≠ nt.l → H' a = some o
theorem Keep.refl (nt : Nt) (H : Hp) : Keep nt H H := fun _ _ e _ _ _ => e
theorem Keep.trans {nt : Nt} {H H1 H2 : Hp} (a : Keep nt H H1) (b : Keep nt H1 H2) : Keep nt H H2 := fun x o e h1 h2 h3 => b x o (a x o e h1 h2 h3) h1 h2 h3
theorem Keep.of_same {nt : Nt} {H H' : Hp} (s : Same H H') : Keep nt H H' := fun x o e _ _ _ => s x o e
theorem same_new {H : Hp} {p : Addr} {o : HO} (h : H p = none) : Same H (upd H p o) := fun a u e => by
  rw [upd_ne (ne_of_none e h)]
  exact e
section
variable {CN : Addr} {nt : Nt} {H H' : Hp} {b : Book} {a : Addr}
theorem NotAt.ne (N : NotAt CN nt H b) {o : HO} (h : H a = some o) (hi : ∀ C dx fs, o ≠ .ins C dx fs) (hd : ∀ k, o ≠ .dT k) (hl : ∀ k, o ≠ .lst k) : a ≠ nt.n ∧ a ≠ nt.d ∧ a ≠ nt.l := by
  obtain ⟨dx, z, e1⟩ := N.ob
  obtain ⟨ts, e3, _⟩ := N.ls
  exact ⟨ne_of h e1 (hi _ _ _), ne_of h N.dc (hd _), ne_of h e3 (hl _)⟩
theorem Keep.tup (k : Keep nt H H') (N : NotAt CN nt H b) {xs : List V} (h : H a = some (.tup xs)) : H' a = some (.tup xs) := by
  obtain ⟨h1, h2, h3⟩ := N.ne h (fun _ _ _ z => nomatch z) (fun _ z => nomatch z) (fun _ z => nomatch z)
  exact k a _ h h1 h2 h3
theorem Keep.tab (k : Keep nt H H') (N : NotAt CN nt H b) (h : HTab H a) : HTab H' a := by
  obtain ⟨h1, h2, h3⟩ := N.ne h (fun _ _ _ z => nomatch z) (fun _ z => nomatch z) (fun _ z => nomatch z)
  exact k a _ h h1 h2 h3
theorem NotAt.same (N : NotAt CN nt H b) (s : Same H H') : NotAt CN nt H' b := by
  obtain ⟨dx, z, e1⟩ := N.ob
  obtain ⟨ts, e3, e4⟩ := N.ls
  exact ⟨⟨dx, z, s _ _ e1⟩, s _ _ N.dc, ⟨ts, s _ _ e3, e4⟩⟩
/-- all but the notary's objects: another's objects stay apart -/
theorem NotAt.apart (N : NotAt CN nt H b) : nt.n ≠ nt.d ∧ nt.n ≠ nt.l ∧ nt.d ≠ nt.l := by
  obtain ⟨dx, z, e1⟩ := N.ob
  obtain ⟨ts, e3, _⟩ := N.ls
  exact ⟨ne_of e1 N.dc (fun z => nomatch z), ne_of e1 e3 (fun z => nomatch z), ne_of N.dc e3 (fun z => nomatch z)⟩
end
/-- the class as the top has made it -/
structure NotC (K : PySem.W.Frag) (CN : Addr) : Prop where
  cl : Cls K CN
  numbers : NoAttr K CN "numbers"
  tuples : NoAttr K CN "tuples"
  asked : NoAttr K CN "asked"
def spNotary (CN : Addr) : Sp := fun vs H Q _ => ∃ (p dx : Addr), vs = [.ref p] ∧ H p = some (.ins CN dx []) ∧ ∀ (nt : Nt) (H' : Hp), nt.n = p → H nt.d = none → H nt.l = none → NotAt CN nt H' [] → (∀ a o, H a = some o → a ≠ p → H' a = some o) → Q .non H'
theorem sc_Notary_init : FnScope ["self"] ["self"] (defScope s_Notary_init) := ⟨rfl, rfl, rfl, by decide +kernel, rfl, by decide +kernel, by decide +kernel⟩
theorem ok_Notary_init {CN : Addr} (F : FnI K mg "Notary" CN "Notary.__init__" s_Notary_init) (T : NotC K CN) : Mkr P w K mg base 1 "Notary" CN ["self"] (spNotary CN) := by
  refine Mkr.of F sc_Notary_init (fun _ _ _ _ _ _ us hl => match us, hl with | [_], _ => rfl) (fun vs H Q E h => ?_) (fun f cdv A outer s H vs Q E hr h => ?_)
  · obtain ⟨p, dx, rfl, _⟩ := h; rfl
  · refine ⟨_, pss_cons (ps_fld (pv 0) pe_dnewT rfl) (pss_cons (ps_fld (pv 0) (pe_lst pa_nil) rfl) (pss_one (ps_fld (pv 0) pe_int rfl))), ?_⟩
    obtain ⟨p, dx, rfl, hp, k⟩ := h
    intro d hd
    have npd : p ≠ d := ne_of_none hp hd
    refine ⟨_, rfl, p, CN, dx, [], rfl, (by rw [upd_ne npd]; exact hp), T.cl, T.numbers, (by decide), ?_⟩
    refine ⟨Nat.zero_le _, fun l hl => ?_⟩
    have npl : p ≠ l := ne_of_none upd_same hl
    have nl : (upd H d (.dT [])) l = none := by rw [upd_ne (Ne.symm npl)] at hl; exact hl
    have ndl : d ≠ l := ne_of_none upd_same nl
    have nl0 : H l = none := by rw [upd_ne (Ne.symm ndl)] at nl; exact nl
    refine ⟨_, rfl, p, CN, dx, _, rfl, (by rw [upd_ne npl]; exact upd_same), T.cl, T.tuples, (by show 1 < 1000; decide), ?_⟩
    refine ⟨_, rfl, p, CN, dx, _, rfl, upd_same, T.cl, T.asked, (by show 2 < 1000; decide), ?_⟩
    have e : putF "asked" (V.int 0) (putF "tuples" (V.ref l) (putF "numbers" (V.ref d) [])) = nfl ⟨p, d, l⟩ 0 := by
      rw [put_nil, put_miss (by decide +kernel), put_nil, put_miss (by decide +kernel), put_miss (by decide +kernel), put_nil]
      rfl
    refine k ⟨p, d, l⟩ _ rfl hd nl0 ⟨⟨dx, 0, by rw [← e]; exact upd_same⟩, ?_, ⟨[], ?_, rfl⟩⟩ fun a o ha hne => ?_
    · show upd _ p _ d = _
      rw [upd_ne (Ne.symm npd), upd_ne (Ne.symm npd), upd_ne ndl, upd_ne (Ne.symm npd), upd_same]
      rfl
    · show upd _ p _ l = _
      rw [upd_ne (Ne.symm npl), upd_ne (Ne.symm npl), upd_same]
    · rw [upd_ne hne, upd_ne hne, upd_ne (ne_of_none ha nl0), upd_ne hne, upd_ne (ne_of_none ha hd)]
      exact ha
end
end K24
set_option Elab.async false
set_option autoImplicit false
set_option linter.all false
set_option maxRecDepth 100000
set_option maxHeartbeats 4000000
namespace K24
open PySem PySem.Spec PyProof.Rows L2

/-- the most seals that our runs come to -/
def LIM : Nat := 16000000
/-- all that a call of seal or find leans on -/
structure Call (CN : Addr) (tl tp : Addr) (nt : Nt) (H : Hp) (b : Book) : Prop where
  nt : NotAt CN nt H b
  tl : HTab H tl
  tp : HTab H tp
theorem Call.keep {CN tl tp : Addr} {nt : Nt} {H H' : Hp} {b b' : Book} (c : Call CN tl tp nt H b) (k : Keep nt H H') (n : NotAt CN nt H' b') : Call CN tl tp nt H' b' := ⟨n, k.tab c.nt c.tl, k.tab c.nt c.tp⟩
theorem Call.same {CN tl tp : Addr} {nt : Nt} {H H' : Hp} {b : Book} (c : Call CN tl tp nt H b) (s : Same H H') : Call CN tl tp nt H' b := ⟨c.nt.same s, s _ _ c.tl, s _ _ c.tp⟩
def spSeal (CN tl tp : Addr) : Sp := fun vs H Q _ => ∃ (nt : Nt) (a : Addr) (ps : Parts) (b : Book), vs = [.ref nt.n, .ref a] ∧ Call CN tl tp nt H b ∧ H a = some (.tup (ps.map kV)) ∧ PartsOk ps ∧ b.length < LIM ∧
  ∀ H', Keep nt H H' → NotAt CN nt H' (addB b ps) → Q (.int (findB (addB b ps) ps : Int)) H'
def spFind (CN tl tp : Addr) : Sp := fun vs H Q _ => ∃ (nt : Nt) (a : Addr) (ps : Parts) (b : Book), vs = [.ref nt.n, .ref a] ∧ Call CN tl tp nt H b ∧ H a = some (.tup (ps.map kV)) ∧ PartsOk ps ∧
  ∀ H', Keep nt H H' → NotAt CN nt H' b → Q (.int (findB b ps : Int)) H'
section
variable {P : Program} {w : World} {K : PySem.W.Frag} {mg : Str → Option Value} {base : Heap}
theorem sc_Notary_seal : FnScope ["self", "parts"] ["self", "parts"] (defScope s_Notary_seal) := ⟨rfl, rfl, rfl, by decide +kernel, rfl, by decide +kernel, by decide +kernel⟩
theorem ok_Notary_seal {CN tl tp : Addr} (F : FnM K CN "seal" "Notary.seal" s_Notary_seal) (T : NotC K CN) (C : Cst K mg) (D : Def P w K mg base 4 "is_parts" ["value"] (spParts tl tp)) : Mth P w K mg base 5 CN "seal" ["self", "parts"] (spSeal CN tl tp) := by
  refine Mth.of F sc_Notary_seal (fun _ _ _ _ _ _ us hl => match us, hl with | [_, _], _ => rfl) (fun vs H Q E h => ?_) (fun f cdv A outer s H vs Q E hr h => ?_)
  · obtain ⟨nt, a, ps, b, rfl, _⟩ := h; rfl
  · have hu := hu_of hr
    refine ⟨_, pss_cons (ps_if (pt_not (pt_val (pe_d D hr rfl (pa_cons (pv 1) pa_nil)))) (pss_one ps_never) pss_nil)
      (pss_cons (ps_if (pt_cmp (pc_dnotin hu (pv 1) (pe_fld (pv 0) rfl)))
        (pss_cons (ps_expr (pe_bm PySem.F.plainAttrs_list PySem.F.slot_list_append PySem.F.type_list_append mt_append (pe_fld (pv 0) rfl) (pa_cons (pv 1) pa_nil)))
          (pss_one (ps_dput hu (pe_fld (pv 0) rfl) (pv 1) (pe_callB call_len_seq rfl C.len PySem.boot_len (pa_cons (pe_fld (pv 0) rfl) pa_nil)) rfl))) pss_nil)
      (pss_one (ps_ret (pe_dget hu (pe_fld (pv 0) rfl) (pv 1) (fun _ _ => rfl))))), ?_⟩
    obtain ⟨nt, a, ps, b, rfl, c, ha, hk, hl, k⟩ := h
    obtain ⟨dx, z, en⟩ := c.nt.ob
    obtain ⟨ts, el, elen⟩ := c.nt.ls
    obtain ⟨n1, n2, n3⟩ := c.nt.apart
    obtain ⟨a1, a2, a3⟩ := c.nt.ne ha (fun _ _ _ z => nomatch z) (fun _ z => nomatch z) (fun _ z => nomatch z)
    refine ⟨_, rfl, a, ps, rfl, ha, hk, c.tl, c.tp, _, rfl, iteF ?_⟩
    refine ⟨_, rfl, _, rfl, nt.n, CN, dx, _, _, rfl, en, T.cl, T.numbers, nfl_numbers _ _, nt.d, _, rfl, DGet.t c.nt.dc ha, _, rfl, ?_⟩
    rw [kvB_val]
    by_cases hf : findB b ps = 0
    · rw [if_pos hf]
      have eb : addB b ps = b ++ [ps] := by unfold addB; rw [if_pos hf]
      rw [eb] at k
      refine iteT ?_
      refine ⟨_, rfl, nt.n, CN, dx, _, _, rfl, en, T.cl, T.tuples, nfl_tuples _ _, .inl ⟨rfl, _, SqL.of el⟩, _, rfl, nt.l, ts, .ref a, rfl, rfl, el, by rw [elen]; exact Nat.lt_trans hl (by decide), ?_⟩
      have en2 : (upd H nt.l (.lst (ts ++ [V.ref a]))) nt.n = some (.ins CN dx (nfl nt z)) := by rw [upd_ne n2]; exact en
      refine ⟨_, rfl, nt.n, CN, dx, _, _, rfl, en2, T.cl, T.tuples, nfl_tuples _ _, nt.l, _, rfl, .inl (SqL.of upd_same), ?_⟩
      have ed2 : (upd H nt.l (.lst (ts ++ [V.ref a]))) nt.d = some (.dT (kvB b)) := by rw [upd_ne n3]; exact c.nt.dc
      have ha2 : (upd H nt.l (.lst (ts ++ [V.ref a]))) a = some (.tup (ps.map kV)) := by rw [upd_ne a3]; exact ha
      refine ⟨_, rfl, nt.n, CN, dx, _, _, rfl, en2, T.cl, T.numbers, nfl_numbers _ _, _, rfl, nt.d, _, rfl, DPut.t ed2 ha2 (by rw [kvFrom_len]; exact Nat.lt_trans hl (by decide)), ?_⟩
      have ev : putK (kvB b) ps (V.int ((ts ++ [V.ref a]).length : Int)) = kvB (b ++ [ps]) := by
        rw [← kvB_put hf, List.length_append, elen]
        rfl
      rw [ev]
      generalize hH : upd (upd H nt.l (.lst (ts ++ [V.ref a]))) nt.d (.dT (kvB (b ++ [ps]))) = H2
      have en3 : H2 nt.n = some (.ins CN dx (nfl nt z)) := by rw [← hH, upd_ne n1]; exact en2
      have ed3 : H2 nt.d = some (.dT (kvB (b ++ [ps]))) := by rw [← hH]; exact upd_same
      have ha3 : H2 a = some (.tup (ps.map kV)) := by rw [← hH, upd_ne a2]; exact ha2
      have el3 : H2 nt.l = some (.lst (ts ++ [V.ref a])) := by rw [← hH, upd_ne (Ne.symm n3)]; exact upd_same
      refine ⟨_, rfl, nt.n, CN, dx, _, _, rfl, en3, T.cl, T.numbers, nfl_numbers _ _, _, rfl, nt.d, _, rfl, (by
        have g := DGet.t ed3 ha3
        rw [kvB_val, if_neg (by rw [findB_new hf]; omega)] at g
        exact g), ?_⟩
      refine k H2 (fun x o e h1 h2 h3 => ?_) ⟨⟨dx, z, en3⟩, ed3, ⟨_, el3, by rw [List.length_append, List.length_append, elen]; rfl⟩⟩
      rw [← hH, upd_ne h2, upd_ne h3]
      exact e
    · rw [if_neg hf]
      have eb : addB b ps = b := by unfold addB; rw [if_neg hf]
      rw [eb] at k
      refine iteF ?_
      refine ⟨_, rfl, nt.n, CN, dx, _, _, rfl, en, T.cl, T.numbers, nfl_numbers _ _, _, rfl, nt.d, _, rfl, (by
        have g := DGet.t c.nt.dc ha
        rw [kvB_val, if_neg hf] at g
        exact g), ?_⟩
      exact k H (.refl _ _) c.nt
theorem sc_Notary_find : FnScope ["self", "parts"] ["self", "parts"] (defScope s_Notary_find) := ⟨rfl, rfl, rfl, by decide +kernel, rfl, by decide +kernel, by decide +kernel⟩
theorem ok_Notary_find {CN tl tp : Addr} (F : FnM K CN "find" "Notary.find" s_Notary_find) (T : NotC K CN) (C : Cst K mg) (D : Def P w K mg base 4 "is_parts" ["value"] (spParts tl tp)) : Mth P w K mg base 5 CN "find" ["self", "parts"] (spFind CN tl tp) := by
  refine Mth.of F sc_Notary_find (fun _ _ _ _ _ _ us hl => match us, hl with | [_, _], _ => rfl) (fun vs H Q E h => ?_) (fun f cdv A outer s H vs Q E hr h => ?_)
  · obtain ⟨nt, a, ps, b, rfl, _⟩ := h; rfl
  · have hu := hu_of hr
    refine ⟨_, pss_cons (ps_fld (pv 0) (pe_op op_add (pe_fld (pv 0) rfl) pe_int) rfl)
      (pss_cons (ps_if (pt_not (pt_val (pe_d D hr rfl (pa_cons (pv 1) pa_nil)))) (pss_one ps_never) pss_nil)
      (pss_one (ps_ret (pe_dget2 hu (pe_fld (pv 0) rfl) (pv 1) pe_int ⟨rfl, rfl, rfl, rfl⟩)))), ?_⟩
    obtain ⟨nt, a, ps, b, rfl, c, ha, hk, k⟩ := h
    obtain ⟨dx, z, en⟩ := c.nt.ob
    obtain ⟨ts, el, elen⟩ := c.nt.ls
    obtain ⟨n1, n2, n3⟩ := c.nt.apart
    obtain ⟨a1, a2, a3⟩ := c.nt.ne ha (fun _ _ _ z => nomatch z) (fun _ z => nomatch z) (fun _ z => nomatch z)
    refine ⟨_, rfl, nt.n, CN, dx, _, _, rfl, en, T.cl, T.asked, nfl_asked _ _, _, _, rfl, rfl, _, rfl, nt.n, CN, dx, _, rfl, en, T.cl, T.asked, (by show 3 < 1000; decide), ?_⟩
    rw [nfl_put]
    generalize hH : upd H nt.n (.ins CN dx (nfl nt (z + 1))) = H2
    have kp : Keep nt H H2 := fun x o e h1 h2 h3 => by rw [← hH, upd_ne h1]; exact e
    have en2 : H2 nt.n = some (.ins CN dx (nfl nt (z + 1))) := by rw [← hH]; exact upd_same
    have ed2 : H2 nt.d = some (.dT (kvB b)) := by rw [← hH, upd_ne (Ne.symm n1)]; exact c.nt.dc
    have el2 : H2 nt.l = some (.lst ts) := by rw [← hH, upd_ne (Ne.symm n2)]; exact el
    have ha2 := kp.tup c.nt ha
    refine ⟨_, rfl, a, ps, rfl, ha2, hk, kp.tab c.nt c.tl, kp.tab c.nt c.tp, _, rfl, iteF ?_⟩
    refine ⟨_, rfl, nt.n, CN, dx, _, _, rfl, en2, T.cl, T.numbers, nfl_numbers _ _, nt.d, rfl, .inr ⟨_, .inl ed2⟩, _, rfl, _, DGet.t ed2 ha2, ?_⟩
    have e : (valV (kvB b) ps).getD (V.int 0) = V.int (findB b ps : Int) := by
      rw [kvB_val]
      by_cases hf : findB b ps = 0
      · rw [if_pos hf, hf]; rfl
      · rw [if_neg hf]; rfl
    rw [e]
    exact k H2 kp ⟨⟨dx, _, en2⟩, ed2, ⟨ts, el2, elen⟩⟩
end
end K24
set_option Elab.async false
set_option autoImplicit false
set_option linter.all false
set_option maxRecDepth 100000
set_option maxHeartbeats 4000000
/-! Trees of seals: plain. -/
namespace K24
open PySem PySem.Spec PyProof.Rows L2

def pairP (x y : Nat) : Parts := [.inr "pair", .inl (x : Int), .inl (y : Int)]
theorem pairP_inj {x y x' y' : Nat} (h : pairP x y = pairP x' y') : x = x' ∧ y = y' := by
  unfold pairP at h
  injection h with _ h
  injection h with h1 h
  injection h with h2 _
  injection h1 with h1
  injection h2 with h2
  omega
def sib (i : Nat) : Nat := i + 1 - 2 * (i % 2)
/-- ys: the seals of the pairs of xs -/
structure LevelB (b : Book) (xs ys : List Nat) : Prop where
  len : xs.length = 2 * ys.length
  at_ : ∀ i x y, xs[2 * i]? = some x → xs[2 * i + 1]? = some y → ∃ z, ys[i]? = some z ∧ findB b (pairP x y) = z ∧ z ≠ 0
def TreeB (b : Book) : List (List Nat) → Prop
  | [] => False
  | [r] => r.length = 1
  | r :: s :: t => LevelB b r s ∧ TreeB b (s :: t)
def pathR : List (List Nat) → Nat → List Nat
  | r :: s :: t, i => r.getD (sib i) 0 :: pathR (s :: t) (i / 2)
  | _, _ => []
def rootR : List (List Nat) → Nat
  | [r] => r.getD 0 0
  | _ :: s :: t => rootR (s :: t)
  | [] => 0
def rootBy (b : Book) : Nat → Nat → List Nat → Nat
  | i, x, [] => if i = 0 then x else 0
  | i, x, o :: p => if findB b (if i % 2 = 0 then pairP x o else pairP o x) = 0 then 0 else rootBy b (i / 2) (findB b (if i % 2 = 0 then pairP x o else pairP o x)) p

theorem LevelB.ext {b b' : Book} (e : Ext b b') {xs ys : List Nat} (h : LevelB b xs ys) : LevelB b' xs ys :=
  ⟨h.len, fun i x y hx hy => by
    obtain ⟨z, h1, h2, h3⟩ := h.at_ i x y hx hy
    exact ⟨z, h1, by rw [e.find (by rw [h2]; exact h3)]; exact h2, h3⟩⟩
theorem TreeB.ext {b b' : Book} (e : Ext b b') : ∀ {rows : List (List Nat)}, TreeB b rows → TreeB b' rows
  | [], h => h
  | [_], h => h
  | _ :: _ :: _, h => ⟨h.1.ext e, TreeB.ext e h.2⟩
/-- the node over the leaf i, and what stands beside -/
theorem LevelB.node {b : Book} {xs ys : List Nat} (h : LevelB b xs ys) {i x : Nat} (hx : xs[i]? = some x) :
    ∃ z, ys[i / 2]? = some z ∧ z ≠ 0 ∧ findB b (if i % 2 = 0 then pairP x (xs.getD (sib i) 0) else pairP (xs.getD (sib i) 0) x) = z := by
  have hi : i < xs.length := (List.getElem?_eq_some_iff.mp hx).1
  have hl := h.len
  by_cases e : i % 2 = 0
  · have e2 : i = 2 * (i / 2) := by omega
    have hs : sib i = 2 * (i / 2) + 1 := by unfold sib; omega
    have hlt : 2 * (i / 2) + 1 < xs.length := by omega
    have hy : xs[2 * (i / 2) + 1]? = some (xs.getD (sib i) 0) := by
      rw [hs, List.getD_eq_getElem?_getD, List.getElem?_eq_getElem hlt]
      rfl
    obtain ⟨z, h1, h2, h3⟩ := h.at_ (i / 2) x _ (by rw [← e2]; exact hx) hy
    exact ⟨z, h1, h3, by rw [if_pos e]; exact h2⟩
  · have e2 : i = 2 * (i / 2) + 1 := by omega
    have hs : sib i = 2 * (i / 2) := by unfold sib; omega
    have hlt : 2 * (i / 2) < xs.length := by omega
    have hy : xs[2 * (i / 2)]? = some (xs.getD (sib i) 0) := by
      rw [hs, List.getD_eq_getElem?_getD, List.getElem?_eq_getElem hlt]
      rfl
    obtain ⟨z, h1, h2, h3⟩ := h.at_ (i / 2) _ x hy (by rw [← e2]; exact hx)
    exact ⟨z, h1, h3, by rw [if_neg e]; exact h2⟩
/-- a leaf, its index and its path lead to the root -/
theorem root_of_path {b : Book} : ∀ {t : List (List Nat)} {r : List Nat} {i x : Nat}, TreeB b (r :: t) → r[i]? = some x → rootBy b i x (pathR (r :: t) i) = rootR (r :: t)
  | [], r, i, x, h, hx => by
    have hi : i < r.length := (List.getElem?_eq_some_iff.mp hx).1
    have h : r.length = 1 := h
    have e : i = 0 := by omega
    subst e
    show (if 0 = 0 then x else 0) = r.getD 0 0
    rw [if_pos rfl, List.getD_eq_getElem?_getD, hx]
    rfl
  | s :: t, r, i, x, h, hx => by
    obtain ⟨z, h1, h2, h3⟩ := h.1.node hx
    show (if findB b _ = 0 then 0 else rootBy b (i / 2) (findB b _) (pathR (s :: t) (i / 2))) = rootR (s :: t)
    rw [h3, if_neg h2]
    exact root_of_path h.2 h1
theorem pathR_len : ∀ {t : List (List Nat)} {r : List Nat} {i : Nat}, (pathR (r :: t) i).length = t.length
  | [], _, _ => rfl
  | s :: t, r, i => by
    show (pathR (s :: t) (i / 2)).length + 1 = t.length + 1
    rw [pathR_len]
/-- only the leaf leads there, by its path -/
theorem path_of_root {b : Book} : ∀ {t : List (List Nat)} {r : List Nat} {i x : Nat} {p : List Nat}, TreeB b (r :: t) → i < r.length → p.length = t.length → rootR (r :: t) ≠ 0 → rootBy b i x p = rootR (r :: t) → r[i]? = some x ∧ p = pathR (r :: t) i
  | [], r, i, x, p, h, hi, hp, hr, e => by
    have h : r.length = 1 := h
    have e0 : i = 0 := by omega
    subst e0
    have hp0 : p = [] := List.eq_nil_of_length_eq_zero hp
    subst hp0
    have e1 : x = r.getD 0 0 := by
      have z : (if 0 = 0 then x else 0) = r.getD 0 0 := e
      rw [if_pos rfl] at z
      exact z
    refine ⟨?_, rfl⟩
    rw [e1, List.getD_eq_getElem?_getD, List.getElem?_eq_getElem hi]
    rfl
  | s :: t, r, i, x, [], h, hi, hp, hr, e => by simp at hp
  | s :: t, r, i, x, o :: p, h, hi, hp, hr, e => by
    have e1 : (if findB b (if i % 2 = 0 then pairP x o else pairP o x) = 0 then 0 else rootBy b (i / 2) (findB b (if i % 2 = 0 then pairP x o else pairP o x)) p) = rootR (s :: t) := e
    have hr2 : rootR (s :: t) ≠ 0 := hr
    by_cases hz : findB b (if i % 2 = 0 then pairP x o else pairP o x) = 0
    · rw [if_pos hz] at e1
      exact absurd e1.symm hr2
    · rw [if_neg hz] at e1
      have hl := h.1.len
      obtain ⟨h1, h2⟩ := path_of_root h.2 (by omega : i / 2 < s.length) (by simpa using hp) hr2 e1
      obtain ⟨z, g1, g2, g3⟩ := h.1.node (List.getElem?_eq_getElem hi)
      rw [h1] at g1
      have g1 := Option.some.inj g1
      rw [← g1] at g3
      have key := findB_inj g3.symm hz
      have hxo : x = r[i] ∧ o = r.getD (sib i) 0 := by
        by_cases ei : i % 2 = 0
        · rw [if_pos ei, if_pos ei] at key
          exact pairP_inj key
        · rw [if_neg ei, if_neg ei] at key
          obtain ⟨k1, k2⟩ := pairP_inj key
          exact ⟨k2, k1⟩
      refine ⟨by rw [List.getElem?_eq_getElem hi, hxo.1], ?_⟩
      show o :: p = r.getD (sib i) 0 :: pathR (s :: t) (i / 2)
      rw [hxo.2, h2]
/-- the rows are those of the leaves -/
theorem tree_det {b : Book} : ∀ {t t' : List (List Nat)} {r : List Nat}, TreeB b (r :: t) → TreeB b (r :: t') → t = t'
  | [], [], _, _, _ => rfl
  | [], s' :: t', r, h, h' => by
    have h : r.length = 1 := h
    have := h'.1.len
    omega
  | s :: t, [], r, h, h' => by
    have h' : r.length = 1 := h'
    have := h.1.len
    omega
  | s :: t, s' :: t', r, h, h' => by
    have e : s = s' := by
      have l1 := h.1.len
      have l2 := h'.1.len
      refine List.ext_getElem? fun i => ?_
      by_cases hi : i < s.length
      · have a1 : 2 * i < r.length := by omega
        have a2 : 2 * i + 1 < r.length := by omega
        obtain ⟨z, z1, z2, z3⟩ := h.1.at_ i _ _ (List.getElem?_eq_getElem a1) (List.getElem?_eq_getElem a2)
        obtain ⟨y, y1, y2, y3⟩ := h'.1.at_ i _ _ (List.getElem?_eq_getElem a1) (List.getElem?_eq_getElem a2)
        rw [z1, y1, ← z2, ← y2]
      · rw [List.getElem?_eq_none (by omega), List.getElem?_eq_none (by omega)]
    subst e
    rw [tree_det h.2 h'.2]
/-- another leaf at i: the path stays -/
theorem path_same {b : Book} : ∀ {t t' : List (List Nat)} {r r' : List Nat} {i : Nat}, TreeB b (r :: t) → TreeB b (r' :: t') → r'.length = r.length → (∀ j, j ≠ i → r'[j]? = r[j]?) → i < r.length → pathR (r' :: t') i = pathR (r :: t) i
  | [], [], _, _, _, _, _, _, _, _ => rfl
  | [], s' :: t', r, r', i, h, h', hl, hj, hi => by
    have h : r.length = 1 := h
    have := h'.1.len
    omega
  | s :: t, [], r, r', i, h, h', hl, hj, hi => by
    have h' : r'.length = 1 := h'
    have := h.1.len
    omega
  | s :: t, s' :: t', r, r', i, h, h', hl, hj, hi => by
    have l1 := h.1.len
    have l2 := h'.1.len
    have hsib : sib i ≠ i := by unfold sib; omega
    have e1 : r'.getD (sib i) 0 = r.getD (sib i) 0 := by rw [List.getD_eq_getElem?_getD, List.getD_eq_getElem?_getD, hj _ hsib]
    have e2 : ∀ j, j ≠ i / 2 → s'[j]? = s[j]? := fun j hne => by
      by_cases hj2 : j < s.length
      · have a1 : 2 * j < r.length := by omega
        have a2 : 2 * j + 1 < r.length := by omega
        have b1 : r'[2 * j]? = some r[2 * j] := by rw [hj _ (by omega), List.getElem?_eq_getElem a1]
        have b2 : r'[2 * j + 1]? = some r[2 * j + 1] := by rw [hj _ (by omega), List.getElem?_eq_getElem a2]
        obtain ⟨z, z1, z2, z3⟩ := h.1.at_ j _ _ (List.getElem?_eq_getElem a1) (List.getElem?_eq_getElem a2)
        obtain ⟨y, y1, y2, y3⟩ := h'.1.at_ j _ _ b1 b2
        rw [z1, y1, ← z2, ← y2]
      · rw [List.getElem?_eq_none (by omega), List.getElem?_eq_none (by omega)]
    show r'.getD (sib i) 0 :: pathR (s' :: t') (i / 2) = r.getD (sib i) 0 :: pathR (s :: t) (i / 2)
    rw [e1, path_same h.2 h'.2 (by omega) e2 (by omega)]
theorem root_ne {b : Book} : ∀ {t : List (List Nat)} {r s : List Nat}, TreeB b (r :: s :: t) → rootR (r :: s :: t) ≠ 0
  | [], r, s, h => by
    have h2 : s.length = 1 := h.2
    have hl := h.1.len
    obtain ⟨z, z1, z2, z3⟩ := h.1.at_ 0 _ _ (List.getElem?_eq_getElem (by omega)) (List.getElem?_eq_getElem (by omega))
    show s.getD 0 0 ≠ 0
    rw [List.getD_eq_getElem?_getD, z1]
    exact z3
  | s' :: t, r, s, h => root_ne (t := t) (r := s) (s := s') h.2
end K24
set_option Elab.async false
set_option autoImplicit false
set_option linter.all false
set_option maxRecDepth 100000
set_option maxHeartbeats 4000000
namespace K24
open PySem PySem.Spec PyProof.Rows L2
section
variable {P : Program} {w : World} {K : PySem.W.Frag} {mg : Str → Option Value} {base : Heap}

def spLeaves : Sp := fun vs H Q _ => ∃ h : Nat, h ≤ 10 ∧ vs = [.int (h : Int)] ∧ Q (.int ((2 ^ h : Nat) : Int)) H
theorem sc_leaf_count : FnScope ["height", "count", "_"] ["height"] (defScope s_leaf_count) := ⟨rfl, rfl, rfl, by decide +kernel, rfl, by decide +kernel, by decide +kernel⟩
theorem ok_leaf_count (F : FnF K mg "leaf_count" "leaf_count" s_leaf_count) (C : Cst K mg) : Def P w K mg base 1 "leaf_count" ["height"] spLeaves := by
  refine Def.of F sc_leaf_count (fun _ _ _ _ _ _ us hl => match us, hl with | [_], _ => rfl) (fun vs H Q E h => ?_) (fun f cdv A outer s H vs Q E hr h => ?_)
  · obtain ⟨n, _, rfl, _⟩ := h; rfl
  · refine ⟨_, pss_cons (ps_set (i := 1) sc_leaf_count.nd rfl (Or.inl rfl) pe_int)
      (pss_cons (ps_for PassesOwn.never rfl (pi_range1 rfl C.range (pa_cons (pv 0) pa_nil)) (pg_name (i := 2) sc_leaf_count.nd rfl (Or.inl rfl)) (pss_one (ps_set (i := 1) sc_leaf_count.nd rfl (Or.inl rfl) (pe_op op_mul pe_int (pv 1)))))
      (pss_one (ps_ret (pv 1)))), ?_⟩
    obtain ⟨n, hn, rfl, q⟩ := h
    refine ⟨_, rfl, (n : Int), rfl, by omega, by omega, for_range (lo := 0) (n := (n : Int).toNat) (fun i σ H2 => H2 = H ∧ ∃ v, σ = [some (.int (n : Int)), some (.int ((2 ^ i : Nat) : Int)), v]) ⟨rfl, none, rfl⟩ ?_ ?_⟩
    · rintro i σ H2 hi ⟨rfl, v, rfl⟩
      refine ⟨_, rfl, _, _, rfl, rfl, .inl ⟨by decide, by decide⟩, ⟨rfl, some (.int (0 + (i : Int))), ?_⟩⟩
      have e : (2 : Int) * ((2 ^ i : Nat) : Int) = ((2 ^ (i + 1) : Nat) : Int) := by
        rw [Nat.pow_succ]
        omega
      show [some (V.int (n : Int)), some (V.int ((2 : Int) * ((2 ^ i : Nat) : Int))), some (V.int (0 + (i : Int)))] = _
      rw [e]
    · rintro σ H2 ⟨rfl, v, rfl⟩
      refine ⟨_, rfl, ?_⟩
      have e : (n : Int).toNat = n := Int.toNat_natCast n
      rw [e]
      exact q

def spHeight : Sp := fun vs H Q _ => ∃ h : Nat, h ≤ 10 ∧ vs = [.int ((2 ^ h : Nat) : Int)] ∧ Q (.int (h : Int)) H
theorem sc_height_of : FnScope ["count", "height"] ["count"] (defScope s_height_of) := ⟨rfl, rfl, rfl, by decide +kernel, rfl, by decide +kernel, by decide +kernel⟩
theorem ok_height_of (F : FnF K mg "height_of" "height_of" s_height_of) (C : Cst K mg) (D : Def P w K mg base 1 "leaf_count" ["height"] spLeaves) : Def P w K mg base 2 "height_of" ["count"] spHeight := by
  refine Def.of F sc_height_of (fun _ _ _ _ _ _ us hl => match us, hl with | [_], _ => rfl) (fun vs H Q E h => ?_) (fun f cdv A outer s H vs Q E hr h => ?_)
  · obtain ⟨n, _, rfl, _⟩ := h; rfl
  · refine ⟨_, pss_cons (ps_set (i := 1) sc_height_of.nd rfl (Or.inl rfl) pe_int)
      (pss_cons (ps_while PassesOwn.never (PW.pt (pw_and (pt_cmpR op_lt (pv 1) (pe_gi C.nMAX_HEIGHT rfl) (nomark _)) (pw_and1 (pt_cmpR op_lt (pe_d D hr rfl (pa_cons (pv 1) pa_nil)) (pv 0) (nomark _)))))
        (pss_one (ps_set (i := 1) sc_height_of.nd rfl (Or.inl rfl) (pe_op op_add (pv 1) pe_int))))
      (pss_cons (ps_if (pt_cmpR op_ne (pe_d D hr rfl (pa_cons (pv 1) pa_nil)) (pv 0) (nomark _)) (pss_one ps_never) pss_nil)
      (pss_one (ps_ret (pv 1))))), ?_⟩
    obtain ⟨n, hn, rfl, q⟩ := h
    refine ⟨fun m σ H2 => H2 = H ∧ ∃ i : Nat, i ≤ n ∧ m = n - i ∧ σ = [some (.int ((2 ^ n : Nat) : Int)), some (.int (i : Int))], ⟨n, rfl, 0, Nat.zero_le _, rfl, rfl⟩, ?_⟩
    rintro m σ H2 ⟨rfl, i, hi, rfl, rfl⟩
    refine ⟨_, rfl, _, _, rfl, rfl, _, rfl, ?_⟩
    have go : ∀ j : Nat, j = n → (if (!decide (V.int ((2 ^ j : Nat) : Int) = V.int ((2 ^ n : Nat) : Int))) = true then False else Q (.int (j : Int)) H2) := fun j hj => by
      subst hj
      exact iteNS rfl q
    by_cases h10 : (i : Int) < 10
    · rw [decide_eq_true h10]
      refine iteT ⟨_, rfl, i, by omega, rfl, _, rfl, _, _, rfl, rfl, _, rfl, ?_⟩
      by_cases hlt : i < n
      · have h2 : 2 ^ i < 2 ^ n := Nat.pow_lt_pow_right (by decide) hlt
        rw [decide_eq_true (show ((2 ^ i : Nat) : Int) < ((2 ^ n : Nat) : Int) by omega)]
        refine iteT ⟨fun σ' H' => H' = H2 ∧ σ' = [some (.int ((2 ^ n : Nat) : Int)), some (.int ((i + 1 : Nat) : Int))], fun σ' H' e => ⟨n - (i + 1), by omega, e.1, i + 1, hlt, rfl, e.2⟩, ?_⟩
        exact ⟨_, rfl, _, _, rfl, rfl, rfl, rfl⟩
      · have e : i = n := by omega
        subst e
        rw [decide_eq_false (Int.lt_irrefl _)]
        refine iteF ⟨_, rfl, i, hn, rfl, _, rfl, rfl, _, rfl, iteNS rfl ⟨_, rfl, q⟩⟩
    · have e : i = n := by omega
      subst e
      rw [decide_eq_false h10]
      refine iteF (iteF ⟨_, rfl, i, hn, rfl, _, rfl, rfl, _, rfl, iteNS rfl ⟨_, rfl, q⟩⟩)
end
end K24
set_option Elab.async false
set_option autoImplicit false
set_option linter.all false
set_option maxRecDepth 100000
set_option maxHeartbeats 4000000
namespace K24
open PySem PySem.Spec PyProof.Rows L2

/-- seals (and other naturals) as values -/
def nats (xs : List Nat) : List V := xs.map fun n : Nat => V.int (n : Int)
theorem nats_len (xs : List Nat) : (nats xs).length = xs.length := List.length_map _
theorem nats_at {xs : List Nat} {i x : Nat} (h : xs[i]? = some x) : (nats xs)[i]? = some (.int (x : Int)) := by
  unfold nats
  rw [List.getElem?_map, h]
  rfl
theorem nats_snoc (xs : List Nat) (x : Nat) : nats xs ++ [.int (x : Int)] = nats (xs ++ [x]) := by
  unfold nats
  rw [List.map_append]
  rfl
/-- the rows at the addresses rs -/
abbrev RowL (H : Hp) (rs : List Addr) (rows : List (List Nat)) : Prop := Paired (fun a xs => H a = some (.lst (nats xs))) rs rows
theorem Keep.lst {CN : Addr} {nt : Nt} {H H' : Hp} {b : Book} {a : Addr} {xs : List V} (k : Keep nt H H') (N : NotAt CN nt H b) (h : H a = some (.lst xs)) (hne : a ≠ nt.l) : H' a = some (.lst xs) := by
  obtain ⟨dx, z, e1⟩ := N.ob
  exact k a _ h (ne_of h e1 (fun z => nomatch z)) (ne_of h N.dc (fun z => nomatch z)) hne
theorem RowL.map {H H' : Hp} : ∀ {rs : List Addr} {rows : List (List Nat)}, RowL H rs rows → (∀ a ∈ rs, ∀ xs, H a = some (.lst xs) → H' a = some (.lst xs)) → RowL H' rs rows
  | _, _, .nil, _ => .nil
  | _, _, .cons e t, h => .cons (h _ List.mem_cons_self _ e) (RowL.map t fun a ha => h a (List.mem_cons_of_mem _ ha))
theorem RowL.len {H : Hp} {rs : List Addr} {rows : List (List Nat)} (r : RowL H rs rows) : rs.length = rows.length := Paired.length r
theorem RowL.snoc {H : Hp} {a : Addr} {xs : List Nat} : ∀ {rs : List Addr} {rows : List (List Nat)}, RowL H rs rows → H a = some (.lst (nats xs)) → RowL H (rs ++ [a]) (rows ++ [xs])
  | _, _, .nil, e => .cons e .nil
  | _, _, .cons e t, h => .cons e (RowL.snoc t h)
theorem RowL.get {H : Hp} : ∀ {rs : List Addr} {rows : List (List Nat)} {i : Nat} {a : Addr}, RowL H rs rows → rs[i]? = some a → ∃ xs, rows[i]? = some xs ∧ H a = some (.lst (nats xs))
  | _, _, _, _, .nil, e => by simp at e
  | _, _, 0, _, .cons e t, h => by
    simp at h
    subst h
    exact ⟨_, rfl, e⟩
  | _, _, i + 1, _, .cons e t, h => by
    obtain ⟨xs, h1, h2⟩ := RowL.get (i := i) t (by simpa using h)
    exact ⟨xs, by simpa using h1, h2⟩
theorem RowL.last {H : Hp} {xs : List Nat} : ∀ {rs : List Addr} {rows : List (List Nat)}, RowL H rs (rows ++ [xs]) → ∃ rs' a, rs = rs' ++ [a] ∧ RowL H rs' rows ∧ H a = some (.lst (nats xs))
  | _, [], .cons e .nil => ⟨[], _, rfl, .nil, e⟩
  | _, r :: rows, .cons e t => by
    obtain ⟨rs', a, h1, h2, h3⟩ := RowL.last (rows := rows) t
    exact ⟨_ :: rs', a, by rw [h1]; rfl, .cons e h2, h3⟩
/-- neighbouring rows fit -/
def ChainB (b : Book) : List (List Nat) → Prop
  | r :: s :: t => LevelB b r s ∧ ChainB b (s :: t)
  | _ => True
theorem ChainB.ext {b b' : Book} (e : Ext b b') : ∀ {rows : List (List Nat)}, ChainB b rows → ChainB b' rows
  | [], _ => trivial
  | [_], _ => trivial
  | _ :: _ :: _, h => ⟨h.1.ext e, ChainB.ext e h.2⟩
theorem ChainB.snoc {b : Book} {x y : List Nat} : ∀ {pre : List (List Nat)}, ChainB b (pre ++ [x]) → LevelB b x y → ChainB b (pre ++ [x] ++ [y])
  | [], _, l => ⟨l, trivial⟩
  | [r], h, l => ⟨h.1, l, trivial⟩
  | r :: s :: t, h, l => ⟨h.1, ChainB.snoc (pre := s :: t) h.2 l⟩
theorem ChainB.tree {b : Book} {x : List Nat} (hx : x.length = 1) : ∀ {pre : List (List Nat)}, ChainB b (pre ++ [x]) → TreeB b (pre ++ [x])
  | [], _ => hx
  | [r], h => ⟨h.1, hx⟩
  | r :: s :: t, h => ⟨h.1, ChainB.tree hx (pre := s :: t) h.2⟩

theorem fits {z : Int} (h1 : 0 ≤ z) (h2 : z ≤ 4000) : Builtin.Range.rangeFitsLong z = true := by
  unfold Builtin.Range.rangeFitsLong
  rw [Bool.and_eq_true, decide_eq_true_iff, decide_eq_true_iff]
  omega
theorem rgc2 (n : Nat) (h : n ≤ 1000) : RgC 0 ((2 * n : Nat) : Int) 2 n := by
  have e : Builtin.Range.rangeSize 0 ((2 * n : Nat) : Int) 2 = n := by
    unfold Builtin.Range.rangeSize
    rw [if_pos (by decide)]
    by_cases e : n = 0
    · subst e; rfl
    · rw [if_pos (by omega)]; omega
  refine ⟨by decide, by decide, ?_, e⟩
  unfold Builtin.Range.small
  rw [e, fits (by omega) (by omega), fits (by omega) (by omega), fits (by omega) (by omega), fits (by omega) (by omega), if_pos (by decide), fits (by omega) (by omega), Bool.or_true]
  rfl
/-- a comprehension over a range with a step -/
theorem lc_step {lo c : Int} {n : Nat} {g : TG} {tt : TT} {te : TE} {vs : List Nat} {σ : L2.St} {H1 : Hp} {D : Addr} {Qd : Hp → Prop} (Pv : Nat → Hp → Prop) (h0 : Pv 0 (upd H1 D (.lst [])))
    (hs : ∀ i H, i < n → Pv i H → g (.int (lo + (i : Nat) * c)) (wipe σ vs) H fun σ2 H2 => wipe σ2 vs = wipe σ vs ∧ tt σ2 H2 fun b H3 =>
      if b = true then te σ2 H3 fun y H4 => ∃ acc, H4 D = some (.lst acc) ∧ acc.length < sizeLine ∧ Pv (i + 1) (upd H4 D (.lst (acc ++ [y]))) else Pv (i + 1) H3) (hd : ∀ H, Pv n H → Qd H) :
    ∃ W : Nat → Nat → Hp → Prop, (∃ m, W 0 m (upd H1 D (.lst []))) ∧ ∀ i m H, W i m H →
      ((Itc lo c n).stop i H ∧ Qd H) ∨ ((Itc lo c n).go i H ∧ ∃ Nx : Hp → Prop, (∀ H', Nx H' → ∃ m', m' < m ∧ W (i + 1) m' H') ∧ ∀ x H', (Itc lo c n).yld i H x H' → g x (wipe σ vs) H' fun σ2 H2 => wipe σ2 vs = wipe σ vs ∧ tt σ2 H2 fun b H3 =>
        if b = true then te σ2 H3 fun y H4 => ∃ acc, H4 D = some (.lst acc) ∧ acc.length < sizeLine ∧ Nx (upd H4 D (.lst (acc ++ [y]))) else Nx H3) := by
  refine ⟨fun i m H => m = n - i ∧ i ≤ n ∧ Pv i H, ⟨n, by omega, Nat.zero_le n, h0⟩, fun i m H ⟨em, hi, p⟩ => ?_⟩
  by_cases hlt : i < n
  · refine .inr ⟨hlt, Pv (i + 1), fun H' p' => ⟨n - (i + 1), by omega, rfl, hlt, p'⟩, fun x H' y => ?_⟩
    rw [y.1, y.2]
    exact hs i H hlt p
  · obtain rfl : i = n := by omega
    exact .inl ⟨Nat.le_refl _, hd H p⟩

theorem pairOk {x y : Nat} (hx : x ≤ LIM) (hy : y ≤ LIM) : PartsOk (pairP x y) := by
  have l : LIM = 16000000 := rfl
  refine ⟨by show 1 ≤ 3; decide, by show 3 ≤ 16; decide, fun k hk => ?_⟩
  rcases List.mem_cons.mp hk with e | hk
  · subst e
    show okText ("pair" : Str)
    exact ⟨by decide +kernel, by decide +kernel⟩
  · rcases List.mem_cons.mp hk with e | hk
    · subst e
      exact ⟨by omega, by omega⟩
    · rw [List.mem_singleton.mp hk]
      exact ⟨by omega, by omega⟩
section
variable {P : Program} {w : World} {K : PySem.W.Frag} {mg : Str → Option Value} {base : Heap}
def spRows (K : PySem.W.Frag) (CN tl tp : Addr) : Sp := fun vs H Q _ => ∃ (nt : Nt) (a : Addr) (ls : List Nat) (b : Book) (h : Nat), vs = [.ref nt.n, .ref a] ∧ Call CN tl tp nt H b ∧ (SqL K H a (nats ls) ∨ SqT K H a (nats ls)) ∧ a ≠ nt.l ∧ h ≤ 9 ∧ ls.length = 2 ^ h ∧
  b.length + 2 ^ h ≤ LIM ∧ (∀ x ∈ ls, x ≤ LIM) ∧
  ∀ (H' : Hp) (b' : Book) (R : Addr) (rs : List Addr) (t : List (List Nat)), H R = none → (∀ r ∈ rs, H r = none) → H' R = some (.lst (rs.map V.ref)) → RowL H' rs (ls :: t) → t.length = h → TreeB b' (ls :: t) → (∀ r ∈ ls :: t, ∀ x ∈ r, x ≤ LIM) →
    Keep nt H H' → NotAt CN nt H' b' → Ext b b' → b'.length ≤ b.length + 2 ^ h → Q (.ref R) H'
theorem sc_rows_of : FnScope ["notary", "leaves", "rows", "below", "k"] ["notary", "leaves"] (defScope s_rows_of) := ⟨rfl, rfl, rfl, by decide +kernel, rfl, by decide +kernel, by decide +kernel⟩
end
end K24
set_option Elab.async false
set_option autoImplicit false
set_option linter.all false
set_option maxRecDepth 100000
set_option maxHeartbeats 4000000
namespace K24
open PySem PySem.Spec PyProof.Rows L2

theorem Keep.free {CN : Addr} {nt : Nt} {H H' : Hp} {b : Book} {a : Addr} (k : Keep nt H H') (N : NotAt CN nt H' b) (h : H' a = none) : H a = none := by
  obtain ⟨dx, z, e1⟩ := N.ob
  obtain ⟨ts, e3, _⟩ := N.ls
  have h1 : a ≠ nt.n := Ne.symm (ne_of_none e1 h)
  have h2 : a ≠ nt.d := Ne.symm (ne_of_none N.dc h)
  have h3 : a ≠ nt.l := Ne.symm (ne_of_none e3 h)
  cases e : H a with
  | none => rfl
  | some o =>
    rw [k a o e h1 h2 h3] at h
    cases h
theorem NotAt.nel {CN : Addr} {nt : Nt} {H : Hp} {b : Book} {a : Addr} (N : NotAt CN nt H b) (h : H a = none) : a ≠ nt.n ∧ a ≠ nt.d ∧ a ≠ nt.l := by
  obtain ⟨dx, z, e1⟩ := N.ob
  obtain ⟨ts, e3, _⟩ := N.ls
  exact ⟨Ne.symm (ne_of_none e1 h), Ne.symm (ne_of_none N.dc h), Ne.symm (ne_of_none e3 h)⟩
theorem Keep.upd {nt : Nt} {H H' : Hp} {a : Addr} {o : HO} (k : Keep nt H H') (h : H a = none) : Keep nt H (upd H' a o) := fun x u e h1 h2 h3 => by
  rw [upd_ne (ne_of_none e h)]
  exact k x u e h1 h2 h3
theorem NotAt.upd {CN : Addr} {nt : Nt} {H : Hp} {b : Book} {a : Addr} {o : HO} (N : NotAt CN nt H b) (h : a ≠ nt.n ∧ a ≠ nt.d ∧ a ≠ nt.l) : NotAt CN nt (upd H a o) b := by
  obtain ⟨dx, z, e1⟩ := N.ob
  obtain ⟨ts, e3, e4⟩ := N.ls
  exact ⟨⟨dx, z, by rw [upd_ne (Ne.symm h.1)]; exact e1⟩, by rw [upd_ne (Ne.symm h.2.1)]; exact N.dc, ⟨ts, by rw [upd_ne (Ne.symm h.2.2)]; exact e3, e4⟩⟩
theorem nfl_no (nt : Nt) (z : Int) {m : Str} (h1 : (m == ("numbers" : Str)) = false) (h2 : (m == ("tuples" : Str)) = false) (h3 : (m == ("asked" : Str)) = false) : (nfl nt z).lookup m = none :=
  (lk_miss h1).trans ((lk_miss h2).trans ((lk_miss h3).trans rfl))
theorem findB_lim {b : Book} {p : Parts} (h : b.length ≤ LIM) : findB b p ≤ LIM := Nat.le_trans (findB_le b p) h

section
variable {P : Program} {w : World} {K : PySem.W.Frag} {mg : Str → Option Value} {base : Heap}
/-- what stands between two turns of the loop -/
structure RowsW (CN : Addr) (nt : Nt) (H : Hp) (ls : List Nat) (b : Book) (h : Nat) (R : Addr) (m : Nat) (rs : List Addr) (pre : List (List Nat)) (last : List Nat) (b2 : Book) (H2 : Hp) : Prop where
  R : H2 R = some (.lst (rs.map V.ref))
  rl : RowL H2 rs (pre ++ [last])
  fr : ∀ r ∈ rs, H r = none
  kp : Keep nt H H2
  nt : NotAt CN nt H2 b2
  ext : Ext b b2
  cnt : b2.length + 2 ^ m ≤ b.length + 2 ^ h
  ch : ChainB b2 (pre ++ [last])
  hd : (pre ++ [last]).head? = some ls
  pl : pre.length + m = h
  ll : last.length = 2 ^ m
  lim : ∀ r ∈ pre ++ [last], ∀ x ∈ r, x ≤ LIM
theorem ok_rows_of {CN tl tp : Addr} (F : FnF K mg "rows_of" "rows_of" s_rows_of) (C : Cst K mg) (T : NotC K CN) (D1 : Def P w K mg base 2 "height_of" ["count"] spHeight) (D2 : Mth P w K mg base 5 CN "seal" ["self", "parts"] (spSeal CN tl tp)) :
    Def P w K mg base 6 "rows_of" ["notary", "leaves"] (spRows K CN tl tp) := by
  refine Def.of F sc_rows_of (fun _ _ _ _ _ _ us hl => match us, hl with | [_, _], _ => rfl) (fun vs H Q E h => ?_) (fun f cdv A outer s H vs Q E hr h => ?_)
  · obtain ⟨nt, a, ls, b, h, rfl, _⟩ := h; rfl
  · refine ⟨_, pss_cons (ps_expr (pe_d D1 (hr.mono (by decide)) rfl (pa_cons (pe_callB call_len_seq rfl C.len PySem.boot_len (pa_cons (pv 1) pa_nil)) pa_nil)))
      (pss_cons (ps_set (i := 2) sc_rows_of.nd rfl (Or.inl rfl) (pe_lst (pa_cons (pe_callTy call_list_of rfl C.list boot_list (pa_cons (pv 1) pa_nil)) pa_nil)))
      (pss_cons (ps_while PassesOwn.never (pt_cmpR op_gt (pe_callB call_len_seq rfl C.len PySem.boot_len (pa_cons (pe_ix ix_list (pv 2) (pe_un un_neg pe_int) (fun _ _ => rfl)) pa_nil)) pe_int (nomark _))
        (pss_cons (ps_set (i := 3) sc_rows_of.nd rfl (Or.inr rfl) (pe_ix ix_list (pv 2) (pe_un un_neg pe_int) (fun _ _ => rfl)))
        (pss_one (ps_expr (pe_bm PySem.F.plainAttrs_list PySem.F.slot_list_append PySem.F.type_list_append mt_append (pv 2)
          (pa_cons (pe_lc (own := [("k", 4)]) (g := gName 4) (tt := tYes) rfl sc_rows_of.nd (pi_range3 rfl C.range (pa_cons pe_int (pa_cons (pe_callB call_len_seq rfl C.len PySem.boot_len (pa_cons (pv 3) pa_nil)) (pa_cons pe_int pa_nil))))
            (blkOk_by (N := ["notary", "leaves", "rows", "below", "k"]) (sc := defScope s_rows_of) (by decide +kernel)) (fun _ _ _ _ _ => pg_name (i := 4) sc_rows_of.nd rfl (Or.inl rfl)) (fun _ _ _ _ _ => pts_nil)
            (fun _ _ _ _ _ => pe_m D2 (pv 0) T.cl hr (pa_cons (pe_tup (pa_cons pe_str (pa_cons (pe_ix (r := rIxL K) ix_list (pv 3) (pv 4) (fun _ _ => rfl)) (pa_cons (pe_ix (r := rIxL K) ix_list (pv 3) (pe_op op_add (pv 4) pe_int) (fun _ _ => rfl)) pa_nil)))) pa_nil))) pa_nil))))))
      (pss_one (ps_ret (pv 2))))), ?_⟩
    obtain ⟨nt, a, ls, b, h, rfl, c, hsq, hal, hh, hlen, hlim, hls, k⟩ := h
    -- height_of(len(leaves)); rows = [list(leaves)]
    refine ⟨_, rfl, a, nats ls, rfl, hsq, h, by omega, (by rw [nats_len, hlen]; rfl), ?_⟩
    refine ⟨_, rfl, a, nats ls, rfl, hsq, fun r0 hr0 => ⟨by show 1 ≤ sizeLine; decide, fun R hR => ?_⟩⟩
    have nR0 : R ≠ r0 := Ne.symm (ne_of_none upd_same hR)
    have hR1 : H R = none := by rw [upd_ne nR0] at hR; exact hR
    have nR := c.nt.nel hR1
    have nr0 := c.nt.nel hr0
    refine ⟨fun m σ H2 => ∃ (rs : List Addr) (pre : List (List Nat)) (last : List Nat) (b2 : Book) (v3 v4 : Option V), σ = [some (.ref nt.n), some (.ref a), some (.ref R), v3, v4] ∧ RowsW CN nt H ls b h R m rs pre last b2 H2,
      ⟨h, [r0], [], ls, b, none, none, rfl, ?_⟩, ?_⟩
    · have kp : Keep nt H (upd (upd H r0 (.lst (nats ls))) R (.lst [V.ref r0])) := ((Keep.refl nt H).upd hr0).upd hR1
      refine ⟨upd_same, .cons (by rw [upd_ne (Ne.symm nR0)]; exact upd_same) .nil, fun r hr => ?_, kp, (c.nt.upd nr0).upd nR, .refl b, Nat.le_refl _, trivial, rfl, by simp, hlen, fun r hr x hx => ?_⟩
      · rw [List.mem_singleton.mp hr]; exact hr0
      · rw [List.mem_singleton.mp hr] at hx; exact hls x hx
    rintro m σ H2 ⟨rs, pre, last, b2, v3, v4, rfl, I⟩
    obtain ⟨rs', rl, e1, e2, e3⟩ := I.rl.last
    have eR : H2 R = some (.lst (rs'.map V.ref ++ [V.ref rl])) := by
      have z := I.R
      rw [e1, List.map_append] at z
      exact z
    refine ⟨_, rfl, 1, rfl, R, _, -1, V.ref rl, rfl, rfl, SqL.of eR, atI_last _ _, rl, nats last, rfl, .inl (SqL.of e3), _, _, rfl, rfl, _, rfl, ?_⟩
    rw [nats_len, I.ll]
    cases m with
    | zero =>
      rw [decide_eq_false (by decide)]
      refine iteF ⟨_, rfl, ?_⟩
      obtain ⟨t, et⟩ : ∃ t, pre ++ [last] = ls :: t := by
        have z := I.hd
        cases q : pre ++ [last] with
        | nil => rw [q] at z; cases z
        | cons x t => rw [q] at z; cases z; exact ⟨t, rfl⟩
      have tr := ChainB.tree (show last.length = 1 from I.ll) I.ch
      have l1 : t.length = h := by
        have z := congrArg List.length et
        rw [List.length_append] at z
        have := I.pl
        simp at z
        omega
      have lm := I.lim
      have rl2 := I.rl
      rw [et] at tr lm rl2
      exact k H2 b2 R rs t hR1 I.fr I.R rl2 l1 tr lm I.kp I.nt I.ext (by have := I.cnt; omega)
    | succ m =>
      have hp : 2 ^ (m + 1) = 2 * 2 ^ m := by rw [Nat.pow_succ]; omega
      have hp0 : 0 < 2 ^ m := Nat.pow_pos (by decide)
      have hp1 : 2 ^ (m + 1) ≤ 2 ^ h := Nat.pow_le_pow_right (by decide) (by have := I.pl; omega)
      have hp2 : 2 ^ h ≤ 2 ^ 9 := Nat.pow_le_pow_right (by decide) hh
      rw [decide_eq_true (show (1 : Int) < ((2 ^ (m + 1) : Nat) : Int) by omega)]
      refine iteT ⟨fun σ H2 => ∃ (rs : List Addr) (pre : List (List Nat)) (last : List Nat) (b2 : Book) (v3 v4 : Option V), σ = [some (.ref nt.n), some (.ref a), some (.ref R), v3, v4] ∧ RowsW CN nt H ls b h R m rs pre last b2 H2,
        fun σ' H' z => ⟨m, Nat.lt_succ_self m, z⟩, ?_⟩
      refine ⟨_, rfl, 1, rfl, R, _, -1, V.ref rl, rfl, rfl, SqL.of eR, atI_last _ _, ?_⟩
      refine ⟨_, rfl, .inl ⟨rfl, _, SqL.of eR⟩, _, rfl, rl, nats last, rfl, .inl (SqL.of e3), 0, ((2 * 2 ^ m : Nat) : Int), 2, 2 ^ m, (by rw [nats_len, I.ll, hp]), rgc2 _ (by omega), fun D hD => ?_⟩
      have hD1 : H D = none := I.kp.free I.nt hD
      have nD := c.nt.nel hD1
      have nDR : D ≠ R := Ne.symm (ne_of_none I.R hD)
      have nDrl : rl ≠ D := ne_of_none e3 hD
      have rne : ∀ r ∈ rs, r ≠ nt.l := fun r hr => (c.nt.nel (I.fr r hr)).2.2
      refine lc_step (fun j H3 => ∃ (zs : List Nat) (b3 : Book), H3 D = some (.lst (nats zs)) ∧ zs.length = j ∧ H3 R = some (.lst (rs.map V.ref)) ∧ RowL H3 rs (pre ++ [last]) ∧ Keep nt H H3 ∧ NotAt CN nt H3 b3 ∧ Ext b2 b3 ∧ b3.length ≤ b2.length + j ∧
        (∀ i z, zs[i]? = some z → z ≤ LIM ∧ z ≠ 0 ∧ ∃ x y, last[2 * i]? = some x ∧ last[2 * i + 1]? = some y ∧ findB b3 (pairP x y) = z)) ?_ ?_ ?_
      · refine ⟨[], b2, upd_same, rfl, by rw [upd_ne (Ne.symm nDR)]; exact I.R, I.rl.map fun r hr xs e => ?_, I.kp.upd hD1, I.nt.upd nD, .refl _, Nat.le_refl _, fun i z hz => ?_⟩
        · rw [upd_ne (ne_of_none e hD)]; exact e
        · simp at hz
      · rintro j H3 hj ⟨zs, b3, hD3, hzl, hR3, hrl3, kp3, nt3, ext3, len3, hz3⟩
        refine ⟨rfl, ?_⟩
        obtain ⟨dx, z0, en⟩ := nt3.ob
        have cnt := I.cnt
        have hl3 : H3 rl = some (.lst (nats last)) := by
          have q := hrl3.last
          obtain ⟨rs2, a2, q1, q2, q3⟩ := q
          rw [e1] at q1
          have q4 := List.append_inj' q1 rfl
          have q5 : rl = a2 := by simpa using q4.2
          rw [q5]; exact q3
        have hx1 : 2 * j < last.length := by rw [I.ll, hp]; omega
        have hx2 : 2 * j + 1 < last.length := by rw [I.ll, hp]; omega
        have lx : last[2 * j]? = some last[2 * j] := List.getElem?_eq_getElem hx1
        have ly : last[2 * j + 1]? = some last[2 * j + 1] := List.getElem?_eq_getElem hx2
        have mem : last ∈ pre ++ [last] := List.mem_append_right _ (List.mem_singleton.mpr rfl)
        refine ⟨_, rfl, nt.n, dx, _, rfl, en, nfl_no _ _ (by decide +kernel) (by decide +kernel) (by decide +kernel), ?_⟩
        refine ⟨_, rfl, _, rfl, rl, _, _, _, rfl, rfl, SqL.of hl3, at_of (j := 2 * j) (by omega) (nats_at lx), ?_⟩
        refine ⟨_, rfl, _, rfl, _, _, rfl, rfl, rl, _, _, _, rfl, rfl, SqL.of hl3, at_of (j := 2 * j + 1) (by omega) (nats_at ly), ?_⟩
        refine ⟨by show 3 ≤ sizeLine; decide, fun tq htq => ?_⟩
        have nq := nt3.nel htq
        have cc : Call CN tl tp nt (upd H3 tq (.tup [V.str "pair", V.int (last[2 * j] : Int), V.int (last[2 * j + 1] : Int)])) b3 := (c.keep kp3 nt3).same (same_new htq)
        have ok : PartsOk (pairP last[2 * j] last[2 * j + 1]) := pairOk (I.lim _ mem _ (List.getElem_mem _)) (I.lim _ mem _ (List.getElem_mem _))
        refine ⟨nt, tq, pairP last[2 * j] last[2 * j + 1], b3, rfl, cc, upd_same, ok, by omega, fun H4 kp4 nt4 => ?_⟩
        have s1 : Same H3 (upd H3 tq (.tup [V.str "pair", V.int (last[2 * j] : Int), V.int (last[2 * j + 1] : Int)])) := same_new htq
        have hD4 : H4 D = some (.lst (nats zs)) := kp4.lst cc.nt (s1 _ _ hD3) nD.2.2
        have hln : (nats zs).length < sizeLine := by
          rw [nats_len, hzl]
          exact Nat.lt_of_lt_of_le hj (Nat.le_trans (show 2 ^ m ≤ 512 by omega) (by decide))
        refine ⟨_, hD4, hln, zs ++ [findB (addB b3 (pairP last[2 * j] last[2 * j + 1])) (pairP last[2 * j] last[2 * j + 1])], addB b3 (pairP last[2 * j] last[2 * j + 1]), ?_, ?_, ?_, ?_, ?_, ?_, ?_, ?_, ?_⟩
        · rw [← nats_snoc]; exact upd_same
        · rw [List.length_append, hzl]; rfl
        · rw [upd_ne (Ne.symm nDR)]; exact kp4.lst cc.nt (s1 _ _ hR3) nR.2.2
        · refine hrl3.map fun r hr xs e => ?_
          have n4 : r ≠ D := fun q => by
            obtain ⟨i, hi, q2⟩ := List.getElem_of_mem hr
            obtain ⟨ys, y1, y2⟩ := I.rl.get (List.getElem?_eq_getElem hi)
            rw [q2, q, hD] at y2
            cases y2
          rw [upd_ne n4]
          exact kp4.lst cc.nt (s1 _ _ e) (rne r hr)
        · exact ((kp3.trans (.of_same s1)).trans kp4).upd hD1
        · exact nt4.upd nD
        · exact ext3.trans (ext_add _ _)
        · have := addB_len b3 (pairP last[2 * j] last[2 * j + 1]); omega
        · intro i z hz
          by_cases hi : i < zs.length
          · rw [List.getElem?_append_left hi] at hz
            obtain ⟨z1, z2, x, y, z3, z4, z5⟩ := hz3 i z hz
            exact ⟨z1, z2, x, y, z3, z4, by rw [(ext_add b3 _).find (by rw [z5]; exact z2)]; exact z5⟩
          · have hi2 : i = j := by
              have := (List.getElem?_eq_some_iff.mp hz).1
              rw [List.length_append] at this
              simp at this
              omega
            rw [List.getElem?_append_right (by omega), hi2, hzl, Nat.sub_self] at hz
            have hz : findB (addB b3 (pairP last[2 * j] last[2 * j + 1])) (pairP last[2 * j] last[2 * j + 1]) = z := by simpa using hz
            rw [hi2]
            refine ⟨?_, ?_, _, _, lx, ly, hz⟩
            · rw [← hz]
              exact findB_lim (by have := addB_len b3 (pairP last[2 * j] last[2 * j + 1]); omega)
            · rw [← hz]; exact addB_find _ _
      · rintro H3 ⟨zs, b3, hD3, hzl, hR3, hrl3, kp3, nt3, ext3, len3, hz3⟩
        have hrlen : rs.length ≤ 10 := by
          have q := I.rl.len
          rw [List.length_append] at q
          have := I.pl
          simp at q
          omega
        refine ⟨R, _, V.ref D, rfl, rfl, hR3, by rw [List.length_map]; exact Nat.lt_of_le_of_lt hrlen (by decide), ?_⟩
        refine ⟨rs ++ [D], pre ++ [last], zs, b3, _, _, rfl, ?_⟩
        have lv : LevelB b3 last zs := by
          refine ⟨by rw [I.ll, hp, hzl], fun i x y hx hy => ?_⟩
          have hi : i < zs.length := by
            have := (List.getElem?_eq_some_iff.mp hx).1
            rw [I.ll, hp] at this
            omega
          obtain ⟨z1, z2, x', y', z3, z4, z5⟩ := hz3 i _ (List.getElem?_eq_getElem hi)
          rw [hx] at z3
          rw [hy] at z4
          cases z3
          cases z4
          exact ⟨_, List.getElem?_eq_getElem hi, z5, z2⟩
        have hD4 : (upd H3 R (.lst (rs.map V.ref ++ [V.ref D]))) D = some (.lst (nats zs)) := by rw [upd_ne nDR]; exact hD3
        refine ⟨?_, ?_, fun r hr => ?_, kp3.upd hR1, nt3.upd nR, I.ext.trans ext3, ?_, (I.ch.ext ext3).snoc lv, ?_, ?_, by rw [hzl], fun r hr x hx => ?_⟩
        · rw [List.map_append]; exact upd_same
        · refine (hrl3.map fun r hr xs e => ?_).snoc hD4
          have n4 : r ≠ R := fun q => by
            have z := I.fr r hr
            obtain ⟨i, hi, q2⟩ := List.getElem_of_mem hr
            obtain ⟨ys, y1, y2⟩ := hrl3.get (List.getElem?_eq_getElem hi)
            rw [q2, q, hR3] at y2
            have y3 := Option.some.inj y2
            injection y3 with y4
            have y5 := congrArg List.length y4
            rw [List.length_map, nats_len] at y5
            -- a row of numbers is no row of references
            cases hrs : rs with
            | nil => rw [hrs] at hr; simp at hr
            | cons r1 rs1 =>
              rw [hrs] at y4
              cases hys : ys with
              | nil => rw [hys] at y4; simp [nats] at y4
              | cons y ys1 => rw [hys] at y4; simp [nats] at y4
          rw [upd_ne n4]
          exact e
        · rcases List.mem_append.mp hr with z | z
          · exact I.fr r z
          · rw [List.mem_singleton.mp z]; exact hD1
        · have := I.cnt; omega
        · have z := I.hd
          cases q : pre ++ [last] with
          | nil => rw [q] at z; cases z
          | cons x t => rw [q] at z; exact z
        · have := I.pl
          rw [List.length_append]
          simp
          omega
        · rcases List.mem_append.mp hr with z | z
          · exact I.lim r z x hx
          · rw [List.mem_singleton.mp z] at hx
            obtain ⟨i, hi, q2⟩ := List.getElem_of_mem hx
            have q3 := (hz3 i _ (List.getElem?_eq_getElem hi)).1
            rw [q2] at q3
            exact q3
end
end K24
set_option Elab.async false
set_option autoImplicit false
set_option linter.all false
set_option maxRecDepth 100000
set_option maxHeartbeats 4000000
namespace K24
open PySem PySem.Spec PyProof.Rows L2

theorem cut_front (xs : List V) (v : V) : cutV (xs ++ [v]) none (some (-1)) = xs := by
  show ((xs ++ [v]).drop 0).take (((-1 : Int) + ((xs ++ [v]).length : Int)).toNat - 0) = xs
  have e : ((-1 : Int) + ((xs ++ [v]).length : Int)).toNat - 0 = xs.length := by
    rw [List.length_append]
    simp
    omega
  rw [e]
  simp
theorem cut_front' (xs : List V) (h : xs ≠ []) : cutV xs none (some (-1)) = xs.dropLast := by
  have e : xs = xs.dropLast ++ [xs.getLast h] := (List.dropLast_concat_getLast h).symm
  rw [e, cut_front]
  simp
theorem sib_int (i : Nat) : (i : Int) + 1 - 2 * ((i : Int) % 2) = (sib i : Int) := by unfold sib; omega
/-- the path's rest, and what it stands on -/
theorem path_step {b : Book} {r s : List Nat} {t : List (List Nat)} {i : Nat} (h : TreeB b (r :: s :: t)) (hi : i < r.length) : sib i < r.length ∧ i / 2 < s.length ∧ TreeB b (s :: t) := by
  have l := h.1.len
  refine ⟨?_, by omega, h.2⟩
  unfold sib
  omega
section
variable {P : Program} {w : World} {K : PySem.W.Frag} {mg : Str → Option Value} {base : Heap}
def spPathIn : Sp := fun vs H Q _ => ∃ (R : Addr) (rs : List Addr) (rows : List (List Nat)) (i : Nat) (b : Book), vs = [.ref R, .int (i : Int)] ∧ H R = some (.lst (rs.map V.ref)) ∧ RowL H rs rows ∧ TreeB b rows ∧ rows.length ≤ 11 ∧ i < (rows.headD []).length ∧
  ∀ (p : Addr) (H' : Hp), H p = none → H' p = some (.tup (nats (pathR rows i))) → Same H H' → Q (.ref p) H'
theorem sc_path_in : FnScope ["rows", "index", "path", "row"] ["rows", "index"] (defScope s_path_in) := ⟨rfl, rfl, rfl, by decide +kernel, rfl, by decide +kernel, by decide +kernel⟩
theorem TreeB.ne {b : Book} : ∀ {rows : List (List Nat)}, TreeB b rows → ∃ r t, rows = r :: t
  | r :: t, _ => ⟨r, t, rfl⟩
theorem ok_path_in (F : FnF K mg "path_in" "path_in" s_path_in) (C : Cst K mg) : Def P w K mg base 1 "path_in" ["rows", "index"] spPathIn := by
  refine Def.of F sc_path_in (fun _ _ _ _ _ _ us hl => match us, hl with | [_, _], _ => rfl) (fun vs H Q E h => ?_) (fun f cdv A outer s H vs Q E hr h => ?_)
  · obtain ⟨R, rs, rows, i, b, rfl, _⟩ := h; rfl
  · refine ⟨_, pss_cons (ps_if (pt_not (pt_chain op_le op_lt pe_int (pv 1) (pe_callB call_len_seq rfl C.len PySem.boot_len (pa_cons (pe_ix ix_list (pv 0) pe_int (fun _ _ => rfl)) pa_nil)))) (pss_one ps_never) pss_nil)
      (pss_cons (ps_set (i := 2) sc_path_in.nd rfl (Or.inl rfl) (pe_lst pa_nil))
      (pss_cons (ps_for PassesOwn.never rfl (pi_list (pe_slice sl_list (pv 0) po_none (po_some (pe_un un_neg pe_int)))) (pg_name (i := 3) sc_path_in.nd rfl (Or.inl rfl))
        (pss_cons (ps_expr (pe_bm PySem.F.plainAttrs_list PySem.F.slot_list_append PySem.F.type_list_append mt_append (pv 2) (pa_cons (pe_ix ix_list (pv 3) (pe_op op_sub (pe_op op_add (pv 1) pe_int) (pe_op op_mul pe_int (pe_op op_mod (pv 1) pe_int))) (fun _ _ => rfl)) pa_nil)))
        (pss_one (ps_set (i := 1) sc_path_in.nd rfl (Or.inl rfl) (pe_op op_fdiv (pv 1) pe_int)))))
      (pss_one (ps_ret (pe_callTy call_tuple_of rfl C.tuple boot_tuple (pa_cons (pv 2) pa_nil)))))), ?_⟩
    obtain ⟨R, rs, rows, i, b, rfl, hR, rl, tr, h11, hi, k⟩ := h
    obtain ⟨r, t, rfl⟩ := tr.ne
    have hi : i < r.length := hi
    have lr := rl.len
    have hrs : rs ≠ [] := fun z => by rw [z] at lr; simp at lr
    obtain ⟨a0, ra, rfl⟩ : ∃ a0 ra, rs = a0 :: ra := by
      cases rs with
      | nil => exact absurd rfl hrs
      | cons a0 ra => exact ⟨a0, ra, rfl⟩
    have e0 : H a0 = some (.lst (nats r)) := by
      cases rl with
      | cons e _ => exact e
    refine ⟨_, rfl, _, _, rfl, rfl, _, rfl, ?_⟩
    rw [decide_eq_true (show (0 : Int) ≤ (i : Int) by omega)]
    refine iteT ⟨_, rfl, R, _, 0, V.ref a0, rfl, rfl, SqL.of hR, atI_nat (j := 0) rfl, a0, nats r, rfl, .inl (SqL.of e0), _, _, rfl, rfl, _, rfl, ?_⟩
    rw [nats_len, decide_eq_true (show (i : Int) < (r.length : Int) by omega)]
    refine iteF ?_
    refine ⟨Nat.zero_le _, fun p hp => ?_⟩
    have npR : p ≠ R := Ne.symm (ne_of_none hR hp)
    have s0 : Same H (upd H p (.lst [])) := same_new hp
    refine ⟨_, rfl, 1, rfl, _, rfl, R, _, rfl, SqL.of (s0 _ _ hR), fun sl hsl => ?_⟩
    have nsp : sl ≠ p := Ne.symm (ne_of_none upd_same hsl)
    have hsl0 : H sl = none := by rw [upd_ne nsp] at hsl; exact hsl
    rw [cut_front' _ (by simp)]
    refine ⟨sl, rfl, ⟨_, SqL.of upd_same⟩, ?_⟩
    have ed : ((a0 :: ra).map V.ref).dropLast = ((a0 :: ra).dropLast).map V.ref := by rw [List.map_dropLast]
    rw [ed]
    refine for_list (xs := ((a0 :: ra).dropLast).map V.ref) (fun j σ H2 => ∃ (acc : List Nat) (idx : Nat) (v : Option V), σ = [some (.ref R), some (.int (idx : Int)), some (.ref p), v] ∧ H2 p = some (.lst (nats acc)) ∧ (∀ a o, H a = some o → H2 a = some o) ∧ H2 sl = some (.lst (((a0 :: ra).dropLast).map V.ref)) ∧
      acc.length = j ∧ j ≤ t.length ∧ acc ++ pathR ((r :: t).drop j) idx = pathR (r :: t) i ∧ TreeB b ((r :: t).drop j) ∧ idx < (((r :: t).drop j).headD []).length)
      ⟨[], i, none, rfl, by rw [upd_ne (Ne.symm nsp)]; exact upd_same, fun a o e => by rw [upd_ne (ne_of_none e hsl0), upd_ne (ne_of_none e hp)]; exact e, upd_same, rfl, Nat.zero_le _, rfl, tr, hi⟩
      (fun j σ H2 _ ⟨acc, idx, v, _, _, _, hsl2, _⟩ => SqL.of hsl2) ?_ ?_
    · rintro j x σ H2 hx ⟨acc, idx, v, rfl, hp2, s2, hsl2, hal, hjt, hpath, htr, hidx⟩
      rw [List.getElem?_map] at hx
      obtain ⟨aj, haj, rfl⟩ := Option.map_eq_some_iff.mp hx
      have hj : j < t.length := by
        have z := (List.getElem?_eq_some_iff.mp haj).1
        rw [List.length_dropLast] at z
        simp at lr z
        omega
      have haj2 : (a0 :: ra)[j]? = some aj := by
        have z1 := (List.getElem?_eq_some_iff.mp haj).1
        rw [List.getElem?_dropLast] at haj
        split at haj
        · exact haj
        · cases haj
      obtain ⟨rj, q1, q2⟩ := rl.get haj2
      obtain ⟨sj, tj, hd⟩ : ∃ sj tj, (r :: t).drop j = rj :: sj :: tj := by
        have l1 : j < (r :: t).length := by simp; omega
        have l2 : j + 1 < (r :: t).length := by simp; omega
        rw [List.getElem?_eq_getElem l1] at q1
        refine ⟨(r :: t)[j + 1], (r :: t).drop (j + 2), ?_⟩
        rw [List.drop_eq_getElem_cons l1, List.drop_eq_getElem_cons l2, Option.some.inj q1]
      rw [hd] at hpath htr hidx
      have hidx : idx < rj.length := hidx
      obtain ⟨g1, g2, g3⟩ := path_step htr hidx
      have hd2 : (r :: t).drop (j + 1) = sj :: tj := by
        have z : ((r :: t).drop j).drop 1 = sj :: tj := by rw [hd]; rfl
        rw [List.drop_drop] at z
        exact z
      have hsg : rj[sib idx]? = some (rj.getD (sib idx) 0) := by
        rw [List.getD_eq_getElem?_getD, List.getElem?_eq_getElem g1]
        rfl
      refine ⟨_, rfl, .inl ⟨rfl, _, SqL.of hp2⟩, _, rfl, _, rfl, _, _, rfl, rfl, _, rfl, _, _, rfl, rfl, (show (0 : Int) < 2 by decide), _, _, rfl, rfl, .inl ⟨by decide, by decide⟩, _, _, rfl, rfl, aj, _, _, V.int (rj.getD (sib idx) 0 : Int), rfl, rfl, SqL.of (s2 _ _ q2), at_of (j := sib idx) (sib_int idx) (nats_at hsg), ?_⟩
      refine ⟨p, _, _, rfl, rfl, hp2, by rw [nats_len, hal]; exact small1000 (by simp at h11; omega), ?_⟩
      refine ⟨_, rfl, _, _, rfl, rfl, ⟨by decide, by decide⟩, ?_⟩
      have npsl : p ≠ sl := Ne.symm nsp
      refine ⟨acc ++ [rj.getD (sib idx) 0], idx / 2, _, rfl, by rw [← nats_snoc]; exact upd_same, fun a o e => by rw [upd_ne (ne_of_none e hp)]; exact s2 a o e, by rw [upd_ne nsp]; exact hsl2, by rw [List.length_append, hal]; rfl, hj, ?_, by rw [hd2]; exact g3, by rw [hd2]; exact g2⟩
      rw [hd2, ← hpath, List.append_assoc]
      rfl
    · rintro σ H2 ⟨acc, idx, v, rfl, hp2, s2, hsl2, hal, hjt, hpath, htr, hidx⟩
      have el : (((a0 :: ra).dropLast).map V.ref).length = t.length := by simp at lr ⊢; omega
      rw [el] at hpath
      obtain ⟨rl1, hd⟩ : ∃ z, (r :: t).drop t.length = [z] := by
        have l1 : t.length < (r :: t).length := by simp
        refine ⟨(r :: t)[t.length], ?_⟩
        rw [List.drop_eq_getElem_cons l1, List.drop_eq_nil_of_le (by simp)]
      rw [hd] at hpath
      have hacc : acc = pathR (r :: t) i := by
        rw [← hpath]
        show acc = acc ++ []
        rw [List.append_nil]
      refine ⟨_, rfl, p, _, rfl, .inl ⟨SqL.of hp2, fun q hq => ?_⟩⟩
      have hq0 : H q = none := by
        cases e : H q with
        | none => rfl
        | some o => rw [s2 q o e] at hq; cases hq
      exact k q _ hq0 (by rw [hacc]; exact upd_same) fun a o e => by rw [upd_ne (ne_of_none (s2 a o e) hq)]; exact s2 a o e
end
end K24
set_option Elab.async false
set_option autoImplicit false
set_option linter.all false
set_option maxRecDepth 100000
set_option maxHeartbeats 4000000
namespace K24
open PySem PySem.Spec PyProof.Rows L2

section
variable {P : Program} {w : World} {K : PySem.W.Frag} {mg : Str → Option Value} {base : Heap}
/-! ### root_of, path_of -/
theorem root_last : ∀ {pre : List (List Nat)} {x : Nat}, rootR (pre ++ [[x]]) = x
  | [], x => rfl
  | [r], x => rfl
  | r :: s :: t, x => root_last (pre := s :: t)
theorem tree_last {b : Book} : ∀ {rows : List (List Nat)}, TreeB b rows → ∃ pre x, rows = pre ++ [[x]]
  | [], h => h.elim
  | [r], h => by
    have h : r.length = 1 := h
    cases r with
    | nil => simp at h
    | cons x t =>
      cases t with
      | nil => exact ⟨[], x, rfl⟩
      | cons y t => simp at h
  | r :: s :: t, h => by
    obtain ⟨pre, x, e⟩ := tree_last (rows := s :: t) h.2
    exact ⟨r :: pre, x, by rw [e]; rfl⟩
def spRoot (K : PySem.W.Frag) (CN tl tp : Addr) : Sp := fun vs H Q _ => ∃ (nt : Nt) (a : Addr) (ls : List Nat) (b : Book) (h : Nat), vs = [.ref nt.n, .ref a] ∧ Call CN tl tp nt H b ∧ (SqL K H a (nats ls) ∨ SqT K H a (nats ls)) ∧ a ≠ nt.l ∧ h ≤ 9 ∧ ls.length = 2 ^ h ∧
  b.length + 2 ^ h ≤ LIM ∧ (∀ x ∈ ls, x ≤ LIM) ∧
  ∀ (H' : Hp) (b' : Book) (t : List (List Nat)), t.length = h → TreeB b' (ls :: t) → rootR (ls :: t) ≤ LIM → Keep nt H H' → NotAt CN nt H' b' → Ext b b' → b'.length ≤ b.length + 2 ^ h → Q (.int (rootR (ls :: t) : Int)) H'
theorem sc_root_of : FnScope ["notary", "leaves"] ["notary", "leaves"] (defScope s_root_of) := ⟨rfl, rfl, rfl, by decide +kernel, rfl, by decide +kernel, by decide +kernel⟩
theorem ok_root_of {CN tl tp : Addr} (F : FnF K mg "root_of" "root_of" s_root_of) (D : Def P w K mg base 6 "rows_of" ["notary", "leaves"] (spRows K CN tl tp)) : Def P w K mg base 7 "root_of" ["notary", "leaves"] (spRoot K CN tl tp) := by
  refine Def.of F sc_root_of (fun _ _ _ _ _ _ us hl => match us, hl with | [_, _], _ => rfl) (fun vs H Q E h => ?_) (fun f cdv A outer s H vs Q E hr h => ?_)
  · obtain ⟨nt, a, ls, b, h, rfl, _⟩ := h; rfl
  · refine ⟨_, pss_one (ps_ret (pe_ix ix_list (pe_ix ix_list (pe_d D hr rfl (pa_cons (pv 0) (pa_cons (pv 1) pa_nil))) (pe_un un_neg pe_int) (fun _ _ => rfl)) pe_int (fun _ _ => rfl))), ?_⟩
    obtain ⟨nt, a, ls, b, h, rfl, c, hsq, hal, hh, hlen, hlim, hls, k⟩ := h
    refine ⟨_, rfl, _, rfl, nt, a, ls, b, h, rfl, c, hsq, hal, hh, hlen, hlim, hls, fun H' b' R rs t hR hrs eR rl tl' tr lm kp nt' ext len' => ?_⟩
    obtain ⟨pre, x, ep⟩ := tree_last tr
    rw [ep] at rl
    obtain ⟨rs', ra, e1, e2, e3⟩ := rl.last
    rw [e1, List.map_append] at eR
    have er : rootR (ls :: t) = x := by rw [ep, root_last]
    have hx : x ≤ LIM := lm [x] (by rw [ep]; simp) x (by simp)
    refine ⟨1, rfl, R, _, -1, V.ref ra, rfl, rfl, SqL.of eR, atI_last _ _, ra, _, 0, V.int (x : Int), rfl, rfl, SqL.of e3, atI_nat (j := 0) rfl, ?_⟩
    have kk := k H' b' t tl' tr (by rw [er]; exact hx) kp nt' ext len'
    rw [er] at kk
    exact kk
def spPathOf (K : PySem.W.Frag) (CN tl tp : Addr) : Sp := fun vs H Q _ => ∃ (nt : Nt) (a : Addr) (ls : List Nat) (b : Book) (h i : Nat), vs = [.ref nt.n, .ref a, .int (i : Int)] ∧ Call CN tl tp nt H b ∧ (SqL K H a (nats ls) ∨ SqT K H a (nats ls)) ∧ a ≠ nt.l ∧ h ≤ 9 ∧ ls.length = 2 ^ h ∧
  b.length + 2 ^ h ≤ LIM ∧ (∀ x ∈ ls, x ≤ LIM) ∧ i < ls.length ∧
  ∀ (H' : Hp) (b' : Book) (t : List (List Nat)) (p : Addr), t.length = h → TreeB b' (ls :: t) → H' p = some (.tup (nats (pathR (ls :: t) i))) → (∀ x ∈ pathR (ls :: t) i, x ≤ LIM) → Keep nt H H' → NotAt CN nt H' b' → Ext b b' → b'.length ≤ b.length + 2 ^ h → Q (.ref p) H'
theorem path_lim : ∀ {t : List (List Nat)} {r : List Nat} {i : Nat}, (∀ q ∈ r :: t, ∀ x ∈ q, x ≤ LIM) → ∀ x ∈ pathR (r :: t) i, x ≤ LIM
  | [], _, _, _, x, hx => by
    have hx : x ∈ ([] : List Nat) := hx
    simp at hx
  | s :: t, r, i, h, x, hx => by
    have hx : x ∈ r.getD (sib i) 0 :: pathR (s :: t) (i / 2) := hx
    rcases List.mem_cons.mp hx with e | e
    · rw [e, List.getD_eq_getElem?_getD]
      cases q : r[sib i]? with
      | none => exact Nat.zero_le _
      | some y => exact h r List.mem_cons_self y (List.mem_of_getElem? q)
    · exact path_lim (fun q hq => h q (List.mem_cons_of_mem _ hq)) x e
theorem sc_path_of : FnScope ["notary", "leaves", "index"] ["notary", "leaves", "index"] (defScope s_path_of) := ⟨rfl, rfl, rfl, by decide +kernel, rfl, by decide +kernel, by decide +kernel⟩
theorem ok_path_of {CN tl tp : Addr} (F : FnF K mg "path_of" "path_of" s_path_of) (C : Cst K mg) (D0 : Def P w K mg base 2 "height_of" ["count"] spHeight) (D : Def P w K mg base 6 "rows_of" ["notary", "leaves"] (spRows K CN tl tp)) (D2 : Def P w K mg base 1 "path_in" ["rows", "index"] spPathIn) :
    Def P w K mg base 7 "path_of" ["notary", "leaves", "index"] (spPathOf K CN tl tp) := by
  refine Def.of F sc_path_of (fun _ _ _ _ _ _ us hl => match us, hl with | [_, _, _], _ => rfl) (fun vs H Q E h => ?_) (fun f cdv A outer s H vs Q E hr h => ?_)
  · obtain ⟨nt, a, ls, b, h, i, rfl, _⟩ := h; rfl
  · refine ⟨_, pss_cons (ps_expr (pe_d D0 (hr.mono (by decide)) rfl (pa_cons (pe_callB call_len_seq rfl C.len PySem.boot_len (pa_cons (pv 1) pa_nil)) pa_nil)))
      (pss_cons (ps_if (pt_not (pt_chain op_le op_lt pe_int (pv 2) (pe_callB call_len_seq rfl C.len PySem.boot_len (pa_cons (pv 1) pa_nil)))) (pss_one ps_never) pss_nil)
      (pss_one (ps_ret (pe_d D2 (hr.mono (by decide)) rfl (pa_cons (pe_d D hr rfl (pa_cons (pv 0) (pa_cons (pv 1) pa_nil))) (pa_cons (pv 2) pa_nil)))))), ?_⟩
    obtain ⟨nt, a, ls, b, h, i, rfl, c, hsq, hal, hh, hlen, hlim, hls, hi, k⟩ := h
    refine ⟨_, rfl, a, nats ls, rfl, hsq, h, by omega, (by rw [nats_len, hlen]; rfl), ?_⟩
    refine ⟨_, rfl, _, _, rfl, rfl, _, rfl, ?_⟩
    rw [decide_eq_true (show (0 : Int) ≤ (i : Int) by omega)]
    refine iteT ⟨_, rfl, a, nats ls, rfl, hsq, _, _, rfl, rfl, _, rfl, ?_⟩
    rw [nats_len, decide_eq_true (show (i : Int) < (ls.length : Int) by omega)]
    refine iteF ⟨_, rfl, _, rfl, nt, a, ls, b, h, rfl, c, hsq, hal, hh, hlen, hlim, hls, fun H' b' R rs t hR hrs eR rl tl' tr lm kp nt' ext len' => ?_⟩
    refine ⟨_, rfl, R, rs, ls :: t, i, b', rfl, eR, rl, tr, (by simp; omega), hi, fun p H2 hp eP s2 => ?_⟩
    exact k H2 b' t p tl' tr eP (path_lim lm) (kp.trans (.of_same s2)) (nt'.same s2) ext len'
/-! ### root_by -/
def spRootBy (CN tl tp : Addr) : Sp := fun vs H Q _ => ∃ (nt : Nt) (a : Addr) (path : List Nat) (b : Book) (i x : Nat), vs = [.ref nt.n, .int (i : Int), .int (x : Int), .ref a] ∧ Call CN tl tp nt H b ∧ H a = some (.tup (nats path)) ∧ x ≤ LIM ∧ (∀ y ∈ path, y ≤ LIM) ∧ b.length ≤ LIM ∧
  ∀ H', Keep nt H H' → NotAt CN nt H' b → Q (.int (rootBy b i x path : Int)) H'
theorem sc_root_by : FnScope ["notary", "index", "leaf", "path", "place", "reached", "other"] ["notary", "index", "leaf", "path"] (defScope s_root_by) := ⟨rfl, rfl, rfl, by decide +kernel, rfl, by decide +kernel, by decide +kernel⟩
theorem dec_nat0 (z : Nat) : decide (V.int (z : Int) = V.int 0) = decide (z = 0) := by
  rw [Bool.eq_iff_iff, decide_eq_true_iff, decide_eq_true_iff]
  constructor
  · intro h; injection h with h; omega
  · intro h; rw [h]; rfl
theorem dec_mod (z : Nat) : decide (V.int ((z : Int) % 2) = V.int 0) = decide (z % 2 = 0) := by
  have e : ((z : Int) % 2) = ((z % 2 : Nat) : Int) := by omega
  rw [e, dec_nat0]
theorem ok_root_by {CN tl tp : Addr} (F : FnF K mg "root_by" "root_by" s_root_by) (T : NotC K CN) (D : Mth P w K mg base 5 CN "find" ["self", "parts"] (spFind CN tl tp)) :
    Def P w K mg base 6 "root_by" ["notary", "index", "leaf", "path"] (spRootBy CN tl tp) := by
  refine Def.of F sc_root_by (fun _ _ _ _ _ _ us hl => match us, hl with | [_, _, _, _], _ => rfl) (fun vs H Q E h => ?_) (fun f cdv A outer s H vs Q E hr h => ?_)
  · obtain ⟨nt, a, path, b, i, x, rfl, _⟩ := h; rfl
  · refine ⟨_, pss_cons (ps_set (i := 4) sc_root_by.nd rfl (Or.inl rfl) (pv 1)) (pss_cons (ps_set (i := 5) sc_root_by.nd rfl (Or.inl rfl) (pv 2))
      (pss_cons (ps_for PassesOwn.never rfl (pi_tup (pv 3)) (pg_name (i := 6) sc_root_by.nd rfl (Or.inl rfl))
        (pss_cons (ps_if (pt_cmpR op_eq (pe_op op_mod (pv 4) pe_int) pe_int (nomark _))
            (pss_one (ps_set (i := 5) sc_root_by.nd rfl (Or.inl rfl) (pe_m D (pv 0) T.cl hr (pa_cons (pe_tup (pa_cons pe_str (pa_cons (pv 5) (pa_cons (pv 6) pa_nil)))) pa_nil))))
            (pss_one (ps_set (i := 5) sc_root_by.nd rfl (Or.inl rfl) (pe_m D (pv 0) T.cl hr (pa_cons (pe_tup (pa_cons pe_str (pa_cons (pv 6) (pa_cons (pv 5) pa_nil)))) pa_nil)))))
        (pss_cons (ps_if (pt_cmpR op_eq (pv 5) pe_int (nomark _)) (pss_one (ps_ret pe_int)) pss_nil)
        (pss_one (ps_set (i := 4) sc_root_by.nd rfl (Or.inl rfl) (pe_op op_fdiv (pv 4) pe_int))))))
      (pss_one (ps_ret (pe_ifExp (pt_cmpR op_eq (pv 4) pe_int (nomark _)) (pv 5) pe_int))))), ?_⟩
    obtain ⟨nt, a, path, b, i, x, rfl, c, ha, hx, hpl, hbl, k⟩ := h
    refine ⟨_, rfl, _, rfl, _, rfl, a, rfl, ⟨_, SqT.of ha⟩, for_tup (xs := nats path) (fun j σ H2 => ∃ (pl re : Nat) (v : Option V), σ = [some (.ref nt.n), some (.int (i : Int)), some (.int (x : Int)), some (.ref a), some (.int (pl : Int)), some (.int (re : Int)), v] ∧ Keep nt H H2 ∧ NotAt CN nt H2 b ∧
      re ≤ LIM ∧ j ≤ path.length ∧ rootBy b pl re (path.drop j) = rootBy b i x path) ⟨i, x, none, rfl, .refl _ _, c.nt, hx, Nat.zero_le _, rfl⟩ (fun j σ H2 _ ⟨_, _, _, _, kp, nt2, _⟩ => SqT.of (kp.tup c.nt ha)) ?_ ?_⟩
    · rintro j y σ H2 hy ⟨pl, re, v, rfl, kp, nt2, hre, hj, hroot⟩
      have hjl : j < path.length := by
        have z := (List.getElem?_eq_some_iff.mp hy).1
        rw [nats_len] at z
        exact z
      have ey : y = .int (path[j] : Int) := by
        rw [nats_at (List.getElem?_eq_getElem hjl)] at hy
        exact (Option.some.inj hy).symm
      subst ey
      have ho : path[j] ≤ LIM := hpl _ (List.getElem_mem _)
      rw [List.drop_eq_getElem_cons hjl] at hroot
      have hroot : (if findB b (if pl % 2 = 0 then pairP re path[j] else pairP path[j] re) = 0 then 0 else rootBy b (pl / 2) (findB b (if pl % 2 = 0 then pairP re path[j] else pairP path[j] re)) (path.drop (j + 1))) = rootBy b i x path := hroot
      obtain ⟨dx, z0, en⟩ := nt2.ob
      -- what follows the finding
      have rest : ∀ (H3 : Hp) (z : Nat), Keep nt H H3 → NotAt CN nt H3 b → z = findB b (if pl % 2 = 0 then pairP re path[j] else pairP path[j] re) →
          tSeq (tIfS (tTest (tOp rEq (tVar 5) (tC (.int 0)))) (tRet (tC (.int 0))) tNext) (tAsg (tOp (rI CDiv fun i j => .int (i / j)) (tVar 4) (tC (.int 2))) (gName 4))
            { nx := fun σ H2 => ∃ (pl re : Nat) (v : Option V), σ = [some (.ref nt.n), some (.int (i : Int)), some (.int (x : Int)), some (.ref a), some (.int (pl : Int)), some (.int (re : Int)), v] ∧ Keep nt H H2 ∧ NotAt CN nt H2 b ∧ re ≤ LIM ∧ j + 1 ≤ path.length ∧ rootBy b pl re (path.drop (j + 1)) = rootBy b i x path,
              rt := Q, bk := tRet (tIf (tTest (tOp rEq (tVar 4) (tC (.int 0)))) (tVar 5) (tC (.int 0))) { nx := fun x H' => Q V.non H', rt := Q },
              ct := fun σ H2 => ∃ (pl re : Nat) (v : Option V), σ = [some (.ref nt.n), some (.int (i : Int)), some (.int (x : Int)), some (.ref a), some (.int (pl : Int)), some (.int (re : Int)), v] ∧ Keep nt H H2 ∧ NotAt CN nt H2 b ∧ re ≤ LIM ∧ j + 1 ≤ path.length ∧ rootBy b pl re (path.drop (j + 1)) = rootBy b i x path }
            [some (.ref nt.n), some (.int (i : Int)), some (.int (x : Int)), some (.ref a), some (.int (pl : Int)), some (.int (z : Int)), some (.int (path[j] : Int))] H3 := fun H3 z kp3 nt3 ez => by
        refine ⟨_, rfl, rfl, _, rfl, ?_⟩
        rw [dec_nat0]
        rw [← ez] at hroot
        by_cases hz : z = 0
        · rw [decide_eq_true hz]
          rw [if_pos hz] at hroot
          have kk := k H3 kp3 nt3
          rw [← hroot] at kk
          exact iteT kk
        · rw [decide_eq_false hz]
          rw [if_neg hz] at hroot
          refine iteF ⟨_, rfl, _, _, rfl, rfl, ⟨by decide, by decide⟩, pl / 2, z, some (.int (path[j] : Int)), ?_, kp3, nt3, ?_, hjl, hroot⟩
          · have e : ((pl : Int) / 2) = ((pl / 2 : Nat) : Int) := by omega
            show [some (V.ref nt.n), some (V.int (i : Int)), some (V.int (x : Int)), some (V.ref a), some (V.int ((pl : Int) / 2)), some (V.int (z : Int)), some (V.int (path[j] : Int))] = _
            rw [e]
          · rw [ez]; exact findB_lim hbl
      refine ⟨_, rfl, _, _, rfl, rfl, (show (0 : Int) < 2 by decide), rfl, _, rfl, ?_⟩
      rw [dec_mod]
      by_cases hm : pl % 2 = 0
      · rw [decide_eq_true hm]
        refine iteT ⟨_, rfl, nt.n, dx, _, rfl, en, nfl_no _ _ (by decide +kernel) (by decide +kernel) (by decide +kernel), _, rfl, _, rfl, by show 3 ≤ sizeLine; decide, fun tq htq => ?_⟩
        have s1 := same_new (o := .tup [V.str "pair", V.int (re : Int), V.int (path[j] : Int)]) htq
        have cc := (c.keep kp nt2).same s1
        refine ⟨nt, tq, pairP re path[j], b, rfl, cc, upd_same, pairOk hre ho, fun H4 kp4 nt4 => ?_⟩
        exact rest H4 _ ((kp.trans (.of_same s1)).trans kp4) nt4 (by rw [if_pos hm])
      · rw [decide_eq_false hm]
        refine iteF ⟨_, rfl, nt.n, dx, _, rfl, en, nfl_no _ _ (by decide +kernel) (by decide +kernel) (by decide +kernel), _, rfl, _, rfl, by show 3 ≤ sizeLine; decide, fun tq htq => ?_⟩
        have s1 := same_new (o := .tup [V.str "pair", V.int (path[j] : Int), V.int (re : Int)]) htq
        have cc := (c.keep kp nt2).same s1
        refine ⟨nt, tq, pairP path[j] re, b, rfl, cc, upd_same, pairOk ho hre, fun H4 kp4 nt4 => ?_⟩
        exact rest H4 _ ((kp.trans (.of_same s1)).trans kp4) nt4 (by rw [if_neg hm])
    · rintro σ H2 ⟨pl, re, v, rfl, kp, nt2, hre, hj, hroot⟩
      rw [nats_len, List.drop_length] at hroot
      have hroot : (if pl = 0 then re else 0) = rootBy b i x path := hroot
      refine ⟨_, rfl, rfl, _, rfl, ?_⟩
      rw [dec_nat0]
      have kk := k H2 kp nt2
      rw [← hroot] at kk
      by_cases hp : pl = 0
      · rw [decide_eq_true hp]
        rw [if_pos hp] at kk
        exact iteT ⟨_, rfl, kk⟩
      · rw [decide_eq_false hp]
        rw [if_neg hp] at kk
        exact iteF kk
end
end K24
set_option Elab.async false
set_option autoImplicit false
set_option linter.all false
set_option maxRecDepth 100000
set_option maxHeartbeats 4000000
/-! tuple * int for 0 and 1 as well. -/
namespace K24
open PySem PySem.Spec PyProof.Rows L2
theorem tuple_mulW1 (l : Addr) (items : Array Value) (n : Nat) (dd : Option Addr) (sl : Array (Option Value)) (u : Tok) :
    Meets (Builtin.«tuple.__mul__» ⟨[.ref l, .int 1 u], []⟩) (fun _ R s => s.heap.get? l = some { cls := .type "tuple", dict := dd, data := .seq items n, slots := sl } ∧ R (.ok (.ret (Value.ref l))) s) :=
  .of_wp fun prog w A R s h => by
    obtain ⟨hp, g, d, tk, os⟩ := s
    obtain ⟨hl, h⟩ := h
    have f1 := AutoSeq1.idx_int
    have c0 : (decide ((1 : Int) < -(2 ^ 63)) || decide ((1 : Int) ≥ 2 ^ 63)) = false := by decide
    have c1 : (items.isEmpty || (1 : Int) == 1) = true := by simp
    wp_walk using wpAny_loadPart' hl
    repeat (first
      | (refine wpAny_ite_false (decide_eq_false (by rw [c0]; exact Bool.false_ne_true)) ?_; wp_walk using wpAny_loadPart' hl)
      | (refine wpAny_ite_true (decide_eq_true (by rw [c1])) ?_; wp_walk using wpAny_loadPart' hl))
    exact ⟨_, rfl, h⟩
theorem tuple_mulW0 (l : Addr) (items : Array Value) (n : Nat) (dd : Option Addr) (sl : Array (Option Value)) (u : Tok) (hi : items.isEmpty = false) :
    Meets (Builtin.«tuple.__mul__» ⟨[.ref l, .int 0 u], []⟩) (fun _ R s => s.heap.get? l = some { cls := .type "tuple", dict := dd, data := .seq items n, slots := sl } ∧
      R (.ok (.ret (Value.ref s.heap.objs.size))) { s with heap := s.heap.push { cls := Value.type "tuple", data := Data.seq #[] }, toks := s.toks }) :=
  .of_wp fun prog w A R s h => by
    obtain ⟨hp, g, d, tk, os⟩ := s
    obtain ⟨hl, h⟩ := h
    have f1 := AutoSeq1.idx_int
    have c0 : (decide ((0 : Int) < -(2 ^ 63)) || decide ((0 : Int) ≥ 2 ^ 63)) = false := by decide
    have c1 : (items.isEmpty || (0 : Int) == 1) = false := by rw [hi]; rfl
    have c2 : (decide ((0 : Int) ≤ 0) || items.isEmpty) = true := by rfl
    wp_walk using wpAny_loadPart' hl
    repeat (first
      | (refine wpAny_ite_false (decide_eq_false (by rw [c0]; exact Bool.false_ne_true)) ?_; wp_walk using wpAny_loadPart' hl)
      | (refine wpAny_ite_false (decide_eq_false (by rw [c1]; exact Bool.false_ne_true)) ?_; wp_walk using wpAny_loadPart' hl)
      | (refine wpAny_ite_true (decide_eq_true (by rw [c2])) ?_; wp_walk using wpAny_loadPart' hl))
    exact ⟨_, rfl, h⟩
/-- t * k: a short one, by any k of 0 and above -/
def rRepA (K : PySem.W.Frag) : R2 := fun x y H Q => ∃ (l : Addr) (k : Nat) (xs : List V), x = .ref l ∧ y = .int (k : Int) ∧ H l = some (.tup xs) ∧ xs ≠ [] ∧ k ≤ 1000 ∧ xs.length ≤ 1000 ∧
  ∀ (p : Addr) (H' : Hp), Same H H' → H' p = some (.tup (List.replicate k xs).flatten) → Q (.ref p) H'
theorem op_repA {X : Cx} : OpR X (binaryOp .Mult) (rRepA X.K) := by
  intro pins s σ H x y v u Q I rx ry h
  obtain ⟨l, k, xs, rfl, rfl, hT, hne, h2, hz, q⟩ := h
  by_cases hk : 2 ≤ k
  · refine op_repT pins s σ H _ _ v u Q I rx ry ⟨l, k, xs, rfl, rfl, SqT.of hT, hne, by omega, by omega, hz, fun p hp => q p _ ?_ ?_⟩
    · intro a u e
      rw [upd_ne (ne_of_none e hp)]
      exact e
    · rw [upd_same, Int.toNat_natCast]
  · cases rx
    obtain ⟨t, rfl⟩ := ry
    obtain ⟨its, r, ⟨⟨cls, dd, data, sl⟩, ho, hc, n, hd⟩, hs⟩ := I.tuple (SqT.of hT)
    simp only at hc hd
    subst hc hd
    have hle : its.length = xs.length := r.length.symm
    have hn : its ≠ [] := fun e => hne (by
      rw [e] at hle
      exact List.eq_nil_of_length_eq_zero hle.symm)
    have hi : its.toArray.isEmpty = false := by
      cases its with
      | nil => exact absurd rfl hn
      | cons a b => rfl
    rcases (show k = 0 ∨ k = 1 by omega) with e | e
    · subst e
      refine wpAny_binaryOp_repeat_ref (T := "tuple") (U := "int") (by decide) ⟨_, ho, rfl⟩ (fun s' => typeIs_int s' _ t) noFill_tuple_mul F.fills_int_mul F.slot_int_rmul repeat_tuple F.slot_int_index.lookup
        (call_meets F.slot_int_rmul (typeIs_int s _ t) F.entry_int_rmul (F.args_int_rmul_2 _ _) (int_rmul_tuple _ t l its.toArray n dd sl)
          ⟨ho, rfl, ⟨_, ho, rfl⟩, call_meets F.slot_tuple_mul ⟨_, ho, rfl⟩ F.entry_tuple_mul (F.args_tuple_mul_2 _ _) (tuple_mulW0 l its.toArray n dd sl t hi) ⟨ho, ?_⟩⟩)
      have hf := I.hok.fresh (Nat.le_refl _)
      refine ⟨.ref s.heap.objs.size, _, I.laid (t' := s.toks) (o := .tup []) (fun b ob q => Heap.get?_push_of_some _ q) (Nat.le_refl _) ?_, rfl, q _ _ ?_ upd_same⟩
      · exact ⟨by decide, [], .nil, IsTup.new _ _⟩
      · intro a u e
        rw [upd_ne (ne_of_none e hf)]
        exact e
    · subst e
      refine wpAny_binaryOp_repeat_ref (T := "tuple") (U := "int") (by decide) ⟨_, ho, rfl⟩ (fun s' => typeIs_int s' _ t) noFill_tuple_mul F.fills_int_mul F.slot_int_rmul repeat_tuple F.slot_int_index.lookup
        (call_meets F.slot_int_rmul (typeIs_int s _ t) F.entry_int_rmul (F.args_int_rmul_2 _ _) (int_rmul_tuple _ t l its.toArray n dd sl)
          ⟨ho, rfl, ⟨_, ho, rfl⟩, call_meets F.slot_tuple_mul ⟨_, ho, rfl⟩ F.entry_tuple_mul (F.args_tuple_mul_2 _ _) (tuple_mulW1 l its.toArray n dd sl t) ⟨ho, ?_⟩⟩)
      refine ⟨.ref l, H, I, rfl, q l H (fun _ _ e => e) ?_⟩
      rw [hT]
      simp
/-! ### tuples as they are tracked -/
section
variable {K : PySem.W.Frag} {H : Hp} {Q : VK}
theorem catT {a b : Addr} {xs ys : List V} (ha : H a = some (.tup xs)) (hb : H b = some (.tup ys)) (hz : xs.length + ys.length ≤ sizeLine) (q : ∀ (p : Addr) (H' : Hp), Same H H' → H' p = some (.tup (xs ++ ys)) → Q (.ref p) H') : rCatA K (.ref a) (.ref b) H Q := by
  refine ⟨a, b, xs, ys, rfl, rfl, SqT.of ha, SqT.of hb, hz, fun e => ?_, fun _ e => ?_, fun _ _ p hp => q p _ (same_new hp) upd_same⟩
  · subst e
    exact q b H (fun _ _ e => e) hb
  · subst e
    exact q a H (fun _ _ e => e) (by rw [List.append_nil]; exact ha)
theorem slT {a : Addr} {xs : List V} {lo hi : Option Int} (ha : H a = some (.tup xs)) (q : ∀ (p : Addr) (H' : Hp), Same H H' → H' p = some (.tup (cutV xs lo hi)) → Q (.ref p) H') : rSlA K (.ref a) lo hi H Q := by
  refine ⟨a, xs, rfl, SqT.of ha, fun e => q a H (fun _ _ e => e) ?_, fun _ p hp => q p _ (same_new hp) upd_same⟩
  rw [ha]
  unfold cutV
  rw [e.1, e.2, List.drop_zero, Nat.sub_zero, List.take_length]
theorem cut_lo (xs : List V) (k : Nat) (h : k ≤ xs.length) : cutV xs (some (k : Int)) none = xs.drop k := by
  unfold cutV
  rw [HT.sIx_nat, HT.sIx_none, Nat.min_eq_left h]
  rw [List.take_of_length_le (by rw [List.length_drop]; omega)]
theorem cut_hi (xs : List V) (k : Nat) (h : k ≤ xs.length) : cutV xs none (some (k : Int)) = xs.take k := by
  unfold cutV
  rw [HT.sIx_nat, HT.sIx_none, Nat.min_eq_left h, List.drop_zero, Nat.sub_zero]
theorem cut_both (xs : List V) (i k : Nat) (hi : i ≤ k) (h : k ≤ xs.length) : cutV xs (some (i : Int)) (some (k : Int)) = (xs.drop i).take (k - i) := by
  unfold cutV
  rw [HT.sIx_nat, HT.sIx_nat, Nat.min_eq_left h, Nat.min_eq_left (Nat.le_trans hi h)]
end
theorem Same.refl (H : Hp) : Same H H := fun _ _ e => e
theorem Same.trans {H H1 H2 : Hp} (a : Same H H1) (b : Same H1 H2) : Same H H2 := fun x o e => b x o (a x o e)
theorem sEq (a b : Str) : decide (V.str a = V.str b) = decide (a = b) := by
  rw [Bool.eq_iff_iff, decide_eq_true_iff, decide_eq_true_iff]
  exact ⟨fun h => by injection h, fun h => by rw [h]⟩
theorem iEq (a b : Int) : decide (V.int a = V.int b) = decide (a = b) := by
  rw [Bool.eq_iff_iff, decide_eq_true_iff, decide_eq_true_iff]
  exact ⟨fun h => by injection h, fun h => by rw [h]⟩
theorem nEq (a b : Nat) : decide (V.int (a : Int) = V.int (b : Int)) = decide (a = b) := by
  rw [iEq, Bool.eq_iff_iff, decide_eq_true_iff, decide_eq_true_iff]
  omega
/-- a comprehension over anything that is walked n times -/
theorem lc_any {J : It} {n : Nat} {g : TG} {tt : TT} {te : TE} {vs : List Nat} {σ : L2.St} {H1 : Hp} {D : Addr} {Qd : Hp → Prop} (Pv : Nat → Hp → Prop) (h0 : Pv 0 (upd H1 D (.lst []))) (hgo : ∀ i H, i < n → Pv i H → J.go i H) (hst : ∀ H, Pv n H → J.stop n H)
    (hs : ∀ i H x H', i < n → Pv i H → J.yld i H x H' → g x (wipe σ vs) H' fun σ2 H2 => wipe σ2 vs = wipe σ vs ∧ tt σ2 H2 fun b H3 =>
      if b = true then te σ2 H3 fun y H4 => ∃ acc, H4 D = some (.lst acc) ∧ acc.length < sizeLine ∧ Pv (i + 1) (upd H4 D (.lst (acc ++ [y]))) else Pv (i + 1) H3) (hd : ∀ H, Pv n H → Qd H) :
    ∃ W : Nat → Nat → Hp → Prop, (∃ m, W 0 m (upd H1 D (.lst []))) ∧ ∀ i m H, W i m H →
      (J.stop i H ∧ Qd H) ∨ (J.go i H ∧ ∃ Nx : Hp → Prop, (∀ H', Nx H' → ∃ m', m' < m ∧ W (i + 1) m' H') ∧ ∀ x H', J.yld i H x H' → g x (wipe σ vs) H' fun σ2 H2 => wipe σ2 vs = wipe σ vs ∧ tt σ2 H2 fun b H3 =>
        if b = true then te σ2 H3 fun y H4 => ∃ acc, H4 D = some (.lst acc) ∧ acc.length < sizeLine ∧ Nx (upd H4 D (.lst (acc ++ [y]))) else Nx H3) := by
  refine ⟨fun i m H => m = n - i ∧ i ≤ n ∧ Pv i H, ⟨n, by omega, Nat.zero_le n, h0⟩, fun i m H ⟨em, hi, p⟩ => ?_⟩
  by_cases hlt : i < n
  · exact .inr ⟨hgo i H hlt p, Pv (i + 1), fun H' p' => ⟨n - (i + 1), by omega, rfl, hlt, p'⟩, fun x H' y => hs i H x H' hlt p y⟩
  · obtain rfl : i = n := by omega
    exact .inl ⟨hst H p, hd H p⟩
end K24
set_option Elab.async false
set_option autoImplicit false
set_option linter.all false
set_option maxRecDepth 100000
set_option maxHeartbeats 4000000
namespace K24
open PySem PySem.Spec PyProof.Rows L2
/-- what sealing n tuples leaves -/
structure Sealed (CN : Addr) (nt : Nt) (H1 : Hp) (D : Addr) (b : Book) (parts : Nat → Parts) (n : Nat) (H : Hp) (zs : List Nat) (b' : Book) : Prop where
  D : H D = some (.lst (nats zs))
  len : zs.length = n
  kp : Keep nt H1 H
  nt : NotAt CN nt H b'
  ext : Ext b b'
  le : b'.length ≤ b.length + n
  at_ : ∀ j z, zs[j]? = some z → z ≤ LIM ∧ z ≠ 0 ∧ findB b' (parts j) = z
theorem seal_lc {CN tl tp : Addr} {nt : Nt} {b : Book} {parts : Nat → Parts} {J : It} {n : Nat} {g : TG} {te : TE} {vs : List Nat} {σ : L2.St} {H1 : Hp} {D : Addr} {Qd : Hp → Prop} (c : Call CN tl tp nt H1 b) (hD : H1 D = none) (hn : n < 5000) (hl : b.length + n ≤ LIM)
    (hgo : ∀ i H b', i < n → Keep nt H1 H → NotAt CN nt H b' → J.go i H) (hst : ∀ H b', Keep nt H1 H → NotAt CN nt H b' → J.stop n H)
    (hs : ∀ i H x H' b' (R : VK), i < n → Keep nt H1 H → Call CN tl tp nt H b' → Ext b b' → b'.length < LIM → J.yld i H x H' →
      (∀ H4, Keep nt H H4 → NotAt CN nt H4 (addB b' (parts i)) → R (.int (findB (addB b' (parts i)) (parts i) : Int)) H4) → g x (wipe σ vs) H' fun σ2 H2 => wipe σ2 vs = wipe σ vs ∧ te σ2 H2 R)
    (hd : ∀ H zs b', Sealed CN nt H1 D b parts n H zs b' → Qd H) :
    ∃ W : Nat → Nat → Hp → Prop, (∃ m, W 0 m (upd H1 D (.lst []))) ∧ ∀ i m H, W i m H →
      (J.stop i H ∧ Qd H) ∨ (J.go i H ∧ ∃ Nx : Hp → Prop, (∀ H', Nx H' → ∃ m', m' < m ∧ W (i + 1) m' H') ∧ ∀ x H', J.yld i H x H' → g x (wipe σ vs) H' fun σ2 H2 => wipe σ2 vs = wipe σ vs ∧ tYes σ2 H2 fun b H3 =>
        if b = true then te σ2 H3 fun y H4 => ∃ acc, H4 D = some (.lst acc) ∧ acc.length < sizeLine ∧ Nx (upd H4 D (.lst (acc ++ [y]))) else Nx H3) := by
  have nD := c.nt.nel hD
  refine lc_any (fun i H => ∃ zs b', Sealed CN nt H1 D b parts i H zs b') ⟨[], b, upd_same, rfl, (Keep.refl _ _).upd hD, c.nt.upd nD, .refl _, Nat.le_refl _, fun j z hz => by simp at hz⟩
    (fun i H hi ⟨zs, b', S⟩ => hgo i H b' hi S.kp S.nt) (fun H ⟨zs, b', S⟩ => hst H b' S.kp S.nt) ?_ (fun H ⟨zs, b', S⟩ => hd H zs b' S)
  rintro i H x H' hi ⟨zs, b', S⟩ y
  refine hs i H x H' b' _ hi S.kp (c.keep S.kp S.nt) S.ext (by have := S.le; omega) y fun H4 kp4 nt4 => ?_
  have hD4 : H4 D = some (.lst (nats zs)) := kp4.lst S.nt S.D nD.2.2
  refine ⟨_, hD4, by rw [nats_len, S.len]; exact Nat.lt_of_lt_of_le (Nat.lt_trans hi hn) (by decide), zs ++ [findB (addB b' (parts i)) (parts i)], addB b' (parts i), ?_, ?_, ?_, ?_, ?_, ?_, ?_⟩
  · rw [← nats_snoc]; exact upd_same
  · rw [List.length_append, S.len]; rfl
  · exact (S.kp.trans kp4).upd hD
  · exact nt4.upd nD
  · exact S.ext.trans (ext_add _ _)
  · have := addB_len b' (parts i)
    have := S.le
    omega
  · intro j z hz
    by_cases hj : j < zs.length
    · rw [List.getElem?_append_left hj] at hz
      obtain ⟨z1, z2, z3⟩ := S.at_ j z hz
      exact ⟨z1, z2, by rw [(ext_add b' _).find (by rw [z3]; exact z2)]; exact z3⟩
    · have hi2 : j = i := by
        have := (List.getElem?_eq_some_iff.mp hz).1
        rw [List.length_append, S.len] at this
        rw [S.len] at hj
        simp at this
        omega
      subst hi2
      rw [List.getElem?_append_right (by omega), S.len, Nat.sub_self] at hz
      have hz : findB (addB b' (parts j)) (parts j) = z := by simpa using hz
      refine ⟨?_, ?_, hz⟩
      · rw [← hz]
        have := S.le
        exact findB_lim (by have := addB_len b' (parts j); omega)
      · rw [← hz]; exact addB_find _ _
end K24
set_option Elab.async false
set_option autoImplicit false
set_option linter.all false
set_option maxRecDepth 100000
set_option maxHeartbeats 4000000
namespace K24
open PySem PySem.Spec PyProof.Rows L2

/-! ### words -/
def isW (i : Nat) : Prop := i ≤ 4294967295
def wordP (w : Nat) : Parts := [.inr "word", .inl (w : Int)]
theorem wordP_inj {v w : Nat} (h : wordP v = wordP w) : v = w := by
  unfold wordP at h
  injection h with _ h
  injection h with h _
  injection h with h
  omega
theorem wordOk {w : Nat} (h : isW w) : PartsOk (wordP w) := by
  refine ⟨by show 1 ≤ 2; decide, by show 2 ≤ 16; decide, fun k hk => ?_⟩
  rcases List.mem_cons.mp hk with e | hk
  · subst e
    show okText ("word" : Str)
    exact ⟨by decide +kernel, by decide +kernel⟩
  · rw [List.mem_singleton.mp hk]
    have h : w ≤ 4294967295 := h
    exact ⟨by omega, by omega⟩
/-- the leaves of words -/
structure WLv (b : Book) (ws : List Nat) (ls : List Nat) : Prop where
  len : ls.length = ws.length
  at_ : ∀ (i : Nat) w, ws[i]? = some w → ls[i]? = some (findB b (wordP w)) ∧ findB b (wordP w) ≠ 0
theorem WLv.ext {b b' : Book} (e : Ext b b') {ws : List Nat} {ls : List Nat} (h : WLv b ws ls) : WLv b' ws ls :=
  ⟨h.len, fun i w hw => by
    obtain ⟨h1, h2⟩ := h.at_ i w hw
    rw [e.find h2]
    exact ⟨h1, h2⟩⟩
theorem WLv.det {b : Book} {ws : List Nat} {ls ls' : List Nat} (h : WLv b ws ls) (h' : WLv b ws ls') : ls = ls' := by
  refine List.ext_getElem? fun i => ?_
  by_cases hi : i < ws.length
  · rw [(h.at_ i _ (List.getElem?_eq_getElem hi)).1, (h'.at_ i _ (List.getElem?_eq_getElem hi)).1]
  · rw [List.getElem?_eq_none (by rw [h.len]; omega), List.getElem?_eq_none (by rw [h'.len]; omega)]
theorem WLv.set {b : Book} {ws : List Nat} {ls : List Nat} (h : WLv b ws ls) (i : Nat) (w : Nat) (hw : findB b (wordP w) ≠ 0) : WLv b (ws.set i w) (ls.set i (findB b (wordP w))) := by
  refine ⟨by rw [List.length_set, List.length_set, h.len], fun j v hv => ?_⟩
  by_cases e : i = j
  · subst e
    have hl := (List.getElem?_eq_some_iff.mp hv).1
    rw [List.length_set] at hl
    rw [List.getElem?_set_self hl] at hv
    cases hv
    exact ⟨List.getElem?_set_self (by rw [h.len]; exact hl), hw⟩
  · rw [List.getElem?_set_ne e] at hv
    rw [List.getElem?_set_ne e]
    exact h.at_ j v hv
/-- sealing the words gives their leaves -/
theorem Sealed.words {CN : Addr} {nt : Nt} {H1 H : Hp} {D : Addr} {b b' : Book} {ws zs : List Nat} (S : Sealed CN nt H1 D b (fun i => wordP (ws.getD i 0)) ws.length H zs b') : WLv b' ws zs := by
  refine ⟨S.len, fun i w hw => ?_⟩
  have hi := (List.getElem?_eq_some_iff.mp hw).1
  have e := List.getElem?_eq_getElem (l := zs) (i := i) (by rw [S.len]; exact hi)
  obtain ⟨_, z2, z3⟩ := S.at_ i _ e
  rw [List.getD_eq_getElem?_getD, hw] at z3
  have z3 : findB b' (wordP w) = zs[i]'(by rw [S.len]; exact hi) := z3
  rw [z3]
  exact ⟨e, z2⟩
theorem nats_set (xs : List Nat) (i x : Nat) : (nats xs).set i (.int (x : Int)) = nats (xs.set i x) := by
  unfold nats
  rw [List.map_set]
theorem ixN_nat {n i : Nat} (h : i < n) : ixN n (i : Int) = some i := by
  unfold ixN
  rw [if_pos (by omega), if_pos (by omega)]
  simp

/-! ### the object -/
structure Wt where
  t : Addr
  wl : Addr
  R : Addr
  rs : List Addr
def wfl (nt : Nt) (wt : Wt) : List (Str × V) := [("notary", .ref nt.n), ("words", .ref wt.wl), ("rows", .ref wt.R)]
theorem wfl_notary (nt : Nt) (wt : Wt) : (wfl nt wt).lookup ("notary" : Str) = some (.ref nt.n) := lk_hit
theorem wfl_words (nt : Nt) (wt : Wt) : (wfl nt wt).lookup ("words" : Str) = some (.ref wt.wl) := (lk_miss (by decide +kernel)).trans lk_hit
theorem wfl_rows (nt : Nt) (wt : Wt) : (wfl nt wt).lookup ("rows" : Str) = some (.ref wt.R) := (lk_miss (by decide +kernel)).trans ((lk_miss (by decide +kernel)).trans lk_hit)
theorem wfl_no (nt : Nt) (wt : Wt) {m : Str} (h1 : (m == ("notary" : Str)) = false) (h2 : (m == ("words" : Str)) = false) (h3 : (m == ("rows" : Str)) = false) : (wfl nt wt).lookup m = none :=
  (lk_miss h1).trans ((lk_miss h2).trans ((lk_miss h3).trans rfl))
structure TreeAt (CT : Addr) (nt : Nt) (wt : Wt) (H : Hp) (ws : List Nat) (rows : List (List Nat)) : Prop where
  ob : ∃ dx, H wt.t = some (.ins CT dx (wfl nt wt))
  wl : H wt.wl = some (.lst (nats ws))
  R : H wt.R = some (.lst (wt.rs.map V.ref))
  rl : RowL H wt.rs rows
  nd : wt.rs.Nodup
  wn : wt.wl ∉ wt.rs
  ap : wt.wl ≠ nt.l ∧ wt.R ≠ nt.l ∧ (∀ r ∈ wt.rs, r ≠ nt.l) ∧ wt.t ≠ nt.n ∧ wt.R ≠ wt.wl ∧ wt.R ∉ wt.rs
structure WTreeC (K : PySem.W.Frag) (CT : Addr) : Prop where
  cl : Cls K CT
  notary : NoAttr K CT "notary"
  words : NoAttr K CT "words"
  rows : NoAttr K CT "rows"
/-- all but the notary's objects and those at S has stayed -/
def KeepW (nt : Nt) (S : List Addr) (H H' : Hp) : Prop := ∀ a o, H a = some o → a ≠ nt.n → a ≠ nt.d → a ≠ nt.l → a ∉ S → H' a = some o
theorem Keep.w {nt : Nt} {S : List Addr} {H H' : Hp} (k : Keep nt H H') : KeepW nt S H H' := fun a o e h1 h2 h3 _ => k a o e h1 h2 h3
theorem KeepW.refl (nt : Nt) (S : List Addr) (H : Hp) : KeepW nt S H H := fun _ _ e _ _ _ _ => e
theorem KeepW.trans {nt : Nt} {S : List Addr} {H H1 H2 : Hp} (a : KeepW nt S H H1) (b : KeepW nt S H1 H2) : KeepW nt S H H2 := fun x o e h1 h2 h3 h4 => b x o (a x o e h1 h2 h3 h4) h1 h2 h3 h4
theorem KeepW.upd {nt : Nt} {S : List Addr} {H H' : Hp} {a : Addr} {o : HO} (k : KeepW nt S H H') (h : a ∈ S) : KeepW nt S H (upd H' a o) := fun x u e h1 h2 h3 h4 => by
  rw [upd_ne (fun z => h4 (by rw [z]; exact h))]
  exact k x u e h1 h2 h3 h4
theorem RowL.set {H : Hp} {a : Addr} {xs : List Nat} : ∀ {rs : List Addr} {rows : List (List Nat)} {k : Nat}, RowL H rs rows → rs.Nodup → rs[k]? = some a → RowL (upd H a (.lst (nats xs))) rs (rows.set k xs)
  | _, _, _, .nil, _, h => by simp at h
  | r :: rs, x :: rows, 0, .cons e t, nd, h => by
    have h : r = a := by simpa using h
    subst h
    obtain ⟨n1, n2⟩ := List.nodup_cons.mp nd
    refine .cons upd_same (RowL.map t fun q hq ys e2 => ?_)
    rw [upd_ne (fun z => n1 (by rw [← z]; exact hq))]
    exact e2
  | r :: rs, x :: rows, k + 1, .cons e t, nd, h => by
    obtain ⟨n1, n2⟩ := List.nodup_cons.mp nd
    have h : rs[k]? = some a := by simpa using h
    refine .cons ?_ (RowL.set (k := k) t n2 h)
    rw [upd_ne (fun z => n1 (by rw [z]; exact List.mem_of_getElem? h))]
    exact e
theorem RowL.row {H : Hp} : ∀ {rs : List Addr} {rows : List (List Nat)} {i : Nat} {xs : List Nat}, RowL H rs rows → rows[i]? = some xs → ∃ a, rs[i]? = some a ∧ H a = some (.lst (nats xs))
  | _, _, _, _, .nil, e => by simp at e
  | _, _, 0, _, .cons e t, h => by
    simp at h
    subst h
    exact ⟨_, rfl, e⟩
  | _, _, i + 1, _, .cons e t, h => by
    obtain ⟨a, h1, h2⟩ := RowL.row (i := i) t (by simpa using h)
    exact ⟨a, by simpa using h1, h2⟩
/-- rows of a tree have different lengths: they stand apart -/
theorem rows_apart {b : Book} {H : Hp} : ∀ {rs : List Addr} {rows : List (List Nat)}, RowL H rs rows → TreeB b rows → rs.Nodup ∧ ∀ r ∈ rs, ∃ xs, H r = some (.lst (nats xs)) ∧ xs.length ≤ (rows.headD []).length ∧ 1 ≤ xs.length
  | _, _, .nil, h => h.elim
  | [r], [x], .cons e .nil, h => by
    have h : x.length = 1 := h
    refine ⟨by simp, fun q hq => ⟨x, ?_, Nat.le_refl _, by omega⟩⟩
    rw [List.mem_singleton.mp hq]
    exact e
  | r :: s :: rs, x :: y :: rows, .cons e (.cons e2 t), h => by
    obtain ⟨i1, i2⟩ := rows_apart (rs := s :: rs) (rows := y :: rows) (.cons e2 t) h.2
    have hl := h.1.len
    have hl2 : ∀ z ∈ s :: rs, ∃ xs, H z = some (.lst (nats xs)) ∧ xs.length ≤ y.length ∧ 1 ≤ xs.length := i2
    refine ⟨List.nodup_cons.mpr ⟨fun hm => ?_, i1⟩, fun q hq => ?_⟩
    · obtain ⟨xs, q1, q2, q3⟩ := hl2 r hm
      rw [e] at q1
      have q4 := Option.some.inj q1
      injection q4 with q4
      have q5 := congrArg List.length q4
      rw [nats_len, nats_len] at q5
      omega
    · rcases List.mem_cons.mp hq with z | z
      · rw [z]
        obtain ⟨xs, q1, q2, q3⟩ := hl2 s List.mem_cons_self
        exact ⟨x, e, Nat.le_refl _, by omega⟩
      · obtain ⟨xs, q1, q2, q3⟩ := hl2 q z
        exact ⟨xs, q1, by show xs.length ≤ x.length; omega, q3⟩
end K24
set_option Elab.async false
set_option autoImplicit false
set_option linter.all false
set_option maxRecDepth 100000
set_option maxHeartbeats 4000000
namespace K24
open PySem PySem.Spec PyProof.Rows L2
theorem upd_free {H : Hp} {a x : Addr} {o : HO} (h : upd H a o x = none) : x ≠ a ∧ H x = none := by
  have n : x ≠ a := fun e => by rw [e, upd_same] at h; cases h
  exact ⟨n, by rw [upd_ne n] at h; exact h⟩
theorem KeepW.free {CN : Addr} {nt : Nt} {S : List Addr} {H H' : Hp} {b : Book} {a : Addr} (k : KeepW nt S H H') (N : NotAt CN nt H' b) (hS : ∀ x ∈ S, H' x ≠ none) (h : H' a = none) : H a = none := by
  obtain ⟨n1, n2, n3⟩ := N.nel h
  cases e : H a with
  | none => rfl
  | some o =>
    by_cases hs : a ∈ S
    · exact absurd h (hS a hs)
    · rw [k a o e n1 n2 n3 hs] at h
      cases h
theorem KeepW.lst {nt : Nt} {S : List Addr} {H H' : Hp} {CN : Addr} {b : Book} {a : Addr} {xs : List V} (k : KeepW nt S H H') (N : NotAt CN nt H b) (h : H a = some (.lst xs)) (hne : a ≠ nt.l) (hs : a ∉ S) : H' a = some (.lst xs) := by
  obtain ⟨dx, z, e1⟩ := N.ob
  exact k a _ h (ne_of h e1 (fun z => nomatch z)) (ne_of h N.dc (fun z => nomatch z)) hne hs
theorem KeepW.new {nt : Nt} {S : List Addr} {H H' : Hp} {a : Addr} {o : HO} (k : KeepW nt S H H') (h : H a = none) : KeepW nt S H (L2.upd H' a o) := fun x u e h1 h2 h3 h4 => by
  rw [upd_ne (ne_of_none e h)]
  exact k x u e h1 h2 h3 h4
/-- the rows are no others than rows -/
theorem rows_no {b : Book} {H : Hp} {rs : List Addr} {rows : List (List Nat)} (rl : RowL H rs rows) (tr : TreeB b rows) {R : Addr} {ys : List Addr} (h : H R = some (.lst (ys.map V.ref))) : R ∉ rs := fun hm => by
  obtain ⟨xs, q1, _, q3⟩ := (rows_apart rl tr).2 R hm
  rw [h] at q1
  have q := Option.some.inj q1
  injection q with q
  cases xs with
  | nil => simp at q3
  | cons x t =>
    cases ys with
    | nil => cases q
    | cons y ys =>
      injection q with q _
      cases q
def wfl2 (nt : Nt) (wl : Addr) : List (Str × V) := [("notary", .ref nt.n), ("words", .ref wl)]
section
variable {P : Program} {w : World} {K : PySem.W.Frag} {mg : Str → Option Value} {base : Heap}
/-! ### making a tree of 64 words -/
def spWTree (CN CT tl tp : Addr) : Sp := fun vs H Q _ => ∃ (nt : Nt) (t dx : Addr) (b : Book), vs = [.ref t, .ref nt.n, .int 6] ∧ H t = some (.ins CT dx []) ∧ t ≠ nt.n ∧ Call CN tl tp nt H b ∧ b.length + 128 ≤ LIM ∧
  ∀ (H' : Hp) (b' : Book) (wt : Wt) (ls : List Nat) (rt : List (List Nat)), wt.t = t → H wt.wl = none → H wt.R = none → (∀ r ∈ wt.rs, H r = none) → TreeAt CT nt wt H' (List.replicate 64 0) (ls :: rt) → rt.length = 6 → WLv b' (List.replicate 64 0) ls → TreeB b' (ls :: rt) →
    (∀ r ∈ ls :: rt, ∀ x ∈ r, x ≤ LIM) → KeepW nt [t] H H' → NotAt CN nt H' b' → Ext b b' → b'.length ≤ b.length + 128 → Q .non H'
theorem sc_WordTree_init : FnScope ["self", "notary", "height", "_"] ["self", "notary", "height"] (defScope s_WordTree_init) := ⟨rfl, rfl, rfl, by decide +kernel, rfl, by decide +kernel, by decide +kernel⟩
theorem ok_WordTree_init {CN CT tl tp : Addr} (F : FnI K mg "WordTree" CT "WordTree.__init__" s_WordTree_init) (C : Cst K mg) (T : NotC K CN) (T2 : WTreeC K CT) (D0 : Def P w K mg base 1 "is_number" ["value", "least", "most"] spNumber) (D1 : Def P w K mg base 1 "leaf_count" ["height"] spLeaves)
    (D2 : Mth P w K mg base 5 CN "seal" ["self", "parts"] (spSeal CN tl tp)) (D3 : Def P w K mg base 6 "rows_of" ["notary", "leaves"] (spRows K CN tl tp)) : Mkr P w K mg base 7 "WordTree" CT ["self", "notary", "height"] (spWTree CN CT tl tp) := by
  refine Mkr.of F sc_WordTree_init (fun _ _ _ _ _ _ us hl => match us, hl with | [_, _, _], _ => rfl) (fun vs H Q E h => ?_) (fun f cdv A outer s H vs Q E hr h => ?_)
  · obtain ⟨nt, t, dx, b, rfl, _⟩ := h; rfl
  · refine ⟨_, pss_cons (ps_if (pt_not (pt_val (pe_d D0 (hr.mono (by decide)) rfl (pa_cons (pv 2) (pa_cons pe_int (pa_cons (pe_gi C.nMAX_HEIGHT rfl) pa_nil)))))) (pss_one ps_never) pss_nil)
      (pss_cons (ps_fld (pv 0) (pv 1) rfl)
      (pss_cons (ps_fld (pv 0) (pe_op op_rep (pe_lst (pa_cons pe_int pa_nil)) (pe_d D1 (hr.mono (by decide)) rfl (pa_cons (pv 2) pa_nil))) rfl)
      (pss_one (ps_fld (pv 0) (pe_d D3 hr rfl (pa_cons (pv 1) (pa_cons (pe_lc (own := [("_", 3)]) (g := gName 3) (tt := tYes) rfl sc_WordTree_init.nd (pi_list (pe_fld (pv 0) rfl))
            (blkOk_by (N := ["self", "notary", "height", "_"]) (sc := defScope s_WordTree_init) (by decide +kernel)) (fun _ _ _ _ _ => pg_name (i := 3) sc_WordTree_init.nd rfl (Or.inl rfl)) (fun _ _ _ _ _ => pts_nil)
            (fun _ _ _ _ _ => pe_m D2 (pv 1) T.cl (hr.mono (by decide)) (pa_cons (pe_tup (pa_cons pe_str (pa_cons pe_int pa_nil))) pa_nil))) pa_nil))) rfl)))), ?_⟩
    obtain ⟨nt, t, dx, b, rfl, ht, htn, c, hlim, k⟩ := h
    have htd : t ≠ nt.d := ne_of ht c.nt.dc (fun z => nomatch z)
    obtain ⟨ts, el, elen⟩ := c.nt.ls
    have htl : t ≠ nt.l := ne_of ht el (fun z => nomatch z)
    refine ⟨_, rfl, _, _, .inl ⟨6, rfl, _, rfl, iteF ?_⟩⟩
    refine ⟨_, rfl, _, rfl, t, CT, dx, [], rfl, ht, T2.cl, T2.notary, (by decide), ?_⟩
    have ca : NotAt CN nt (upd H t (.ins CT dx (putF "notary" (V.ref nt.n) []))) b := c.nt.upd ⟨htn, htd, htl⟩
    have ka : KeepW nt [t] H (upd H t (.ins CT dx (putF "notary" (V.ref nt.n) []))) := (KeepW.refl nt [t] H).upd (by simp)
    have hta : (upd H t (.ins CT dx (putF "notary" (V.ref nt.n) []))) t = some (.ins CT dx (putF "notary" (V.ref nt.n) [])) := upd_same
    generalize upd H t (.ins CT dx (putF "notary" (V.ref nt.n) [])) = Ha at ca ka hta
    refine ⟨by show 1 ≤ sizeLine; decide, fun l0 hl0 => ?_⟩
    refine ⟨_, rfl, 6, by decide, rfl, l0, _, _, rfl, rfl, upd_same, by decide, by decide, by decide, fun wl hwl => ?_⟩
    obtain ⟨nwl0, hwla⟩ := upd_free hwl
    have tS : ∀ x ∈ [t], Ha x ≠ none := fun x hx => by rw [List.mem_singleton.mp hx, hta]; simp
    have hl0H : H l0 = none := ka.free ca tS hl0
    have hwlH : H wl = none := ka.free ca tS hwla
    have ntwl : t ≠ wl := ne_of_none hta hwla
    have ntl0 : t ≠ l0 := ne_of_none hta hl0
    have nwl := ca.nel hwla
    have cb := (ca.upd (o := .lst [V.int 0]) (ca.nel hl0)).upd (o := .lst (List.replicate (((2 ^ 6 : Nat) : Int)).toNat [V.int 0]).flatten) nwl
    have kb := (ka.new (o := .lst [V.int 0]) hl0H).new (o := .lst (List.replicate (((2 ^ 6 : Nat) : Int)).toNat [V.int 0]).flatten) hwlH
    have e64 : (List.replicate (((2 ^ 6 : Nat) : Int)).toNat [V.int 0]).flatten = nats (List.replicate 64 0) := by rfl
    have htb : upd (upd Ha l0 (.lst [V.int 0])) wl (.lst (List.replicate (((2 ^ 6 : Nat) : Int)).toNat [V.int 0]).flatten) t = some (.ins CT dx (putF "notary" (V.ref nt.n) [])) := by
      rw [upd_ne ntwl, upd_ne ntl0]; exact hta
    have hwlb : upd (upd Ha l0 (.lst [V.int 0])) wl (.lst (List.replicate (((2 ^ 6 : Nat) : Int)).toNat [V.int 0]).flatten) wl = some (.lst (nats (List.replicate 64 0))) := by rw [upd_same, e64]
    refine ⟨_, rfl, t, CT, dx, _, rfl, htb, T2.cl, T2.words, (by show 1 < 1000; decide), ?_⟩
    generalize upd (upd Ha l0 (.lst [V.int 0])) wl (.lst (List.replicate (((2 ^ 6 : Nat) : Int)).toNat [V.int 0]).flatten) = Hb at cb kb htb hwlb
    have eF : putF "words" (V.ref wl) (putF "notary" (V.ref nt.n) []) = wfl2 nt wl := by
      rw [put_nil, put_miss (by decide +kernel), put_nil]
      rfl
    rw [eF]
    have cd : NotAt CN nt (upd Hb t (.ins CT dx (wfl2 nt wl))) b := cb.upd ⟨htn, htd, htl⟩
    have kd := kb.upd (a := t) (o := .ins CT dx (wfl2 nt wl)) (by simp)
    have htd2 : (upd Hb t (.ins CT dx (wfl2 nt wl))) t = some (.ins CT dx (wfl2 nt wl)) := upd_same
    have hwld : (upd Hb t (.ins CT dx (wfl2 nt wl))) wl = some (.lst (nats (List.replicate 64 0))) := by rw [upd_ne (Ne.symm ntwl)]; exact hwlb
    generalize upd Hb t (.ins CT dx (wfl2 nt wl)) = Hd at cd kd htd2 hwld
    have cdC : Call CN tl tp nt Hd b := by
      refine ⟨cd, ?_, ?_⟩
      · obtain ⟨h1, h2, h3⟩ := c.nt.ne c.tl (fun _ _ _ z => nomatch z) (fun _ z => nomatch z) (fun _ z => nomatch z)
        exact kd _ _ c.tl h1 h2 h3 (by simp; exact ne_of c.tl ht (fun z => nomatch z))
      · obtain ⟨h1, h2, h3⟩ := c.nt.ne c.tp (fun _ _ _ z => nomatch z) (fun _ z => nomatch z) (fun _ z => nomatch z)
        exact kd _ _ c.tp h1 h2 h3 (by simp; exact ne_of c.tp ht (fun z => nomatch z))
    refine ⟨_, rfl, _, rfl, t, CT, dx, _, _, rfl, htd2, T2.cl, T2.words, (lk_miss (by decide +kernel)).trans lk_hit, wl, rfl, ⟨_, SqL.of hwld⟩, fun D hD => ?_⟩
    have nD := cd.nel hD
    refine seal_lc (parts := fun _ => wordP 0) (n := 64) cdC hD (by decide) (by omega) (fun i H1 b1 hi k1 n1 => ?_) (fun H1 b1 k1 n1 => ?_) (fun i H1 x H2 b1 R hi k1 c1 e1 l1 y r => ?_) (fun H2 zs b2 S => ?_)
    · exact ⟨_, _, SqL.of (k1.lst cd hwld nwl.2.2), nats_at (x := 0) (List.getElem?_replicate_of_lt hi)⟩
    · exact ⟨_, SqL.of (k1.lst cd hwld nwl.2.2), Nat.le_refl _⟩
    · obtain ⟨ey, _⟩ := y
      subst ey
      obtain ⟨dxn, z0, en⟩ := c1.nt.ob
      refine ⟨rfl, ?_⟩
      refine ⟨_, rfl, nt.n, dxn, _, rfl, en, nfl_no _ _ (by decide +kernel) (by decide +kernel) (by decide +kernel), by show 2 ≤ sizeLine; decide, fun tq htq => ?_⟩
      have s1 := same_new (o := .tup [V.str "word", V.int 0]) htq
      exact ⟨nt, tq, wordP 0, b1, rfl, c1.same s1, upd_same, wordOk (Nat.zero_le _), l1, fun H4 kp4 nt4 => r H4 ((Keep.of_same s1).trans kp4) nt4⟩
    · have W : WLv b2 (List.replicate 64 0) zs := by
        refine ⟨by rw [S.len]; rfl, fun i w hw => ?_⟩
        obtain ⟨hi, rfl⟩ := List.getElem?_eq_some_iff.mp hw
        have e := List.getElem?_eq_getElem (l := zs) (i := i) (by rw [S.len]; simpa using hi)
        obtain ⟨_, z2, z3⟩ := S.at_ i _ e
        have z3 : findB b2 (wordP 0) = zs[i]'(by rw [S.len]; simpa using hi) := z3
        rw [List.getElem_replicate, z3]
        exact ⟨e, z2⟩
      have ht2 := S.kp t _ htd2 htn htd htl
      have hwl2 := S.kp.lst cd hwld nwl.2.2
      have S64 := S.le
      refine ⟨nt, D, zs, b2, 6, rfl, cdC.keep S.kp S.nt, .inl (SqL.of S.D), nD.2.2, by decide, by rw [S.len], by have z := S64; show b2.length + 64 ≤ LIM; omega, fun x hx => ?_, fun H3 b3 R rs rt hR hrs eR rl tl' tr lm kp nt3 ext len3 => ?_⟩
      · obtain ⟨i, hi, rfl⟩ := List.getElem_of_mem hx
        exact (S.at_ i _ (List.getElem?_eq_getElem hi)).1
      have ht3 := kp t _ ht2 htn htd htl
      have hwl3 := kp.lst S.nt hwl2 nwl.2.2
      have nR := S.nt.nel hR
      have ntR : R ≠ t := Ne.symm (ne_of_none ht2 hR)
      have nwR : R ≠ wl := Ne.symm (ne_of_none hwl2 hR)
      have nrt : ∀ r ∈ rs, r ≠ t := fun r hr => Ne.symm (ne_of_none ht2 (hrs r hr))
      have tS2 : ∀ x ∈ [t], Hd x ≠ none := fun x hx => by rw [List.mem_singleton.mp hx, htd2]; simp
      have fr : ∀ x, H2 x = none → H x = none := fun x hx => kd.free cd tS2 (S.kp.free S.nt hx)
      refine ⟨_, rfl, t, CT, dx, _, rfl, ht3, T2.cl, T2.rows, (by show 2 < 1000; decide), ?_⟩
      have eF2 : putF "rows" (V.ref R) (wfl2 nt wl) = wfl nt ⟨t, wl, R, rs⟩ := by
        unfold wfl2
        rw [put_miss (by decide +kernel), put_miss (by decide +kernel), put_nil]
        rfl
      rw [eF2]
      refine k _ b3 ⟨t, wl, R, rs⟩ zs rt rfl hwlH (fr R hR) (fun r hr => fr r (hrs r hr)) ?_ tl' (W.ext ext) tr lm ?_ (nt3.upd ⟨htn, htd, htl⟩) (S.ext.trans ext) (by have : 2 ^ 6 = 64 := rfl; omega)
      · refine ⟨⟨dx, upd_same⟩, ?_, ?_, RowL.map rl fun r hr xs e => ?_, (rows_apart rl tr).1, fun hm => ?_, nwl.2.2, nR.2.2, fun r hr => (S.nt.nel (hrs r hr)).2.2, htn, nwR, ?_⟩
        · show upd H3 t _ wl = _
          rw [upd_ne (Ne.symm ntwl)]; exact hwl3
        · show upd H3 t _ R = _
          rw [upd_ne ntR]; exact eR
        · rw [upd_ne (nrt r hr)]; exact e
        · have := hrs wl hm
          rw [hwl2] at this
          cases this
        · exact rows_no rl tr eR
      · exact ((kd.trans (Keep.w S.kp)).trans (Keep.w kp)).upd (by simp)
end
end K24
set_option Elab.async false
set_option autoImplicit false
set_option linter.all false
set_option maxRecDepth 100000
set_option maxHeartbeats 4000000
namespace K24
open PySem PySem.Spec PyProof.Rows L2
section
variable {P : Program} {w : World} {K : PySem.W.Frag} {mg : Str → Option Value} {base : Heap}
def spTCheck (CT : Addr) : Sp := fun vs H Q _ => ∃ (nt : Nt) (wt : Wt) (ws : List Nat) (rows : List (List Nat)) (i : Nat), vs = [.ref wt.t, .int (i : Int)] ∧ TreeAt CT nt wt H ws rows ∧ i < ws.length ∧ Q .non H
theorem sc_WordTree_check : FnScope ["self", "index"] ["self", "index"] (defScope s_WordTree_check) := ⟨rfl, rfl, rfl, by decide +kernel, rfl, by decide +kernel, by decide +kernel⟩
theorem ok_WordTree_check {CT : Addr} (F : FnM K CT "check" "WordTree.check" s_WordTree_check) (C : Cst K mg) (T2 : WTreeC K CT) : Mth P w K mg base 1 CT "check" ["self", "index"] (spTCheck CT) := by
  refine Mth.of F sc_WordTree_check (fun _ _ _ _ _ _ us hl => match us, hl with | [_, _], _ => rfl) (fun vs H Q E h => ?_) (fun f cdv A outer s H vs Q E hr h => ?_)
  · obtain ⟨nt, wt, ws, rows, i, rfl, _⟩ := h; rfl
  · refine ⟨_, pss_one (ps_if (pt_not (pt_chain op_le op_lt pe_int (pv 1) (pe_callB call_len_seq rfl C.len PySem.boot_len (pa_cons (pe_fld (pv 0) rfl) pa_nil)))) (pss_one ps_never) pss_nil), ?_⟩
    obtain ⟨nt, wt, ws, rows, i, rfl, ta, hi, q⟩ := h
    obtain ⟨dx, ob⟩ := ta.ob
    refine ⟨_, rfl, _, _, rfl, rfl, _, rfl, ?_⟩
    rw [decide_eq_true (show (0 : Int) ≤ (i : Int) by omega)]
    refine iteT ⟨_, rfl, wt.t, CT, dx, _, _, rfl, ob, T2.cl, T2.words, wfl_words _ _, wt.wl, nats ws, rfl, .inl (SqL.of ta.wl), _, _, rfl, rfl, _, rfl, ?_⟩
    rw [nats_len, decide_eq_true (show (i : Int) < (ws.length : Int) by omega)]
    exact iteF q
def spTRoot (CT : Addr) : Sp := fun vs H Q _ => ∃ (nt : Nt) (wt : Wt) (ws : List Nat) (rows : List (List Nat)) (b : Book), vs = [.ref wt.t] ∧ TreeAt CT nt wt H ws rows ∧ TreeB b rows ∧ Q (.int (rootR rows : Int)) H
theorem sc_WordTree_root : FnScope ["self"] ["self"] (defScope s_WordTree_root) := ⟨rfl, rfl, rfl, by decide +kernel, rfl, by decide +kernel, by decide +kernel⟩
theorem ok_WordTree_root {CT : Addr} (F : FnM K CT "root" "WordTree.root" s_WordTree_root) (T2 : WTreeC K CT) : Mth P w K mg base 1 CT "root" ["self"] (spTRoot CT) := by
  refine Mth.of F sc_WordTree_root (fun _ _ _ _ _ _ us hl => match us, hl with | [_], _ => rfl) (fun vs H Q E h => ?_) (fun f cdv A outer s H vs Q E hr h => ?_)
  · obtain ⟨nt, wt, ws, rows, b, rfl, _⟩ := h; rfl
  · refine ⟨_, pss_one (ps_ret (pe_ix ix_list (pe_ix ix_list (pe_fld (pv 0) rfl) (pe_un un_neg pe_int) (fun _ _ => rfl)) pe_int (fun _ _ => rfl))), ?_⟩
    obtain ⟨nt, wt, ws, rows, b, rfl, ta, tr, q⟩ := h
    obtain ⟨dx, ob⟩ := ta.ob
    obtain ⟨pre, x, rfl⟩ := tree_last tr
    obtain ⟨rs', ra, e1, e2, e3⟩ := ta.rl.last
    have eR := ta.R
    rw [e1, List.map_append] at eR
    rw [root_last] at q
    exact ⟨_, rfl, wt.t, CT, dx, _, _, rfl, ob, T2.cl, T2.rows, wfl_rows _ _, 1, rfl, wt.R, _, -1, V.ref ra, rfl, rfl, SqL.of eR, atI_last _ _, ra, _, 0, V.int (x : Int), rfl, rfl, SqL.of e3, atI_nat (j := 0) rfl, q⟩
/-! ### setting a word -/
structure SetW (b : Book) (front : List (List Nat)) (cur cur0 : List Nat) (rest : List (List Nat)) (idx v : Nat) : Prop where
  ch : ChainB b (front ++ [cur])
  tr : TreeB b (cur0 :: rest)
  cur : cur = cur0.set idx v
  idx : idx < cur0.length
theorem SetW.next {b b' : Book} {front : List (List Nat)} {cur cur0 s0 : List Nat} {rest : List (List Nat)} {idx v : Nat} (S : SetW b front cur cur0 (s0 :: rest) idx v) (e : Ext b b') {x y : Nat} (hx : cur[2 * (idx / 2)]? = some x) (hy : cur[2 * (idx / 2) + 1]? = some y) (hz : findB b' (pairP x y) ≠ 0) :
    SetW b' (front ++ [cur]) (s0.set (idx / 2) (findB b' (pairP x y))) s0 rest (idx / 2) (findB b' (pairP x y)) := by
  have lv := S.tr.1
  have hl := lv.len
  have hi := S.idx
  refine ⟨ChainB.snoc (S.ch.ext e) ⟨by rw [S.cur, List.length_set, List.length_set, hl], fun i x1 y1 h1 h2 => ?_⟩, S.tr.2.ext e, rfl, by omega⟩
  have hlt : i < s0.length := by
    have z := (List.getElem?_eq_some_iff.mp h1).1
    rw [S.cur, List.length_set] at z
    omega
  by_cases ei : i = idx / 2
  · subst ei
    rw [hx] at h1
    rw [hy] at h2
    cases h1
    cases h2
    exact ⟨_, List.getElem?_set_self hlt, rfl, hz⟩
  · rw [S.cur, List.getElem?_set_ne (by omega)] at h1 h2
    obtain ⟨z, z1, z2, z3⟩ := (lv.ext e).at_ i x1 y1 h1 h2
    exact ⟨z, by rw [List.getElem?_set_ne (Ne.symm ei)]; exact z1, z2, z3⟩
theorem set_mid {α : Type} (f : List α) (c s t : α) (r : List α) : (f ++ c :: s :: r).set (f.length + 1) t = f ++ c :: t :: r := by
  induction f with
  | nil => rfl
  | cons a f ih => show a :: (f ++ c :: s :: r).set (f.length + 1) t = _; rw [ih]; rfl
theorem mid_at {α : Type} (f : List α) (c : α) (r : List α) : (f ++ c :: r)[f.length]? = some c := by
  rw [List.getElem?_append_right (Nat.le_refl _), Nat.sub_self]
  rfl
theorem mid_at1 {α : Type} (f : List α) (c d : α) (r : List α) : (f ++ c :: d :: r)[f.length + 1]? = some d := by
  rw [List.getElem?_append_right (Nat.le_succ _), show f.length + 1 - f.length = 1 by omega]
  rfl
def spSetWord (CN CT tl tp : Addr) : Sp := fun vs H Q _ => ∃ (nt : Nt) (wt : Wt) (ws : List Nat) (ls : List Nat) (rt : List (List Nat)) (b : Book) (i v : Nat), vs = [.ref wt.t, .int (i : Int), .int (v : Int)] ∧ Call CN tl tp nt H b ∧ TreeAt CT nt wt H ws (ls :: rt) ∧ WLv b ws ls ∧ TreeB b (ls :: rt) ∧
  (∀ r ∈ ls :: rt, ∀ x ∈ r, x ≤ LIM) ∧ i < ws.length ∧ isW v ∧ rt.length ≤ 10 ∧ b.length + 11 ≤ LIM ∧
  ∀ (H' : Hp) (b' : Book) (ls' : List Nat) (rt' : List (List Nat)), TreeAt CT nt wt H' (ws.set i v) (ls' :: rt') → rt'.length = rt.length → WLv b' (ws.set i v) ls' → TreeB b' (ls' :: rt') → (∀ r ∈ ls' :: rt', ∀ x ∈ r, x ≤ LIM) →
    KeepW nt (wt.wl :: wt.rs) H H' → NotAt CN nt H' b' → Ext b b' → b'.length ≤ b.length + 11 → Q .non H'
theorem sc_WordTree_set_word : FnScope ["self", "index", "word", "k", "left"] ["self", "index", "word"] (defScope s_WordTree_set_word) := ⟨rfl, rfl, rfl, by decide +kernel, rfl, by decide +kernel, by decide +kernel⟩
/-- what stands between two turns of the loop -/
structure SetAt (CN CT : Addr) (nt : Nt) (wt : Wt) (H : Hp) (ws : List Nat) (b : Book) (ls' : List Nat) (h j : Nat) (H2 : Hp) (b2 : Book) (front : List (List Nat)) (cur cur0 : List Nat) (rest : List (List Nat)) (idx z : Nat) : Prop where
  ta : TreeAt CT nt wt H2 ws (front ++ cur :: rest)
  S : SetW b2 front cur cur0 rest idx z
  fl : front.length = j
  rl : rest.length + j = h
  hd : (front ++ [cur]).head? = some ls'
  lim : ∀ r ∈ front ++ cur :: rest, ∀ x ∈ r, x ≤ LIM
  kp : KeepW nt (wt.wl :: wt.rs) H H2
  nt : NotAt CN nt H2 b2
  ext : Ext b b2
  le : b2.length ≤ b.length + 1 + j
theorem TreeAt.keep {CN CT : Addr} {nt : Nt} {wt : Wt} {H H' : Hp} {b : Book} {ws : List Nat} {rows : List (List Nat)} (ta : TreeAt CT nt wt H ws rows) (N : NotAt CN nt H b) (k : Keep nt H H') : TreeAt CT nt wt H' ws rows := by
  obtain ⟨dx, ob⟩ := ta.ob
  obtain ⟨a1, a2, a3, a4, a5, a6⟩ := ta.ap
  obtain ⟨ts, el, _⟩ := N.ls
  exact ⟨⟨dx, k _ _ ob a4 (ne_of ob N.dc (fun z => nomatch z)) (ne_of ob el (fun z => nomatch z))⟩, k.lst N ta.wl a1, k.lst N ta.R a2, RowL.map ta.rl fun r hr xs e => k.lst N e (a3 r hr), ta.nd, ta.wn, ta.ap⟩
theorem mem_set_lim {r : List Nat} {i v : Nat} (h : ∀ x ∈ r, x ≤ LIM) (hv : v ≤ LIM) : ∀ x ∈ r.set i v, x ≤ LIM := fun x hx => by
  rcases List.mem_or_eq_of_mem_set hx with z | z
  · exact h x z
  · rw [z]; exact hv
/-- storing a row -/
theorem TreeAt.store {CT : Addr} {nt : Nt} {wt : Wt} {H : Hp} {ws : List Nat} {rows : List (List Nat)} (ta : TreeAt CT nt wt H ws rows) {k : Nat} {a : Addr} {xs : List Nat} (hk : wt.rs[k]? = some a) : TreeAt CT nt wt (upd H a (.lst (nats xs))) ws (rows.set k xs) := by
  obtain ⟨dx, ob⟩ := ta.ob
  obtain ⟨a1, a2, a3, a4, a5, a6⟩ := ta.ap
  have ha : a ∈ wt.rs := List.mem_of_getElem? hk
  have h1 : wt.t ≠ a := by
    obtain ⟨ys, _, q2⟩ := ta.rl.get hk
    exact ne_of ob q2 (fun z => nomatch z)
  refine ⟨⟨dx, ?_⟩, ?_, ?_, RowL.set ta.rl ta.nd hk, ta.nd, ta.wn, ta.ap⟩
  · rw [upd_ne h1]; exact ob
  · rw [upd_ne (fun e => ta.wn (by rw [e]; exact ha))]; exact ta.wl
  · rw [upd_ne (fun e => a6 (by rw [e]; exact ha))]; exact ta.R
theorem TreeAt.nrow {CT : Addr} {CN : Addr} {b : Book} {nt : Nt} {wt : Wt} {H : Hp} {ws : List Nat} {rows : List (List Nat)} (ta : TreeAt CT nt wt H ws rows) (N : NotAt CN nt H b) {a : Addr} (ha : a ∈ wt.rs) : a ≠ nt.n ∧ a ≠ nt.d ∧ a ≠ nt.l := by
  obtain ⟨dx, ob⟩ := ta.ob
  obtain ⟨a1, a2, a3, a4, a5, a6⟩ := ta.ap
  obtain ⟨i, hi, e⟩ := List.getElem_of_mem ha
  obtain ⟨ys, _, q2⟩ := ta.rl.get (List.getElem?_eq_getElem hi)
  rw [e] at q2
  obtain ⟨dxn, z, en⟩ := N.ob
  exact ⟨ne_of q2 en (fun z => nomatch z), ne_of q2 N.dc (fun z => nomatch z), a3 a ha⟩
end
end K24
set_option Elab.async false
set_option autoImplicit false
set_option linter.all false
set_option maxRecDepth 100000
set_option maxHeartbeats 4000000
namespace K24
open PySem PySem.Spec PyProof.Rows L2
theorem Call.keepT {CN CT tl tp : Addr} {nt : Nt} {wt : Wt} {H H' : Hp} {b b' : Book} {ws : List Nat} {rows : List (List Nat)} (c : Call CN tl tp nt H b) (ta : TreeAt CT nt wt H ws rows) (k : KeepW nt (wt.wl :: wt.rs) H H') (n : NotAt CN nt H' b') : Call CN tl tp nt H' b' := by
  have g : ∀ x, HTab H x → HTab H' x := fun x hx => by
    obtain ⟨h1, h2, h3⟩ := c.nt.ne hx (fun _ _ _ z => nomatch z) (fun _ z => nomatch z) (fun _ z => nomatch z)
    refine k _ _ hx h1 h2 h3 fun hm => ?_
    rcases List.mem_cons.mp hm with e | e
    · rw [e] at hx
      exact absurd (hx.symm.trans ta.wl) (fun z => nomatch z)
    · obtain ⟨i, hi, e2⟩ := List.getElem_of_mem e
      obtain ⟨ys, _, q2⟩ := ta.rl.get (List.getElem?_eq_getElem hi)
      rw [e2] at q2
      exact absurd (hx.symm.trans q2) (fun z => nomatch z)
  exact ⟨n, g _ c.tl, g _ c.tp⟩
section
variable {P : Program} {w : World} {K : PySem.W.Frag} {mg : Str → Option Value} {base : Heap}
theorem ok_WordTree_set_word {CN CT tl tp : Addr} (F : FnM K CT "set_word" "WordTree.set_word" s_WordTree_set_word) (C : Cst K mg) (T : NotC K CN) (T2 : WTreeC K CT) (D1 : Mth P w K mg base 1 CT "check" ["self", "index"] (spTCheck CT)) (D2 : Mth P w K mg base 5 CN "seal" ["self", "parts"] (spSeal CN tl tp)) :
    Mth P w K mg base 6 CT "set_word" ["self", "index", "word"] (spSetWord CN CT tl tp) := by
  refine Mth.of F sc_WordTree_set_word (fun _ _ _ _ _ _ us hl => match us, hl with | [_, _, _], _ => rfl) (fun vs H Q E h => ?_) (fun f cdv A outer s H vs Q E hr h => ?_)
  · obtain ⟨nt, wt, ws, ls, rt, b, i, v, rfl, _⟩ := h; rfl
  · refine ⟨_, pss_cons (ps_expr (pe_m D1 (pv 0) T2.cl (hr.mono (by decide)) (pa_cons (pv 1) pa_nil)))
      (pss_cons (ps_asg (pv 2) (pg_sub (pe_fld (pv 0) rfl) (pv 1) set_list))
      (pss_cons (ps_asg (pe_m D2 (pe_fld (pv 0) rfl) T.cl hr (pa_cons (pe_tup (pa_cons pe_str (pa_cons (pv 2) pa_nil))) pa_nil)) (pg_sub (pe_ix ix_list (pe_fld (pv 0) rfl) pe_int (fun _ _ => rfl)) (pv 1) set_list))
      (pss_one (ps_for PassesOwn.never rfl (pi_range1 rfl C.range (pa_cons (pe_op op_sub (pe_callB call_len_seq rfl C.len PySem.boot_len (pa_cons (pe_fld (pv 0) rfl) pa_nil)) pe_int) pa_nil)) (pg_name (i := 3) sc_WordTree_set_word.nd rfl (Or.inl rfl))
        (pss_cons (ps_set (i := 1) sc_WordTree_set_word.nd rfl (Or.inl rfl) (pe_op op_fdiv (pv 1) pe_int))
        (pss_cons (ps_set (i := 4) sc_WordTree_set_word.nd rfl (Or.inl rfl) (pe_ix ix_list (pe_ix ix_list (pe_fld (pv 0) rfl) (pv 3) (fun _ _ => rfl)) (pe_op op_mul pe_int (pv 1)) (fun _ _ => rfl)))
        (pss_one (ps_asg (pe_m D2 (pe_fld (pv 0) rfl) T.cl hr (pa_cons (pe_tup (pa_cons pe_str (pa_cons (pv 4) (pa_cons (pe_ix ix_list (pe_ix ix_list (pe_fld (pv 0) rfl) (pv 3) (fun _ _ => rfl)) (pe_op op_add (pe_op op_mul pe_int (pv 1)) pe_int) (fun _ _ => rfl)) pa_nil)))) pa_nil))
          (pg_sub (pe_ix ix_list (pe_fld (pv 0) rfl) (pe_op op_add (pv 3) pe_int) (fun _ _ => rfl)) (pv 1) set_list))))))))), ?_⟩
    obtain ⟨nt, wt, ws, ls, rt, b, i, v, rfl, c, ta, W, tr, lm, hi, hv, hrt, hlim, k⟩ := h
    have hlen : LIM = 16000000 := rfl
    -- the check; the word
    refine ⟨_, rfl, ?_⟩
    obtain ⟨dx, ob⟩ := ta.ob
    obtain ⟨a1, a2, a3, a4, a5, a6⟩ := ta.ap
    refine ⟨wt.t, dx, _, rfl, ob, wfl_no _ _ (by decide +kernel) (by decide +kernel) (by decide +kernel), _, rfl, nt, wt, ws, ls :: rt, i, rfl, ta, hi, ?_⟩
    refine ⟨_, rfl, _, rfl, wt.t, CT, dx, _, _, rfl, ob, T2.cl, T2.words, wfl_words _ _, _, rfl, wt.wl, nats ws, (i : Int), i, rfl, rfl, ta.wl, ixN_nat (by rw [nats_len]; exact hi), ?_⟩
    rw [nats_set]
    -- the heap with the word
    have twl : wt.t ≠ wt.wl := ne_of ob ta.wl (fun z => nomatch z)
    have tb : TreeAt CT nt wt (upd H wt.wl (.lst (nats (ws.set i v)))) (ws.set i v) (ls :: rt) := by
      refine ⟨⟨dx, by rw [upd_ne twl]; exact ob⟩, upd_same, by rw [upd_ne a5]; exact ta.R, RowL.map ta.rl fun r hr xs e => ?_, ta.nd, ta.wn, ta.ap⟩
      rw [upd_ne (fun z => ta.wn (by rw [← z]; exact hr))]
      exact e
    obtain ⟨dxn, zn, en⟩ := c.nt.ob
    have nwl : wt.wl ≠ nt.n ∧ wt.wl ≠ nt.d ∧ wt.wl ≠ nt.l := ⟨ne_of ta.wl en (fun z => nomatch z), ne_of ta.wl c.nt.dc (fun z => nomatch z), a1⟩
    have nb : NotAt CN nt (upd H wt.wl (.lst (nats (ws.set i v)))) b := c.nt.upd nwl
    have kb : KeepW nt (wt.wl :: wt.rs) H (upd H wt.wl (.lst (nats (ws.set i v)))) := (KeepW.refl _ _ _).upd List.mem_cons_self
    generalize upd H wt.wl (.lst (nats (ws.set i v))) = Hb at tb nb kb
    have cb := c.keepT ta kb nb
    obtain ⟨dxb, obb⟩ := tb.ob
    obtain ⟨dxn2, zn2, en2⟩ := nb.ob
    refine ⟨_, rfl, wt.t, CT, dxb, _, _, rfl, obb, T2.cl, T2.notary, wfl_notary _ _, nt.n, dxn2, _, rfl, en2, nfl_no _ _ (by decide +kernel) (by decide +kernel) (by decide +kernel), _, rfl, by show 2 ≤ sizeLine; decide, fun tq htq => ?_⟩
    have s1 := same_new (o := .tup [V.str "word", V.int (v : Int)]) htq
    refine ⟨nt, tq, wordP v, b, rfl, cb.same s1, upd_same, wordOk hv, by omega, fun H3 kp3 nt3 => ?_⟩
    have tc := (tb.keep nb (.of_same s1)).keep (nb.same s1) kp3
    have kc : KeepW nt (wt.wl :: wt.rs) H H3 := (kb.trans (Keep.w (.of_same s1))).trans (Keep.w kp3)
    obtain ⟨dx3, ob3⟩ := tc.ob
    obtain ⟨a0, h0, e0⟩ := tc.rl.row (i := 0) (xs := ls) rfl
    have ha0 : a0 ∈ wt.rs := List.mem_of_getElem? h0
    have hil : i < ls.length := by rw [W.len]; exact hi
    refine ⟨_, rfl, wt.t, CT, dx3, _, _, rfl, ob3, T2.cl, T2.rows, wfl_rows _ _, wt.R, _, 0, V.ref a0, rfl, rfl, SqL.of tc.R, atI_nat (j := 0) (by rw [List.getElem?_map, h0]; rfl), ?_⟩
    refine ⟨_, rfl, a0, nats ls, (i : Int), i, rfl, rfl, e0, ixN_nat (by rw [nats_len]; exact hil), ?_⟩
    rw [nats_set]
    have hz0 := addB_find b (wordP v)
    have hzl : findB (addB b (wordP v)) (wordP v) ≤ LIM := findB_lim (by have := addB_len b (wordP v); omega)
    have I0 : SetAt CN CT nt wt H (ws.set i v) b (ls.set i (findB (addB b (wordP v)) (wordP v))) rt.length 0 (upd H3 a0 (.lst (nats (ls.set i (findB (addB b (wordP v)) (wordP v)))))) (addB b (wordP v)) [] (ls.set i (findB (addB b (wordP v)) (wordP v))) ls rt i (findB (addB b (wordP v)) (wordP v)) := by
      refine ⟨tc.store h0, ⟨trivial, tr.ext (ext_add _ _), rfl, hil⟩, rfl, rfl, rfl, fun r hr x hx => ?_, kc.upd (List.mem_cons_of_mem _ ha0), nt3.upd (tc.nrow nt3 ha0), ext_add _ _, addB_len _ _⟩
      rcases List.mem_cons.mp hr with e | e
      · rw [e] at hx
        exact mem_set_lim (lm ls List.mem_cons_self) hzl x hx
      · exact lm r (List.mem_cons_of_mem _ e) x hx
    have W' : WLv (addB b (wordP v)) (ws.set i v) (ls.set i (findB (addB b (wordP v)) (wordP v))) := (W.ext (ext_add _ _)).set i v hz0
    generalize ls.set i (findB (addB b (wordP v)) (wordP v)) = ls' at I0 W'
    generalize findB (addB b (wordP v)) (wordP v) = z0 at I0
    generalize upd H3 a0 (.lst (nats ls')) = H4 at I0
    -- the loop
    obtain ⟨dx4, ob4⟩ := I0.ta.ob
    have erl : wt.rs.length = rt.length + 1 := by rw [I0.ta.rl.len]; rfl
    refine ⟨_, rfl, wt.t, CT, dx4, _, _, rfl, ob4, T2.cl, T2.rows, wfl_rows _ _, wt.R, wt.rs.map V.ref, rfl, .inl (SqL.of I0.ta.R), _, _, rfl, rfl, (rt.length : Int), ?_, by omega, by omega, ?_⟩
    · rw [List.length_map, erl]
      show [V.int (((rt.length + 1 : Nat) : Int) - 1)] = _
      have e : ((rt.length + 1 : Nat) : Int) - 1 = (rt.length : Int) := by omega
      rw [e]
    refine for_range (lo := 0) (n := (rt.length : Int).toNat) (fun j σ H2 => ∃ (b2 : Book) (front : List (List Nat)) (cur cur0 : List Nat) (rest : List (List Nat)) (idx z : Nat) (v3 v4 : Option V), σ = [some (.ref wt.t), some (.int (idx : Int)), some (.int (v : Int)), v3, v4] ∧
      Ext (addB b (wordP v)) b2 ∧ SetAt CN CT nt wt H (ws.set i v) b ls' rt.length j H2 b2 front cur cur0 rest idx z) ⟨_, _, _, _, _, _, _, none, none, rfl, .refl _, I0⟩ ?_ ?_
    · rintro j σ H2 hj ⟨b2, front, cur, cur0, rest, idx, z, v3, v4, rfl, eb, I⟩
      rw [Int.toNat_natCast] at hj
      have hrl := I.rl
      cases rest with
      | nil => simp at hrl; omega
      | cons s0 rest =>
        have hlv := I.S.tr.1.len
        have hidx := I.S.idx
        have hcl : cur.length = cur0.length := by rw [I.S.cur, List.length_set]
        have hx1 : 2 * (idx / 2) < cur.length := by omega
        have hx2 : 2 * (idx / 2) + 1 < cur.length := by omega
        have lx : cur[2 * (idx / 2)]? = some cur[2 * (idx / 2)] := List.getElem?_eq_getElem hx1
        have ly : cur[2 * (idx / 2) + 1]? = some cur[2 * (idx / 2) + 1] := List.getElem?_eq_getElem hx2
        have mem : cur ∈ front ++ cur :: s0 :: rest := List.mem_append_right _ List.mem_cons_self
        obtain ⟨dx2, ob2⟩ := I.ta.ob
        obtain ⟨ac, hc, ec⟩ := I.ta.rl.row (mid_at front cur (s0 :: rest))
        rw [I.fl] at hc
        have eac : (wt.rs.map V.ref)[j]? = some (V.ref ac) := by rw [List.getElem?_map, hc]; rfl
        refine ⟨_, rfl, _, _, rfl, rfl, ⟨by decide, by decide⟩, ?_⟩
        have ei : ((idx : Int) / 2) = ((idx / 2 : Nat) : Int) := by omega
        refine ⟨_, rfl, wt.t, CT, dx2, _, _, rfl, ob2, T2.cl, T2.rows, wfl_rows _ _, _, rfl, wt.R, _, _, V.ref ac, rfl, rfl, SqL.of I.ta.R, at_of (j := j) (by omega) eac, ?_⟩
        refine ⟨_, rfl, _, _, rfl, rfl, .inl ⟨by decide, by decide⟩, ac, _, _, V.int (cur[2 * (idx / 2)] : Int), rfl, rfl, SqL.of ec, at_of (j := 2 * (idx / 2)) (by omega) (nats_at lx), ?_⟩
        obtain ⟨dxn3, zn3, en3⟩ := I.nt.ob
        refine ⟨_, rfl, wt.t, CT, dx2, _, _, rfl, ob2, T2.cl, T2.notary, wfl_notary _ _, nt.n, dxn3, _, rfl, en3, nfl_no _ _ (by decide +kernel) (by decide +kernel) (by decide +kernel), _, rfl, ?_⟩
        refine ⟨_, rfl, wt.t, CT, dx2, _, _, rfl, ob2, T2.cl, T2.rows, wfl_rows _ _, _, rfl, wt.R, _, _, V.ref ac, rfl, rfl, SqL.of I.ta.R, at_of (j := j) (by omega) eac, ?_⟩
        refine ⟨_, rfl, _, _, rfl, rfl, .inl ⟨by decide, by decide⟩, _, _, rfl, rfl, ac, _, _, V.int (cur[2 * (idx / 2) + 1] : Int), rfl, rfl, SqL.of ec, at_of (j := 2 * (idx / 2) + 1) (by omega) (nats_at ly), ?_⟩
        refine ⟨by show 3 ≤ sizeLine; decide, fun tq htq => ?_⟩
        have s2 := same_new (o := .tup [V.str "pair", V.int (cur[2 * (idx / 2)] : Int), V.int (cur[2 * (idx / 2) + 1] : Int)]) htq
        have c2 := c.keepT ta I.kp I.nt
        have le2 := I.le
        refine ⟨nt, tq, pairP cur[2 * (idx / 2)] cur[2 * (idx / 2) + 1], b2, rfl, c2.same s2, upd_same, pairOk (I.lim _ mem _ (List.getElem_mem _)) (I.lim _ mem _ (List.getElem_mem _)), by omega, fun H5 kp5 nt5 => ?_⟩
        have t5 := (I.ta.keep I.nt (.of_same s2)).keep (I.nt.same s2) kp5
        have k5 : KeepW nt (wt.wl :: wt.rs) H H5 := (I.kp.trans (Keep.w (.of_same s2))).trans (Keep.w kp5)
        obtain ⟨dx5, ob5⟩ := t5.ob
        obtain ⟨as, hs, es⟩ := t5.rl.row (mid_at1 front cur s0 rest)
        have has : as ∈ wt.rs := List.mem_of_getElem? hs
        have eas : (wt.rs.map V.ref)[j + 1]? = some (V.ref as) := by rw [I.fl] at hs; rw [List.getElem?_map, hs]; rfl
        refine ⟨_, rfl, wt.t, CT, dx5, _, _, rfl, ob5, T2.cl, T2.rows, wfl_rows _ _, _, rfl, _, _, rfl, rfl, wt.R, _, _, V.ref as, rfl, rfl, SqL.of t5.R, at_of (j := j + 1) (by omega) eas, ?_⟩
        refine ⟨_, rfl, as, nats s0, ((idx : Int) / 2), idx / 2, rfl, rfl, es, by rw [ei]; exact ixN_nat (by rw [nats_len]; omega), ?_⟩
        rw [nats_set]
        have hzl2 : findB (addB b2 (pairP cur[2 * (idx / 2)] cur[2 * (idx / 2) + 1])) (pairP cur[2 * (idx / 2)] cur[2 * (idx / 2) + 1]) ≤ LIM := findB_lim (by have := addB_len b2 (pairP cur[2 * (idx / 2)] cur[2 * (idx / 2) + 1]); omega)
        have nx := I.S.next (ext_add b2 _) lx ly (addB_find b2 _)
        refine ⟨addB b2 (pairP cur[2 * (idx / 2)] cur[2 * (idx / 2) + 1]), front ++ [cur], _, s0, rest, idx / 2, _, _, _, by rw [← ei]; rfl, eb.trans (ext_add _ _), ?_, nx, by rw [List.length_append, I.fl]; rfl, by simp at hrl; omega, ?_, ?_, k5.upd (List.mem_cons_of_mem _ has), nt5.upd (t5.nrow nt5 has), I.ext.trans (ext_add _ _), by have := addB_len b2 (pairP cur[2 * (idx / 2)] cur[2 * (idx / 2) + 1]); omega⟩
        · have st := t5.store (xs := s0.set (idx / 2) (findB (addB b2 (pairP cur[2 * (idx / 2)] cur[2 * (idx / 2) + 1])) (pairP cur[2 * (idx / 2)] cur[2 * (idx / 2) + 1]))) hs
          rw [set_mid] at st
          rw [List.append_assoc]
          exact st
        · have hh := I.hd
          cases hf : front with
          | nil => rw [hf] at hh; exact hh
          | cons x t => rw [hf] at hh; exact hh
        · intro r hr x hx
          rw [List.append_assoc] at hr
          rcases List.mem_append.mp hr with e | e
          · exact I.lim r (List.mem_append_left _ e) x hx
          · rcases List.mem_cons.mp e with e | e
            · rw [e] at hx; exact I.lim cur mem x hx
            · rcases List.mem_cons.mp e with e | e
              · rw [e] at hx
                exact mem_set_lim (I.lim s0 (by simp)) hzl2 x hx
              · exact I.lim r (by simp [e]) x hx
    · rintro σ H2 ⟨b2, front, cur, cur0, rest, idx, z, v3, v4, rfl, eb, I⟩
      have hrl := I.rl
      rw [Int.toNat_natCast] at hrl
      have hre : rest = [] := List.eq_nil_of_length_eq_zero (by omega)
      subst hre
      have h1 : cur.length = 1 := by
        rw [I.S.cur, List.length_set]
        exact I.S.tr
      have tr2 := ChainB.tree h1 I.S.ch
      obtain ⟨t, et⟩ : ∃ t, front ++ [cur] = ls' :: t := by
        have z := I.hd
        cases q : front ++ [cur] with
        | nil => rw [q] at z; cases z
        | cons x t => rw [q] at z; cases z; exact ⟨t, rfl⟩
      have lm2 := I.lim
      have ta2 := I.ta
      rw [et] at tr2 lm2 ta2
      have le2 := I.le
      have fl := I.fl
      rw [Int.toNat_natCast] at fl
      refine k H2 b2 ls' t ta2 ?_ (W'.ext eb) tr2 lm2 I.kp I.nt I.ext (by rw [Int.toNat_natCast] at le2; omega)
      have z := congrArg List.length et
      rw [List.length_append, fl] at z
      simp at z
      omega
end
end K24
set_option Elab.async false
set_option autoImplicit false
set_option linter.all false
set_option maxRecDepth 100000
set_option maxHeartbeats 4000000
namespace K24
open PySem PySem.Spec PyProof.Rows L2

/-! ### tuples of numbers and texts: values, equality -/
def natK (xs : List Nat) : Parts := xs.map fun n : Nat => Sum.inl (n : Int)
theorem natK_map (xs : List Nat) : (natK xs).map kV = nats xs := by
  unfold natK nats
  rw [List.map_map]
  rfl
theorem natK_inj {xs ys : List Nat} (h : natK xs = natK ys) : xs = ys := by
  unfold natK at h
  exact List.map_inj_right (f := fun n : Nat => (Sum.inl (n : Int) : Key)) (fun a b e => by injection e with e; omega) |>.mp h
theorem natK_ok {xs : List Nat} (h : ∀ x ∈ xs, x ≤ 281474976710656) : ∀ k ∈ natK xs, okKey k := fun k hk => by
  obtain ⟨x, hx, rfl⟩ := List.mem_map.mp hk
  have := h x hx
  exact ⟨by omega, by omega⟩
def dpK : Key → PyData
  | .inl i => .int i
  | .inr s => .str s
section
variable {K : PySem.W.Frag} {H : Hp} {Q : VK}
theorem Dp.keys : ∀ ks : Parts, DpAll K H (ks.map kV) (ks.map dpK)
  | [] => .nil
  | .inl i :: t => .cons (.int i) (Dp.keys t)
  | .inr s :: t => .cons (.str s) (Dp.keys t)
/-- a text of code points -/
def strK : Key → Prop
  | .inl _ => True
  | .inr s => PyData.strOk s = true
theorem can_keys : ∀ ks : Parts, (∀ k ∈ ks, strK k) → PyData.canLayAll0 (ks.map dpK) = true
  | [], _ => by simp [PyData.canLayAll0]
  | .inl i :: t, h => by
    have := can_keys t fun k hk => h k (List.mem_cons_of_mem _ hk)
    simp [PyData.canLayAll0, dpK, PyData.canLay0, this]
  | .inr s :: t, h => by
    have := can_keys t fun k hk => h k (List.mem_cons_of_mem _ hk)
    have h1 : PyData.strOk s = true := h (.inr s) List.mem_cons_self
    simp [PyData.canLayAll0, dpK, PyData.canLay0, this, h1]
theorem natK_str (xs : List Nat) : ∀ k ∈ natK xs, strK k := fun k hk => by
  obtain ⟨x, hx, rfl⟩ := List.mem_map.mp hk
  exact trivial
theorem nilK_str : ∀ k ∈ ([] : Parts), strK k := fun k hk => by cases hk
theorem dep_keys : ∀ ks : Parts, PyData.depthAll (ks.map dpK) = 0
  | [] => rfl
  | .inl i :: t => by
    show max 0 (PyData.depthAll (t.map dpK)) = 0
    rw [dep_keys t]
    rfl
  | .inr s :: t => by
    show max 0 (PyData.depthAll (t.map dpK)) = 0
    rw [dep_keys t]
    rfl
theorem sh_keys (ks : Parts) (hs : ∀ k ∈ ks, strK k) : SeqAt.shaped (.tuple (ks.map dpK)) = true := by
  unfold SeqAt.shaped
  rw [Bool.and_eq_true]
  refine ⟨by simp [PyData.canLay0, can_keys ks hs], decide_eq_true ?_⟩
  show PyData.depthAll (ks.map dpK) + 1 ≤ 64
  rw [dep_keys]
  decide
theorem eqv_key : ∀ k l : Key, PyData.eqv (dpK k) (dpK l) = decide (k = l)
  | .inl i, .inl j => by
    simp [dpK, PyData.eqv, Bool.beq_eq_decide_eq]
  | .inl i, .inr j => by simp [dpK, PyData.eqv]
  | .inr i, .inl j => by simp [dpK, PyData.eqv]
  | .inr i, .inr j => by simp [dpK, PyData.eqv, Bool.beq_eq_decide_eq]
theorem eqv_keys : ∀ xs ys : Parts, PyData.eqvAll (xs.map dpK) (ys.map dpK) = decide (xs = ys)
  | [], [] => by simp [PyData.eqvAll]
  | [], _ :: _ => by simp [PyData.eqvAll]
  | _ :: _, [] => by simp [PyData.eqvAll]
  | x :: xs, y :: ys => by
    rw [List.map_cons, List.map_cons]
    simp only [PyData.eqvAll]
    rw [eqv_keys xs ys, eqv_key x y]
    rw [Bool.eq_iff_iff]
    simp
theorem eqv_tup (xs ys : Parts) : PyData.eqv (.tuple (xs.map dpK)) (.tuple (ys.map dpK)) = decide (xs = ys) := by
  simp only [PyData.eqv]
  exact eqv_keys xs ys
theorem eqK {a b : Addr} {xs ys : Parts} (hx : ∀ k ∈ xs, strK k) (hy : ∀ k ∈ ys, strK k) (ha : H a = some (.tup (xs.map kV))) (hb : H b = some (.tup (ys.map kV))) (q : Q (.bl (decide (xs = ys))) H) : rEqD K (.ref a) (.ref b) H Q :=
  ⟨_, _, .tup (SqT.of ha) (Dp.keys xs), .tup (SqT.of hb) (Dp.keys ys), sh_keys xs hx, sh_keys ys hy, by rw [eqv_tup]; exact q⟩
theorem neK {a b : Addr} {xs ys : Parts} (hx : ∀ k ∈ xs, strK k) (hy : ∀ k ∈ ys, strK k) (ha : H a = some (.tup (xs.map kV))) (hb : H b = some (.tup (ys.map kV))) (q : Q (.bl (!decide (xs = ys))) H) : rNeD K (.ref a) (.ref b) H Q :=
  ⟨_, _, .tup (SqT.of ha) (Dp.keys xs), .tup (SqT.of hb) (Dp.keys ys), sh_keys xs hx, sh_keys ys hy, by rw [eqv_tup]; exact q⟩
end
theorem inV_strs (n : Str) : ∀ l : List Str, inV (.str n) (l.map V.str) = decide (n ∈ l)
  | [] => by simp [inV]
  | a :: l => by
    have ih := inV_strs n l
    unfold inV at ih ⊢
    rw [List.map_cons, List.any_cons, ih]
    have e : eqV (V.str a) (V.str n) = decide (a = n) := by
      show (a == n) = _
      rw [Bool.beq_eq_decide_eq]
    rw [e, Bool.eq_iff_iff, Bool.or_eq_true, decide_eq_true_iff, decide_eq_true_iff, decide_eq_true_iff, List.mem_cons]
    constructor
    · rintro (h | h)
      · exact .inl h.symm
      · exact .inr h
    · rintro (h | h)
      · exact .inl h.symm
      · exact .inr h
theorem flat_strs (l : List Str) : (l.map V.str).all flatV = true := by
  rw [List.all_map]
  exact List.all_eq_true.mpr fun _ _ => rfl
section
variable {X : Cx} {x : Str} {p : Pos} {a : Addr}
/-- an object of the module -/
theorem pe_gr (h : X.mg x = some (.ref a)) (hg : Gl X x) (hdb : (x == ("__debug__" : Str)) = false := by decide) : PE X (.Name x p) (tC (.ref a)) := pe_glob hg h rfl hdb
end

/-! ### instructions -/
structure Ins where
  nm : Str
  ar : List Nat
  deriving DecidableEq
def insK (c : Ins) : Parts := .inr c.nm :: natK c.ar
def codeK : Option Ins → Parts
  | none => []
  | some c => insK c
theorem insK_inj {c d : Ins} (h : insK c = insK d) : c = d := by
  unfold insK at h
  injection h with h1 h2
  injection h1 with h1
  have h2 := natK_inj h2
  cases c
  cases d
  simp only at h1 h2
  rw [h1, h2]
theorem codeK_inj : ∀ {c d : Option Ins}, codeK c = codeK d → c = d
  | none, none, _ => rfl
  | none, some d, h => nomatch h
  | some c, none, h => nomatch h
  | some c, some d, h => by rw [insK_inj h]
def kindsOf (n : Str) : List Str :=
  if n ∈ threeL then ["register", "register", "register"] else if n ∈ twoL then ["register", "register"] else if n ∈ oneL then ["register"] else
  if n = "set" then ["register", "word"] else if n = "jump" then ["place"] else if n = "zero" then ["register", "place"] else []
def okOp (k : Str) (v : Nat) : Prop := if k = "register" then v ≤ 3 else if k = "word" then v ≤ 4294967295 else v ≤ 64
structure OkIns (c : Ins) : Prop where
  nm : c.nm ∈ namesL
  len : c.ar.length = (kindsOf c.nm).length
  op : ∀ (i : Nat) k v, (kindsOf c.nm)[i]? = some k → c.ar[i]? = some v → okOp k v
theorem okReg {v : Nat} : okOp "register" v ↔ v ≤ 3 := by unfold okOp; rw [if_pos rfl]
theorem okWord {v : Nat} : okOp "word" v ↔ v ≤ 4294967295 := by unfold okOp; rw [if_neg (by decide +kernel), if_pos rfl]
theorem okPlace {v : Nat} : okOp "place" v ↔ v ≤ 64 := by unfold okOp; rw [if_neg (by decide +kernel), if_neg (by decide +kernel)]
theorem len1 {xs : List Nat} (h : xs.length = 1) : ∃ r, xs = [r] := by
  match xs, h with
  | [r], _ => exact ⟨r, rfl⟩
theorem len2 {xs : List Nat} (h : xs.length = 2) : ∃ r s, xs = [r, s] := by
  match xs, h with
  | [r, s], _ => exact ⟨r, s, rfl⟩
theorem len3 {xs : List Nat} (h : xs.length = 3) : ∃ r s t, xs = [r, s, t] := by
  match xs, h with
  | [r, s, t], _ => exact ⟨r, s, t, rfl⟩
def k3 : List Str := ["register", "register", "register"]
def k2 : List Str := ["register", "register"]
def k1 : List Str := ["register"]
def kSet : List Str := ["register", "word"]
def kJump : List Str := ["place"]
def kZero : List Str := ["register", "place"]
theorem kinds3 {n : Str} (h : n ∈ threeL) : kindsOf n = k3 := by unfold kindsOf; rw [if_pos h]; rfl
theorem kinds2 {n : Str} (h : n ∈ twoL) : kindsOf n = k2 := by
  have z : ∀ n ∈ twoL, n ∉ threeL := by decide +kernel
  unfold kindsOf
  rw [if_neg (z n h), if_pos h]; rfl
theorem kinds1 {n : Str} (h : n ∈ oneL) : kindsOf n = k1 := by
  have z : ∀ n ∈ oneL, n ∉ threeL ∧ n ∉ twoL := by decide +kernel
  unfold kindsOf
  rw [if_neg (z n h).1, if_neg (z n h).2, if_pos h]; rfl
theorem OkIns.three {c : Ins} (h : OkIns c) (n : c.nm ∈ threeL) : ∃ r s t, c.ar = [r, s, t] ∧ r ≤ 3 ∧ s ≤ 3 ∧ t ≤ 3 := by
  have l := h.len
  have o := h.op
  rw [kinds3 n] at l o
  obtain ⟨r, s, t, e⟩ := len3 l
  rw [e] at o
  exact ⟨r, s, t, e, okReg.mp (o 0 _ _ rfl rfl), okReg.mp (o 1 _ _ rfl rfl), okReg.mp (o 2 _ _ rfl rfl)⟩
theorem OkIns.two {c : Ins} (h : OkIns c) (n : c.nm ∈ twoL) : ∃ r s, c.ar = [r, s] ∧ r ≤ 3 ∧ s ≤ 3 := by
  have l := h.len
  have o := h.op
  rw [kinds2 n] at l o
  obtain ⟨r, s, e⟩ := len2 l
  rw [e] at o
  exact ⟨r, s, e, okReg.mp (o 0 _ _ rfl rfl), okReg.mp (o 1 _ _ rfl rfl)⟩
theorem OkIns.one {c : Ins} (h : OkIns c) (n : c.nm ∈ oneL) : ∃ r, c.ar = [r] ∧ r ≤ 3 := by
  have l := h.len
  have o := h.op
  rw [kinds1 n] at l o
  obtain ⟨r, e⟩ := len1 l
  rw [e] at o
  exact ⟨r, e, okReg.mp (o 0 _ _ rfl rfl)⟩
theorem OkIns.set {c : Ins} (h : OkIns c) (n : c.nm = "set") : ∃ r s, c.ar = [r, s] ∧ r ≤ 3 ∧ s ≤ 4294967295 := by
  have l := h.len
  have o := h.op
  rw [n, show kindsOf "set" = kSet by decide +kernel] at l o
  obtain ⟨r, s, e⟩ := len2 l
  rw [e] at o
  exact ⟨r, s, e, okReg.mp (o 0 _ _ rfl rfl), okWord.mp (o 1 _ _ rfl rfl)⟩
theorem OkIns.jump {c : Ins} (h : OkIns c) (n : c.nm = "jump") : ∃ r, c.ar = [r] ∧ r ≤ 64 := by
  have l := h.len
  have o := h.op
  rw [n, show kindsOf "jump" = kJump by decide +kernel] at l o
  obtain ⟨r, e⟩ := len1 l
  rw [e] at o
  exact ⟨r, e, okPlace.mp (o 0 _ _ rfl rfl)⟩
theorem OkIns.zero {c : Ins} (h : OkIns c) (n : c.nm = "zero") : ∃ r s, c.ar = [r, s] ∧ r ≤ 3 ∧ s ≤ 64 := by
  have l := h.len
  have o := h.op
  rw [n, show kindsOf "zero" = kZero by decide +kernel] at l o
  obtain ⟨r, s, e⟩ := len2 l
  rw [e] at o
  exact ⟨r, s, e, okReg.mp (o 0 _ _ rfl rfl), okPlace.mp (o 1 _ _ rfl rfl)⟩
theorem okOp_le {k : Str} {v : Nat} (h : okOp k v) : v ≤ 4294967295 := by
  unfold okOp at h
  split at h
  · omega
  · split at h <;> omega
theorem OkIns.small {c : Ins} (h : OkIns c) : c.ar.length ≤ 3 ∧ ∀ x ∈ c.ar, x ≤ 4294967295 := by
  refine ⟨?_, fun x hx => ?_⟩
  · rw [h.len]
    unfold kindsOf
    split
    · decide
    split
    · decide
    split
    · decide
    split
    · decide
    split
    · decide
    split <;> decide
  · obtain ⟨i, hi, rfl⟩ := List.getElem_of_mem hx
    have hi2 : i < (kindsOf c.nm).length := by rw [← h.len]; exact hi
    exact okOp_le (h.op i _ _ (List.getElem?_eq_getElem hi2) (List.getElem?_eq_getElem hi))
theorem names_ok {n : Str} (h : n ∈ namesL) : okText n := by
  have z : ∀ n ∈ namesL, n.length ≤ 24 ∧ n.cps.toList.all okChar = true := by decide +kernel
  exact z n h
theorem codeK_str {c : Option Ins} (h : ∀ i, c = some i → OkIns i) : ∀ k ∈ codeK c, strK k := fun k hk => by
  cases c with
  | none => cases hk
  | some c =>
    rcases List.mem_cons.mp hk with e | e
    · rw [e]
      have z : ∀ n ∈ namesL, PyData.strOk n = true := by decide +kernel
      exact z _ (h c rfl).nm
    · exact natK_str _ k e
/-- the sealed tuple of a program's place -/
def codeP (c : Option Ins) : Parts := .inr "code" :: codeK c
theorem codeP_inj {c d : Option Ins} (h : codeP c = codeP d) : c = d := by
  unfold codeP at h
  injection h with _ h
  exact codeK_inj h
theorem codeOk {c : Option Ins} (h : ∀ i, c = some i → OkIns i) : PartsOk (codeP c) := by
  have o : okText ("code" : Str) := ⟨by decide +kernel, by decide +kernel⟩
  cases c with
  | none =>
    refine ⟨by decide, by decide, fun k hk => ?_⟩
    rw [List.mem_singleton.mp hk]
    exact o
  | some c =>
    have hc := h c rfl
    obtain ⟨h1, h2⟩ := hc.small
    have hl : (codeP (some c)).length = c.ar.length + 2 := by
      show (natK c.ar).length + 1 + 1 = _
      unfold natK
      rw [List.length_map]
    refine ⟨by omega, by omega, fun k hk => ?_⟩
    rcases List.mem_cons.mp hk with e | hk
    · rw [e]; exact o
    · rcases List.mem_cons.mp hk with e | hk
      · rw [e]; exact names_ok hc.nm
      · exact natK_ok (fun x hx => by have := h2 x hx; omega) k hk
end K24
set_option Elab.async false
set_option autoImplicit false
set_option linter.all false
set_option maxRecDepth 100000
set_option maxHeartbeats 4000000
namespace K24
open PySem PySem.Spec PyProof.Rows L2

/-- all is true, while new objects may come -/
theorem allbS {g : TG} {te : TE} {vs : List Nat} {σ : L2.St} {H1 : Hp} {Q : VK} {J : It} {n : Nat} (hgo : ∀ i H, i < n → Same H1 H → J.go i H) (hst : ∀ H, Same H1 H → J.stop n H)
    (hs : ∀ i H x H' (R : VK), i < n → Same H1 H → J.yld i H x H' → (∀ H4, Same H H4 → R (.bl true) H4) → g x (wipe σ vs) H' fun σ2 H2 => wipe σ2 vs = wipe σ vs ∧ te σ2 H2 R) (q : ∀ H, Same H1 H → Q (.bl true) H) :
    AllW J g te vs σ H1 Q := by
  refine ⟨fun i m H => m = n - i ∧ i ≤ n ∧ Same H1 H, ⟨n, by simp, Nat.zero_le _, Same.refl _⟩, ?_⟩
  rintro i m H ⟨rfl, hi, s⟩
  by_cases hlt : i < n
  · refine .inr ⟨hgo i H hlt s, fun H' => Same H1 H', fun H' e => ⟨n - (i + 1), by omega, rfl, hlt, e⟩, fun x H' y => hs i H x H' _ hlt s y fun H4 s4 => ⟨true, rfl, iteT (s.trans s4)⟩⟩
  · have e : i = n := by omega
    subst e
    exact .inl ⟨hst H s, q H s⟩
/-- what a heap's tuples (and tables) were they stay -/
def TK (H H' : Hp) : Prop := ∀ a o, H a = some o → ((∃ xs, o = .tup xs) ∨ ∃ P, o = .ext (TabF P)) → H' a = some o
theorem TK.refl (H : Hp) : TK H H := fun _ _ e _ => e
theorem TK.trans {H H1 H2 : Hp} (a : TK H H1) (b : TK H1 H2) : TK H H2 := fun x o e h => b x o (a x o e h) h
theorem Same.tk {H H' : Hp} (s : Same H H') : TK H H' := fun x o e _ => s x o e
theorem Keep.tk {CN : Addr} {nt : Nt} {H H' : Hp} {b : Book} (k : Keep nt H H') (N : NotAt CN nt H b) : TK H H' := fun x o e h => by
  obtain ⟨h1, h2, h3⟩ := N.ne e (fun _ _ _ z => by rcases h with ⟨xs, h⟩ | ⟨P, h⟩ <;> rw [h] at z <;> exact nomatch z) (fun _ z => by rcases h with ⟨xs, h⟩ | ⟨P, h⟩ <;> rw [h] at z <;> exact nomatch z) (fun _ z => by rcases h with ⟨xs, h⟩ | ⟨P, h⟩ <;> rw [h] at z <;> exact nomatch z)
  exact k x o e h1 h2 h3
theorem TK.tup {H H' : Hp} (k : TK H H') {a : Addr} {xs : List V} (h : H a = some (.tup xs)) : H' a = some (.tup xs) := k a _ h (.inl ⟨_, rfl⟩)
theorem TK.tab {H H' : Hp} (k : TK H H') {a : Addr} (h : HTab H a) : HTab H' a := k a _ h (.inr ⟨_, rfl⟩)
/-- the instruction (or none) at a; the program at a; the words at a -/
def CodeAt (H : Hp) (a : Addr) (c : Option Ins) : Prop := H a = some (.tup ((codeK c).map kV))
def PrAt (H : Hp) (a : Addr) (p : List Ins) : Prop := ∃ as, H a = some (.tup (as.map V.ref)) ∧ Paired (fun x c => CodeAt H x (some c)) as p
def WdAt (H : Hp) (a : Addr) (ws : List Nat) : Prop := H a = some (.tup (nats ws))
theorem paired_map {α β : Type} {R R' : α → β → Prop} (h : ∀ a b, R a b → R' a b) : ∀ {xs : List α} {ys : List β}, Paired R xs ys → Paired R' xs ys
  | _, _, .nil => .nil
  | _, _, .cons e t => .cons (h _ _ e) (paired_map h t)
theorem paired_get {α β : Type} {R : α → β → Prop} : ∀ {xs : List α} {ys : List β} {i : Nat} {y : β}, Paired R xs ys → ys[i]? = some y → ∃ x, xs[i]? = some x ∧ R x y
  | _, _, _, _, .nil, e => by simp at e
  | _, _, 0, _, .cons e t, h => by
    simp at h
    subst h
    exact ⟨_, rfl, e⟩
  | _, _, i + 1, _, .cons e t, h => by
    obtain ⟨x, h1, h2⟩ := paired_get (i := i) t (by simpa using h)
    exact ⟨x, by simpa using h1, h2⟩
theorem PrAt.tk {H H' : Hp} (k : TK H H') {a : Addr} {p : List Ins} (h : PrAt H a p) : PrAt H' a p := by
  obtain ⟨as, h1, h2⟩ := h
  exact ⟨as, k.tup h1, paired_map (fun _ _ e => k.tup e) h2⟩
theorem PrAt.len {H : Hp} {a : Addr} {p : List Ins} (h : PrAt H a p) : ∃ as : List V, H a = some (.tup as) ∧ as.length = p.length := by
  obtain ⟨as, h1, h2⟩ := h
  exact ⟨_, h1, by rw [List.length_map]; exact Paired.length h2⟩
theorem PrAt.get {H : Hp} {a : Addr} {p : List Ins} (h : PrAt H a p) {i : Nat} {c : Ins} (e : p[i]? = some c) : ∃ (as : List V) (x : Addr), H a = some (.tup as) ∧ as[i]? = some (.ref x) ∧ CodeAt H x (some c) := by
  obtain ⟨as, h1, h2⟩ := h
  obtain ⟨x, q1, q2⟩ := paired_get h2 e
  exact ⟨_, x, h1, by rw [List.getElem?_map, q1]; rfl, q2⟩
section
variable {P : Program} {w : World} {K : PySem.W.Frag} {mg : Str → Option Value} {base : Heap}
def spUpTo (n : Nat) : Sp := fun vs H Q _ => ∃ v : Nat, vs = [.int (v : Int)] ∧ v ≤ n ∧ Q (.bl true) H
theorem sc_is_register : FnScope ["value"] ["value"] (defScope s_is_register) := ⟨rfl, rfl, rfl, by decide +kernel, rfl, by decide +kernel, by decide +kernel⟩
theorem ok_is_register (F : FnF K mg "is_register" "is_register" s_is_register) (D : Def P w K mg base 1 "is_number" ["value", "least", "most"] spNumber) : Def P w K mg base 2 "is_register" ["value"] (spUpTo 3) := by
  refine Def.of F sc_is_register (fun _ _ _ _ _ _ us hl => match us, hl with | [_], _ => rfl) (fun vs H Q E h => ?_) (fun f cdv A outer s H vs Q E hr h => ?_)
  · obtain ⟨v, rfl, _⟩ := h; rfl
  · refine ⟨_, pss_one (ps_ret (pe_d D hr rfl (pa_cons (pv 0) (pa_cons pe_int (pa_cons pe_int pa_nil))))), ?_⟩
    obtain ⟨v, rfl, hv, q⟩ := h
    exact ⟨_, rfl, _, _, .inl ⟨v, rfl, by rw [decide_eq_true (by omega)]; exact q⟩⟩
theorem sc_is_place : FnScope ["value"] ["value"] (defScope s_is_place) := ⟨rfl, rfl, rfl, by decide +kernel, rfl, by decide +kernel, by decide +kernel⟩
theorem ok_is_place (F : FnF K mg "is_place" "is_place" s_is_place) (C : Cst K mg) (D : Def P w K mg base 1 "is_number" ["value", "least", "most"] spNumber) : Def P w K mg base 2 "is_place" ["value"] (spUpTo 64) := by
  refine Def.of F sc_is_place (fun _ _ _ _ _ _ us hl => match us, hl with | [_], _ => rfl) (fun vs H Q E h => ?_) (fun f cdv A outer s H vs Q E hr h => ?_)
  · obtain ⟨v, rfl, _⟩ := h; rfl
  · refine ⟨_, pss_one (ps_ret (pe_d D hr rfl (pa_cons (pv 0) (pa_cons pe_int (pa_cons (pe_gi C.nMAX_PROGRAM rfl) pa_nil))))), ?_⟩
    obtain ⟨v, rfl, hv, q⟩ := h
    exact ⟨_, rfl, _, _, .inl ⟨v, rfl, by rw [decide_eq_true (by omega)]; exact q⟩⟩
/-! ### operand_kinds -/
def spKinds : Sp := fun vs H Q _ => ∃ n : Str, vs = [.str n] ∧ ∀ (p : Addr) (H' : Hp), Same H H' → H' p = some (.tup ((kindsOf n).map V.str)) → Q (.ref p) H'
theorem sc_operand_kinds : FnScope ["name"] ["name"] (defScope s_operand_kinds) := ⟨rfl, rfl, rfl, by decide +kernel, rfl, by decide +kernel, by decide +kernel⟩
theorem ok_operand_kinds (F : FnF K mg "operand_kinds" "operand_kinds" s_operand_kinds) (C : Cst K mg) : Def P w K mg base 1 "operand_kinds" ["name"] spKinds := by
  obtain ⟨a3, g3, t3⟩ := C.tTHREE
  obtain ⟨a2, g2, t2⟩ := C.tTWO
  obtain ⟨a1, g1, t1⟩ := C.tONE
  refine Def.of F sc_operand_kinds (fun _ _ _ _ _ _ us hl => match us, hl with | [_], _ => rfl) (fun vs H Q E h => ?_) (fun f cdv A outer s H vs Q E hr h => ?_)
  · obtain ⟨n, rfl, _⟩ := h; rfl
  · refine ⟨_, pss_cons (ps_if (pt_cmpR op_in_seq (pv 0) (pe_gr g3 rfl) rfl) (pss_one (ps_ret (pe_tup (pa_cons pe_str (pa_cons pe_str (pa_cons pe_str pa_nil)))))) pss_nil)
      (pss_cons (ps_if (pt_cmpR op_in_seq (pv 0) (pe_gr g2 rfl) rfl) (pss_one (ps_ret (pe_tup (pa_cons pe_str (pa_cons pe_str pa_nil))))) pss_nil)
      (pss_cons (ps_if (pt_cmpR op_in_seq (pv 0) (pe_gr g1 rfl) rfl) (pss_one (ps_ret (pe_tup (pa_cons pe_str pa_nil)))) pss_nil)
      (pss_cons (ps_if (pt_cmpR op_eq (pv 0) pe_str (nomark _)) (pss_one (ps_ret (pe_tup (pa_cons pe_str (pa_cons pe_str pa_nil))))) pss_nil)
      (pss_cons (ps_if (pt_cmpR op_eq (pv 0) pe_str (nomark _)) (pss_one (ps_ret (pe_tup (pa_cons pe_str pa_nil)))) pss_nil)
      (pss_cons (ps_if (pt_cmpR op_eq (pv 0) pe_str (nomark _)) (pss_one (ps_ret (pe_tup (pa_cons pe_str (pa_cons pe_str pa_nil))))) pss_nil)
      (pss_one (ps_ret (pe_tup pa_nil)))))))), ?_⟩
    obtain ⟨n, rfl, k⟩ := h
    unfold kindsOf at k
    have fin : ∀ (l : List Str), (∀ (p : Addr) (H' : Hp), Same H H' → H' p = some (.tup (l.map V.str)) → Q (.ref p) H') → ∀ p, H p = none → Q (.ref p) (upd H p (.tup (l.map V.str))) := fun l kk p hp => kk p _ (same_new hp) upd_same
    refine ⟨_, rfl, a3, _, rfl, .inr (t3 H), rfl, flat_strs _, _, rfl, ?_⟩
    rw [if_neg (by decide), inV_strs]
    by_cases h3 : n ∈ threeL
    · rw [decide_eq_true h3]
      rw [if_pos h3] at k
      exact iteT ⟨by show 3 ≤ sizeLine; decide, fin _ k⟩
    rw [decide_eq_false h3]
    rw [if_neg h3] at k
    refine iteF ⟨_, rfl, a2, _, rfl, .inr (t2 H), rfl, flat_strs _, _, rfl, ?_⟩
    rw [if_neg (by decide), inV_strs]
    by_cases h2 : n ∈ twoL
    · rw [decide_eq_true h2]
      rw [if_pos h2] at k
      exact iteT ⟨by show 2 ≤ sizeLine; decide, fin _ k⟩
    rw [decide_eq_false h2]
    rw [if_neg h2] at k
    refine iteF ⟨_, rfl, a1, _, rfl, .inr (t1 H), rfl, flat_strs _, _, rfl, ?_⟩
    rw [if_neg (by decide), inV_strs]
    by_cases h1 : n ∈ oneL
    · rw [decide_eq_true h1]
      rw [if_pos h1] at k
      exact iteT ⟨by show 1 ≤ sizeLine; decide, fin _ k⟩
    rw [decide_eq_false h1]
    rw [if_neg h1] at k
    refine iteF ⟨_, rfl, rfl, _, rfl, ?_⟩
    rw [sEq]
    by_cases e1 : n = "set"
    · rw [decide_eq_true e1]
      rw [if_pos e1] at k
      exact iteT ⟨by show 2 ≤ sizeLine; decide, fin _ k⟩
    rw [decide_eq_false e1]
    rw [if_neg e1] at k
    refine iteF ⟨_, rfl, rfl, _, rfl, ?_⟩
    rw [sEq]
    by_cases e2 : n = "jump"
    · rw [decide_eq_true e2]
      rw [if_pos e2] at k
      exact iteT ⟨by show 1 ≤ sizeLine; decide, fin _ k⟩
    rw [decide_eq_false e2]
    rw [if_neg e2] at k
    refine iteF ⟨_, rfl, rfl, _, rfl, ?_⟩
    rw [sEq]
    by_cases e3 : n = "zero"
    · rw [decide_eq_true e3]
      rw [if_pos e3] at k
      exact iteT ⟨by show 2 ≤ sizeLine; decide, fin _ k⟩
    rw [decide_eq_false e3]
    rw [if_neg e3] at k
    exact iteF ⟨Nat.zero_le _, fin _ k⟩
def spOperand : Sp := fun vs H Q _ => ∃ (k : Str) (v : Nat), vs = [.str k, .int (v : Int)] ∧ okOp k v ∧ Q (.bl true) H
theorem sc_is_operand : FnScope ["kind", "value"] ["kind", "value"] (defScope s_is_operand) := ⟨rfl, rfl, rfl, by decide +kernel, rfl, by decide +kernel, by decide +kernel⟩
theorem ok_is_operand (F : FnF K mg "is_operand" "is_operand" s_is_operand) (D1 : Def P w K mg base 2 "is_register" ["value"] (spUpTo 3)) (D2 : Def P w K mg base 2 "is_word" ["value"] spWord) (D3 : Def P w K mg base 2 "is_place" ["value"] (spUpTo 64)) : Def P w K mg base 3 "is_operand" ["kind", "value"] spOperand := by
  refine Def.of F sc_is_operand (fun _ _ _ _ _ _ us hl => match us, hl with | [_, _], _ => rfl) (fun vs H Q E h => ?_) (fun f cdv A outer s H vs Q E hr h => ?_)
  · obtain ⟨k, v, rfl, _⟩ := h; rfl
  · refine ⟨_, pss_cons (ps_if (pt_cmpR op_eq (pv 0) pe_str (nomark _)) (pss_one (ps_ret (pe_d D1 hr rfl (pa_cons (pv 1) pa_nil)))) pss_nil)
      (pss_cons (ps_if (pt_cmpR op_eq (pv 0) pe_str (nomark _)) (pss_one (ps_ret (pe_d D2 hr rfl (pa_cons (pv 1) pa_nil)))) pss_nil)
      (pss_one (ps_ret (pe_d D3 hr rfl (pa_cons (pv 1) pa_nil))))), ?_⟩
    obtain ⟨k, v, rfl, hk, q⟩ := h
    unfold okOp at hk
    refine ⟨_, rfl, rfl, _, rfl, ?_⟩
    rw [sEq]
    by_cases e1 : k = "register"
    · rw [decide_eq_true e1]
      rw [if_pos e1] at hk
      exact iteT ⟨_, rfl, v, rfl, hk, q⟩
    rw [decide_eq_false e1]
    rw [if_neg e1] at hk
    refine iteF ⟨_, rfl, rfl, _, rfl, ?_⟩
    rw [sEq]
    by_cases e2 : k = "word"
    · rw [decide_eq_true e2]
      rw [if_pos e2] at hk
      exact iteT ⟨_, rfl, (v : Int), rfl, by rw [decide_eq_true (by omega)]; exact q⟩
    rw [decide_eq_false e2]
    rw [if_neg e2] at hk
    exact iteF ⟨_, rfl, v, rfl, hk, q⟩
end
end K24
set_option Elab.async false
set_option autoImplicit false
set_option linter.all false
set_option maxRecDepth 100000
set_option maxHeartbeats 4000000
namespace K24
open PySem PySem.Spec PyProof.Rows L2
theorem nats_at_inv {xs : List Nat} {i : Nat} {v : V} (h : (nats xs)[i]? = some v) : ∃ x, xs[i]? = some x ∧ v = .int (x : Int) := by
  unfold nats at h
  rw [List.getElem?_map] at h
  obtain ⟨x, h1, h2⟩ := Option.map_eq_some_iff.mp h
  exact ⟨x, h1, h2.symm⟩
theorem all_true {α : Type} {xs : List α} : xs.all (fun _ => true) = true := by simp
section
variable {P : Program} {w : World} {K : PySem.W.Frag} {mg : Str → Option Value} {base : Heap}
/-! ### is_instruction -/
def spInstr (ti : Addr) : Sp := fun vs H Q _ => ∃ (a : Addr) (c : Option Ins), vs = [.ref a] ∧ CodeAt H a c ∧ (∀ i, c = some i → OkIns i) ∧ HTab H ti ∧ ∀ H', Same H H' → Q (.bl c.isSome) H'
theorem sc_is_instruction : FnScope ["value", "kinds", "k"] ["value"] (defScope s_is_instruction) := ⟨rfl, rfl, rfl, by decide +kernel, rfl, by decide +kernel, by decide +kernel⟩
theorem ok_is_instruction {ti : Addr} (F : FnG K mg base "is_instruction" s_is_instruction ti) (C : Cst K mg) (D1 : Def P w K mg base 1 "operand_kinds" ["name"] spKinds) (D2 : Def P w K mg base 3 "is_operand" ["kind", "value"] spOperand) : Def P w K mg base 5 "is_instruction" ["value"] (spInstr ti) := by
  obtain ⟨an, gn, tn⟩ := C.tNAMES
  refine Def.ofG F sc_is_instruction (fun _ _ _ _ _ _ us hl => match us, hl with | [_], _ => rfl) (fun vs H Q E h => ?_) (fun f c T A outer s H vs Q E hr h => ?_)
  · obtain ⟨a, c, rfl, _⟩ := h; rfl
  · refine ⟨_, pss_cons (ps_if (PW.pt (pw_or (pt_not (pt_val (pe_isi C.isi C.tuple boot_tuple rfl rfl (pv 0)))) (pw_or (pt_cmpR op_eq (pe_callB call_len_seq rfl C.len PySem.boot_len (pa_cons (pv 0) pa_nil)) pe_int (nomark _))
        (pw_or (pt_not (pt_val (pe_isi C.isi C.str boot_str rfl rfl (pe_ix ix_tup (pv 0) pe_int (fun _ _ => rfl))))) (pw_or1 (pt_cmpR op_notIn_seq (pe_ix ix_tup (pv 0) pe_int (fun _ _ => rfl)) (pe_gr gn rfl) rfl)))))) (pss_one (ps_ret pe_bl)) pss_nil)
      (pss_cons (ps_set (i := 1) sc_is_instruction.nd rfl (Or.inr rfl) (pe_d D1 (hr.mono (by decide)) rfl (pa_cons (pe_ix ix_tup (pv 0) pe_int (fun _ _ => rfl)) pa_nil)))
      (pss_cons (ps_if (pt_cmpR op_ne (pe_callB call_len_seq rfl C.len PySem.boot_len (pa_cons (pv 0) pa_nil)) (pe_op op_add (pe_callB call_len_seq rfl C.len PySem.boot_len (pa_cons (pv 1) pa_nil)) pe_int) (nomark _)) (pss_one (ps_ret pe_bl)) pss_nil)
      (pss_one (ps_ret (pe_allG (k := 3) hr rfl rfl C.all T rfl sc_is_instruction.nd (genC_by (own := [("k", 2)]) (N := ["value", "kinds", "k"]) (sc := defScope s_is_instruction) (by decide +kernel))
        (pi_range1 rfl C.range (pa_cons (pe_callB call_len_seq rfl C.len PySem.boot_len (pa_cons (pv 1) pa_nil)) pa_nil)) (fun _ _ _ _ _ _ _ => pg_name (i := 2) sc_is_instruction.nd rfl (Or.inl rfl))
        (fun _ _ _ _ _ _ _ hr2 => pe_d D2 hr2 rfl (pa_cons (pe_ix (r := rIxT K) ix_tup (pv 1) (pv 2) (fun _ _ => rfl)) (pa_cons (pe_ix (r := rIxT K) ix_tup (pv 0) (pe_op op_add (pv 2) pe_int) (fun _ _ => rfl)) pa_nil)))))))), ?_⟩
    obtain ⟨a, c, rfl, ha, hc, hT, k⟩ := h
    refine ⟨_, rfl, _, _, .type "tuple", .type "tuple", true, rfl, .ty _, .base (.tup ha), kit_ty (by decide +kernel), _, rfl, iteF ?_⟩
    refine ⟨_, rfl, a, _, rfl, .inr (SqT.of ha), rfl, _, rfl, ?_⟩
    cases c with
    | none => exact iteT (k H (Same.refl H))
    | some c =>
      have oc := hc c rfl
      have hl : ((codeK (some c)).map kV).length = c.ar.length + 1 := by
        rw [List.length_map]
        show (natK c.ar).length + 1 = _
        unfold natK
        rw [List.length_map]
      rw [hl, iEq, decide_eq_false (show ¬ ((c.ar.length + 1 : Nat) : Int) = 0 by omega)]
      have i0 : ((codeK (some c)).map kV)[0]? = some (.str c.nm) := rfl
      refine iteF ⟨_, rfl, a, _, 0, .str c.nm, rfl, rfl, SqT.of ha, atI_nat (j := 0) i0, _, _, .type "str", .type "str", true, rfl, .ty _, .base (.str _), kit_ty (by decide +kernel), _, rfl, iteF ?_⟩
      refine ⟨_, rfl, a, _, 0, .str c.nm, rfl, rfl, SqT.of ha, atI_nat (j := 0) i0, an, _, rfl, .inr (tn H), rfl, flat_strs _, _, rfl, ?_⟩
      rw [if_pos rfl, inV_strs, decide_eq_true oc.nm]
      refine iteF ⟨_, rfl, a, _, 0, .str c.nm, rfl, rfl, SqT.of ha, atI_nat (j := 0) i0, c.nm, rfl, fun q H2 s2 hq => ?_⟩
      have ha2 := s2 _ _ ha
      have hkl : ((kindsOf c.nm).map V.str).length = c.ar.length := by rw [List.length_map, oc.len]
      refine ⟨_, rfl, a, _, rfl, .inr (SqT.of ha2), _, rfl, q, _, rfl, .inr (SqT.of hq), _, _, rfl, rfl, rfl, _, rfl, ?_⟩
      rw [hl, hkl, iEq, decide_eq_true (show ((c.ar.length + 1 : Nat) : Int) = (c.ar.length : Int) + 1 by omega)]
      have sm := oc.small
      refine iteF ⟨_, rfl, q, _, rfl, .inr (SqT.of hq), (c.ar.length : Int), by rw [hkl], by omega, by omega, s2 _ _ hT, ?_⟩
      refine allb_rng (fun _ => true) (fun i R hi r => ⟨rfl, ?_⟩) (vb (by simp) (k H2 s2))
      rw [Int.toNat_natCast] at hi
      have hi2 : i < (kindsOf c.nm).length := by rw [← oc.len]; exact hi
      have e1 : ((kindsOf c.nm).map V.str)[i]? = some (.str (kindsOf c.nm)[i]) := by rw [List.getElem?_map, List.getElem?_eq_getElem hi2]; rfl
      have e2 : ((codeK (some c)).map kV)[i + 1]? = some (.int (c.ar[i] : Int)) := by
        show ((natK c.ar).map kV)[i]? = _
        rw [natK_map, nats_at (List.getElem?_eq_getElem hi)]
      refine ⟨_, rfl, _, rfl, q, _, _, .str (kindsOf c.nm)[i], rfl, rfl, SqT.of hq, at_of (j := i) (by omega) e1, ?_⟩
      refine ⟨_, rfl, _, rfl, _, _, rfl, rfl, a, _, _, .int (c.ar[i] : Int), rfl, rfl, SqT.of ha2, at_of (j := i + 1) (by omega) e2, ?_⟩
      exact ⟨_, _, rfl, oc.op i _ _ (List.getElem?_eq_getElem hi2) (List.getElem?_eq_getElem hi), r⟩
/-! ### is_program, are_words -/
def spProg (ti tg : Addr) : Sp := fun vs H Q _ => ∃ (a : Addr) (p : List Ins), vs = [.ref a] ∧ PrAt H a p ∧ 1 ≤ p.length ∧ p.length ≤ 64 ∧ (∀ c ∈ p, OkIns c) ∧ HTab H ti ∧ HTab H tg ∧ ∀ H', Same H H' → Q (.bl true) H'
theorem sc_is_program : FnScope ["value", "row"] ["value"] (defScope s_is_program) := ⟨rfl, rfl, rfl, by decide +kernel, rfl, by decide +kernel, by decide +kernel⟩
theorem ok_is_program {ti tg : Addr} (F : FnG K mg base "is_program" s_is_program tg) (C : Cst K mg) (D : Def P w K mg base 5 "is_instruction" ["value"] (spInstr ti)) : Def P w K mg base 7 "is_program" ["value"] (spProg ti tg) := by
  refine Def.ofG F sc_is_program (fun _ _ _ _ _ _ us hl => match us, hl with | [_], _ => rfl) (fun vs H Q E h => ?_) (fun f c T A outer s H vs Q E hr h => ?_)
  · obtain ⟨a, p, rfl, _⟩ := h; rfl
  · refine ⟨_, pss_cons (ps_if (PW.pt (pw_or (pt_not (pt_val (pe_isi C.isi C.tuple boot_tuple rfl rfl (pv 0)))) (pw_or1 (pt_not (pt_chain op_le op_le pe_int (pe_callB call_len_seq rfl C.len PySem.boot_len (pa_cons (pv 0) pa_nil)) (pe_gi C.nMAX_PROGRAM rfl)))))) (pss_one (ps_ret pe_bl)) pss_nil)
      (pss_one (ps_ret (pe_allG (k := 5) hr rfl rfl C.all T rfl sc_is_program.nd (genC_by (own := [("row", 1)]) (N := ["value", "row"]) (sc := defScope s_is_program) (by decide +kernel)) (pi_tup (pv 0)) (fun _ _ _ _ _ _ _ => pg_name (i := 1) sc_is_program.nd rfl (Or.inl rfl))
        (fun _ _ _ _ _ _ _ hr2 => pe_d D hr2 rfl (pa_cons (pv 1) pa_nil))))), ?_⟩
    obtain ⟨a, p, rfl, ha, h1, h2, ho, hti, htg, k⟩ := h
    obtain ⟨as, e1, e2⟩ := ha.len
    refine ⟨_, rfl, _, _, .type "tuple", .type "tuple", true, rfl, .ty _, .base (.tup e1), kit_ty (by decide +kernel), _, rfl, iteF ?_⟩
    refine ⟨_, rfl, a, _, rfl, .inr (SqT.of e1), _, _, rfl, rfl, _, rfl, ?_⟩
    rw [e2, decide_eq_true (show (1 : Int) ≤ (p.length : Int) by omega)]
    refine iteT ⟨_, _, rfl, rfl, _, rfl, ?_⟩
    rw [decide_eq_true (show (p.length : Int) ≤ 64 by omega)]
    refine iteF ⟨_, rfl, a, rfl, ⟨_, SqT.of e1⟩, htg, ?_⟩
    refine allbS (n := p.length) (fun i H2 hi s2 => ?_) (fun H2 s2 => ⟨_, SqT.of (s2 _ _ e1), by rw [e2]; exact Nat.le_refl _⟩) (fun i H2 x H3 R hi s2 y r => ⟨rfl, ?_⟩) k
    · have hi2 : i < as.length := by rw [e2]; exact hi
      exact ⟨as, as[i], SqT.of (s2 _ _ e1), List.getElem?_eq_getElem hi2⟩
    · obtain ⟨eH, y⟩ := y
      subst eH
      obtain ⟨as', q, q1, q2, q3⟩ := ha.get (List.getElem?_eq_getElem hi)
      rw [e1] at q1
      have q1 := Option.some.inj q1
      injection q1 with q1
      subst q1
      have hx := y as (SqT.of (s2 _ _ e1))
      rw [q2] at hx
      cases hx
      exact ⟨_, rfl, q, some p[i], rfl, s2 _ _ q3, fun j hj => by cases hj; exact ho _ (List.getElem_mem _), s2 _ _ hti, fun H4 s4 => r H4 s4⟩
def spWords (tw : Addr) : Sp := fun vs H Q _ => ∃ (a : Addr) (ws : List Nat) (lo hi : Int), vs = [.ref a, .int lo, .int hi] ∧ WdAt H a ws ∧ lo ≤ (ws.length : Int) ∧ (ws.length : Int) ≤ hi ∧ (∀ x ∈ ws, isW x) ∧ HTab H tw ∧ Q (.bl true) H
theorem sc_are_words : FnScope ["value", "least", "most", "word"] ["value", "least", "most"] (defScope s_are_words) := ⟨rfl, rfl, rfl, by decide +kernel, rfl, by decide +kernel, by decide +kernel⟩
theorem ok_are_words {tw : Addr} (F : FnG K mg base "are_words" s_are_words tw) (C : Cst K mg) (D : Def P w K mg base 2 "is_word" ["value"] spWord) : Def P w K mg base 4 "are_words" ["value", "least", "most"] (spWords tw) := by
  refine Def.ofG F sc_are_words (fun _ _ _ _ _ _ us hl => match us, hl with | [_, _, _], _ => rfl) (fun vs H Q E h => ?_) (fun f c T A outer s H vs Q E hr h => ?_)
  · obtain ⟨a, ws, lo, hi, rfl, _⟩ := h; rfl
  · refine ⟨_, pss_cons (ps_if (PW.pt (pw_or (pt_not (pt_val (pe_isi C.isi C.tuple boot_tuple rfl rfl (pv 0)))) (pw_or1 (pt_not (pt_chain op_le op_le (pv 1) (pe_callB call_len_seq rfl C.len PySem.boot_len (pa_cons (pv 0) pa_nil)) (pv 2)))))) (pss_one (ps_ret pe_bl)) pss_nil)
      (pss_one (ps_ret (pe_allG (k := 2) hr rfl rfl C.all T rfl sc_are_words.nd (genC_by (own := [("word", 3)]) (N := ["value", "least", "most", "word"]) (sc := defScope s_are_words) (by decide +kernel)) (pi_tup (pv 0)) (fun _ _ _ _ _ _ _ => pg_name (i := 3) sc_are_words.nd rfl (Or.inl rfl))
        (fun _ _ _ _ _ _ _ hr2 => pe_d D hr2 rfl (pa_cons (pv 3) pa_nil))))), ?_⟩
    obtain ⟨a, ws, lo, hi, rfl, ha, h1, h2, ho, ht, q⟩ := h
    refine ⟨_, rfl, _, _, .type "tuple", .type "tuple", true, rfl, .ty _, .base (.tup ha), kit_ty (by decide +kernel), _, rfl, iteF ?_⟩
    refine ⟨_, rfl, _, rfl, a, _, rfl, .inr (SqT.of ha), _, _, rfl, rfl, _, rfl, ?_⟩
    rw [nats_len, decide_eq_true h1]
    refine iteT ⟨_, rfl, _, _, rfl, rfl, _, rfl, ?_⟩
    rw [decide_eq_true h2]
    refine iteF ⟨_, rfl, a, rfl, ⟨_, SqT.of ha⟩, ht, allb_tup (fun _ => true) (SqT.of ha) (fun i x R hx r => ⟨rfl, ?_⟩) (vb (by simp) q)⟩
    obtain ⟨y, hy, rfl⟩ := nats_at_inv hx
    have hw : y ≤ 4294967295 := ho y (List.mem_of_getElem? hy)
    exact ⟨_, rfl, (y : Int), rfl, by rw [decide_eq_true (by omega)]; exact r⟩
def spInput (tw : Addr) : Sp := fun vs H Q _ => ∃ (a : Addr) (ws : List Nat), vs = [.ref a] ∧ WdAt H a ws ∧ ws.length ≤ 64 ∧ (∀ x ∈ ws, isW x) ∧ HTab H tw ∧ Q (.bl true) H
theorem sc_is_input : FnScope ["value"] ["value"] (defScope s_is_input) := ⟨rfl, rfl, rfl, by decide +kernel, rfl, by decide +kernel, by decide +kernel⟩
theorem ok_is_input {tw : Addr} (F : FnF K mg "is_input" "is_input" s_is_input) (C : Cst K mg) (D : Def P w K mg base 4 "are_words" ["value", "least", "most"] (spWords tw)) : Def P w K mg base 5 "is_input" ["value"] (spInput tw) := by
  refine Def.of F sc_is_input (fun _ _ _ _ _ _ us hl => match us, hl with | [_], _ => rfl) (fun vs H Q E h => ?_) (fun f cdv A outer s H vs Q E hr h => ?_)
  · obtain ⟨a, ws, rfl, _⟩ := h; rfl
  · refine ⟨_, pss_one (ps_ret (pe_d D hr rfl (pa_cons (pv 0) (pa_cons pe_int (pa_cons (pe_gi C.nMAX_INPUT rfl) pa_nil))))), ?_⟩
    obtain ⟨a, ws, rfl, ha, h2, ho, ht, q⟩ := h
    exact ⟨_, rfl, a, ws, _, _, rfl, ha, by omega, by omega, ho, ht, q⟩
end
end K24
set_option Elab.async false
set_option autoImplicit false
set_option linter.all false
set_option maxRecDepth 100000
set_option maxHeartbeats 4000000
namespace K24
open PySem PySem.Spec PyProof.Rows L2
/-! ### states -/
structure St where
  pl : Nat
  rg : List Nat
  me : List Nat
  po : Nat
  wr : List Nat
  ss : Nat
structure StOk (st : St) : Prop where
  pl : st.pl ≤ 64
  rgl : st.rg.length = 4
  rg : ∀ x ∈ st.rg, isW x
  mel : st.me.length = 64
  me : ∀ x ∈ st.me, isW x
  po : st.po ≤ 64
  wrl : st.wr.length ≤ 2000
  wr : ∀ x ∈ st.wr, isW x
  ss : st.ss ≤ 2
def stV (st : St) (r m w : Addr) : List V := [.int (st.pl : Int), .ref r, .ref m, .int (st.po : Int), .ref w, .int (st.ss : Int)]
def StAt (H : Hp) (a : Addr) (st : St) : Prop := ∃ r m w, H a = some (.tup (stV st r m w)) ∧ WdAt H r st.rg ∧ WdAt H m st.me ∧ WdAt H w st.wr
theorem StAt.tk {H H' : Hp} (k : TK H H') {a : Addr} {st : St} (h : StAt H a st) : StAt H' a st := by
  obtain ⟨r, m, w, h1, h2, h3, h4⟩ := h
  exact ⟨r, m, w, k.tup h1, k.tup h2, k.tup h3, k.tup h4⟩
def st0 : St := ⟨0, [0, 0, 0, 0], List.replicate 64 0, 0, [], 0⟩
theorem st0_ok : StOk st0 := by
  refine ⟨by decide, rfl, fun x hx => ?_, rfl, fun x hx => ?_, by decide, by decide, fun x hx => ?_, by decide⟩
  · have hx : x ∈ [0, 0, 0, 0] := hx
    simp at hx
    subst hx
    exact Nat.zero_le _
  · rw [List.eq_of_mem_replicate hx]
    exact Nat.zero_le _
  · cases hx
def St.reg (st : St) (n v : Nat) : St := { st with pl := st.pl + 1, rg := st.rg.set n v }
def St.plc (st : St) (p : Nat) : St := { st with pl := p }
def St.sta (st : St) (s : Nat) : St := { st with ss := s }
theorem set_cut (xs : List Nat) (n v : Nat) (h : n < xs.length) : ((nats xs).take n ++ [V.int (v : Int)]) ++ (nats xs).drop (n + 1) = nats (xs.set n v) := by
  rw [List.set_eq_take_append_cons_drop, if_pos h]
  unfold nats
  rw [List.map_append, List.map_cons, List.map_take, List.map_drop, List.append_assoc]
  rfl
theorem slTn {K : PySem.W.Frag} {H : Hp} {Q : VK} {σ : L2.St} {a : Addr} {xs : List V} {lo : Option Int} (ha : H a = some (.tup xs)) (q : ∀ (p : Addr) (H' : Hp), Same H H' → H' p = some (.tup (cutV xs lo none)) → Q (.ref p) H') : tNoPart σ H fun u H3 => rSlA K (.ref a) lo u H3 Q := slT ha q
section
variable {P : Program} {w : World} {K : PySem.W.Frag} {mg : Str → Option Value} {base : Heap}
def spIsState (tw : Addr) : Sp := fun vs H Q _ => ∃ (a : Addr) (st : St), vs = [.ref a] ∧ StAt H a st ∧ StOk st ∧ HTab H tw ∧ Q (.bl true) H
theorem sc_is_state : FnScope ["value", "place", "registers", "memory", "position", "written", "status"] ["value"] (defScope s_is_state) := ⟨rfl, rfl, rfl, by decide +kernel, rfl, by decide +kernel, by decide +kernel⟩
theorem ok_is_state {tw : Addr} (F : FnF K mg "is_state" "is_state" s_is_state) (C : Cst K mg) (D1 : Def P w K mg base 2 "is_place" ["value"] (spUpTo 64)) (D2 : Def P w K mg base 4 "are_words" ["value", "least", "most"] (spWords tw)) (D3 : Def P w K mg base 1 "is_number" ["value", "least", "most"] spNumber) :
    Def P w K mg base 5 "is_state" ["value"] (spIsState tw) := by
  refine Def.of F sc_is_state (fun _ _ _ _ _ _ us hl => match us, hl with | [_], _ => rfl) (fun vs H Q E h => ?_) (fun f cdv A outer s H vs Q E hr h => ?_)
  · obtain ⟨a, st, rfl, _⟩ := h; rfl
  · refine ⟨_, pss_cons (ps_if (PW.pt (pw_or (pt_not (pt_val (pe_isi C.isi C.tuple boot_tuple rfl rfl (pv 0)))) (pw_or1 (pt_cmpR op_ne (pe_callB call_len_seq rfl C.len PySem.boot_len (pa_cons (pv 0) pa_nil)) pe_int (nomark _))))) (pss_one (ps_ret pe_bl)) pss_nil)
      (pss_cons (ps_asg (pv 0) (pg_tup rfl (pgs_cons (pg_name (i := 1) sc_is_state.nd rfl (Or.inl rfl)) (pgs_cons (pg_name (i := 2) sc_is_state.nd rfl (Or.inl rfl)) (pgs_cons (pg_name (i := 3) sc_is_state.nd rfl (Or.inl rfl)) (pgs_cons (pg_name (i := 4) sc_is_state.nd rfl (Or.inl rfl)) (pgs_cons (pg_name (i := 5) sc_is_state.nd rfl (Or.inl rfl)) (pgs_cons (pg_name (i := 6) sc_is_state.nd rfl (Or.inl rfl)) pgs_nil))))))))
      (pss_cons (ps_if (PW.pt (pw_or (pt_not (pt_val (pe_d D1 (hr.mono (by decide)) rfl (pa_cons (pv 1) pa_nil)))) (pw_or (pt_not (pt_val (pe_d D2 hr rfl (pa_cons (pv 2) (pa_cons pe_int (pa_cons pe_int pa_nil)))))) (pw_or1 (pt_not (pt_val (pe_d D2 hr rfl (pa_cons (pv 3) (pa_cons (pe_gi C.nMEMORY rfl) (pa_cons (pe_gi C.nMEMORY rfl) pa_nil)))))))))) (pss_one (ps_ret pe_bl)) pss_nil)
      (pss_one (ps_ret (pe_and (pe_d D3 (hr.mono (by decide)) rfl (pa_cons (pv 4) (pa_cons pe_int (pa_cons (pe_gi C.nMAX_INPUT rfl) pa_nil)))) (pe_and (pe_d D2 hr rfl (pa_cons (pv 5) (pa_cons pe_int (pa_cons (pe_gi C.nMAX_WRITTEN rfl) pa_nil))))
        (pe_one (pe_d D3 (hr.mono (by decide)) rfl (pa_cons (pv 6) (pa_cons pe_int (pa_cons (pe_gi C.nFAULT rfl) pa_nil))))))))))), ?_⟩
    obtain ⟨a, st, rfl, ⟨r, m, v, ha, hrg, hme, hwr⟩, ok, ht, q⟩ := h
    refine ⟨_, rfl, _, _, .type "tuple", .type "tuple", true, rfl, .ty _, .base (.tup ha), kit_ty (by decide +kernel), _, rfl, iteF ?_⟩
    refine ⟨_, rfl, a, _, rfl, .inr (SqT.of ha), rfl, _, rfl, ?_⟩
    refine iteF ⟨_, rfl, a, _, rfl, SqT.of ha, rfl, _, _, rfl, _, _, rfl, _, _, rfl, _, _, rfl, _, _, rfl, _, _, rfl, rfl, ?_⟩
    refine ⟨_, rfl, st.pl, rfl, ok.pl, _, rfl, iteF ?_⟩
    refine ⟨_, rfl, r, st.rg, _, _, rfl, hrg, by rw [ok.rgl]; decide, by rw [ok.rgl]; decide, ok.rg, ht, _, rfl, iteF ?_⟩
    refine ⟨_, rfl, m, st.me, _, _, rfl, hme, by rw [ok.mel]; decide, by rw [ok.mel]; decide, ok.me, ht, _, rfl, iteF ?_⟩
    have h1 := ok.po
    have h2 := ok.ss
    have h3 := ok.wrl
    refine ⟨_, rfl, _, _, .inl ⟨(st.po : Int), rfl, _, rfl, ?_⟩⟩
    rw [decide_eq_true (by omega)]
    refine iteT ⟨_, rfl, v, st.wr, _, _, rfl, hwr, by omega, by omega, ok.wr, ht, _, rfl, iteT ?_⟩
    refine ⟨_, rfl, _, _, .inl ⟨(st.ss : Int), rfl, ?_⟩⟩
    rw [decide_eq_true (by omega)]
    exact q
def spFirst : Sp := fun vs H Q _ => vs = [] ∧ ∀ p H', Same H H' → StAt H' p st0 → Q (.ref p) H'
theorem sc_first_state : FnScope [] [] (defScope s_first_state) := ⟨rfl, rfl, rfl, by decide +kernel, rfl, by decide +kernel, by decide +kernel⟩
theorem ok_first_state (F : FnF K mg "first_state" "first_state" s_first_state) (C : Cst K mg) : Def P w K mg base 1 "first_state" [] spFirst := by
  refine Def.of F sc_first_state (fun _ _ _ _ _ _ us hl => match us, hl with | [], _ => rfl) (fun vs H Q E h => ?_) (fun f cdv A outer s H vs Q E hr h => ?_)
  · obtain ⟨rfl, _⟩ := h; rfl
  · refine ⟨_, pss_one (ps_ret (pe_tup (pa_cons pe_int (pa_cons (pe_tup (pa_cons pe_int (pa_cons pe_int (pa_cons pe_int (pa_cons pe_int pa_nil))))) (pa_cons (pe_op op_repA (pe_tup (pa_cons pe_int pa_nil)) (pe_gi C.nMEMORY rfl)) (pa_cons pe_int (pa_cons (pe_tup pa_nil) (pa_cons (pe_gi C.nRUNS rfl) pa_nil)))))))), ?_⟩
    obtain ⟨rfl, k⟩ := h
    refine ⟨by show 4 ≤ sizeLine; decide, fun r hr1 => ⟨by show 1 ≤ sizeLine; decide, fun z hz => ⟨z, 64, _, rfl, rfl, upd_same, by simp, by decide, by decide, fun m H1 s1 hm => ⟨Nat.zero_le _, fun v hv => ⟨by show 6 ≤ sizeLine; decide, fun p hp => ?_⟩⟩⟩⟩⟩
    have s0 : Same H (upd H r (.tup [V.int 0, V.int 0, V.int 0, V.int 0])) := same_new hr1
    have s2 := same_new (o := .tup [V.int 0]) hz
    have s3 := same_new (o := .tup []) hv
    have s4 := same_new (o := .tup [V.int 0, V.ref r, V.ref m, V.int 0, V.ref v, V.int 0]) hp
    refine k p _ ((((s0.trans s2).trans s1).trans s3).trans s4) ⟨r, m, v, upd_same, ?_, ?_, ?_⟩
    · exact s4 _ _ (s3 _ _ (s1 _ _ (s2 _ _ upd_same)))
    · refine s4 _ _ (s3 _ _ ?_)
      rw [hm]
      rfl
    · exact s4 _ _ upd_same
/-! ### with_.. -/
def spReg : Sp := fun vs H Q _ => ∃ (a : Addr) (st : St) (n v : Nat), vs = [.ref a, .int (n : Int), .int (v : Int)] ∧ StAt H a st ∧ st.rg.length = 4 ∧ n ≤ 3 ∧ ∀ p H', Same H H' → StAt H' p (st.reg n v) → Q (.ref p) H'
theorem sc_with_register : FnScope ["state", "number", "word", "place", "registers", "memory", "position", "written", "status"] ["state", "number", "word"] (defScope s_with_register) := ⟨rfl, rfl, rfl, by decide +kernel, rfl, by decide +kernel, by decide +kernel⟩
theorem ok_with_register (F : FnF K mg "with_register" "with_register" s_with_register) : Def P w K mg base 1 "with_register" ["state", "number", "word"] spReg := by
  refine Def.of F sc_with_register (fun _ _ _ _ _ _ us hl => match us, hl with | [_, _, _], _ => rfl) (fun vs H Q E h => ?_) (fun f cdv A outer s H vs Q E hr h => ?_)
  · obtain ⟨a, st, n, v, rfl, _⟩ := h; rfl
  · refine ⟨_, pss_cons (ps_asg (pv 0) (pg_tup rfl (pgs_cons (pg_name (i := 3) sc_with_register.nd rfl (Or.inl rfl)) (pgs_cons (pg_name (i := 4) sc_with_register.nd rfl (Or.inl rfl)) (pgs_cons (pg_name (i := 5) sc_with_register.nd rfl (Or.inl rfl)) (pgs_cons (pg_name (i := 6) sc_with_register.nd rfl (Or.inl rfl)) (pgs_cons (pg_name (i := 7) sc_with_register.nd rfl (Or.inl rfl)) (pgs_cons (pg_name (i := 8) sc_with_register.nd rfl (Or.inl rfl)) pgs_nil))))))))
      (pss_cons (ps_set (i := 4) sc_with_register.nd rfl (Or.inl rfl) (pe_op op_catA (pe_op op_catA (pe_slice sl_tupA (pv 4) po_none (po_some (pv 1))) (pe_tup (pa_cons (pv 2) pa_nil))) (pe_slice sl_tupA (pv 4) (po_some (pe_op op_add (pv 1) pe_int)) po_none)))
      (pss_one (ps_ret (pe_tup (pa_cons (pe_op op_add (pv 3) pe_int) (pa_cons (pv 4) (pa_cons (pv 5) (pa_cons (pv 6) (pa_cons (pv 7) (pa_cons (pv 8) pa_nil)))))))))), ?_⟩
    obtain ⟨a, st, n, v, rfl, ⟨r, m, u, ha, hrg, hme, hwr⟩, hl, hn, k⟩ := h
    refine ⟨_, rfl, a, _, rfl, SqT.of ha, rfl, _, _, rfl, _, _, rfl, _, _, rfl, _, _, rfl, _, _, rfl, _, _, rfl, rfl, ?_⟩
    refine ⟨_, rfl, _, rfl, _, rfl, slT hrg fun p1 H1 s1 h1 => ⟨_, rfl, by show 1 ≤ sizeLine; decide, fun p2 hp2 => ?_⟩⟩
    have s2 := same_new (o := .tup [V.int (v : Int)]) hp2
    rw [cut_hi _ n (by rw [nats_len, hl]; omega)] at h1
    have l1 : ((nats st.rg).take n).length + [V.int (v : Int)].length ≤ sizeLine := by
      rw [List.length_take, nats_len, hl]
      exact Nat.le_trans (show min n 4 + 1 ≤ 5 by omega) (by decide)
    refine catT (s2 _ _ h1) upd_same l1 fun p3 H3 s3 h3 => ?_
    have sa : Same H H3 := (s1.trans s2).trans s3
    refine ⟨_, rfl, _, rfl, _, _, rfl, rfl, _, rfl, slTn (sa _ _ hrg) fun p4 H4 s4 h4 => ?_⟩
    have e4 : ((n : Int) + 1) = ((n + 1 : Nat) : Int) := rfl
    rw [e4, cut_lo _ (n + 1) (by rw [nats_len, hl]; omega)] at h4
    refine catT (s4 _ _ h3) h4 (by
      rw [List.length_append, List.length_take, List.length_drop, nats_len, hl]
      exact Nat.le_trans (show min n 4 + 1 + (4 - (n + 1)) ≤ 9 by omega) (by decide)) fun p5 H5 s5 h5 => ?_
    rw [set_cut _ _ _ (by rw [hl]; omega)] at h5
    refine ⟨_, rfl, _, _, rfl, rfl, _, rfl, _, rfl, _, rfl, _, rfl, _, rfl, by show 6 ≤ sizeLine; decide, fun p hp => ?_⟩
    have sb : Same H H5 := (sa.trans s4).trans s5
    have s6 := same_new (o := .tup (stV (st.reg n v) p5 m u)) hp
    exact k p _ (sb.trans s6) ⟨p5, m, u, upd_same, s6 _ _ h5, s6 _ _ (sb _ _ hme), s6 _ _ (sb _ _ hwr)⟩
def spPlc : Sp := fun vs H Q _ => ∃ (a : Addr) (st : St) (n : Nat), vs = [.ref a, .int (n : Int)] ∧ StAt H a st ∧ ∀ p H', Same H H' → StAt H' p (st.plc n) → Q (.ref p) H'
theorem sc_with_place : FnScope ["state", "place"] ["state", "place"] (defScope s_with_place) := ⟨rfl, rfl, rfl, by decide +kernel, rfl, by decide +kernel, by decide +kernel⟩
theorem ok_with_place (F : FnF K mg "with_place" "with_place" s_with_place) : Def P w K mg base 1 "with_place" ["state", "place"] spPlc := by
  refine Def.of F sc_with_place (fun _ _ _ _ _ _ us hl => match us, hl with | [_, _], _ => rfl) (fun vs H Q E h => ?_) (fun f cdv A outer s H vs Q E hr h => ?_)
  · obtain ⟨a, st, n, rfl, _⟩ := h; rfl
  · refine ⟨_, pss_one (ps_ret (pe_op op_catA (pe_tup (pa_cons (pv 1) pa_nil)) (pe_slice sl_tupA (pv 0) (po_some pe_int) po_none))), ?_⟩
    obtain ⟨a, st, n, rfl, ⟨r, m, u, ha, hrg, hme, hwr⟩, k⟩ := h
    refine ⟨_, rfl, by show 1 ≤ sizeLine; decide, fun p1 hp1 => ?_⟩
    have s1 := same_new (o := .tup [V.int (n : Int)]) hp1
    refine ⟨_, rfl, _, rfl, ?_⟩
    refine slTn (s1 _ _ ha) fun p2 H2 s2 h2 => ?_
    refine catT (s2 _ _ upd_same) h2 (by show 1 + 5 ≤ sizeLine; decide) fun p3 H3 s3 h3 => ?_
    have sa := (s1.trans s2).trans s3
    exact k p3 _ sa ⟨r, m, u, h3, sa _ _ hrg, sa _ _ hme, sa _ _ hwr⟩
def spSta : Sp := fun vs H Q _ => ∃ (a : Addr) (st : St) (n : Nat), vs = [.ref a, .int (n : Int)] ∧ StAt H a st ∧ ∀ p H', Same H H' → StAt H' p (st.sta n) → Q (.ref p) H'
theorem sc_with_status : FnScope ["state", "status"] ["state", "status"] (defScope s_with_status) := ⟨rfl, rfl, rfl, by decide +kernel, rfl, by decide +kernel, by decide +kernel⟩
theorem ok_with_status (F : FnF K mg "with_status" "with_status" s_with_status) : Def P w K mg base 1 "with_status" ["state", "status"] spSta := by
  refine Def.of F sc_with_status (fun _ _ _ _ _ _ us hl => match us, hl with | [_, _], _ => rfl) (fun vs H Q E h => ?_) (fun f cdv A outer s H vs Q E hr h => ?_)
  · obtain ⟨a, st, n, rfl, _⟩ := h; rfl
  · refine ⟨_, pss_one (ps_ret (pe_op op_catA (pe_slice sl_tupA (pv 0) po_none (po_some pe_int)) (pe_tup (pa_cons (pv 1) pa_nil)))), ?_⟩
    obtain ⟨a, st, n, rfl, ⟨r, m, u, ha, hrg, hme, hwr⟩, k⟩ := h
    refine ⟨_, rfl, _, rfl, slT ha fun p1 H1 s1 h1 => ⟨_, rfl, by show 1 ≤ sizeLine; decide, fun p2 hp2 => ?_⟩⟩
    have s2 := same_new (o := .tup [V.int (n : Int)]) hp2
    refine catT (s2 _ _ h1) upd_same (by show 5 + 1 ≤ sizeLine; decide) fun p3 H3 s3 h3 => ?_
    have sa := (s1.trans s2).trans s3
    exact k p3 _ sa ⟨r, m, u, h3, sa _ _ hrg, sa _ _ hme, sa _ _ hwr⟩
end
end K24
set_option Elab.async false
set_option autoImplicit false
set_option linter.all false
set_option maxRecDepth 100000
set_option maxHeartbeats 4000000
namespace K24
open PySem PySem.Spec PyProof.Rows L2
theorem getD_at {xs : List Nat} {i : Nat} (h : i < xs.length) : xs[i]? = some (xs.getD i 0) := by
  rw [List.getD_eq_getElem?_getD, List.getElem?_eq_getElem h]
  rfl
/-! ### a step, plain -/
def compN (n : Str) (a b : Nat) : Option Nat :=
  if n = "add" then some ((a + b) % 4294967296) else if n = "sub" then some ((((a : Int) - (b : Int)) % 4294967296).toNat) else if n = "mul" then some (a * b % 4294967296) else
  if n = "less" then some (if a < b then 1 else 0) else if n = "same" then some (if a = b then 1 else 0) else if b = 0 then none else if n = "div" then some (a / b) else some (a % b)
def optV : Option Nat → V
  | none => .non
  | some v => .int (v : Int)
def Ins.a (c : Ins) (i : Nat) : Nat := c.ar.getD i 0
def St.r (st : St) (i : Nat) : Nat := st.rg.getD i 0
def memC (c : Ins) (st : St) : St :=
  if 64 ≤ st.r (c.a 1) then st.sta 2 else if c.nm = "load" then st.reg (c.a 0) (st.me.getD (st.r (c.a 1)) 0) else { st with pl := st.pl + 1, me := st.me.set (st.r (c.a 1)) (st.r (c.a 0)) }
def inpC (c : Ins) (ws : List Nat) (st : St) : St :=
  if c.nm = "left" then st.reg (c.a 0) (ws.length - st.po) else if c.nm = "write" then { st with pl := st.pl + 1, wr := st.wr ++ [st.r (c.a 0)] } else
  if ws.length ≤ st.po then st.sta 2 else { st.reg (c.a 0) (ws.getD st.po 0) with po := st.po + 1 }
def stepC (c : Ins) (ws : List Nat) (st : St) : St :=
  if c.nm = "stop" then st.sta 1 else if c.nm = "set" then st.reg (c.a 0) (c.a 1) else if c.nm = "copy" then st.reg (c.a 0) (st.r (c.a 1)) else if c.nm = "jump" then st.plc (c.a 0) else
  if c.nm = "zero" then st.plc (if st.r (c.a 0) = 0 then c.a 1 else st.pl + 1) else if c.nm = "load" ∨ c.nm = "store" then memC c st else if c.nm ∈ oneL then inpC c ws st else
  match compN c.nm (st.r (c.a 1)) (st.r (c.a 2)) with
  | none => st.sta 2
  | some v => st.reg (c.a 0) v
def stepS (p : List Ins) (ws : List Nat) (st : St) : St :=
  if st.ss ≠ 0 then st else match p[st.pl]? with
  | none => st.sta 2
  | some c => stepC c ws st
/-- what a step asks of a state -/
structure St4 (st : St) : Prop where
  rgl : st.rg.length = 4
  rg : ∀ x ∈ st.rg, isW x
  mel : st.me.length = 64
  wrl : st.wr.length ≤ 2000
theorem StOk.four {st : St} (h : StOk st) : St4 st := ⟨h.rgl, h.rg, h.mel, h.wrl⟩
theorem St.r_at {st : St} (h : st.rg.length = 4) {i : Nat} (hi : i ≤ 3) : st.rg[i]? = some (st.r i) := getD_at (by omega)
theorem St.r_w {st : St} (h : st.rg.length = 4) (hw : ∀ x ∈ st.rg, isW x) {i : Nat} (hi : i ≤ 3) : isW (st.r i) := hw _ (List.mem_of_getElem? (St.r_at h hi))
section
variable {P : Program} {w : World} {K : PySem.W.Frag} {mg : Str → Option Value} {base : Heap}
def spComp : Sp := fun vs H Q _ => ∃ (n : Str) (a b : Nat), vs = [.str n, .int (a : Int), .int (b : Int)] ∧ isW a ∧ isW b ∧ Q (optV (compN n a b)) H
theorem sc_computed : FnScope ["name", "first", "second"] ["name", "first", "second"] (defScope s_computed) := ⟨rfl, rfl, rfl, by decide +kernel, rfl, by decide +kernel, by decide +kernel⟩
theorem ok_computed (F : FnF K mg "computed" "computed" s_computed) (C : Cst K mg) : Def P w K mg base 1 "computed" ["name", "first", "second"] spComp := by
  refine Def.of F sc_computed (fun _ _ _ _ _ _ us hl => match us, hl with | [_, _, _], _ => rfl) (fun vs H Q E h => ?_) (fun f cdv A outer s H vs Q E hr h => ?_)
  · obtain ⟨n, a, b, rfl, _⟩ := h; rfl
  · refine ⟨_, pss_cons (ps_if (pt_cmpR op_eq (pv 0) pe_str (nomark _)) (pss_one (ps_ret (pe_op op_mod (pe_op op_add (pv 1) (pv 2)) (pe_gi C.nWORD rfl)))) pss_nil)
      (pss_cons (ps_if (pt_cmpR op_eq (pv 0) pe_str (nomark _)) (pss_one (ps_ret (pe_op op_mod (pe_op op_sub (pv 1) (pv 2)) (pe_gi C.nWORD rfl)))) pss_nil)
      (pss_cons (ps_if (pt_cmpR op_eq (pv 0) pe_str (nomark _)) (pss_one (ps_ret (pe_op op_mod (pe_op op_mul (pv 1) (pv 2)) (pe_gi C.nWORD rfl)))) pss_nil)
      (pss_cons (ps_if (pt_cmpR op_eq (pv 0) pe_str (nomark _)) (pss_one (ps_ret (pe_callTy call_int1 rfl C.int boot_int (pa_cons (pe_cmpR op_lt (pv 1) (pv 2) (nomark _)) pa_nil)))) pss_nil)
      (pss_cons (ps_if (pt_cmpR op_eq (pv 0) pe_str (nomark _)) (pss_one (ps_ret (pe_callTy call_int1 rfl C.int boot_int (pa_cons (pe_cmpR op_eq (pv 1) (pv 2) (nomark _)) pa_nil)))) pss_nil)
      (pss_cons (ps_if (pt_cmpR op_eq (pv 2) pe_int (nomark _)) (pss_one (ps_ret pe_non)) pss_nil)
      (pss_cons (ps_if (pt_cmpR op_eq (pv 0) pe_str (nomark _)) (pss_one (ps_ret (pe_op op_fdivW (pv 1) (pv 2)))) pss_nil)
      (pss_one (ps_ret (pe_op op_mod (pv 1) (pv 2)))))))))), ?_⟩
    obtain ⟨n, a, b, rfl, ha, hb, q⟩ := h
    have ha : a ≤ 4294967295 := ha
    have hb : b ≤ 4294967295 := hb
    have lg : ((b : Int)).natAbs.log2 < 9000 := by
      rw [Int.natAbs_natCast]
      by_cases z : b = 0
      · rw [z]; decide
      · exact Nat.lt_trans ((Nat.log2_lt z).mpr (show b < 2 ^ 33 by omega)) (by decide)
    unfold compN at q
    have fin : ∀ (x : Int) (y : Nat), x = (y : Int) → Q (optV (some y)) H → Q (.int x) H := fun x y e q => by rw [e]; exact q
    refine ⟨_, rfl, rfl, _, rfl, ?_⟩
    rw [sEq]
    by_cases e1 : n = "add"
    · rw [decide_eq_true e1]
      rw [if_pos e1] at q
      exact iteT ⟨_, rfl, _, rfl, _, _, rfl, rfl, _, _, rfl, rfl, (show (0 : Int) < 4294967296 by decide), fin _ _ (by omega) q⟩
    rw [decide_eq_false e1]
    rw [if_neg e1] at q
    refine iteF ⟨_, rfl, rfl, _, rfl, ?_⟩
    rw [sEq]
    by_cases e2 : n = "sub"
    · rw [decide_eq_true e2]
      rw [if_pos e2] at q
      exact iteT ⟨_, rfl, _, rfl, _, _, rfl, rfl, _, _, rfl, rfl, (show (0 : Int) < 4294967296 by decide), fin _ _ (by omega) q⟩
    rw [decide_eq_false e2]
    rw [if_neg e2] at q
    refine iteF ⟨_, rfl, rfl, _, rfl, ?_⟩
    rw [sEq]
    by_cases e3 : n = "mul"
    · rw [decide_eq_true e3]
      rw [if_pos e3] at q
      exact iteT ⟨_, rfl, _, rfl, _, _, rfl, rfl, .inl ⟨by omega, by omega⟩, _, _, rfl, rfl, (show (0 : Int) < 4294967296 by decide), fin _ _ (by rw [← Int.natCast_mul]; omega) q⟩
    rw [decide_eq_false e3]
    rw [if_neg e3] at q
    refine iteF ⟨_, rfl, rfl, _, rfl, ?_⟩
    rw [sEq]
    by_cases e4 : n = "less"
    · rw [decide_eq_true e4]
      rw [if_pos e4] at q
      refine iteT ⟨_, rfl, _, rfl, _, _, rfl, rfl, .inr ⟨_, rfl, fin _ _ ?_ q⟩⟩
      by_cases hlt : a < b
      · rw [decide_eq_true (show (a : Int) < (b : Int) by omega), if_pos hlt]; rfl
      · rw [decide_eq_false (show ¬ (a : Int) < (b : Int) by omega), if_neg hlt]; rfl
    rw [decide_eq_false e4]
    rw [if_neg e4] at q
    refine iteF ⟨_, rfl, rfl, _, rfl, ?_⟩
    rw [sEq]
    by_cases e5 : n = "same"
    · rw [decide_eq_true e5]
      rw [if_pos e5] at q
      refine iteT ⟨_, rfl, _, rfl, rfl, .inr ⟨_, rfl, fin _ _ ?_ q⟩⟩
      rw [nEq]
      by_cases hlt : a = b
      · rw [decide_eq_true hlt, if_pos hlt]; rfl
      · rw [decide_eq_false hlt, if_neg hlt]; rfl
    rw [decide_eq_false e5]
    rw [if_neg e5] at q
    refine iteF ⟨_, rfl, rfl, _, rfl, ?_⟩
    rw [dec_nat0]
    by_cases e6 : b = 0
    · rw [decide_eq_true e6]
      rw [if_pos e6] at q
      exact iteT q
    rw [decide_eq_false e6]
    rw [if_neg e6] at q
    refine iteF ⟨_, rfl, rfl, _, rfl, ?_⟩
    rw [sEq]
    by_cases e7 : n = "div"
    · rw [decide_eq_true e7]
      rw [if_pos e7] at q
      exact iteT ⟨_, rfl, _, rfl, _, _, rfl, rfl, ⟨by omega, lg⟩, fin _ _ (by push_cast; rfl) q⟩
    rw [decide_eq_false e7]
    rw [if_neg e7] at q
    exact iteF ⟨_, rfl, _, rfl, _, _, rfl, rfl, (show (0 : Int) < (b : Int) by omega), fin _ _ (by push_cast; rfl) q⟩
end
end K24
set_option Elab.async false
set_option autoImplicit false
set_option linter.all false
set_option maxRecDepth 100000
set_option maxHeartbeats 4000000
namespace K24
open PySem PySem.Spec PyProof.Rows L2
section
variable {P : Program} {w : World} {K : PySem.W.Frag} {mg : Str → Option Value} {base : Heap}
/-- the operands of an instruction, as they are read -/
theorem code_nm {c : Ins} : ((codeK (some c)).map kV)[0]? = some (.str c.nm) := rfl
theorem code_at {c : Ins} {i x : Nat} (h : c.ar[i]? = some x) : ((codeK (some c)).map kV)[i + 1]? = some (.int (x : Int)) := by
  show ((natK c.ar).map kV)[i]? = _
  rw [natK_map, nats_at h]
theorem a_of {c : Ins} {i x : Nat} (h : c.ar[i]? = some x) : c.a i = x := by
  unfold Ins.a
  rw [List.getD_eq_getElem?_getD, h]
  rfl
def spMem : Sp := fun vs H Q _ => ∃ (ca a : Addr) (c : Ins) (st : St), vs = [.ref ca, .ref a] ∧ CodeAt H ca (some c) ∧ OkIns c ∧ c.nm ∈ twoL ∧ StAt H a st ∧ St4 st ∧ ∀ p H', Same H H' → StAt H' p (memC c st) → Q (.ref p) H'
theorem sc_step_memory : FnScope ["code", "state", "place", "registers", "memory", "position", "written", "status", "index"] ["code", "state"] (defScope s_step_memory) := ⟨rfl, rfl, rfl, by decide +kernel, rfl, by decide +kernel, by decide +kernel⟩
theorem ok_step_memory (F : FnF K mg "step_memory" "step_memory" s_step_memory) (C : Cst K mg) (D1 : Def P w K mg base 1 "with_status" ["state", "status"] spSta) (D2 : Def P w K mg base 1 "with_register" ["state", "number", "word"] spReg) : Def P w K mg base 2 "step_memory" ["code", "state"] spMem := by
  refine Def.of F sc_step_memory (fun _ _ _ _ _ _ us hl => match us, hl with | [_, _], _ => rfl) (fun vs H Q E h => ?_) (fun f cdv A outer s H vs Q E hr h => ?_)
  · obtain ⟨ca, a, c, st, rfl, _⟩ := h; rfl
  · refine ⟨_, pss_cons (ps_asg (pv 1) (pg_tup rfl (pgs_cons (pg_name (i := 2) sc_step_memory.nd rfl (Or.inl rfl)) (pgs_cons (pg_name (i := 3) sc_step_memory.nd rfl (Or.inl rfl)) (pgs_cons (pg_name (i := 4) sc_step_memory.nd rfl (Or.inl rfl)) (pgs_cons (pg_name (i := 5) sc_step_memory.nd rfl (Or.inl rfl)) (pgs_cons (pg_name (i := 6) sc_step_memory.nd rfl (Or.inl rfl)) (pgs_cons (pg_name (i := 7) sc_step_memory.nd rfl (Or.inl rfl)) pgs_nil))))))))
      (pss_cons (ps_set (i := 8) sc_step_memory.nd rfl (Or.inl rfl) (pe_ix ix_tup (pv 3) (pe_ix ix_tup (pv 0) pe_int (fun _ _ => rfl)) (fun _ _ => rfl)))
      (pss_cons (ps_if (pt_cmpR op_ge (pv 8) (pe_gi C.nMEMORY rfl) (nomark _)) (pss_one (ps_ret (pe_d D1 hr rfl (pa_cons (pv 1) (pa_cons (pe_gi C.nFAULT rfl) pa_nil))))) pss_nil)
      (pss_cons (ps_if (pt_cmpR op_eq (pe_ix ix_tup (pv 0) pe_int (fun _ _ => rfl)) pe_str (nomark _)) (pss_one (ps_ret (pe_d D2 hr rfl (pa_cons (pv 1) (pa_cons (pe_ix ix_tup (pv 0) pe_int (fun _ _ => rfl)) (pa_cons (pe_ix ix_tup (pv 4) (pv 8) (fun _ _ => rfl)) pa_nil)))))) pss_nil)
      (pss_cons (ps_set (i := 4) sc_step_memory.nd rfl (Or.inl rfl) (pe_op op_catA (pe_op op_catA (pe_slice sl_tupA (pv 4) po_none (po_some (pv 8))) (pe_tup (pa_cons (pe_ix ix_tup (pv 3) (pe_ix ix_tup (pv 0) pe_int (fun _ _ => rfl)) (fun _ _ => rfl)) pa_nil))) (pe_slice sl_tupA (pv 4) (po_some (pe_op op_add (pv 8) pe_int)) po_none)))
      (pss_one (ps_ret (pe_tup (pa_cons (pe_op op_add (pv 2) pe_int) (pa_cons (pv 3) (pa_cons (pv 4) (pa_cons (pv 5) (pa_cons (pv 6) (pa_cons (pv 7) pa_nil))))))))))))), ?_⟩
    obtain ⟨ca, a, c, st, rfl, hc, oc, hn, hsa, s4, k⟩ := h
    obtain ⟨r, m, u, ha, hrg, hme, hwr⟩ := hsa
    obtain ⟨o1, o2, ear, ho1, ho2⟩ := oc.two hn
    have e0 : c.ar[0]? = some o1 := by rw [ear]; rfl
    have e1 : c.ar[1]? = some o2 := by rw [ear]; rfl
    unfold memC at k
    rw [a_of e0, a_of e1] at k
    refine ⟨_, rfl, a, _, rfl, SqT.of ha, rfl, _, _, rfl, _, _, rfl, _, _, rfl, _, _, rfl, _, _, rfl, _, _, rfl, rfl, ?_⟩
    simp only [L2.start, List.set_cons_succ, List.set_cons_zero, List.map_cons, List.map_nil, List.length_cons, List.length_nil, Nat.reduceAdd, Nat.reduceSub, List.replicate_succ, List.replicate_zero, List.cons_append, List.nil_append]
    refine ⟨_, rfl, _, rfl, ca, _, 2, .int (o2 : Int), rfl, rfl, SqT.of hc, atI_nat (j := 2) (code_at e1), r, _, _, .int (st.r o2 : Int), rfl, rfl, SqT.of hrg, atI_nat (j := o2) (nats_at (St.r_at s4.rgl ho2)), ?_⟩
    refine ⟨_, rfl, _, _, rfl, rfl, _, rfl, ?_⟩
    by_cases h64 : 64 ≤ st.r o2
    · rw [decide_eq_true (show (64 : Int) ≤ (st.r o2 : Int) by omega)]
      rw [if_pos h64] at k
      exact iteT ⟨_, rfl, a, st, 2, rfl, ⟨r, m, u, ha, hrg, hme, hwr⟩, k⟩
    rw [decide_eq_false (show ¬ (64 : Int) ≤ (st.r o2 : Int) by omega)]
    rw [if_neg h64] at k
    refine iteF ⟨_, rfl, ca, _, 0, .str c.nm, rfl, rfl, SqT.of hc, atI_nat (j := 0) code_nm, rfl, _, rfl, ?_⟩
    rw [sEq]
    have hml : st.r o2 < st.me.length := by rw [s4.mel]; omega
    by_cases hl : c.nm = "load"
    · rw [decide_eq_true hl]
      rw [if_pos hl] at k
      refine iteT ⟨_, rfl, _, rfl, ca, _, 1, .int (o1 : Int), rfl, rfl, SqT.of hc, atI_nat (j := 1) (code_at e0), _, rfl, _, rfl, m, _, _, .int (st.me.getD (st.r o2) 0 : Int), rfl, rfl, SqT.of hme, atI_nat (j := st.r o2) (nats_at (getD_at hml)), ?_⟩
      exact ⟨a, st, o1, _, rfl, ⟨r, m, u, ha, hrg, hme, hwr⟩, s4.rgl, ho1, k⟩
    rw [decide_eq_false hl]
    rw [if_neg hl] at k
    refine iteF ⟨_, rfl, _, rfl, _, rfl, slT hme fun p1 H1 s1 h1 => ?_⟩
    refine ⟨_, rfl, _, rfl, ca, _, 1, .int (o1 : Int), rfl, rfl, SqT.of (s1 _ _ hc), atI_nat (j := 1) (code_at e0), r, _, _, .int (st.r o1 : Int), rfl, rfl, SqT.of (s1 _ _ hrg), atI_nat (j := o1) (nats_at (St.r_at s4.rgl ho1)), by show 1 ≤ sizeLine; decide, fun p2 hp2 => ?_⟩
    have s2 := same_new (o := .tup [V.int (st.r o1 : Int)]) hp2
    rw [cut_hi _ (st.r o2) (by rw [nats_len]; omega)] at h1
    have l1 : ((nats st.me).take (st.r o2)).length + [V.int (st.r o1 : Int)].length ≤ sizeLine := by
      rw [List.length_take, nats_len, s4.mel]
      exact Nat.le_trans (show min (st.r o2) 64 + 1 ≤ 65 by omega) (by decide)
    refine catT (s2 _ _ h1) upd_same l1 fun p3 H3 s3 h3 => ?_
    have sa : Same H H3 := (s1.trans s2).trans s3
    refine ⟨_, rfl, _, rfl, _, _, rfl, rfl, _, rfl, slTn (sa _ _ hme) fun p4 H4 s5 h4 => ?_⟩
    have e4 : ((st.r o2 : Int) + 1) = ((st.r o2 + 1 : Nat) : Int) := rfl
    rw [e4, cut_lo _ (st.r o2 + 1) (by rw [nats_len]; omega)] at h4
    refine catT (s5 _ _ h3) h4 (by
      rw [List.length_append, List.length_take, List.length_drop, nats_len, s4.mel]
      exact Nat.le_trans (show min (st.r o2) 64 + 1 + (64 - (st.r o2 + 1)) ≤ 200 by omega) (by decide)) fun p5 H5 s6 h5 => ?_
    rw [set_cut _ _ _ hml] at h5
    refine ⟨_, rfl, _, _, rfl, rfl, _, rfl, _, rfl, _, rfl, _, rfl, _, rfl, by show 6 ≤ sizeLine; decide, fun p hp => ?_⟩
    have sb : Same H H5 := (sa.trans s5).trans s6
    have s7 := same_new (o := .tup (stV { st with pl := st.pl + 1, me := st.me.set (st.r o2) (st.r o1) } r p5 u)) hp
    exact k p _ (sb.trans s7) ⟨r, p5, u, upd_same, s7 _ _ (sb _ _ hrg), s7 _ _ h5, s7 _ _ (sb _ _ hwr)⟩
def spInp : Sp := fun vs H Q _ => ∃ (ca wa a : Addr) (c : Ins) (ws : List Nat) (st : St), vs = [.ref ca, .ref wa, .ref a] ∧ CodeAt H ca (some c) ∧ OkIns c ∧ c.nm ∈ oneL ∧ WdAt H wa ws ∧ ws.length ≤ 64 ∧ st.po ≤ ws.length ∧ StAt H a st ∧ St4 st ∧ ∀ p H', Same H H' → StAt H' p (inpC c ws st) → Q (.ref p) H'
theorem sc_step_input : FnScope ["code", "words", "state", "place", "registers", "memory", "position", "written", "status"] ["code", "words", "state"] (defScope s_step_input) := ⟨rfl, rfl, rfl, by decide +kernel, rfl, by decide +kernel, by decide +kernel⟩
theorem ok_step_input (F : FnF K mg "step_input" "step_input" s_step_input) (C : Cst K mg) (D1 : Def P w K mg base 1 "with_status" ["state", "status"] spSta) (D2 : Def P w K mg base 1 "with_register" ["state", "number", "word"] spReg) : Def P w K mg base 2 "step_input" ["code", "words", "state"] spInp := by
  refine Def.of F sc_step_input (fun _ _ _ _ _ _ us hl => match us, hl with | [_, _, _], _ => rfl) (fun vs H Q E h => ?_) (fun f cdv A outer s H vs Q E hr h => ?_)
  · obtain ⟨ca, wa, a, c, ws, st, rfl, _⟩ := h; rfl
  · refine ⟨_, pss_cons (ps_asg (pv 2) (pg_tup rfl (pgs_cons (pg_name (i := 3) sc_step_input.nd rfl (Or.inl rfl)) (pgs_cons (pg_name (i := 4) sc_step_input.nd rfl (Or.inl rfl)) (pgs_cons (pg_name (i := 5) sc_step_input.nd rfl (Or.inl rfl)) (pgs_cons (pg_name (i := 6) sc_step_input.nd rfl (Or.inl rfl)) (pgs_cons (pg_name (i := 7) sc_step_input.nd rfl (Or.inl rfl)) (pgs_cons (pg_name (i := 8) sc_step_input.nd rfl (Or.inl rfl)) pgs_nil))))))))
      (pss_cons (ps_if (pt_cmpR op_eq (pe_ix ix_tup (pv 0) pe_int (fun _ _ => rfl)) pe_str (nomark _)) (pss_one (ps_ret (pe_d D2 hr rfl (pa_cons (pv 2) (pa_cons (pe_ix ix_tup (pv 0) pe_int (fun _ _ => rfl)) (pa_cons (pe_op op_sub (pe_callB call_len_seq rfl C.len PySem.boot_len (pa_cons (pv 1) pa_nil)) (pv 6)) pa_nil)))))) pss_nil)
      (pss_cons (ps_if (pt_cmpR op_eq (pe_ix ix_tup (pv 0) pe_int (fun _ _ => rfl)) pe_str (nomark _)) (pss_one (ps_ret (pe_tup (pa_cons (pe_op op_add (pv 3) pe_int) (pa_cons (pv 4) (pa_cons (pv 5) (pa_cons (pv 6) (pa_cons (pe_op op_catA (pv 7) (pe_tup (pa_cons (pe_ix ix_tup (pv 4) (pe_ix ix_tup (pv 0) pe_int (fun _ _ => rfl)) (fun _ _ => rfl)) pa_nil))) (pa_cons (pv 8) pa_nil))))))))) pss_nil)
      (pss_cons (ps_if (pt_cmpR op_ge (pv 6) (pe_callB call_len_seq rfl C.len PySem.boot_len (pa_cons (pv 1) pa_nil)) (nomark _)) (pss_one (ps_ret (pe_d D1 hr rfl (pa_cons (pv 2) (pa_cons (pe_gi C.nFAULT rfl) pa_nil))))) pss_nil)
      (pss_cons (ps_asg (pe_d D2 hr rfl (pa_cons (pv 2) (pa_cons (pe_ix ix_tup (pv 0) pe_int (fun _ _ => rfl)) (pa_cons (pe_ix ix_tup (pv 1) (pv 6) (fun _ _ => rfl)) pa_nil)))) (pg_tup rfl (pgs_cons (pg_name (i := 3) sc_step_input.nd rfl (Or.inl rfl)) (pgs_cons (pg_name (i := 4) sc_step_input.nd rfl (Or.inl rfl)) (pgs_cons (pg_name (i := 5) sc_step_input.nd rfl (Or.inl rfl)) (pgs_cons (pg_name (i := 6) sc_step_input.nd rfl (Or.inl rfl)) (pgs_cons (pg_name (i := 7) sc_step_input.nd rfl (Or.inl rfl)) (pgs_cons (pg_name (i := 8) sc_step_input.nd rfl (Or.inl rfl)) pgs_nil))))))))
      (pss_one (ps_ret (pe_tup (pa_cons (pv 3) (pa_cons (pv 4) (pa_cons (pv 5) (pa_cons (pe_op op_add (pv 6) pe_int) (pa_cons (pv 7) (pa_cons (pv 8) pa_nil))))))))))))), ?_⟩
    obtain ⟨ca, wa, a, c, ws, st, rfl, hc, oc, hn, hws, hw64, hpo, hsa, s4, k⟩ := h
    obtain ⟨r, m, u, ha, hrg, hme, hwr⟩ := id hsa
    obtain ⟨o1, ear, ho1⟩ := oc.one hn
    have e0 : c.ar[0]? = some o1 := by rw [ear]; rfl
    unfold inpC at k
    rw [a_of e0] at k
    refine ⟨_, rfl, a, _, rfl, SqT.of ha, rfl, _, _, rfl, _, _, rfl, _, _, rfl, _, _, rfl, _, _, rfl, _, _, rfl, rfl, ?_⟩
    simp only [L2.start, List.set_cons_succ, List.set_cons_zero, List.map_cons, List.map_nil, List.length_cons, List.length_nil, Nat.reduceAdd, Nat.reduceSub, List.replicate_succ, List.replicate_zero, List.cons_append, List.nil_append]
    refine ⟨_, rfl, ca, _, 0, .str c.nm, rfl, rfl, SqT.of hc, atI_nat (j := 0) code_nm, rfl, _, rfl, ?_⟩
    rw [sEq]
    by_cases h1 : c.nm = "left"
    · rw [decide_eq_true h1]
      rw [if_pos h1] at k
      refine iteT ⟨_, rfl, _, rfl, ca, _, 1, .int (o1 : Int), rfl, rfl, SqT.of hc, atI_nat (j := 1) (code_at e0), _, rfl, wa, _, rfl, .inr (SqT.of hws), _, rfl, _, _, rfl, rfl, a, st, o1, ws.length - st.po, ?_, hsa, s4.rgl, ho1, k⟩
      rw [nats_len]
      have e : (ws.length : Int) - (st.po : Int) = ((ws.length - st.po : Nat) : Int) := by omega
      show [V.ref a, V.int (o1 : Int), V.int ((ws.length : Int) - (st.po : Int))] = _
      rw [e]
    rw [decide_eq_false h1]
    rw [if_neg h1] at k
    refine iteF ⟨_, rfl, ca, _, 0, .str c.nm, rfl, rfl, SqT.of hc, atI_nat (j := 0) code_nm, rfl, _, rfl, ?_⟩
    rw [sEq]
    by_cases h2 : c.nm = "write"
    · rw [decide_eq_true h2]
      rw [if_pos h2] at k
      refine iteT ⟨_, rfl, _, _, rfl, rfl, _, rfl, _, rfl, _, rfl, _, rfl, _, rfl, _, rfl, ca, _, 1, .int (o1 : Int), rfl, rfl, SqT.of hc, atI_nat (j := 1) (code_at e0), r, _, _, .int (st.r o1 : Int), rfl, rfl, SqT.of hrg, atI_nat (j := o1) (nats_at (St.r_at s4.rgl ho1)), by show 1 ≤ sizeLine; decide, fun p1 hp1 => ?_⟩
      have s1 := same_new (o := .tup [V.int (st.r o1 : Int)]) hp1
      refine catT (s1 _ _ hwr) upd_same (by
        rw [nats_len]
        exact Nat.le_trans (show st.wr.length + 1 ≤ 2001 by have := s4.wrl; omega) (by decide)) fun p2 H2 s2 h2 => ?_
      rw [nats_snoc] at h2
      have sa := s1.trans s2
      refine ⟨_, rfl, by show 6 ≤ sizeLine; decide, fun p hp => ?_⟩
      have s7 := same_new (o := .tup (stV { st with pl := st.pl + 1, wr := st.wr ++ [st.r o1] } r m p2)) hp
      exact k p _ (sa.trans s7) ⟨r, m, p2, upd_same, s7 _ _ (sa _ _ hrg), s7 _ _ (sa _ _ hme), s7 _ _ h2⟩
    rw [decide_eq_false h2]
    rw [if_neg h2] at k
    refine iteF ⟨_, rfl, _, rfl, wa, _, rfl, .inr (SqT.of hws), _, _, rfl, rfl, _, rfl, ?_⟩
    rw [nats_len]
    by_cases h3 : ws.length ≤ st.po
    · rw [decide_eq_true (show (ws.length : Int) ≤ (st.po : Int) by omega)]
      rw [if_pos h3] at k
      exact iteT ⟨_, rfl, a, st, 2, rfl, hsa, k⟩
    rw [decide_eq_false (show ¬ (ws.length : Int) ≤ (st.po : Int) by omega)]
    rw [if_neg h3] at k
    have hpl : st.po < ws.length := by omega
    refine iteF ⟨_, rfl, _, rfl, ca, _, 1, .int (o1 : Int), rfl, rfl, SqT.of hc, atI_nat (j := 1) (code_at e0), _, rfl, _, rfl, wa, _, _, .int (ws.getD st.po 0 : Int), rfl, rfl, SqT.of hws, atI_nat (j := st.po) (nats_at (getD_at hpl)), ?_⟩
    refine ⟨a, st, o1, _, rfl, hsa, s4.rgl, ho1, fun p1 H1 s1 h1 => ?_⟩
    obtain ⟨r1, m1, u1, q1, q2, q3, q4⟩ := h1
    refine ⟨p1, _, rfl, SqT.of q1, rfl, _, _, rfl, _, _, rfl, _, _, rfl, _, _, rfl, _, _, rfl, _, _, rfl, rfl, ?_⟩
    simp only [L2.start, List.set_cons_succ, List.set_cons_zero, List.map_cons, List.map_nil, List.length_cons, List.length_nil, Nat.reduceAdd, Nat.reduceSub, List.replicate_succ, List.replicate_zero, List.cons_append, List.nil_append]
    refine ⟨_, rfl, _, rfl, _, rfl, _, rfl, _, _, rfl, rfl, _, rfl, _, rfl, by show 6 ≤ sizeLine; decide, fun p hp => ?_⟩
    have s7 := same_new (o := .tup (stV { st.reg o1 (ws.getD st.po 0) with po := st.po + 1 } r1 m1 u1)) hp
    exact k p _ (s1.trans s7) ⟨r1, m1, u1, upd_same, s7 _ _ q2, s7 _ _ q3, s7 _ _ q4⟩
end
end K24
set_option Elab.async false
set_option autoImplicit false
set_option linter.all false
set_option maxRecDepth 100000
set_option maxHeartbeats 4000000
namespace K24
open PySem PySem.Spec PyProof.Rows L2
section
variable {P : Program} {w : World} {K : PySem.W.Frag} {mg : Str → Option Value} {base : Heap}
def spStepC : Sp := fun vs H Q _ => ∃ (ca wa a : Addr) (c : Ins) (ws : List Nat) (st : St), vs = [.ref ca, .ref wa, .ref a] ∧ CodeAt H ca (some c) ∧ OkIns c ∧ WdAt H wa ws ∧ ws.length ≤ 64 ∧ st.po ≤ ws.length ∧ StAt H a st ∧ St4 st ∧ ∀ p H', Same H H' → StAt H' p (stepC c ws st) → Q (.ref p) H'
theorem sc_step_code : FnScope ["code", "words", "state", "name", "registers", "result"] ["code", "words", "state"] (defScope s_step_code) := ⟨rfl, rfl, rfl, by decide +kernel, rfl, by decide +kernel, by decide +kernel⟩
theorem ok_step_code (F : FnF K mg "step_code" "step_code" s_step_code) (C : Cst K mg) (D1 : Def P w K mg base 1 "with_status" ["state", "status"] spSta) (D2 : Def P w K mg base 1 "with_register" ["state", "number", "word"] spReg) (D3 : Def P w K mg base 1 "with_place" ["state", "place"] spPlc)
    (D4 : Def P w K mg base 2 "step_memory" ["code", "state"] spMem) (D5 : Def P w K mg base 2 "step_input" ["code", "words", "state"] spInp) (D6 : Def P w K mg base 1 "computed" ["name", "first", "second"] spComp) : Def P w K mg base 3 "step_code" ["code", "words", "state"] spStepC := by
  obtain ⟨a1, g1, t1⟩ := C.tONE
  refine Def.of F sc_step_code (fun _ _ _ _ _ _ us hl => match us, hl with | [_, _, _], _ => rfl) (fun vs H Q E h => ?_) (fun f cdv A outer s H vs Q E hr h => ?_)
  · obtain ⟨ca, wa, a, c, ws, st, rfl, _⟩ := h; rfl
  · have hr1 : Room 1 (A.deeper (envOfC "step_code" (defScope s_step_code) s.heap.objs.size f cdv)) := hr.mono (by decide)
    refine ⟨_, pss_cons (ps_set (i := 3) sc_step_code.nd rfl (Or.inl rfl) (pe_ix ix_tup (pv 0) pe_int (fun _ _ => rfl)))
      (pss_cons (ps_set (i := 4) sc_step_code.nd rfl (Or.inl rfl) (pe_ix ix_tup (pv 2) pe_int (fun _ _ => rfl)))
      (pss_cons (ps_if (pt_cmpR op_eq (pv 3) pe_str (nomark _)) (pss_one (ps_ret (pe_d D1 hr1 rfl (pa_cons (pv 2) (pa_cons (pe_gi C.nSTOPPED rfl) pa_nil))))) pss_nil)
      (pss_cons (ps_if (pt_cmpR op_eq (pv 3) pe_str (nomark _)) (pss_one (ps_ret (pe_d D2 hr1 rfl (pa_cons (pv 2) (pa_cons (pe_ix ix_tup (pv 0) pe_int (fun _ _ => rfl)) (pa_cons (pe_ix ix_tup (pv 0) pe_int (fun _ _ => rfl)) pa_nil)))))) pss_nil)
      (pss_cons (ps_if (pt_cmpR op_eq (pv 3) pe_str (nomark _)) (pss_one (ps_ret (pe_d D2 hr1 rfl (pa_cons (pv 2) (pa_cons (pe_ix ix_tup (pv 0) pe_int (fun _ _ => rfl)) (pa_cons (pe_ix ix_tup (pv 4) (pe_ix ix_tup (pv 0) pe_int (fun _ _ => rfl)) (fun _ _ => rfl)) pa_nil)))))) pss_nil)
      (pss_cons (ps_if (pt_cmpR op_eq (pv 3) pe_str (nomark _)) (pss_one (ps_ret (pe_d D3 hr1 rfl (pa_cons (pv 2) (pa_cons (pe_ix ix_tup (pv 0) pe_int (fun _ _ => rfl)) pa_nil))))) pss_nil)
      (pss_cons (ps_if (pt_cmpR op_eq (pv 3) pe_str (nomark _)) (pss_one (ps_ret (pe_d D3 hr1 rfl (pa_cons (pv 2) (pa_cons (pe_ifExp (pt_cmpR op_eq (pe_ix ix_tup (pv 4) (pe_ix ix_tup (pv 0) pe_int (fun _ _ => rfl)) (fun _ _ => rfl)) pe_int (nomark _)) (pe_ix ix_tup (pv 0) pe_int (fun _ _ => rfl)) (pe_op op_add (pe_ix ix_tup (pv 2) pe_int (fun _ _ => rfl)) pe_int)) pa_nil))))) pss_nil)
      (pss_cons (ps_if (PW.pt (pw_or (pt_cmpR op_eq (pv 3) pe_str (nomark _)) (pw_or1 (pt_cmpR op_eq (pv 3) pe_str (nomark _))))) (pss_one (ps_ret (pe_d D4 hr rfl (pa_cons (pv 0) (pa_cons (pv 2) pa_nil))))) pss_nil)
      (pss_cons (ps_if (pt_cmpR op_in_seq (pv 3) (pe_gr g1 rfl) rfl) (pss_one (ps_ret (pe_d D5 hr rfl (pa_cons (pv 0) (pa_cons (pv 1) (pa_cons (pv 2) pa_nil)))))) pss_nil)
      (pss_cons (ps_set (i := 5) sc_step_code.nd rfl (Or.inl rfl) (pe_d D6 hr1 rfl (pa_cons (pv 3) (pa_cons (pe_ix ix_tup (pv 4) (pe_ix ix_tup (pv 0) pe_int (fun _ _ => rfl)) (fun _ _ => rfl)) (pa_cons (pe_ix ix_tup (pv 4) (pe_ix ix_tup (pv 0) pe_int (fun _ _ => rfl)) (fun _ _ => rfl)) pa_nil)))))
      (pss_cons (ps_if (pt_cmpR op_isN (pv 5) pe_non (nomark _)) (pss_one (ps_ret (pe_d D1 hr1 rfl (pa_cons (pv 2) (pa_cons (pe_gi C.nFAULT rfl) pa_nil))))) pss_nil)
      (pss_one (ps_ret (pe_d D2 hr1 rfl (pa_cons (pv 2) (pa_cons (pe_ix ix_tup (pv 0) pe_int (fun _ _ => rfl)) (pa_cons (pv 5) pa_nil)))))))))))))))), ?_⟩
    obtain ⟨ca, wa, a, c, ws, st, rfl, hc, oc, hws, hw64, hpo, hsa, s4, k⟩ := h
    obtain ⟨r, m, u, ha, hrg, hme, hwr⟩ := id hsa
    unfold stepC at k
    refine ⟨_, rfl, ca, _, 0, .str c.nm, rfl, rfl, SqT.of hc, atI_nat (j := 0) code_nm, ?_⟩
    refine ⟨_, rfl, a, _, 1, .ref r, rfl, rfl, SqT.of ha, atI_nat (j := 1) rfl, ?_⟩
    simp only [L2.start, List.set_cons_succ, List.set_cons_zero, List.map_cons, List.map_nil, List.length_cons, List.length_nil, Nat.reduceAdd, Nat.reduceSub, List.replicate_succ, List.replicate_zero, List.cons_append, List.nil_append]
    refine ⟨_, rfl, rfl, _, rfl, ?_⟩
    rw [sEq]
    by_cases n1 : c.nm = "stop"
    · rw [decide_eq_true n1]
      rw [if_pos n1] at k
      exact iteT ⟨_, rfl, a, st, 1, rfl, hsa, k⟩
    rw [decide_eq_false n1]
    rw [if_neg n1] at k
    refine iteF ⟨_, rfl, rfl, _, rfl, ?_⟩
    rw [sEq]
    by_cases n2 : c.nm = "set"
    · rw [decide_eq_true n2]
      rw [if_pos n2] at k
      obtain ⟨o1, o2, ear, h1, h2⟩ := oc.set n2
      have e0 : c.ar[0]? = some o1 := by rw [ear]; rfl
      have e1 : c.ar[1]? = some o2 := by rw [ear]; rfl
      rw [a_of e0, a_of e1] at k
      refine iteT ⟨_, rfl, _, rfl, ca, _, 1, .int (o1 : Int), rfl, rfl, SqT.of hc, atI_nat (j := 1) (code_at e0), _, rfl, ca, _, 2, .int (o2 : Int), rfl, rfl, SqT.of hc, atI_nat (j := 2) (code_at e1), ?_⟩
      exact ⟨a, st, o1, o2, rfl, hsa, s4.rgl, h1, k⟩
    rw [decide_eq_false n2]
    rw [if_neg n2] at k
    refine iteF ⟨_, rfl, rfl, _, rfl, ?_⟩
    rw [sEq]
    by_cases n3 : c.nm = "copy"
    · rw [decide_eq_true n3]
      rw [if_pos n3] at k
      obtain ⟨o1, o2, ear, h1, h2⟩ := oc.two (by rw [n3]; decide +kernel)
      have e0 : c.ar[0]? = some o1 := by rw [ear]; rfl
      have e1 : c.ar[1]? = some o2 := by rw [ear]; rfl
      rw [a_of e0, a_of e1] at k
      refine iteT ⟨_, rfl, _, rfl, ca, _, 1, .int (o1 : Int), rfl, rfl, SqT.of hc, atI_nat (j := 1) (code_at e0), _, rfl, _, rfl, ca, _, 2, .int (o2 : Int), rfl, rfl, SqT.of hc, atI_nat (j := 2) (code_at e1), r, _, _, .int (st.r o2 : Int), rfl, rfl, SqT.of hrg, atI_nat (j := o2) (nats_at (St.r_at s4.rgl h2)), ?_⟩
      exact ⟨a, st, o1, _, rfl, hsa, s4.rgl, h1, k⟩
    rw [decide_eq_false n3]
    rw [if_neg n3] at k
    refine iteF ⟨_, rfl, rfl, _, rfl, ?_⟩
    rw [sEq]
    by_cases n4 : c.nm = "jump"
    · rw [decide_eq_true n4]
      rw [if_pos n4] at k
      obtain ⟨o1, ear, h1⟩ := oc.jump n4
      have e0 : c.ar[0]? = some o1 := by rw [ear]; rfl
      rw [a_of e0] at k
      refine iteT ⟨_, rfl, _, rfl, ca, _, 1, .int (o1 : Int), rfl, rfl, SqT.of hc, atI_nat (j := 1) (code_at e0), ?_⟩
      exact ⟨a, st, o1, rfl, hsa, k⟩
    rw [decide_eq_false n4]
    rw [if_neg n4] at k
    refine iteF ⟨_, rfl, rfl, _, rfl, ?_⟩
    rw [sEq]
    by_cases n5 : c.nm = "zero"
    · rw [decide_eq_true n5]
      rw [if_pos n5] at k
      obtain ⟨o1, o2, ear, h1, h2⟩ := oc.zero n5
      have e0 : c.ar[0]? = some o1 := by rw [ear]; rfl
      have e1 : c.ar[1]? = some o2 := by rw [ear]; rfl
      rw [a_of e0, a_of e1] at k
      refine iteT ⟨_, rfl, _, rfl, _, rfl, ca, _, 1, .int (o1 : Int), rfl, rfl, SqT.of hc, atI_nat (j := 1) (code_at e0), r, _, _, .int (st.r o1 : Int), rfl, rfl, SqT.of hrg, atI_nat (j := o1) (nats_at (St.r_at s4.rgl h1)), rfl, _, rfl, ?_⟩
      rw [dec_nat0]
      by_cases z : st.r o1 = 0
      · rw [decide_eq_true z]
        rw [if_pos z] at k
        refine iteT ⟨_, rfl, ca, _, 2, .int (o2 : Int), rfl, rfl, SqT.of hc, atI_nat (j := 2) (code_at e1), ?_⟩
        exact ⟨a, st, o2, rfl, hsa, k⟩
      · rw [decide_eq_false z]
        rw [if_neg z] at k
        refine iteF ⟨_, rfl, a, _, 0, .int (st.pl : Int), rfl, rfl, SqT.of ha, atI_nat (j := 0) rfl, _, _, rfl, rfl, ?_⟩
        exact ⟨a, st, st.pl + 1, rfl, hsa, k⟩
    rw [decide_eq_false n5]
    rw [if_neg n5] at k
    have two : c.nm = "load" ∨ c.nm = "store" → c.nm ∈ twoL := fun h => by
      rcases h with e | e <;> rw [e] <;> decide +kernel
    refine iteF ⟨_, rfl, rfl, _, rfl, ?_⟩
    rw [sEq]
    by_cases n6 : c.nm = "load"
    · rw [decide_eq_true n6]
      rw [if_pos (.inl n6)] at k
      exact iteT ⟨_, rfl, _, rfl, ca, a, c, st, rfl, hc, oc, two (.inl n6), hsa, s4, k⟩
    rw [decide_eq_false n6]
    refine iteF ⟨_, rfl, rfl, _, rfl, ?_⟩
    rw [sEq]
    by_cases n7 : c.nm = "store"
    · rw [decide_eq_true n7]
      rw [if_pos (.inr n7)] at k
      exact iteT ⟨_, rfl, _, rfl, ca, a, c, st, rfl, hc, oc, two (.inr n7), hsa, s4, k⟩
    rw [decide_eq_false n7]
    rw [if_neg (fun h => h.elim n6 n7)] at k
    refine iteF ⟨_, rfl, a1, _, rfl, .inr (t1 H), rfl, flat_strs _, _, rfl, ?_⟩
    rw [if_neg (by decide), inV_strs]
    by_cases n8 : c.nm ∈ oneL
    · rw [decide_eq_true n8]
      rw [if_pos n8] at k
      exact iteT ⟨_, rfl, _, rfl, _, rfl, ca, wa, a, c, ws, st, rfl, hc, oc, n8, hws, hw64, hpo, hsa, s4, k⟩
    rw [decide_eq_false n8]
    rw [if_neg n8] at k
    have all : ∀ n ∈ namesL, n ∈ threeL ∨ n = "stop" ∨ n = "set" ∨ n = "copy" ∨ n = "jump" ∨ n = "zero" ∨ n = "load" ∨ n = "store" ∨ n ∈ oneL := by decide +kernel
    have n9 : c.nm ∈ threeL := by
      rcases all _ oc.nm with e | e | e | e | e | e | e | e | e
      · exact e
      · exact absurd e n1
      · exact absurd e n2
      · exact absurd e n3
      · exact absurd e n4
      · exact absurd e n5
      · exact absurd e n6
      · exact absurd e n7
      · exact absurd e n8
    obtain ⟨o1, o2, o3, ear, h1, h2, h3⟩ := oc.three n9
    have e0 : c.ar[0]? = some o1 := by rw [ear]; rfl
    have e1 : c.ar[1]? = some o2 := by rw [ear]; rfl
    have e2 : c.ar[2]? = some o3 := by rw [ear]; rfl
    rw [a_of e0, a_of e1, a_of e2] at k
    refine iteF ⟨_, rfl, _, rfl, _, rfl, ca, _, 2, .int (o2 : Int), rfl, rfl, SqT.of hc, atI_nat (j := 2) (code_at e1), r, _, _, .int (st.r o2 : Int), rfl, rfl, SqT.of hrg, atI_nat (j := o2) (nats_at (St.r_at s4.rgl h2)), ?_⟩
    refine ⟨_, rfl, _, rfl, ca, _, 3, .int (o3 : Int), rfl, rfl, SqT.of hc, atI_nat (j := 3) (code_at e2), r, _, _, .int (st.r o3 : Int), rfl, rfl, SqT.of hrg, atI_nat (j := o3) (nats_at (St.r_at s4.rgl h3)), ?_⟩
    refine ⟨c.nm, st.r o2, st.r o3, rfl, St.r_w s4.rgl s4.rg h2, St.r_w s4.rgl s4.rg h3, ?_⟩
    simp only [List.set_cons_succ, List.set_cons_zero]
    generalize compN c.nm (st.r o2) (st.r o3) = res at k
    refine ⟨_, rfl, rfl, _, rfl, ?_⟩
    cases res with
    | none =>
      rw [decide_eq_true (show optV none = V.non from rfl)]
      exact iteT ⟨_, rfl, a, st, 2, rfl, hsa, k⟩
    | some v =>
      rw [decide_eq_false (fun z => nomatch z)]
      refine iteF ⟨_, rfl, _, rfl, ca, _, 1, .int (o1 : Int), rfl, rfl, SqT.of hc, atI_nat (j := 1) (code_at e0), _, rfl, ?_⟩
      exact ⟨a, st, o1, v, rfl, hsa, s4.rgl, h1, k⟩
def spStep : Sp := fun vs H Q _ => ∃ (pa wa a : Addr) (p : List Ins) (ws : List Nat) (st : St), vs = [.ref pa, .ref wa, .ref a] ∧ PrAt H pa p ∧ (∀ c ∈ p, OkIns c) ∧ WdAt H wa ws ∧ ws.length ≤ 64 ∧ st.po ≤ ws.length ∧ StAt H a st ∧ St4 st ∧ ∀ q H', Same H H' → StAt H' q (stepS p ws st) → Q (.ref q) H'
theorem sc_step : FnScope ["program", "words", "state"] ["program", "words", "state"] (defScope s_step) := ⟨rfl, rfl, rfl, by decide +kernel, rfl, by decide +kernel, by decide +kernel⟩
theorem ok_step (F : FnF K mg "step" "step" s_step) (C : Cst K mg) (D1 : Def P w K mg base 1 "with_status" ["state", "status"] spSta) (D2 : Def P w K mg base 3 "step_code" ["code", "words", "state"] spStepC) : Def P w K mg base 4 "step" ["program", "words", "state"] spStep := by
  refine Def.of F sc_step (fun _ _ _ _ _ _ us hl => match us, hl with | [_, _, _], _ => rfl) (fun vs H Q E h => ?_) (fun f cdv A outer s H vs Q E hr h => ?_)
  · obtain ⟨pa, wa, a, p, ws, st, rfl, _⟩ := h; rfl
  · refine ⟨_, pss_cons (ps_if (pt_cmpR op_ne (pe_ix ix_tup (pv 2) pe_int (fun _ _ => rfl)) (pe_gi C.nRUNS rfl) (nomark _)) (pss_one (ps_ret (pv 2))) pss_nil)
      (pss_cons (ps_if (pt_cmpR op_ge (pe_ix ix_tup (pv 2) pe_int (fun _ _ => rfl)) (pe_callB call_len_seq rfl C.len PySem.boot_len (pa_cons (pv 0) pa_nil)) (nomark _)) (pss_one (ps_ret (pe_d D1 (hr.mono (by decide)) rfl (pa_cons (pv 2) (pa_cons (pe_gi C.nFAULT rfl) pa_nil))))) pss_nil)
      (pss_one (ps_ret (pe_d D2 hr rfl (pa_cons (pe_ix ix_tup (pv 0) (pe_ix ix_tup (pv 2) pe_int (fun _ _ => rfl)) (fun _ _ => rfl)) (pa_cons (pv 1) (pa_cons (pv 2) pa_nil))))))), ?_⟩
    obtain ⟨pa, wa, a, p, ws, st, rfl, hp, oc, hws, hw64, hpo, hsa, s4, k⟩ := h
    obtain ⟨r, m, u, ha, hrg, hme, hwr⟩ := id hsa
    obtain ⟨as, hp1, hp2⟩ := hp.len
    unfold stepS at k
    refine ⟨_, rfl, a, _, 5, .int (st.ss : Int), rfl, rfl, SqT.of ha, atI_nat (j := 5) rfl, rfl, _, rfl, ?_⟩
    rw [dec_nat0]
    by_cases z : st.ss = 0
    · rw [decide_eq_true z]
      rw [if_neg (fun n => n z)] at k
      refine iteF ⟨_, rfl, a, _, 0, .int (st.pl : Int), rfl, rfl, SqT.of ha, atI_nat (j := 0) rfl, _, rfl, pa, _, rfl, .inr (SqT.of hp1), _, _, rfl, rfl, _, rfl, ?_⟩
      rw [hp2]
      by_cases hl : p.length ≤ st.pl
      · rw [decide_eq_true (show (p.length : Int) ≤ (st.pl : Int) by omega)]
        rw [List.getElem?_eq_none hl] at k
        exact iteT ⟨_, rfl, a, st, 2, rfl, hsa, k⟩
      · rw [decide_eq_false (show ¬ (p.length : Int) ≤ (st.pl : Int) by omega)]
        have hlt : st.pl < p.length := by omega
        rw [List.getElem?_eq_getElem hlt] at k
        obtain ⟨as2, x, q1, q2, q3⟩ := hp.get (List.getElem?_eq_getElem hlt)
        refine iteF ⟨_, rfl, _, rfl, a, _, 0, .int (st.pl : Int), rfl, rfl, SqT.of ha, atI_nat (j := 0) rfl, pa, _, _, .ref x, rfl, rfl, SqT.of q1, atI_nat (j := st.pl) q2, _, rfl, _, rfl, ?_⟩
        exact ⟨x, wa, a, p[st.pl], ws, st, rfl, q3, oc _ (List.getElem_mem _), hws, hw64, hpo, hsa, s4, k⟩
    · rw [decide_eq_false z]
      rw [if_pos z] at k
      exact iteT ⟨_, rfl, k a H (Same.refl H) hsa⟩
end
end K24
set_option Elab.async false
set_option autoImplicit false
set_option linter.all false
set_option maxRecDepth 100000
set_option maxHeartbeats 4000000
namespace K24
open PySem PySem.Spec PyProof.Rows L2
/-- words, filled up to 64 -/
def pad (ws : List Nat) : List Nat := ws ++ List.replicate (64 - ws.length) 0
theorem pad_len {ws : List Nat} (h : ws.length ≤ 64) : (pad ws).length = 64 := by
  unfold pad
  rw [List.length_append, List.length_replicate]
  omega
theorem pad_full {ws : List Nat} (h : ws.length = 64) : pad ws = ws := by
  unfold pad
  rw [h]
  simp
theorem pad_at {ws : List Nat} {i x : Nat} (h : ws[i]? = some x) : (pad ws)[i]? = some x := by
  unfold pad
  rw [List.getElem?_append_left (List.getElem?_eq_some_iff.mp h).1]
  exact h
theorem pad_w {ws : List Nat} (h : ∀ x ∈ ws, isW x) : ∀ x ∈ pad ws, isW x := fun x hx => by
  rcases List.mem_append.mp hx with e | e
  · exact h x e
  · rw [List.eq_of_mem_replicate e]
    exact Nat.zero_le _
/-- leaves of any kind -/
structure Lv (b : Book) (f : Nat → Parts) (n : Nat) (ls : List Nat) : Prop where
  len : ls.length = n
  at_ : ∀ i, i < n → ls[i]? = some (findB b (f i)) ∧ findB b (f i) ≠ 0
theorem Lv.ext {b b' : Book} (e : Ext b b') {f : Nat → Parts} {n : Nat} {ls : List Nat} (h : Lv b f n ls) : Lv b' f n ls :=
  ⟨h.len, fun i hi => by
    obtain ⟨h1, h2⟩ := h.at_ i hi
    rw [e.find h2]
    exact ⟨h1, h2⟩⟩
theorem Lv.det {b : Book} {f : Nat → Parts} {n : Nat} {ls ls' : List Nat} (h : Lv b f n ls) (h' : Lv b f n ls') : ls = ls' := by
  refine List.ext_getElem? fun i => ?_
  by_cases hi : i < n
  · rw [(h.at_ i hi).1, (h'.at_ i hi).1]
  · rw [List.getElem?_eq_none (by rw [h.len]; omega), List.getElem?_eq_none (by rw [h'.len]; omega)]
theorem Sealed.lv {CN : Addr} {nt : Nt} {H1 H : Hp} {D : Addr} {b b' : Book} {f : Nat → Parts} {n : Nat} {zs : List Nat} (S : Sealed CN nt H1 D b f n H zs b') : Lv b' f n zs := by
  refine ⟨S.len, fun i hi => ?_⟩
  have e := List.getElem?_eq_getElem (l := zs) (i := i) (by rw [S.len]; exact hi)
  obtain ⟨_, z2, z3⟩ := S.at_ i _ e
  rw [z3]
  exact ⟨e, z2⟩
theorem Sealed.lim {CN : Addr} {nt : Nt} {H1 H : Hp} {D : Addr} {b b' : Book} {f : Nat → Parts} {n : Nat} {zs : List Nat} (S : Sealed CN nt H1 D b f n H zs b') : ∀ x ∈ zs, x ≤ LIM := fun x hx => by
  obtain ⟨i, hi, rfl⟩ := List.getElem_of_mem hx
  exact (S.at_ i _ (List.getElem?_eq_getElem hi)).1
def codesF (p : List Ins) (i : Nat) : Parts := codeP p[i]?
section
variable {P : Program} {w : World} {K : PySem.W.Frag} {mg : Str → Option Value} {base : Heap}
/-! ### word_leaves -/
def spWLeaves (CN tl tp : Addr) : Sp := fun vs H Q _ => ∃ (nt : Nt) (a : Addr) (ws : List Nat) (b : Book), vs = [.ref nt.n, .ref a] ∧ Call CN tl tp nt H b ∧ WdAt H a ws ∧ ws.length ≤ 64 ∧ (∀ x ∈ ws, isW x) ∧ b.length + 64 ≤ LIM ∧
  ∀ (H' : Hp) (b' : Book) (p : Addr) (ls : List Nat), H p = none → H' p = some (.tup (nats ls)) → WLv b' (pad ws) ls → (∀ x ∈ ls, x ≤ LIM) → Keep nt H H' → NotAt CN nt H' b' → Ext b b' → b'.length ≤ b.length + 64 → Q (.ref p) H'
theorem sc_word_leaves : FnScope ["notary", "words", "padded", "word"] ["notary", "words"] (defScope s_word_leaves) := ⟨rfl, rfl, rfl, by decide +kernel, rfl, by decide +kernel, by decide +kernel⟩
theorem ok_word_leaves {CN tl tp : Addr} (F : FnF K mg "word_leaves" "word_leaves" s_word_leaves) (C : Cst K mg) (T : NotC K CN) (D : Mth P w K mg base 5 CN "seal" ["self", "parts"] (spSeal CN tl tp)) : Def P w K mg base 6 "word_leaves" ["notary", "words"] (spWLeaves CN tl tp) := by
  refine Def.of F sc_word_leaves (fun _ _ _ _ _ _ us hl => match us, hl with | [_, _], _ => rfl) (fun vs H Q E h => ?_) (fun f cdv A outer s H vs Q E hr h => ?_)
  · obtain ⟨nt, a, ws, b, rfl, _⟩ := h; rfl
  · refine ⟨_, pss_cons (ps_set (i := 2) sc_word_leaves.nd rfl (Or.inl rfl) (pe_op op_cat (pe_callTy call_list_of rfl C.list boot_list (pa_cons (pv 1) pa_nil)) (pe_op op_rep (pe_lst (pa_cons pe_int pa_nil)) (pe_op op_sub (pe_gi C.nMAX_INPUT rfl) (pe_callB call_len_seq rfl C.len PySem.boot_len (pa_cons (pv 1) pa_nil))))))
      (pss_one (ps_ret (pe_callTy call_tuple_of rfl C.tuple boot_tuple (pa_cons (pe_lc (own := [("word", 3)]) (g := gName 3) (tt := tYes) rfl sc_word_leaves.nd (pi_list (pv 2))
            (blkOk_by (N := ["notary", "words", "padded", "word"]) (sc := defScope s_word_leaves) (by decide +kernel)) (fun _ _ _ _ _ => pg_name (i := 3) sc_word_leaves.nd rfl (Or.inl rfl)) (fun _ _ _ _ _ => pts_nil)
            (fun _ _ _ _ _ => pe_m D (pv 0) T.cl hr (pa_cons (pe_tup (pa_cons pe_str (pa_cons (pv 3) pa_nil))) pa_nil))) pa_nil)))), ?_⟩
    obtain ⟨nt, a, ws, b, rfl, c, ha, hl, hw, hlim, k⟩ := h
    refine ⟨_, rfl, a, nats ws, rfl, .inr (SqT.of ha), fun l0 hl0 => ⟨by show 1 ≤ sizeLine; decide, fun l1 hl1 => ?_⟩⟩
    have s0 : Same H (upd H l0 (.lst (nats ws))) := same_new hl0
    have s1 := same_new (o := .lst [V.int 0]) hl1
    refine ⟨_, rfl, a, _, rfl, .inr (SqT.of (s1 _ _ (s0 _ _ ha))), _, _, rfl, rfl, l1, _, _, rfl, rfl, upd_same, ?_⟩
    rw [nats_len]
    refine ⟨by omega, by omega, ?_, fun l2 hl2 => ?_⟩
    · show 1 * _ ≤ sizeLine
      exact Nat.le_trans (show 1 * ((64 : Int) - (ws.length : Int)).toNat ≤ 64 by omega) (by decide)
    have s2 := same_new (o := .lst (List.replicate ((64 : Int) - (ws.length : Int)).toNat [V.int 0]).flatten) hl2
    have en : ((64 : Int) - (ws.length : Int)).toNat = 64 - ws.length := by omega
    have ez : (List.replicate ((64 : Int) - (ws.length : Int)).toNat [V.int 0]).flatten = nats (List.replicate (64 - ws.length) 0) := by
      rw [en]
      generalize 64 - ws.length = m
      induction m with
      | zero => rfl
      | succ m ih => rw [List.replicate_succ, List.flatten_cons, ih]; rfl
    refine ⟨l0, l2, nats ws, nats (List.replicate (64 - ws.length) 0), rfl, rfl, s2 _ _ (s1 _ _ upd_same), by rw [upd_same, ez], ?_, fun l3 hl3 => ?_⟩
    · rw [nats_len, nats_len, List.length_replicate]
      exact Nat.le_trans (show ws.length + (64 - ws.length) ≤ 64 by omega) (by decide)
    have s3 := same_new (o := .lst (nats ws ++ nats (List.replicate (64 - ws.length) 0))) hl3
    have ep : nats ws ++ nats (List.replicate (64 - ws.length) 0) = nats (pad ws) := by
      unfold nats pad
      rw [List.map_append]
    rw [ep] at s3
    rw [ep]
    have sa := ((s0.trans s1).trans s2).trans s3
    have hl4 : (upd (upd (upd (upd H l0 (.lst (nats ws))) l1 (.lst [V.int 0])) l2 (.lst (List.replicate ((64 : Int) - (ws.length : Int)).toNat [V.int 0]).flatten)) l3 (.lst (nats (pad ws)))) l3 = some (.lst (nats (pad ws))) := upd_same
    have nl3 : l3 ≠ nt.l := (c.nt.nel ((fun h => by
      cases e : H l3 with
      | none => rfl
      | some o => rw [s2 _ _ (s1 _ _ (s0 _ _ e))] at hl3; cases hl3) trivial)).2.2
    have cA := c.same sa
    generalize upd (upd (upd (upd H l0 (.lst (nats ws))) l1 (.lst [V.int 0])) l2 (.lst (List.replicate ((64 : Int) - (ws.length : Int)).toNat [V.int 0]).flatten)) l3 (.lst (nats (pad ws))) = Ha at sa hl4 cA
    simp only [L2.start, List.set_cons_succ, List.set_cons_zero, List.map_cons, List.map_nil, List.length_cons, List.length_nil, Nat.reduceAdd, Nat.reduceSub, List.replicate_succ, List.replicate_zero, List.cons_append, List.nil_append]
    refine ⟨_, rfl, l3, rfl, ⟨_, SqL.of hl4⟩, fun D hD => ?_⟩
    have nD := cA.nt.nel hD
    refine seal_lc (parts := fun i => wordP ((pad ws).getD i 0)) (n := 64) cA hD (by decide) hlim (fun i H1 b1 hi k1 n1 => ?_) (fun H1 b1 k1 n1 => ?_) (fun i H1 x H2 b1 R hi k1 c1 e1 l1 y r => ?_) (fun H2 zs b2 S => ?_)
    · exact ⟨_, _, SqL.of (k1.lst cA.nt hl4 nl3), nats_at (getD_at (by rw [pad_len hl]; exact hi))⟩
    · exact ⟨_, SqL.of (k1.lst cA.nt hl4 nl3), by rw [nats_len, pad_len hl]; exact Nat.le_refl _⟩
    · obtain ⟨ey, y⟩ := y
      subst ey
      have hx := y _ (SqL.of (k1.lst cA.nt hl4 nl3))
      rw [nats_at (getD_at (by rw [pad_len hl]; exact hi))] at hx
      have hx := (Option.some.inj hx).symm
      subst hx
      obtain ⟨dxn, z0, en⟩ := c1.nt.ob
      refine ⟨rfl, ?_⟩
      refine ⟨_, rfl, nt.n, dxn, _, rfl, en, nfl_no _ _ (by decide +kernel) (by decide +kernel) (by decide +kernel), _, rfl, by show 2 ≤ sizeLine; decide, fun tq htq => ?_⟩
      have s5 := same_new (o := .tup [V.str "word", V.int ((pad ws).getD i 0 : Int)]) htq
      exact ⟨nt, tq, wordP ((pad ws).getD i 0), b1, rfl, c1.same s5, upd_same, wordOk (pad_w hw _ (List.mem_of_getElem? (getD_at (by rw [pad_len hl]; exact hi)))), l1, fun H4 kp4 nt4 => r H4 ((Keep.of_same s5).trans kp4) nt4⟩
    · have W : WLv b2 (pad ws) zs := Sealed.words (CN := CN) (nt := nt) (H1 := Ha) (H := H2) (D := D) (b := b) (by rw [pad_len hl]; exact S)
      refine ⟨D, nats zs, rfl, .inl ⟨SqL.of S.D, fun p hp => ?_⟩⟩
      have s6 := same_new (o := .tup (nats zs)) hp
      have kk : Keep nt H (upd H2 p (.tup (nats zs))) := ((Keep.of_same sa).trans S.kp).trans (.of_same s6)
      have hpH : H p = none := (Keep.of_same sa).free cA.nt (S.kp.free S.nt hp)
      exact k _ b2 p zs hpH upd_same W S.lim kk (S.nt.same s6) S.ext S.le
/-! ### code_at, code_leaves -/
def spCodeAt : Sp := fun vs H Q _ => ∃ (a : Addr) (p : List Ins) (i : Nat), vs = [.ref a, .int (i : Int)] ∧ PrAt H a p ∧ ∀ (q : Addr) (H' : Hp), Same H H' → CodeAt H' q p[i]? → Q (.ref q) H'
theorem sc_code_at : FnScope ["program", "place"] ["program", "place"] (defScope s_code_at) := ⟨rfl, rfl, rfl, by decide +kernel, rfl, by decide +kernel, by decide +kernel⟩
theorem ok_code_at (F : FnF K mg "code_at" "code_at" s_code_at) (C : Cst K mg) : Def P w K mg base 1 "code_at" ["program", "place"] spCodeAt := by
  refine Def.of F sc_code_at (fun _ _ _ _ _ _ us hl => match us, hl with | [_, _], _ => rfl) (fun vs H Q E h => ?_) (fun f cdv A outer s H vs Q E hr h => ?_)
  · obtain ⟨a, p, i, rfl, _⟩ := h; rfl
  · refine ⟨_, pss_cons (ps_if (pt_cmpR op_lt (pv 1) (pe_callB call_len_seq rfl C.len PySem.boot_len (pa_cons (pv 0) pa_nil)) (nomark _)) (pss_one (ps_ret (pe_ix ix_tup (pv 0) (pv 1) (fun _ _ => rfl)))) pss_nil)
      (pss_one (ps_ret (pe_tup pa_nil))), ?_⟩
    obtain ⟨a, p, i, rfl, hp, k⟩ := h
    obtain ⟨as, hp1, hp2⟩ := hp.len
    refine ⟨_, rfl, _, rfl, a, _, rfl, .inr (SqT.of hp1), _, _, rfl, rfl, _, rfl, ?_⟩
    rw [hp2]
    by_cases hi : i < p.length
    · rw [decide_eq_true (show (i : Int) < (p.length : Int) by omega)]
      obtain ⟨as2, x, q1, q2, q3⟩ := hp.get (List.getElem?_eq_getElem hi)
      refine iteT ⟨_, rfl, _, rfl, a, _, _, .ref x, rfl, rfl, SqT.of q1, atI_nat (j := i) q2, ?_⟩
      exact k x H (Same.refl H) (by rw [List.getElem?_eq_getElem hi]; exact q3)
    · rw [decide_eq_false (show ¬ (i : Int) < (p.length : Int) by omega)]
      refine iteF ⟨Nat.zero_le _, fun q hq => k q _ (same_new hq) ?_⟩
      rw [List.getElem?_eq_none (by omega)]
      exact upd_same
end
end K24
set_option Elab.async false
set_option autoImplicit false
set_option linter.all false
set_option maxRecDepth 100000
set_option maxHeartbeats 4000000
namespace K24
open PySem PySem.Spec PyProof.Rows L2
/-- the chain of what was written -/
def wroteP (c v : Nat) : Parts := [.inr "wrote", .inl (c : Int), .inl (v : Int)]
theorem wroteOk {c v : Nat} (hc : c ≤ LIM) (hv : isW v) : PartsOk (wroteP c v) := by
  have l : LIM = 16000000 := rfl
  have hv : v ≤ 4294967295 := hv
  refine ⟨by show 1 ≤ 3; decide, by show 3 ≤ 16; decide, fun k hk => ?_⟩
  rcases List.mem_cons.mp hk with e | hk
  · subst e
    show okText ("wrote" : Str)
    exact ⟨by decide +kernel, by decide +kernel⟩
  · rcases List.mem_cons.mp hk with e | hk
    · subst e
      exact ⟨by omega, by omega⟩
    · rw [List.mem_singleton.mp hk]
      exact ⟨by omega, by omega⟩
inductive Wr (b : Book) : List Nat → Nat → Prop where
  | nil : Wr b [] 0
  | snoc {ws : List Nat} {c v z : Nat} : Wr b ws c → findB b (wroteP c v) = z → z ≠ 0 → Wr b (ws ++ [v]) z
theorem Wr.ext {b b' : Book} (e : Ext b b') {ws : List Nat} {c : Nat} (h : Wr b ws c) : Wr b' ws c := by
  induction h with
  | nil => exact .nil
  | snoc h1 h2 h3 ih => exact .snoc ih (by rw [e.find (by rw [h2]; exact h3)]; exact h2) h3
theorem Wr.inv {b : Book} {ws : List Nat} {c : Nat} (h : Wr b ws c) : (ws = [] ∧ c = 0) ∨ ∃ us d v, ws = us ++ [v] ∧ Wr b us d ∧ findB b (wroteP d v) = c ∧ c ≠ 0 := by
  cases h with
  | nil => exact .inl ⟨rfl, rfl⟩
  | snoc h1 h2 h3 => exact .inr ⟨_, _, _, rfl, h1, h2, h3⟩
theorem Wr.det {b : Book} {ws : List Nat} {c : Nat} (h : Wr b ws c) : ∀ {d : Nat}, Wr b ws d → c = d := by
  induction h with
  | nil =>
    intro d h'
    rcases h'.inv with ⟨_, e⟩ | ⟨us, d', v, e, _⟩
    · exact e.symm
    · simp at e
  | @snoc ws0 c0 v0 z0 h1 h2 h3 ih =>
    intro d h'
    rcases h'.inv with ⟨e, _⟩ | ⟨us, d', v, e, q1, q2, q3⟩
    · simp at e
    · obtain ⟨e1, e2⟩ := List.append_inj' e rfl
      subst e1
      have e2 : v0 = v := by simpa using e2
      subst e2
      have := ih q1
      subst this
      rw [← h2, ← q2]
theorem Wr.lim {b : Book} {ws : List Nat} {c : Nat} (h : Wr b ws c) (hb : b.length ≤ LIM) : c ≤ LIM := by
  cases h with
  | nil => exact Nat.zero_le _
  | snoc h1 h2 h3 => rw [← h2]; exact findB_lim hb
/-! ### the fields of a state -/
def fieldsL (st : St) (root chain : Nat) : List Nat := st.pl :: (st.rg ++ [root, st.po, chain, st.ss])
def stateP (fs : List Nat) : Parts := .inr "state" :: natK fs
theorem stateP_inj {fs gs : List Nat} (h : stateP fs = stateP gs) : fs = gs := by
  unfold stateP at h
  injection h with _ h
  exact natK_inj h
/-- the tree of 64 words, in the book -/
structure WTr (b : Book) (ws : List Nat) (ls : List Nat) (t : List (List Nat)) : Prop where
  lv : WLv b ws ls
  tr : TreeB b (ls :: t)
  len : t.length = 6
theorem WTr.ext {b b' : Book} (e : Ext b b') {ws ls : List Nat} {t : List (List Nat)} (h : WTr b ws ls t) : WTr b' ws ls t := ⟨h.lv.ext e, h.tr.ext e, h.len⟩
theorem WTr.det {b : Book} {ws ls ls' : List Nat} {t t' : List (List Nat)} (h : WTr b ws ls t) (h' : WTr b ws ls' t') : ls = ls' ∧ t = t' := by
  have e := h.lv.det h'.lv
  subst e
  exact ⟨rfl, tree_det h.tr h'.tr⟩
structure FieldsB (b : Book) (st : St) (fs : List Nat) : Prop where
  ex : ∃ ls t chain, WTr b st.me ls t ∧ Wr b st.wr chain ∧ fs = fieldsL st (rootR (ls :: t)) chain
theorem FieldsB.ext {b b' : Book} (e : Ext b b') {st : St} {fs : List Nat} (h : FieldsB b st fs) : FieldsB b' st fs := by
  obtain ⟨ls, t, chain, h1, h2, h3⟩ := h.ex
  exact ⟨ls, t, chain, h1.ext e, h2.ext e, h3⟩
theorem FieldsB.det {b : Book} {st : St} {fs gs : List Nat} (h : FieldsB b st fs) (h' : FieldsB b st gs) : fs = gs := by
  obtain ⟨ls, t, chain, h1, h2, h3⟩ := h.ex
  obtain ⟨ls', t', chain', h1', h2', h3'⟩ := h'.ex
  obtain ⟨e1, e2⟩ := h1.det h1'
  subst e1 e2
  have := h2.det h2'
  subst this
  rw [h3, h3']
theorem fields_ok {st : St} {root chain : Nat} (ok : StOk st) (hr : root ≤ LIM) (hc : chain ≤ LIM) : ∀ x ∈ fieldsL st root chain, x ≤ 4294967295 := fun x hx => by
  have l : LIM = 16000000 := rfl
  have := ok.pl
  have := ok.po
  have := ok.ss
  rcases List.mem_cons.mp hx with e | hx
  · omega
  · rcases List.mem_append.mp hx with e | hx
    · exact ok.rg x e
    · simp at hx
      omega
theorem fields_len {st : St} {root chain : Nat} (h : st.rg.length = 4) : (fieldsL st root chain).length = 9 := by
  unfold fieldsL
  rw [List.length_cons, List.length_append, h]
  rfl
theorem stateOk {fs : List Nat} (hl : fs.length = 9) (h : ∀ x ∈ fs, x ≤ 4294967295) : PartsOk (stateP fs) := by
  have o : okText ("state" : Str) := ⟨by decide +kernel, by decide +kernel⟩
  have e : (stateP fs).length = 10 := by
    show (natK fs).length + 1 = 10
    unfold natK
    rw [List.length_map, hl]
  refine ⟨by omega, by omega, fun k hk => ?_⟩
  rcases List.mem_cons.mp hk with e | hk
  · rw [e]; exact o
  · exact natK_ok (fun x hx => by have := h x hx; omega) k hk
/-- the state's seal -/
def SealB (b : Book) (st : St) (z : Nat) : Prop := ∃ fs, FieldsB b st fs ∧ findB b (stateP fs) = z ∧ z ≠ 0
theorem SealB.ext {b b' : Book} (e : Ext b b') {st : St} {z : Nat} (h : SealB b st z) : SealB b' st z := by
  obtain ⟨fs, h1, h2, h3⟩ := h
  exact ⟨fs, h1.ext e, by rw [e.find (by rw [h2]; exact h3)]; exact h2, h3⟩
theorem SealB.det {b : Book} {st : St} {z y : Nat} (h : SealB b st z) (h' : SealB b st y) : z = y := by
  obtain ⟨fs, h1, h2, h3⟩ := h
  obtain ⟨gs, g1, g2, g3⟩ := h'
  rw [← h2, ← g2, h1.det g1]
section
variable {P : Program} {w : World} {K : PySem.W.Frag} {mg : Str → Option Value} {base : Heap}
def spCLeaves (CN tl tp : Addr) : Sp := fun vs H Q _ => ∃ (nt : Nt) (a : Addr) (pr : List Ins) (b : Book), vs = [.ref nt.n, .ref a] ∧ Call CN tl tp nt H b ∧ PrAt H a pr ∧ (∀ c ∈ pr, OkIns c) ∧ b.length + 64 ≤ LIM ∧
  ∀ (H' : Hp) (b' : Book) (p : Addr) (ls : List Nat), H p = none → H' p = some (.tup (nats ls)) → Lv b' (codesF pr) 64 ls → (∀ x ∈ ls, x ≤ LIM) → Keep nt H H' → NotAt CN nt H' b' → Ext b b' → b'.length ≤ b.length + 64 → Q (.ref p) H'
theorem sc_code_leaves : FnScope ["notary", "program", "place"] ["notary", "program"] (defScope s_code_leaves) := ⟨rfl, rfl, rfl, by decide +kernel, rfl, by decide +kernel, by decide +kernel⟩
theorem ok_code_leaves {CN tl tp : Addr} (F : FnF K mg "code_leaves" "code_leaves" s_code_leaves) (C : Cst K mg) (T : NotC K CN) (D : Mth P w K mg base 5 CN "seal" ["self", "parts"] (spSeal CN tl tp)) (D1 : Def P w K mg base 1 "code_at" ["program", "place"] spCodeAt) : Def P w K mg base 6 "code_leaves" ["notary", "program"] (spCLeaves CN tl tp) := by
  refine Def.of F sc_code_leaves (fun _ _ _ _ _ _ us hl => match us, hl with | [_, _], _ => rfl) (fun vs H Q E h => ?_) (fun f cdv A outer s H vs Q E hr h => ?_)
  · obtain ⟨nt, a, pr, b, rfl, _⟩ := h; rfl
  · refine ⟨_, pss_one (ps_ret (pe_callTy call_tuple_of rfl C.tuple boot_tuple (pa_cons (pe_lc (own := [("place", 2)]) (g := gName 2) (tt := tYes) rfl sc_code_leaves.nd (pi_range1 rfl C.range (pa_cons (pe_gi C.nMAX_PROGRAM rfl) pa_nil))
            (blkOk_by (N := ["notary", "program", "place"]) (sc := defScope s_code_leaves) (by decide +kernel)) (fun _ _ _ _ _ => pg_name (i := 2) sc_code_leaves.nd rfl (Or.inl rfl)) (fun _ _ _ _ _ => pts_nil)
            (fun _ _ _ _ _ => pe_m D (pv 0) T.cl hr (pa_cons (pe_op (r := rCatA K) op_catA (pe_tup (pa_cons pe_str pa_nil)) (pe_d D1 (hr.mono (by decide)) rfl (pa_cons (pv 1) (pa_cons (pv 2) pa_nil)))) pa_nil))) pa_nil))), ?_⟩
    obtain ⟨nt, a, pr, b, rfl, c, ha, ho, hlim, k⟩ := h
    refine ⟨64, rfl, by decide, by decide, fun D hD => ?_⟩
    have nD := c.nt.nel hD
    refine seal_lc (parts := codesF pr) (n := 64) c hD (by decide) hlim (fun i H1 b1 hi k1 n1 => hi) (fun H1 b1 k1 n1 => Nat.le_refl _) (fun i H1 x H2 b1 R hi k1 c1 e1 l1 y r => ?_) (fun H2 zs b2 S => ?_)
    · obtain ⟨ey, ex⟩ := y
      subst ey ex
      obtain ⟨dxn, z0, en⟩ := c1.nt.ob
      refine ⟨rfl, ?_⟩
      refine ⟨_, rfl, nt.n, dxn, _, rfl, en, nfl_no _ _ (by decide +kernel) (by decide +kernel) (by decide +kernel), by show 1 ≤ sizeLine; decide, fun tq htq => ?_⟩
      have s5 := same_new (o := .tup [V.str "code"]) htq
      have tk1 : TK H H2 := k1.tk c.nt
      refine ⟨_, rfl, _, rfl, a, pr, i, by rw [show (0 : Int) + (i : Int) = (i : Int) by omega]; rfl, (ha.tk tk1).tk (Same.tk s5), fun q H3 s3 hq => ?_⟩
      refine catT (s3 _ _ upd_same) hq ?_ fun p4 H4 s4 h4 => ?_
      · rw [List.length_map]
        cases e : pr[i]? with
        | none => decide
        | some ci =>
          have sm := (ho ci (List.mem_of_getElem? e)).small
          refine Nat.le_trans (show 1 + (codeK (some ci)).length ≤ 5 from ?_) (by decide)
          show 1 + ((natK ci.ar).length + 1) ≤ 5
          unfold natK
          rw [List.length_map]
          omega
      · have sa := (s5.trans s3).trans s4
        exact ⟨nt, p4, codesF pr i, b1, rfl, c1.same sa, h4, codeOk fun j hj => ho j (List.mem_of_getElem? hj), l1, fun H5 kp5 nt5 => r H5 ((Keep.of_same sa).trans kp5) nt5⟩
    · refine ⟨D, nats zs, rfl, .inl ⟨SqL.of S.D, fun p hp => ?_⟩⟩
      have s6 := same_new (o := .tup (nats zs)) hp
      exact k _ b2 p zs (S.kp.free S.nt hp) upd_same S.lv S.lim (S.kp.trans (.of_same s6)) (S.nt.same s6) S.ext S.le
/-! ### roots -/
def spWRoot (CN tl tp : Addr) : Sp := fun vs H Q _ => ∃ (nt : Nt) (a : Addr) (ws : List Nat) (b : Book), vs = [.ref nt.n, .ref a] ∧ Call CN tl tp nt H b ∧ WdAt H a ws ∧ ws.length ≤ 64 ∧ (∀ x ∈ ws, isW x) ∧ b.length + 128 ≤ LIM ∧
  ∀ (H' : Hp) (b' : Book) (ls : List Nat) (t : List (List Nat)), WTr b' (pad ws) ls t → rootR (ls :: t) ≤ LIM → Keep nt H H' → NotAt CN nt H' b' → Ext b b' → b'.length ≤ b.length + 128 → Q (.int (rootR (ls :: t) : Int)) H'
theorem sc_memory_root : FnScope ["notary", "memory"] ["notary", "memory"] (defScope s_memory_root) := ⟨rfl, rfl, rfl, by decide +kernel, rfl, by decide +kernel, by decide +kernel⟩
theorem sc_input_root : FnScope ["notary", "words"] ["notary", "words"] (defScope s_input_root) := ⟨rfl, rfl, rfl, by decide +kernel, rfl, by decide +kernel, by decide +kernel⟩
theorem ok_memory_root {CN tl tp : Addr} (F : FnF K mg "memory_root" "memory_root" s_memory_root) (D1 : Def P w K mg base 6 "word_leaves" ["notary", "words"] (spWLeaves CN tl tp)) (D2 : Def P w K mg base 7 "root_of" ["notary", "leaves"] (spRoot K CN tl tp)) : Def P w K mg base 8 "memory_root" ["notary", "memory"] (spWRoot CN tl tp) := by
  refine Def.of F sc_memory_root (fun _ _ _ _ _ _ us hl => match us, hl with | [_, _], _ => rfl) (fun vs H Q E h => ?_) (fun f cdv A outer s H vs Q E hr h => ?_)
  · obtain ⟨nt, a, ws, b, rfl, _⟩ := h; rfl
  · refine ⟨_, pss_one (ps_ret (pe_d D2 hr rfl (pa_cons (pv 0) (pa_cons (pe_d D1 (hr.mono (by decide)) rfl (pa_cons (pv 0) (pa_cons (pv 1) pa_nil))) pa_nil)))), ?_⟩
    obtain ⟨nt, a, ws, b, rfl, c, ha, hl, hw, hlim, k⟩ := h
    refine ⟨_, rfl, _, rfl, _, rfl, nt, a, ws, b, rfl, c, ha, hl, hw, by omega, fun H1 b1 p ls hpn hp W lm kp n1 ext le => ?_⟩
    have hpl : ls.length = 2 ^ 6 := by rw [W.len, pad_len hl]
    have hpn2 : p ≠ nt.l := (n1.ne hp (fun _ _ _ z => nomatch z) (fun _ z => nomatch z) (fun _ z => nomatch z)).2.2
    refine ⟨nt, p, ls, b1, 6, rfl, c.keep kp n1, .inr (SqT.of hp), hpn2, by decide, hpl, by show b1.length + 64 ≤ LIM; omega, lm, fun H2 b2 t tl' tr hr' kp2 n2 ext2 le2 => ?_⟩
    exact k H2 b2 ls t ⟨W.ext ext2, tr, tl'⟩ hr' (kp.trans kp2) n2 (ext.trans ext2) (by have : 2 ^ 6 = 64 := rfl; omega)
theorem ok_input_root {CN tl tp : Addr} (F : FnF K mg "input_root" "input_root" s_input_root) (D1 : Def P w K mg base 6 "word_leaves" ["notary", "words"] (spWLeaves CN tl tp)) (D2 : Def P w K mg base 7 "root_of" ["notary", "leaves"] (spRoot K CN tl tp)) : Def P w K mg base 8 "input_root" ["notary", "words"] (spWRoot CN tl tp) := by
  refine Def.of F sc_input_root (fun _ _ _ _ _ _ us hl => match us, hl with | [_, _], _ => rfl) (fun vs H Q E h => ?_) (fun f cdv A outer s H vs Q E hr h => ?_)
  · obtain ⟨nt, a, ws, b, rfl, _⟩ := h; rfl
  · refine ⟨_, pss_one (ps_ret (pe_d D2 hr rfl (pa_cons (pv 0) (pa_cons (pe_d D1 (hr.mono (by decide)) rfl (pa_cons (pv 0) (pa_cons (pv 1) pa_nil))) pa_nil)))), ?_⟩
    obtain ⟨nt, a, ws, b, rfl, c, ha, hl, hw, hlim, k⟩ := h
    refine ⟨_, rfl, _, rfl, _, rfl, nt, a, ws, b, rfl, c, ha, hl, hw, by omega, fun H1 b1 p ls hpn hp W lm kp n1 ext le => ?_⟩
    have hpl : ls.length = 2 ^ 6 := by rw [W.len, pad_len hl]
    have hpn2 : p ≠ nt.l := (n1.ne hp (fun _ _ _ z => nomatch z) (fun _ z => nomatch z) (fun _ z => nomatch z)).2.2
    refine ⟨nt, p, ls, b1, 6, rfl, c.keep kp n1, .inr (SqT.of hp), hpn2, by decide, hpl, by show b1.length + 64 ≤ LIM; omega, lm, fun H2 b2 t tl' tr hr' kp2 n2 ext2 le2 => ?_⟩
    exact k H2 b2 ls t ⟨W.ext ext2, tr, tl'⟩ hr' (kp.trans kp2) n2 (ext.trans ext2) (by have : 2 ^ 6 = 64 := rfl; omega)
/-- the tree of a program -/
structure CTr (b : Book) (p : List Ins) (ls : List Nat) (t : List (List Nat)) : Prop where
  lv : Lv b (codesF p) 64 ls
  tr : TreeB b (ls :: t)
  len : t.length = 6
theorem CTr.ext {b b' : Book} (e : Ext b b') {p : List Ins} {ls : List Nat} {t : List (List Nat)} (h : CTr b p ls t) : CTr b' p ls t := ⟨h.lv.ext e, h.tr.ext e, h.len⟩
theorem CTr.det {b : Book} {p : List Ins} {ls ls' : List Nat} {t t' : List (List Nat)} (h : CTr b p ls t) (h' : CTr b p ls' t') : ls = ls' ∧ t = t' := by
  have e := h.lv.det h'.lv
  subst e
  exact ⟨rfl, tree_det h.tr h'.tr⟩
def spPRoot (CN tl tp : Addr) : Sp := fun vs H Q _ => ∃ (nt : Nt) (a : Addr) (pr : List Ins) (b : Book), vs = [.ref nt.n, .ref a] ∧ Call CN tl tp nt H b ∧ PrAt H a pr ∧ (∀ c ∈ pr, OkIns c) ∧ b.length + 128 ≤ LIM ∧
  ∀ (H' : Hp) (b' : Book) (ls : List Nat) (t : List (List Nat)), CTr b' pr ls t → rootR (ls :: t) ≤ LIM → Keep nt H H' → NotAt CN nt H' b' → Ext b b' → b'.length ≤ b.length + 128 → Q (.int (rootR (ls :: t) : Int)) H'
theorem sc_program_root : FnScope ["notary", "program"] ["notary", "program"] (defScope s_program_root) := ⟨rfl, rfl, rfl, by decide +kernel, rfl, by decide +kernel, by decide +kernel⟩
theorem ok_program_root {CN tl tp : Addr} (F : FnF K mg "program_root" "program_root" s_program_root) (D1 : Def P w K mg base 6 "code_leaves" ["notary", "program"] (spCLeaves CN tl tp)) (D2 : Def P w K mg base 7 "root_of" ["notary", "leaves"] (spRoot K CN tl tp)) : Def P w K mg base 8 "program_root" ["notary", "program"] (spPRoot CN tl tp) := by
  refine Def.of F sc_program_root (fun _ _ _ _ _ _ us hl => match us, hl with | [_, _], _ => rfl) (fun vs H Q E h => ?_) (fun f cdv A outer s H vs Q E hr h => ?_)
  · obtain ⟨nt, a, ws, b, rfl, _⟩ := h; rfl
  · refine ⟨_, pss_one (ps_ret (pe_d D2 hr rfl (pa_cons (pv 0) (pa_cons (pe_d D1 (hr.mono (by decide)) rfl (pa_cons (pv 0) (pa_cons (pv 1) pa_nil))) pa_nil)))), ?_⟩
    obtain ⟨nt, a, pr, b, rfl, c, ha, ho, hlim, k⟩ := h
    refine ⟨_, rfl, _, rfl, _, rfl, nt, a, pr, b, rfl, c, ha, ho, by omega, fun H1 b1 p ls hpn hp W lm kp n1 ext le => ?_⟩
    have hpn2 : p ≠ nt.l := (n1.ne hp (fun _ _ _ z => nomatch z) (fun _ z => nomatch z) (fun _ z => nomatch z)).2.2
    refine ⟨nt, p, ls, b1, 6, rfl, c.keep kp n1, .inr (SqT.of hp), hpn2, by decide, W.len, by show b1.length + 64 ≤ LIM; omega, lm, fun H2 b2 t tl' tr hr' kp2 n2 ext2 le2 => ?_⟩
    exact k H2 b2 ls t ⟨W.ext ext2, tr, tl'⟩ hr' (kp.trans kp2) n2 (ext.trans ext2) (by have : 2 ^ 6 = 64 := rfl; omega)
end
end K24
set_option Elab.async false
set_option autoImplicit false
set_option linter.all false
set_option maxRecDepth 100000
set_option maxHeartbeats 4000000
namespace K24
open PySem PySem.Spec PyProof.Rows L2
theorem catG {K : PySem.W.Frag} {H : Hp} {Q : VK} {a b : Addr} {xs ys : List V} (ha : SqT K H a xs) (hb : SqT K H b ys) (hx : xs ≠ []) (hy : ys ≠ []) (hz : xs.length + ys.length ≤ sizeLine) (q : ∀ (p : Addr) (H' : Hp), Same H H' → H' p = some (.tup (xs ++ ys)) → Q (.ref p) H') : rCatA K (.ref a) (.ref b) H Q :=
  ⟨a, b, xs, ys, rfl, rfl, ha, hb, hz, fun e => absurd e hx, fun _ e => absurd e hy, fun _ _ p hp => q p _ (same_new hp) upd_same⟩
section
variable {P : Program} {w : World} {K : PySem.W.Frag} {mg : Str → Option Value} {base : Heap}
def spChain (CN tl tp : Addr) : Sp := fun vs H Q _ => ∃ (nt : Nt) (a : Addr) (ws : List Nat) (b : Book), vs = [.ref nt.n, .ref a] ∧ Call CN tl tp nt H b ∧ WdAt H a ws ∧ (∀ x ∈ ws, isW x) ∧ b.length + ws.length ≤ LIM ∧
  ∀ (H' : Hp) (b' : Book) (c : Nat), Wr b' ws c → c ≤ LIM → Keep nt H H' → NotAt CN nt H' b' → Ext b b' → b'.length ≤ b.length + ws.length → Q (.int (c : Int)) H'
theorem sc_written_chain : FnScope ["notary", "words", "chain", "word"] ["notary", "words"] (defScope s_written_chain) := ⟨rfl, rfl, rfl, by decide +kernel, rfl, by decide +kernel, by decide +kernel⟩
theorem ok_written_chain {CN tl tp : Addr} (F : FnF K mg "written_chain" "written_chain" s_written_chain) (T : NotC K CN) (D : Mth P w K mg base 5 CN "seal" ["self", "parts"] (spSeal CN tl tp)) : Def P w K mg base 6 "written_chain" ["notary", "words"] (spChain CN tl tp) := by
  refine Def.of F sc_written_chain (fun _ _ _ _ _ _ us hl => match us, hl with | [_, _], _ => rfl) (fun vs H Q E h => ?_) (fun f cdv A outer s H vs Q E hr h => ?_)
  · obtain ⟨nt, a, ws, b, rfl, _⟩ := h; rfl
  · refine ⟨_, pss_cons (ps_set (i := 2) sc_written_chain.nd rfl (Or.inl rfl) pe_int)
      (pss_cons (ps_for PassesOwn.never rfl (pi_tup (pv 1)) (pg_name (i := 3) sc_written_chain.nd rfl (Or.inl rfl))
        (pss_one (ps_set (i := 2) sc_written_chain.nd rfl (Or.inl rfl) (pe_m D (pv 0) T.cl hr (pa_cons (pe_tup (pa_cons pe_str (pa_cons (pv 2) (pa_cons (pv 3) pa_nil)))) pa_nil)))))
      (pss_one (ps_ret (pv 2)))), ?_⟩
    obtain ⟨nt, a, ws, b, rfl, c, ha, hw, hlim, k⟩ := h
    refine ⟨_, rfl, a, rfl, ⟨_, SqT.of ha⟩, for_tup (xs := nats ws) (fun j σ H2 => ∃ (ch : Nat) (b2 : Book) (v : Option V), σ = [some (.ref nt.n), some (.ref a), some (.int (ch : Int)), v] ∧ Wr b2 (ws.take j) ch ∧ ch ≤ LIM ∧ Keep nt H H2 ∧ NotAt CN nt H2 b2 ∧ Ext b b2 ∧ j ≤ ws.length ∧ b2.length ≤ b.length + j)
      ⟨0, b, none, rfl, .nil, Nat.zero_le _, .refl _ _, c.nt, .refl _, Nat.zero_le _, Nat.le_refl _⟩ (fun j σ H2 _ ⟨_, _, _, _, _, _, kp, nt2, _⟩ => SqT.of (kp.tup c.nt ha)) ?_ ?_⟩
    · rintro j y σ H2 hy ⟨ch, b2, v, rfl, W, hch, kp, nt2, ext, hj, le⟩
      obtain ⟨x, hx, rfl⟩ := nats_at_inv hy
      have hjl : j < ws.length := (List.getElem?_eq_some_iff.mp hx).1
      obtain ⟨dx, z0, en⟩ := nt2.ob
      refine ⟨_, rfl, nt.n, dx, _, rfl, en, nfl_no _ _ (by decide +kernel) (by decide +kernel) (by decide +kernel), _, rfl, _, rfl, by show 3 ≤ sizeLine; decide, fun tq htq => ?_⟩
      have s1 := same_new (o := .tup [V.str "wrote", V.int (ch : Int), V.int (x : Int)]) htq
      refine ⟨nt, tq, wroteP ch x, b2, rfl, (c.keep kp nt2).same s1, upd_same, wroteOk hch (hw x (List.mem_of_getElem? hx)), by omega, fun H3 kp3 nt3 => ?_⟩
      have l1 := addB_len b2 (wroteP ch x)
      refine ⟨_, addB b2 (wroteP ch x), _, rfl, ?_, findB_lim (by omega), (kp.trans (.of_same s1)).trans kp3, nt3, ext.trans (ext_add _ _), hjl, by omega⟩
      rw [List.take_add_one, hx]
      exact .snoc (W.ext (ext_add _ _)) rfl (addB_find _ _)
    · rintro σ H2 ⟨ch, b2, v, rfl, W, hch, kp, nt2, ext, hj, le⟩
      rw [nats_len, List.take_length] at W
      rw [nats_len] at le
      exact ⟨_, rfl, k H2 b2 ch W hch kp nt2 ext le⟩
/-! ### fields_of, state_seal -/
def spFields (CN tl tp : Addr) : Sp := fun vs H Q _ => ∃ (nt : Nt) (a : Addr) (st : St) (b : Book), vs = [.ref nt.n, .ref a] ∧ Call CN tl tp nt H b ∧ StAt H a st ∧ StOk st ∧ b.length + 128 + st.wr.length ≤ LIM ∧
  ∀ (H' : Hp) (b' : Book) (p : Addr) (fs : List Nat), FieldsB b' st fs → H' p = some (.tup (nats fs)) → fs.length = 9 → (∀ x ∈ fs, x ≤ 4294967295) → Keep nt H H' → NotAt CN nt H' b' → Ext b b' → b'.length ≤ b.length + 128 + st.wr.length → Q (.ref p) H'
theorem sc_fields_of : FnScope ["notary", "state", "place", "registers", "memory", "position", "written", "status", "chain"] ["notary", "state"] (defScope s_fields_of) := ⟨rfl, rfl, rfl, by decide +kernel, rfl, by decide +kernel, by decide +kernel⟩
theorem ok_fields_of {CN tl tp : Addr} (F : FnF K mg "fields_of" "fields_of" s_fields_of) (D1 : Def P w K mg base 6 "written_chain" ["notary", "words"] (spChain CN tl tp)) (D2 : Def P w K mg base 8 "memory_root" ["notary", "memory"] (spWRoot CN tl tp)) : Def P w K mg base 9 "fields_of" ["notary", "state"] (spFields CN tl tp) := by
  refine Def.of F sc_fields_of (fun _ _ _ _ _ _ us hl => match us, hl with | [_, _], _ => rfl) (fun vs H Q E h => ?_) (fun f cdv A outer s H vs Q E hr h => ?_)
  · obtain ⟨nt, a, st, b, rfl, _⟩ := h; rfl
  · refine ⟨_, pss_cons (ps_asg (pv 1) (pg_tup rfl (pgs_cons (pg_name (i := 2) sc_fields_of.nd rfl (Or.inl rfl)) (pgs_cons (pg_name (i := 3) sc_fields_of.nd rfl (Or.inl rfl)) (pgs_cons (pg_name (i := 4) sc_fields_of.nd rfl (Or.inl rfl)) (pgs_cons (pg_name (i := 5) sc_fields_of.nd rfl (Or.inl rfl)) (pgs_cons (pg_name (i := 6) sc_fields_of.nd rfl (Or.inl rfl)) (pgs_cons (pg_name (i := 7) sc_fields_of.nd rfl (Or.inl rfl)) pgs_nil))))))))
      (pss_cons (ps_set (i := 8) sc_fields_of.nd rfl (Or.inl rfl) (pe_d D1 (hr.mono (by decide)) rfl (pa_cons (pv 0) (pa_cons (pv 6) pa_nil))))
      (pss_one (ps_ret (pe_op op_catA (pe_op op_catA (pe_tup (pa_cons (pv 2) pa_nil)) (pv 3)) (pe_tup (pa_cons (pe_d D2 hr rfl (pa_cons (pv 0) (pa_cons (pv 4) pa_nil))) (pa_cons (pv 5) (pa_cons (pv 8) (pa_cons (pv 7) pa_nil))))))))), ?_⟩
    obtain ⟨nt, a, st, b, rfl, c, ⟨r, m, u, ha, hrg, hme, hwr⟩, ok, hlim, k⟩ := h
    refine ⟨_, rfl, a, _, rfl, SqT.of ha, rfl, _, _, rfl, _, _, rfl, _, _, rfl, _, _, rfl, _, _, rfl, _, _, rfl, rfl, ?_⟩
    simp only [L2.start, List.set_cons_succ, List.set_cons_zero, List.map_cons, List.map_nil, List.length_cons, List.length_nil, Nat.reduceAdd, Nat.reduceSub, List.replicate_succ, List.replicate_zero, List.cons_append, List.nil_append]
    refine ⟨_, rfl, _, rfl, nt, u, st.wr, b, rfl, c, hwr, ok.wr, by omega, fun H1 b1 ch W hch kp n1 ext le => ?_⟩
    simp only [L2.start, List.set_cons_succ, List.set_cons_zero, List.map_cons, List.map_nil, List.length_cons, List.length_nil, Nat.reduceAdd, Nat.reduceSub, List.replicate_succ, List.replicate_zero, List.cons_append, List.nil_append]
    refine ⟨_, rfl, by show 1 ≤ sizeLine; decide, fun p1 hp1 => ?_⟩
    have s1 := same_new (o := .tup [V.int (st.pl : Int)]) hp1
    refine ⟨_, rfl, ?_⟩
    refine catT upd_same (s1 _ _ (kp.tup c.nt hrg)) (by rw [nats_len, ok.rgl]; show 1 + 4 ≤ sizeLine; decide) fun p2 H2 s2 h2 => ?_
    have c2 := (c.keep kp n1).same (s1.trans s2)
    have hm2 : H2 m = some (.tup (nats st.me)) := s2 _ _ (s1 _ _ (kp.tup c.nt hme))
    refine ⟨_, rfl, _, rfl, nt, m, st.me, b1, rfl, c2, hm2, by rw [ok.mel]; decide, ok.me, by omega, fun H3 b3 ls t W3 hroot kp3 n3 ext3 le3 => ?_⟩
    rw [pad_full ok.mel] at W3
    refine ⟨_, rfl, _, rfl, _, rfl, by show 4 ≤ sizeLine; decide, fun p4 hp4 => ?_⟩
    have s4 := same_new (o := .tup [V.int (rootR (ls :: t) : Int), V.int (st.po : Int), V.int (ch : Int), V.int (st.ss : Int)]) hp4
    have h23 := kp3.tup c2.nt h2
    refine catT (s4 _ _ h23) upd_same ?_ fun p5 H5 s5 h5 => ?_
    · rw [List.length_append, nats_len, ok.rgl]
      show 1 + 4 + 4 ≤ sizeLine
      decide
    have e5 : ([V.int (st.pl : Int)] ++ nats st.rg) ++ [V.int (rootR (ls :: t) : Int), V.int (st.po : Int), V.int (ch : Int), V.int (st.ss : Int)] = nats (fieldsL st (rootR (ls :: t)) ch) := by
      unfold fieldsL nats
      rw [List.map_cons, List.map_append]
      rfl
    rw [e5] at h5
    have kk : Keep nt H H5 := (((kp.trans (.of_same (Same.trans s1 s2))).trans kp3).trans (.of_same s4)).trans (.of_same s5)
    exact k H5 b3 p5 _ ⟨ls, t, ch, W3, W.ext ext3, rfl⟩ h5 (fields_len ok.rgl) (fields_ok ok hroot hch) kk ((n3.same s4).same s5) (ext.trans ext3) (by omega)
def spSSeal (CN tl tp : Addr) : Sp := fun vs H Q _ => ∃ (nt : Nt) (a : Addr) (st : St) (b : Book), vs = [.ref nt.n, .ref a] ∧ Call CN tl tp nt H b ∧ StAt H a st ∧ StOk st ∧ b.length + 129 + st.wr.length ≤ LIM ∧
  ∀ (H' : Hp) (b' : Book) (z : Nat), SealB b' st z → z ≤ LIM → Keep nt H H' → NotAt CN nt H' b' → Ext b b' → b'.length ≤ b.length + 129 + st.wr.length → Q (.int (z : Int)) H'
theorem sc_state_seal : FnScope ["notary", "state"] ["notary", "state"] (defScope s_state_seal) := ⟨rfl, rfl, rfl, by decide +kernel, rfl, by decide +kernel, by decide +kernel⟩
theorem ok_state_seal {CN tl tp : Addr} (F : FnF K mg "state_seal" "state_seal" s_state_seal) (C : Cst K mg) (T : NotC K CN) (D1 : Def P w K mg base 9 "fields_of" ["notary", "state"] (spFields CN tl tp)) (D2 : Mth P w K mg base 5 CN "seal" ["self", "parts"] (spSeal CN tl tp)) : Def P w K mg base 10 "state_seal" ["notary", "state"] (spSSeal CN tl tp) := by
  obtain ⟨as, gs, ts⟩ := C.tSTATE
  refine Def.of F sc_state_seal (fun _ _ _ _ _ _ us hl => match us, hl with | [_, _], _ => rfl) (fun vs H Q E h => ?_) (fun f cdv A outer s H vs Q E hr h => ?_)
  · obtain ⟨nt, a, st, b, rfl, _⟩ := h; rfl
  · refine ⟨_, pss_one (ps_ret (pe_m D2 (pv 0) T.cl (hr.mono (by decide)) (pa_cons (pe_op op_catA (pe_gr gs rfl) (pe_d D1 hr rfl (pa_cons (pv 0) (pa_cons (pv 1) pa_nil)))) pa_nil))), ?_⟩
    obtain ⟨nt, a, st, b, rfl, c, ha, ok, hlim, k⟩ := h
    obtain ⟨dx, z0, en⟩ := c.nt.ob
    refine ⟨_, rfl, nt.n, dx, _, rfl, en, nfl_no _ _ (by decide +kernel) (by decide +kernel) (by decide +kernel), ?_⟩
    refine ⟨_, rfl, _, rfl, nt, a, st, b, rfl, c, ha, ok, by omega, fun H1 b1 p fs hf hp fl fo kp n1 ext le => ?_⟩
    refine catG (ts H1) (SqT.of hp) (by simp) (fun z => by have := congrArg List.length z; rw [nats_len, fl] at this; simp at this) (by rw [nats_len, fl]; decide) fun p2 H2 s2 h2 => ?_
    have e2 : [V.str "state"] ++ nats fs = (stateP fs).map kV := by
      show V.str "state" :: nats fs = V.str "state" :: (natK fs).map kV
      rw [natK_map]
    rw [e2] at h2
    refine ⟨nt, p2, stateP fs, b1, rfl, (c.keep kp n1).same s2, h2, stateOk fl fo, by omega, fun H3 kp3 n3 => ?_⟩
    have l1 := addB_len b1 (stateP fs)
    exact k H3 (addB b1 (stateP fs)) _ ⟨fs, hf.ext (ext_add _ _), rfl, addB_find _ _⟩ (findB_lim (by omega)) ((kp.trans (.of_same s2)).trans kp3) n3 (ext.trans (ext_add _ _)) (by omega)
end
end K24
set_option Elab.async false
set_option autoImplicit false
set_option linter.all false
set_option maxRecDepth 100000
set_option maxHeartbeats 4000000
namespace K24
open PySem PySem.Spec PyProof.Rows L2
/-- the tables of the checks' generator expressions -/
structure Tb where
  l : Addr
  p : Addr
  i : Addr
  g : Addr
  w : Addr
  f : Addr
  a : Addr
  r : Addr
structure AllT (T : Tb) (H : Hp) : Prop where
  l : HTab H T.l
  p : HTab H T.p
  i : HTab H T.i
  g : HTab H T.g
  w : HTab H T.w
  f : HTab H T.f
  a : HTab H T.a
  r : HTab H T.r
theorem AllT.tk {T : Tb} {H H' : Hp} (k : TK H H') (h : AllT T H) : AllT T H' := ⟨k.tab h.l, k.tab h.p, k.tab h.i, k.tab h.g, k.tab h.w, k.tab h.f, k.tab h.a, k.tab h.r⟩
/-- a notary that stands, with all tables -/
structure Cal (CN : Addr) (T : Tb) (nt : Nt) (H : Hp) (b : Book) : Prop where
  nt : NotAt CN nt H b
  t : AllT T H
theorem Cal.call {CN : Addr} {T : Tb} {nt : Nt} {H : Hp} {b : Book} (c : Cal CN T nt H b) : Call CN T.l T.p nt H b := ⟨c.nt, c.t.l, c.t.p⟩
theorem Cal.keep {CN : Addr} {T : Tb} {nt : Nt} {H H' : Hp} {b b' : Book} (c : Cal CN T nt H b) (k : Keep nt H H') (n : NotAt CN nt H' b') : Cal CN T nt H' b' := ⟨n, c.t.tk (k.tk c.nt)⟩
theorem Cal.same {CN : Addr} {T : Tb} {nt : Nt} {H H' : Hp} {b : Book} (c : Cal CN T nt H b) (s : Same H H') : Cal CN T nt H' b := ⟨c.nt.same s, c.t.tk (Same.tk s)⟩
/-- the question's tuple -/
structure QB (b : Book) (pr : List Ins) (ws : List Nat) (st : St) (lv : Nat) (q : List Nat) : Prop where
  ex : ∃ pls pt ils it s, CTr b pr pls pt ∧ WTr b (pad ws) ils it ∧ SealB b st s ∧ q = [rootR (pls :: pt), pr.length, rootR (ils :: it), ws.length, s, lv]
theorem QB.ext {b b' : Book} (e : Ext b b') {pr : List Ins} {ws : List Nat} {st : St} {lv : Nat} {q : List Nat} (h : QB b pr ws st lv q) : QB b' pr ws st lv q := by
  obtain ⟨pls, pt, ils, it, s, h1, h2, h3, h4⟩ := h.ex
  exact ⟨pls, pt, ils, it, s, h1.ext e, h2.ext e, h3.ext e, h4⟩
/-- a program as the draws give it -/
structure PrOk (pr : List Ins) : Prop where
  lo : 1 ≤ pr.length
  hi : pr.length ≤ 64
  ok : ∀ c ∈ pr, OkIns c
structure WsOk (ws : List Nat) : Prop where
  hi : ws.length ≤ 64
  ok : ∀ x ∈ ws, isW x
section
variable {P : Program} {w : World} {K : PySem.W.Frag} {mg : Str → Option Value} {base : Heap}
def spCheckAll (T : Tb) : Sp := fun vs H Q _ => ∃ (pa wa a : Addr) (pr : List Ins) (ws : List Nat) (st : St) (lv : Nat), vs = [.ref pa, .ref wa, .ref a, .int (lv : Int)] ∧ PrAt H pa pr ∧ PrOk pr ∧ WdAt H wa ws ∧ WsOk ws ∧ StAt H a st ∧ StOk st ∧ st.po ≤ ws.length ∧ lv ≤ 10 ∧ AllT T H ∧ ∀ H', Same H H' → Q .non H'
theorem sc_check_all : FnScope ["program", "words", "state", "level"] ["program", "words", "state", "level"] (defScope s_check_all) := ⟨rfl, rfl, rfl, by decide +kernel, rfl, by decide +kernel, by decide +kernel⟩
theorem ok_check_all {T : Tb} (F : FnF K mg "check_all" "check_all" s_check_all) (C : Cst K mg) (D1 : Def P w K mg base 7 "is_program" ["value"] (spProg T.i T.g)) (D2 : Def P w K mg base 5 "is_input" ["value"] (spInput T.w)) (D3 : Def P w K mg base 5 "is_state" ["value"] (spIsState T.w)) (D4 : Def P w K mg base 1 "is_number" ["value", "least", "most"] spNumber) :
    Def P w K mg base 8 "check_all" ["program", "words", "state", "level"] (spCheckAll T) := by
  refine Def.of F sc_check_all (fun _ _ _ _ _ _ us hl => match us, hl with | [_, _, _, _], _ => rfl) (fun vs H Q E h => ?_) (fun f cdv A outer s H vs Q E hr h => ?_)
  · obtain ⟨pa, wa, a, pr, ws, st, lv, rfl, _⟩ := h; rfl
  · refine ⟨_, pss_cons (ps_if (PW.pt (pw_or (pt_not (pt_val (pe_d D1 hr rfl (pa_cons (pv 0) pa_nil)))) (pw_or (pt_not (pt_val (pe_d D2 (hr.mono (by decide)) rfl (pa_cons (pv 1) pa_nil)))) (pw_or (pt_not (pt_val (pe_d D3 (hr.mono (by decide)) rfl (pa_cons (pv 2) pa_nil))))
        (pw_or1 (pt_not (pt_val (pe_d D4 (hr.mono (by decide)) rfl (pa_cons (pv 3) (pa_cons pe_int (pa_cons (pe_gi C.nMAX_LEVEL rfl) pa_nil))))))))))) (pss_one ps_never) pss_nil)
      (pss_one (ps_if (pt_cmpR op_gt (pe_ix ix_tup (pv 2) pe_int (fun _ _ => rfl)) (pe_callB call_len_seq rfl C.len PySem.boot_len (pa_cons (pv 1) pa_nil)) (nomark _)) (pss_one ps_never) pss_nil)), ?_⟩
    obtain ⟨pa, wa, a, pr, ws, st, lv, rfl, hp, po, hw, wo, ha, so, hpo, hlv, ht, k⟩ := h
    refine ⟨_, rfl, pa, pr, rfl, hp, po.lo, po.hi, po.ok, ht.i, ht.g, fun H1 s1 => ⟨_, rfl, iteF ?_⟩⟩
    have hw1 : H1 wa = some (.tup (nats ws)) := s1 _ _ hw
    have tk := Same.tk s1
    obtain ⟨r, m, u, ha1, _⟩ := ha.tk tk
    refine ⟨_, rfl, wa, ws, rfl, hw1, wo.hi, wo.ok, tk.tab ht.w, _, rfl, iteF ?_⟩
    refine ⟨_, rfl, a, st, rfl, ha.tk tk, so, tk.tab ht.w, _, rfl, iteF ?_⟩
    refine ⟨_, rfl, _, _, .inl ⟨(lv : Int), rfl, _, rfl, ?_⟩⟩
    rw [decide_eq_true (by omega)]
    refine iteF ⟨_, rfl, a, _, 3, .int (st.po : Int), rfl, rfl, SqT.of ha1, atI_nat (j := 3) rfl, _, rfl, wa, _, rfl, .inr (SqT.of hw1), _, _, rfl, rfl, _, rfl, ?_⟩
    rw [nats_len, decide_eq_false (show ¬ (ws.length : Int) < (st.po : Int) by omega)]
    exact iteF (k H1 s1)
def spQuestion (CN : Addr) (T : Tb) : Sp := fun vs H Q _ => ∃ (nt : Nt) (pa wa a : Addr) (pr : List Ins) (ws : List Nat) (st : St) (lv : Nat) (b : Book), vs = [.ref nt.n, .ref pa, .ref wa, .ref a, .int (lv : Int)] ∧ Cal CN T nt H b ∧ PrAt H pa pr ∧ PrOk pr ∧ WdAt H wa ws ∧ WsOk ws ∧ StAt H a st ∧ StOk st ∧ st.po ≤ ws.length ∧ lv ≤ 10 ∧
  b.length + 385 + st.wr.length ≤ LIM ∧ ∀ (H' : Hp) (b' : Book) (p : Addr) (q : List Nat), QB b' pr ws st lv q → H' p = some (.tup (nats q)) → Keep nt H H' → NotAt CN nt H' b' → Ext b b' → b'.length ≤ b.length + 385 + st.wr.length → Q (.ref p) H'
theorem sc_question : FnScope ["notary", "program", "words", "state", "level", "front"] ["notary", "program", "words", "state", "level"] (defScope s_question) := ⟨rfl, rfl, rfl, by decide +kernel, rfl, by decide +kernel, by decide +kernel⟩
theorem ok_question {CN : Addr} {T : Tb} {x : Str} (F : FnF K mg x "question" s_question) (C : Cst K mg) (D1 : Def P w K mg base 8 "check_all" ["program", "words", "state", "level"] (spCheckAll T)) (D2 : Def P w K mg base 8 "program_root" ["notary", "program"] (spPRoot CN T.l T.p)) (D3 : Def P w K mg base 8 "input_root" ["notary", "words"] (spWRoot CN T.l T.p))
    (D4 : Def P w K mg base 10 "state_seal" ["notary", "state"] (spSSeal CN T.l T.p)) : Def P w K mg base 11 x ["notary", "program", "words", "state", "level"] (spQuestion CN T) := by
  refine Def.of F sc_question (fun _ _ _ _ _ _ us hl => match us, hl with | [_, _, _, _, _], _ => rfl) (fun vs H Q E h => ?_) (fun f cdv A outer s H vs Q E hr h => ?_)
  · obtain ⟨nt, pa, wa, a, pr, ws, st, lv, b, rfl, _⟩ := h; rfl
  · refine ⟨_, pss_cons (ps_expr (pe_d D1 (hr.mono (by decide)) rfl (pa_cons (pv 1) (pa_cons (pv 2) (pa_cons (pv 3) (pa_cons (pv 4) pa_nil))))))
      (pss_cons (ps_set (i := 5) sc_question.nd rfl (Or.inl rfl) (pe_tup (pa_cons (pe_d D2 (hr.mono (by decide)) rfl (pa_cons (pv 0) (pa_cons (pv 1) pa_nil))) (pa_cons (pe_callB call_len_seq rfl C.len PySem.boot_len (pa_cons (pv 1) pa_nil)) (pa_cons (pe_d D3 (hr.mono (by decide)) rfl (pa_cons (pv 0) (pa_cons (pv 2) pa_nil))) (pa_cons (pe_callB call_len_seq rfl C.len PySem.boot_len (pa_cons (pv 2) pa_nil)) pa_nil))))))
      (pss_one (ps_ret (pe_op op_catA (pv 5) (pe_tup (pa_cons (pe_d D4 hr rfl (pa_cons (pv 0) (pa_cons (pv 3) pa_nil))) (pa_cons (pv 4) pa_nil))))))), ?_⟩
    obtain ⟨nt, pa, wa, a, pr, ws, st, lv, b, rfl, c, hp, po, hw, wo, ha, so, hpo, hlv, hlim, k⟩ := h
    refine ⟨_, rfl, _, rfl, _, rfl, _, rfl, pa, wa, a, pr, ws, st, lv, rfl, hp, po, hw, wo, ha, so, hpo, hlv, c.t, fun H1 s1 => ?_⟩
    have c1 := c.same s1
    refine ⟨_, rfl, _, rfl, nt, pa, pr, b, rfl, c1.call, hp.tk (Same.tk s1), po.ok, by omega, fun H2 b2 pls pt ct hroot kp2 n2 ext2 le2 => ?_⟩
    have c2 := c1.keep kp2 n2
    have tk2 : TK H H2 := (Same.tk s1).trans (kp2.tk c1.nt)
    obtain ⟨as, hpl1, hpl2⟩ := (hp.tk tk2).len
    refine ⟨_, rfl, pa, _, rfl, .inr (SqT.of hpl1), ?_⟩
    rw [hpl2]
    refine ⟨_, rfl, _, rfl, nt, wa, ws, b2, rfl, c2.call, tk2.tup hw, wo.hi, wo.ok, by omega, fun H3 b3 ils it wt hroot3 kp3 n3 ext3 le3 => ?_⟩
    have c3 := c2.keep kp3 n3
    have tk3 : TK H H3 := tk2.trans (kp3.tk c2.nt)
    refine ⟨_, rfl, wa, _, rfl, .inr (SqT.of (tk3.tup hw)), by show 4 ≤ sizeLine; decide, fun p4 hp4 => ?_⟩
    rw [nats_len]
    have s4 := same_new (o := .tup [V.int (rootR (pls :: pt) : Int), V.int (pr.length : Int), V.int (rootR (ils :: it) : Int), V.int (ws.length : Int)]) hp4
    have c4 := c3.same s4
    have tk4 : TK H _ := tk3.trans (Same.tk s4)
    refine ⟨_, rfl, _, rfl, _, rfl, nt, a, st, b3, rfl, c4.call, ha.tk tk4, so, by omega, fun H5 b5 z hz hzl kp5 n5 ext5 le5 => ?_⟩
    refine ⟨_, rfl, by show 2 ≤ sizeLine; decide, fun p6 hp6 => ?_⟩
    have s6 := same_new (o := .tup [V.int (z : Int), V.int (lv : Int)]) hp6
    refine catT (s6 _ _ (kp5.tup c4.nt upd_same)) upd_same (by show 4 + 2 ≤ sizeLine; decide) fun p7 H7 s7 h7 => ?_
    have kk : Keep nt H H7 := (((((Keep.of_same s1).trans kp2).trans kp3).trans (.of_same s4)).trans kp5).trans (.of_same (Same.trans s6 s7))
    refine k H7 b5 p7 _ ⟨pls, pt, ils, it, z, (ct.ext ext3).ext ext5, wt.ext ext5, hz, rfl⟩ h7 kk ((n5.same s6).same s7) ((ext2.trans ext3).trans ext5) (by omega)
/-! ### paths -/
def spCPath (CN tl tp : Addr) : Sp := fun vs H Q _ => ∃ (nt : Nt) (a : Addr) (pr : List Ins) (i : Nat) (b : Book), vs = [.ref nt.n, .ref a, .int (i : Int)] ∧ Call CN tl tp nt H b ∧ PrAt H a pr ∧ (∀ c ∈ pr, OkIns c) ∧ i < 64 ∧ b.length + 128 ≤ LIM ∧
  ∀ (H' : Hp) (b' : Book) (p : Addr) (ls : List Nat) (t : List (List Nat)), CTr b' pr ls t → H' p = some (.tup (nats (pathR (ls :: t) i))) → (∀ x ∈ pathR (ls :: t) i, x ≤ LIM) → Keep nt H H' → NotAt CN nt H' b' → Ext b b' → b'.length ≤ b.length + 128 → Q (.ref p) H'
theorem sc_code_path : FnScope ["notary", "program", "place"] ["notary", "program", "place"] (defScope s_code_path) := ⟨rfl, rfl, rfl, by decide +kernel, rfl, by decide +kernel, by decide +kernel⟩
theorem ok_code_path {CN tl tp : Addr} (F : FnF K mg "code_path" "code_path" s_code_path) (D1 : Def P w K mg base 6 "code_leaves" ["notary", "program"] (spCLeaves CN tl tp)) (D2 : Def P w K mg base 7 "path_of" ["notary", "leaves", "index"] (spPathOf K CN tl tp)) : Def P w K mg base 8 "code_path" ["notary", "program", "place"] (spCPath CN tl tp) := by
  refine Def.of F sc_code_path (fun _ _ _ _ _ _ us hl => match us, hl with | [_, _, _], _ => rfl) (fun vs H Q E h => ?_) (fun f cdv A outer s H vs Q E hr h => ?_)
  · obtain ⟨nt, a, pr, i, b, rfl, _⟩ := h; rfl
  · refine ⟨_, pss_one (ps_ret (pe_d D2 hr rfl (pa_cons (pv 0) (pa_cons (pe_d D1 (hr.mono (by decide)) rfl (pa_cons (pv 0) (pa_cons (pv 1) pa_nil))) (pa_cons (pv 2) pa_nil))))), ?_⟩
    obtain ⟨nt, a, pr, i, b, rfl, c, ha, ho, hi, hlim, k⟩ := h
    refine ⟨_, rfl, _, rfl, _, rfl, nt, a, pr, b, rfl, c, ha, ho, by omega, fun H1 b1 p ls hpn hp W lm kp n1 ext le => ?_⟩
    have hpn2 : p ≠ nt.l := (n1.ne hp (fun _ _ _ z => nomatch z) (fun _ z => nomatch z) (fun _ z => nomatch z)).2.2
    refine ⟨_, rfl, nt, p, ls, b1, 6, i, rfl, c.keep kp n1, .inr (SqT.of hp), hpn2, by decide, W.len, by show b1.length + 64 ≤ LIM; omega, lm, by rw [W.len]; exact hi, fun H2 b2 t p2 tl' tr hp2 hr' kp2 n2 ext2 le2 => ?_⟩
    exact k H2 b2 p2 ls t ⟨W.ext ext2, tr, tl'⟩ hp2 hr' (kp.trans kp2) n2 (ext.trans ext2) (by have : 2 ^ 6 = 64 := rfl; omega)
def spWPath (CN tl tp : Addr) : Sp := fun vs H Q _ => ∃ (nt : Nt) (a : Addr) (ws : List Nat) (i : Nat) (b : Book), vs = [.ref nt.n, .ref a, .int (i : Int)] ∧ Call CN tl tp nt H b ∧ WdAt H a ws ∧ WsOk ws ∧ i < 64 ∧ b.length + 128 ≤ LIM ∧
  ∀ (H' : Hp) (b' : Book) (p : Addr) (ls : List Nat) (t : List (List Nat)), WTr b' (pad ws) ls t → H' p = some (.tup (nats (pathR (ls :: t) i))) → (∀ x ∈ pathR (ls :: t) i, x ≤ LIM) → Keep nt H H' → NotAt CN nt H' b' → Ext b b' → b'.length ≤ b.length + 128 → Q (.ref p) H'
theorem sc_word_path : FnScope ["notary", "words", "index"] ["notary", "words", "index"] (defScope s_word_path) := ⟨rfl, rfl, rfl, by decide +kernel, rfl, by decide +kernel, by decide +kernel⟩
theorem ok_word_path {CN tl tp : Addr} (F : FnF K mg "word_path" "word_path" s_word_path) (D1 : Def P w K mg base 6 "word_leaves" ["notary", "words"] (spWLeaves CN tl tp)) (D2 : Def P w K mg base 7 "path_of" ["notary", "leaves", "index"] (spPathOf K CN tl tp)) : Def P w K mg base 8 "word_path" ["notary", "words", "index"] (spWPath CN tl tp) := by
  refine Def.of F sc_word_path (fun _ _ _ _ _ _ us hl => match us, hl with | [_, _, _], _ => rfl) (fun vs H Q E h => ?_) (fun f cdv A outer s H vs Q E hr h => ?_)
  · obtain ⟨nt, a, ws, i, b, rfl, _⟩ := h; rfl
  · refine ⟨_, pss_one (ps_ret (pe_d D2 hr rfl (pa_cons (pv 0) (pa_cons (pe_d D1 (hr.mono (by decide)) rfl (pa_cons (pv 0) (pa_cons (pv 1) pa_nil))) (pa_cons (pv 2) pa_nil))))), ?_⟩
    obtain ⟨nt, a, ws, i, b, rfl, c, ha, wo, hi, hlim, k⟩ := h
    refine ⟨_, rfl, _, rfl, _, rfl, nt, a, ws, b, rfl, c, ha, wo.hi, wo.ok, by omega, fun H1 b1 p ls hpn hp W lm kp n1 ext le => ?_⟩
    have hpl : ls.length = 2 ^ 6 := by rw [W.len, pad_len wo.hi]
    have hpn2 : p ≠ nt.l := (n1.ne hp (fun _ _ _ z => nomatch z) (fun _ z => nomatch z) (fun _ z => nomatch z)).2.2
    refine ⟨_, rfl, nt, p, ls, b1, 6, i, rfl, c.keep kp n1, .inr (SqT.of hp), hpn2, by decide, hpl, by show b1.length + 64 ≤ LIM; omega, lm, by rw [hpl]; exact hi, fun H2 b2 t p2 tl' tr hp2 hr' kp2 n2 ext2 le2 => ?_⟩
    exact k H2 b2 p2 ls t ⟨W.ext ext2, tr, tl'⟩ hp2 hr' (kp.trans kp2) n2 (ext.trans ext2) (by have : 2 ^ 6 = 64 := rfl; omega)
end
end K24
set_option Elab.async false
set_option autoImplicit false
set_option linter.all false
set_option maxRecDepth 100000
set_option maxHeartbeats 4000000
/-! Steps keep states whole: plain. -/
namespace K24
open PySem PySem.Spec PyProof.Rows L2
theorem comp_w {n : Str} {a b v : Nat} (ha : isW a) (hb : isW b) (h : compN n a b = some v) : isW v := by
  have ha : a ≤ 4294967295 := ha
  have hb : b ≤ 4294967295 := hb
  show v ≤ 4294967295
  unfold compN at h
  split at h
  · cases h; omega
  split at h
  · cases h; omega
  split at h
  · cases h; omega
  split at h
  · cases h; split <;> omega
  split at h
  · cases h; split <;> omega
  split at h
  · cases h
  split at h
  · cases h; exact Nat.le_trans (Nat.div_le_self a b) ha
  · cases h
    exact Nat.le_trans (Nat.mod_le a b) ha
theorem mem_set_w {r : List Nat} {i v : Nat} (h : ∀ x ∈ r, isW x) (hv : isW v) : ∀ x ∈ r.set i v, isW x := fun x hx => by
  rcases List.mem_or_eq_of_mem_set hx with z | z
  · exact h x z
  · rw [z]; exact hv
theorem StOk.reg {st : St} (so : StOk st) (hp : st.pl < 64) {n v : Nat} (hv : isW v) : StOk (st.reg n v) :=
  ⟨hp, by show (st.rg.set n v).length = 4; rw [List.length_set]; exact so.rgl, mem_set_w so.rg hv, so.mel, so.me, so.po, so.wrl, so.wr, so.ss⟩
theorem StOk.sta {st : St} (so : StOk st) {n : Nat} (hn : n ≤ 2) : StOk (st.sta n) := ⟨so.pl, so.rgl, so.rg, so.mel, so.me, so.po, so.wrl, so.wr, hn⟩
theorem StOk.plc {st : St} (so : StOk st) {n : Nat} (hn : n ≤ 64) : StOk (st.plc n) := ⟨hn, so.rgl, so.rg, so.mel, so.me, so.po, so.wrl, so.wr, so.ss⟩
theorem St.r_ok {st : St} (so : StOk st) (i : Nat) : isW (st.r i) := by
  unfold St.r
  rw [List.getD_eq_getElem?_getD]
  cases e : st.rg[i]? with
  | none => exact Nat.zero_le _
  | some x => exact so.rg x (List.mem_of_getElem? e)
theorem getD_w {ws : List Nat} (h : ∀ x ∈ ws, isW x) (i : Nat) : isW (ws.getD i 0) := by
  rw [List.getD_eq_getElem?_getD]
  cases e : ws[i]? with
  | none => exact Nat.zero_le _
  | some x => exact h x (List.mem_of_getElem? e)
theorem OkIns.a_w {c : Ins} (h : OkIns c) (i : Nat) : isW (c.a i) := getD_w h.small.2 i
/-- what a step keeps -/
structure Kept (ws : List Nat) (st st' : St) : Prop where
  ok : StOk st'
  po : st'.po ≤ ws.length
  wr : st'.wr = st.wr ∨ ∃ v, isW v ∧ st'.wr = st.wr ++ [v]
theorem stepC_ok {c : Ins} {ws : List Nat} {st : St} (oc : OkIns c) (so : StOk st) (hw : WsOk ws) (hp : st.po ≤ ws.length) (hpl : st.pl < 64) (hwr : st.wr.length ≤ 1999) : Kept ws st (stepC c ws st) := by
  unfold stepC
  split
  · exact ⟨so.sta (by decide), hp, .inl rfl⟩
  split
  · exact ⟨so.reg hpl (oc.a_w _), hp, .inl rfl⟩
  split
  · exact ⟨so.reg hpl (St.r_ok so _), hp, .inl rfl⟩
  split
  · rename_i n1
    obtain ⟨o1, ear, h1⟩ := oc.jump n1
    rw [a_of (i := 0) (x := o1) (by rw [ear]; rfl)]
    exact ⟨so.plc h1, hp, .inl rfl⟩
  split
  · rename_i n1
    obtain ⟨o1, o2, ear, h1, h2⟩ := oc.zero n1
    rw [a_of (i := 1) (x := o2) (by rw [ear]; rfl)]
    refine ⟨so.plc ?_, hp, .inl rfl⟩
    split
    · exact h2
    · exact hpl
  split
  · unfold memC
    split
    · exact ⟨so.sta (by decide), hp, .inl rfl⟩
    split
    · exact ⟨so.reg hpl (getD_w so.me _), hp, .inl rfl⟩
    · refine ⟨⟨hpl, so.rgl, so.rg, ?_, mem_set_w so.me (St.r_ok so _), so.po, so.wrl, so.wr, so.ss⟩, hp, .inl rfl⟩
      show (st.me.set _ _).length = 64
      rw [List.length_set]
      exact so.mel
  split
  · unfold inpC
    split
    · refine ⟨so.reg hpl ?_, hp, .inl rfl⟩
      have := hw.hi
      show ws.length - st.po ≤ 4294967295
      omega
    split
    · refine ⟨⟨hpl, so.rgl, so.rg, so.mel, so.me, so.po, ?_, fun x hx => ?_, so.ss⟩, hp, .inr ⟨_, St.r_ok so _, rfl⟩⟩
      · show (st.wr ++ [_]).length ≤ 2000
        rw [List.length_append]
        show st.wr.length + 1 ≤ 2000
        omega
      · rcases List.mem_append.mp hx with e | e
        · exact so.wr x e
        · rw [List.mem_singleton.mp e]
          exact St.r_ok so _
    split
    · exact ⟨so.sta (by decide), hp, .inl rfl⟩
    · rename_i n1
      have r := so.reg (n := c.a 0) hpl (getD_w hw.ok st.po)
      have := hw.hi
      refine ⟨⟨r.pl, r.rgl, r.rg, r.mel, r.me, ?_, r.wrl, r.wr, r.ss⟩, ?_, .inl rfl⟩
      · show st.po + 1 ≤ 64
        omega
      · show st.po + 1 ≤ ws.length
        omega
  · cases e : compN c.nm (st.r (c.a 1)) (st.r (c.a 2)) with
    | none => exact ⟨so.sta (by decide), hp, .inl rfl⟩
    | some v => exact ⟨so.reg hpl (comp_w (St.r_ok so _) (St.r_ok so _) e), hp, .inl rfl⟩
theorem stepS_ok {p : List Ins} {ws : List Nat} {st : St} (po : PrOk p) (so : StOk st) (hw : WsOk ws) (hp : st.po ≤ ws.length) (hwr : st.wr.length ≤ 1999) : Kept ws st (stepS p ws st) := by
  unfold stepS
  split
  · exact ⟨so, hp, .inl rfl⟩
  · cases e : p[st.pl]? with
    | none => exact ⟨so.sta (by decide), hp, .inl rfl⟩
    | some c =>
      have h1 := (List.getElem?_eq_some_iff.mp e).1
      have := po.hi
      exact stepC_ok (po.ok c (List.mem_of_getElem? e)) so hw hp (by omega) hwr
/-- the states of a run -/
def trc (p : List Ins) (ws : List Nat) : Nat → St
  | 0 => st0
  | n + 1 => stepS p ws (trc p ws n)
theorem trc_ok {p : List Ins} {ws : List Nat} (po : PrOk p) (hw : WsOk ws) : ∀ n, n ≤ 1000 → StOk (trc p ws n) ∧ (trc p ws n).po ≤ ws.length ∧ (trc p ws n).wr.length ≤ n
  | 0, _ => ⟨st0_ok, Nat.zero_le _, Nat.le_refl _⟩
  | n + 1, h => by
    obtain ⟨h1, h2, h3⟩ := trc_ok po hw n (by omega)
    have k := stepS_ok po h1 hw h2 (by omega)
    refine ⟨k.ok, k.po, ?_⟩
    rcases k.wr with e | ⟨v, _, e⟩
    · show (stepS p ws (trc p ws n)).wr.length ≤ n + 1
      rw [e]; omega
    · show (stepS p ws (trc p ws n)).wr.length ≤ n + 1
      rw [e, List.length_append]
      show _ + 1 ≤ n + 1
      omega
end K24
set_option Elab.async false
set_option autoImplicit false
set_option linter.all false
set_option maxRecDepth 100000
set_option maxHeartbeats 4000000
namespace K24
open PySem PySem.Spec PyProof.Rows L2
/-! ### a run's objects -/
structure Rn where
  r : Addr
  cd : Addr
  gv : Addr
  ak : Addr
  sl : Addr
  nl : Addr
def rnfl (nt : Nt) (rn : Rn) : List (Str × V) := [("notary", .ref nt.n), ("code", .ref rn.cd), ("given", .ref rn.gv), ("asked", .ref rn.ak), ("states", .ref rn.sl), ("named", .ref rn.nl)]
theorem rnfl_notary (nt : Nt) (rn : Rn) : (rnfl nt rn).lookup ("notary" : Str) = some (.ref nt.n) := lk_hit
theorem rnfl_asked (nt : Nt) (rn : Rn) : (rnfl nt rn).lookup ("asked" : Str) = some (.ref rn.ak) := (lk_miss (by decide +kernel)).trans ((lk_miss (by decide +kernel)).trans ((lk_miss (by decide +kernel)).trans lk_hit))
theorem rnfl_states (nt : Nt) (rn : Rn) : (rnfl nt rn).lookup ("states" : Str) = some (.ref rn.sl) := (lk_miss (by decide +kernel)).trans ((lk_miss (by decide +kernel)).trans ((lk_miss (by decide +kernel)).trans ((lk_miss (by decide +kernel)).trans lk_hit)))
theorem rnfl_named (nt : Nt) (rn : Rn) : (rnfl nt rn).lookup ("named" : Str) = some (.ref rn.nl) := (lk_miss (by decide +kernel)).trans ((lk_miss (by decide +kernel)).trans ((lk_miss (by decide +kernel)).trans ((lk_miss (by decide +kernel)).trans ((lk_miss (by decide +kernel)).trans lk_hit))))
theorem rnfl_no (nt : Nt) (rn : Rn) {m : Str} (h1 : (m == ("notary" : Str)) = false) (h2 : (m == ("code" : Str)) = false) (h3 : (m == ("given" : Str)) = false) (h4 : (m == ("asked" : Str)) = false) (h5 : (m == ("states" : Str)) = false) (h6 : (m == ("named" : Str)) = false) : (rnfl nt rn).lookup m = none :=
  (lk_miss h1).trans ((lk_miss h2).trans ((lk_miss h3).trans ((lk_miss h4).trans ((lk_miss h5).trans ((lk_miss h6).trans rfl)))))
structure RunC (K : PySem.W.Frag) (CR : Addr) : Prop where
  cl : Cls K CR
  notary : NoAttr K CR "notary"
  code : NoAttr K CR "code"
  given : NoAttr K CR "given"
  asked : NoAttr K CR "asked"
  states : NoAttr K CR "states"
  named : NoAttr K CR "named"
theorem KeepW.fresh {nt : Nt} {S S' : List Addr} {H H1 H2 : Hp} (k0 : KeepW nt S' H H1) (k : KeepW nt S H1 H2) (h : ∀ x ∈ S, H x = none ∨ x ∈ S') : KeepW nt S' H H2 := fun a o e h1 h2 h3 h4 => by
  refine k a o (k0 a o e h1 h2 h3 h4) h1 h2 h3 fun hm => ?_
  rcases h a hm with z | z
  · rw [z] at e; cases e
  · exact h4 z
theorem KeepW.tk {CN : Addr} {nt : Nt} {S : List Addr} {H H' : Hp} {b : Book} (k : KeepW nt S H H') (N : NotAt CN nt H b) (hS : ∀ x ∈ S, ∃ xs, H x = some (.lst xs)) : TK H H' := fun x o e h => by
  obtain ⟨h1, h2, h3⟩ := N.ne e (fun _ _ _ z => by rcases h with ⟨xs, h⟩ | ⟨P, h⟩ <;> rw [h] at z <;> exact nomatch z) (fun _ z => by rcases h with ⟨xs, h⟩ | ⟨P, h⟩ <;> rw [h] at z <;> exact nomatch z) (fun _ z => by rcases h with ⟨xs, h⟩ | ⟨P, h⟩ <;> rw [h] at z <;> exact nomatch z)
  refine k x o e h1 h2 h3 fun hm => ?_
  obtain ⟨xs, e2⟩ := hS x hm
  rw [e] at e2
  rcases h with ⟨ys, h⟩ | ⟨P, h⟩ <;> rw [h] at e2 <;> exact nomatch e2
/-- the tree with the words me -/
structure TrI (CT : Addr) (nt : Nt) (wt : Wt) (H : Hp) (b : Book) (me ls : List Nat) (rt : List (List Nat)) : Prop where
  ta : TreeAt CT nt wt H me (ls :: rt)
  rl : rt.length = 6
  W : WLv b me ls
  tr : TreeB b (ls :: rt)
  lm : ∀ r ∈ ls :: rt, ∀ x ∈ r, x ≤ LIM
theorem TrI.keep {CN CT : Addr} {nt : Nt} {wt : Wt} {H H' : Hp} {b b' : Book} {me ls : List Nat} {rt : List (List Nat)} (t : TrI CT nt wt H b me ls rt) (N : NotAt CN nt H b) (k : Keep nt H H') (e : Ext b b') : TrI CT nt wt H' b' me ls rt := ⟨t.ta.keep N k, t.rl, t.W.ext e, t.tr.ext e, t.lm⟩
theorem TrI.upd {CT : Addr} {nt : Nt} {wt : Wt} {H : Hp} {b : Book} {me ls : List Nat} {rt : List (List Nat)} {a : Addr} {o : HO} (t : TrI CT nt wt H b me ls rt) (h1 : a ≠ wt.t) (h2 : a ≠ wt.wl) (h3 : a ≠ wt.R) (h4 : a ∉ wt.rs) : TrI CT nt wt (L2.upd H a o) b me ls rt := by
  obtain ⟨dx, ob⟩ := t.ta.ob
  refine ⟨⟨⟨dx, ?_⟩, ?_, ?_, RowL.map t.ta.rl fun r hr xs e => ?_, t.ta.nd, t.ta.wn, t.ta.ap⟩, t.rl, t.W, t.tr, t.lm⟩
  · rw [upd_ne (Ne.symm h1)]; exact ob
  · rw [upd_ne (Ne.symm h2)]; exact t.ta.wl
  · rw [upd_ne (Ne.symm h3)]; exact t.ta.R
  · rw [upd_ne (fun z => h4 (by rw [← z]; exact hr))]; exact e
theorem TrI.lists {CT : Addr} {nt : Nt} {wt : Wt} {H : Hp} {b : Book} {me ls : List Nat} {rt : List (List Nat)} (t : TrI CT nt wt H b me ls rt) : ∀ x ∈ wt.wl :: wt.rs, ∃ xs, H x = some (.lst xs) := fun x hx => by
  rcases List.mem_cons.mp hx with e | e
  · rw [e]; exact ⟨_, t.ta.wl⟩
  · obtain ⟨i, hi, rfl⟩ := List.getElem_of_mem e
    obtain ⟨ys, _, q2⟩ := t.ta.rl.get (List.getElem?_eq_getElem hi)
    exact ⟨_, q2⟩
/-- the run's own lists; H, b as the def began -/
structure FolR (CN CR : Addr) (nt : Nt) (rn : Rn) (dxr : Addr) (H : Hp) (b : Book) (p : List Ins) (ws : List Nat) (H2 : Hp) (b2 : Book) (sas : List Addr) (zs : List Nat) : Prop where
  rob : H2 rn.r = some (.ins CR dxr (rnfl nt rn))
  sl : H2 rn.sl = some (.lst (sas.map V.ref))
  st : ∀ i a, sas[i]? = some a → StAt H2 a (trc p ws i)
  nl : H2 rn.nl = some (.lst (nats zs))
  zz : ∀ i z, zs[i]? = some z → SealB b2 (trc p ws (i + 1)) z
  kp : KeepW nt [rn.sl, rn.nl] H H2
  nt : NotAt CN nt H2 b2
  ext : Ext b b2
/-- what stays true of the run's objects -/
structure FolC (CR : Addr) (nt : Nt) (rn : Rn) (dxr : Addr) (H : Hp) : Prop where
  rob : H rn.r = some (.ins CR dxr (rnfl nt rn))
  sl : ∃ xs, H rn.sl = some (.lst xs)
  nl : ∃ xs, H rn.nl = some (.lst xs)
  ns : rn.sl ≠ nt.l
  nn : rn.nl ≠ nt.l
  sn : rn.sl ≠ rn.nl
  rr : rn.r ≠ nt.n
theorem FolR.move {CN CR : Addr} {nt : Nt} {rn : Rn} {dxr : Addr} {H H2 H3 : Hp} {b b2 b3 : Book} {p : List Ins} {ws : List Nat} {sas : List Addr} {zs : List Nat} {S : List Addr} (C : FolC CR nt rn dxr H) (f : FolR CN CR nt rn dxr H b p ws H2 b2 sas zs)
    (k : KeepW nt S H2 H3) (hS : ∀ x ∈ S, H x = none) (tk : TK H2 H3) (n3 : NotAt CN nt H3 b3) (e : Ext b2 b3) : FolR CN CR nt rn dxr H b p ws H3 b3 sas zs := by
  obtain ⟨xs, hsl⟩ := C.sl
  obtain ⟨ys, hnl⟩ := C.nl
  have nr : rn.r ∉ S := fun h => by have := hS _ h; rw [C.rob] at this; cases this
  have ns : rn.sl ∉ S := fun h => by have := hS _ h; rw [hsl] at this; cases this
  have nn : rn.nl ∉ S := fun h => by have := hS _ h; rw [hnl] at this; cases this
  obtain ⟨ts, el, _⟩ := f.nt.ls
  refine ⟨k _ _ f.rob C.rr (ne_of f.rob f.nt.dc (fun z => nomatch z)) (ne_of f.rob el (fun z => nomatch z)) nr, k.lst f.nt f.sl C.ns ns, fun i a ha => (f.st i a ha).tk tk, k.lst f.nt f.nl C.nn nn, fun i z hz => (f.zz i z hz).ext e, f.kp.fresh k (fun x hx => .inl (hS x hx)), n3, f.ext.trans e⟩
theorem FolR.keep {CN CR : Addr} {nt : Nt} {rn : Rn} {dxr : Addr} {H H2 H3 : Hp} {b b2 b3 : Book} {p : List Ins} {ws : List Nat} {sas : List Addr} {zs : List Nat} (C : FolC CR nt rn dxr H) (f : FolR CN CR nt rn dxr H b p ws H2 b2 sas zs)
    (k : Keep nt H2 H3) (n3 : NotAt CN nt H3 b3) (e : Ext b2 b3) : FolR CN CR nt rn dxr H b p ws H3 b3 sas zs :=
  f.move C (S := []) (Keep.w k) (fun x hx => by cases hx) (k.tk f.nt) n3 e
theorem FolR.same {CN CR : Addr} {nt : Nt} {rn : Rn} {dxr : Addr} {H H2 H3 : Hp} {b b2 : Book} {p : List Ins} {ws : List Nat} {sas : List Addr} {zs : List Nat} (C : FolC CR nt rn dxr H) (f : FolR CN CR nt rn dxr H b p ws H2 b2 sas zs)
    (s : Same H2 H3) : FolR CN CR nt rn dxr H b p ws H3 b2 sas zs := f.keep C (.of_same s) (f.nt.same s) (.refl _)
/-- a new tree's objects are new -/
structure WtNew (wt : Wt) (H : Hp) : Prop where
  t : H wt.t = none
  wl : H wt.wl = none
  R : H wt.R = none
  rs : ∀ r ∈ wt.rs, H r = none
theorem WtNew.mem {wt : Wt} {H : Hp} (h : WtNew wt H) : ∀ x ∈ wt.wl :: wt.rs, H x = none := fun x hx => by
  rcases List.mem_cons.mp hx with e | e
  · rw [e]; exact h.wl
  · exact h.rs x e
theorem WtNew.ne {wt : Wt} {H : Hp} (h : WtNew wt H) {a : Addr} {o : HO} (e : H a = some o) : a ≠ wt.t ∧ a ≠ wt.wl ∧ a ≠ wt.R ∧ a ∉ wt.rs :=
  ⟨ne_of_none e h.t, ne_of_none e h.wl, ne_of_none e h.R, fun hm => by have := h.rs a hm; rw [e] at this; cases this⟩
theorem stepS_mel {p : List Ins} {ws : List Nat} {st : St} (k : Kept ws st (stepS p ws st)) : (stepS p ws st).me.length = 64 := k.ok.mel
theorem take_set_drop {xs ys : List Nat} {i : Nat} (hx : i < xs.length) (hy : i < ys.length) : (xs.take i ++ ys.drop i).set i xs[i] = xs.take (i + 1) ++ ys.drop (i + 1) := by
  rw [List.set_append_right _ _ (by rw [List.length_take]; omega), List.length_take, Nat.min_eq_left (by omega), Nat.sub_self, List.drop_eq_getElem_cons hy, List.set_cons_zero, List.take_succ_eq_append_getElem hx, List.append_assoc]
  rfl
theorem take_same_drop {xs ys : List Nat} {i : Nat} (hx : i < xs.length) (hy : i < ys.length) (e : xs[i] = ys[i]) : xs.take i ++ ys.drop i = xs.take (i + 1) ++ ys.drop (i + 1) := by
  rw [List.drop_eq_getElem_cons hy, List.take_succ_eq_append_getElem hx, List.append_assoc, e]
  rfl
theorem KeepW.tkI {CN : Addr} {nt : Nt} {t C dx : Addr} {fs : List (Str × V)} {H H' : Hp} {b : Book} (k : KeepW nt [t] H H') (N : NotAt CN nt H b) (ht : H t = some (.ins C dx fs)) : TK H H' := fun x o e h => by
  obtain ⟨h1, h2, h3⟩ := N.ne e (fun _ _ _ z => by rcases h with ⟨xs, h⟩ | ⟨P, h⟩ <;> rw [h] at z <;> exact nomatch z) (fun _ z => by rcases h with ⟨xs, h⟩ | ⟨P, h⟩ <;> rw [h] at z <;> exact nomatch z) (fun _ z => by rcases h with ⟨xs, h⟩ | ⟨P, h⟩ <;> rw [h] at z <;> exact nomatch z)
  refine k x o e h1 h2 h3 fun hm => ?_
  rw [List.mem_singleton.mp hm, ht] at e
  have e := Option.some.inj e
  rcases h with ⟨ys, h⟩ | ⟨P, h⟩ <;> rw [h] at e <;> exact nomatch e
theorem same_free {H H' : Hp} (s : Same H H') {a : Addr} (h : H' a = none) : H a = none := by
  cases e : H a with
  | none => rfl
  | some o => rw [s a o e] at h; cases h
/-- a state joins the list -/
theorem FolR.pushS {CN CR : Addr} {nt : Nt} {rn : Rn} {dxr : Addr} {H H2 : Hp} {b b2 : Book} {p : List Ins} {ws : List Nat} {sas : List Addr} {zs : List Nat} {q : Addr} (C : FolC CR nt rn dxr H) (f : FolR CN CR nt rn dxr H b p ws H2 b2 sas zs) (hq : StAt H2 q (trc p ws sas.length)) :
    FolR CN CR nt rn dxr H b p ws (upd H2 rn.sl (.lst (sas.map V.ref ++ [V.ref q]))) b2 (sas ++ [q]) zs := by
  have nr : rn.r ≠ rn.sl := ne_of f.rob f.sl (fun z => nomatch z)
  obtain ⟨dxn, z0, en⟩ := f.nt.ob
  have n1 : rn.sl ≠ nt.n := ne_of f.sl en (fun z => nomatch z)
  have n2 : rn.sl ≠ nt.d := ne_of f.sl f.nt.dc (fun z => nomatch z)
  have tk : TK H2 (upd H2 rn.sl (.lst (sas.map V.ref ++ [V.ref q]))) := fun x o e h => by
    rw [upd_ne (fun z => by
      rw [z, f.sl] at e
      have e := Option.some.inj e
      rcases h with ⟨ys, h⟩ | ⟨P, h⟩ <;> rw [h] at e <;> exact nomatch e)]
    exact e
  refine ⟨by rw [upd_ne nr]; exact f.rob, by rw [upd_same, List.map_append]; rfl, fun i a ha => ?_, by rw [upd_ne (Ne.symm C.sn)]; exact f.nl, f.zz, f.kp.upd List.mem_cons_self, f.nt.upd ⟨n1, n2, C.ns⟩, f.ext⟩
  by_cases hi : i < sas.length
  · rw [List.getElem?_append_left hi] at ha
    exact (f.st i a ha).tk tk
  · have e : i = sas.length := by
      have := (List.getElem?_eq_some_iff.mp ha).1
      rw [List.length_append] at this
      simp at this
      omega
    subst e
    rw [mid_at sas q []] at ha
    cases ha
    exact hq.tk tk
/-- a seal joins the list -/
theorem FolR.pushZ {CN CR : Addr} {nt : Nt} {rn : Rn} {dxr : Addr} {H H2 : Hp} {b b2 : Book} {p : List Ins} {ws : List Nat} {sas : List Addr} {zs : List Nat} {z : Nat} (C : FolC CR nt rn dxr H) (f : FolR CN CR nt rn dxr H b p ws H2 b2 sas zs) (hz : SealB b2 (trc p ws (zs.length + 1)) z) :
    FolR CN CR nt rn dxr H b p ws (upd H2 rn.nl (.lst (nats zs ++ [V.int (z : Int)]))) b2 sas (zs ++ [z]) := by
  have nr : rn.r ≠ rn.nl := ne_of f.rob f.nl (fun z => nomatch z)
  obtain ⟨dxn, z0, en⟩ := f.nt.ob
  have n1 : rn.nl ≠ nt.n := ne_of f.nl en (fun z => nomatch z)
  have n2 : rn.nl ≠ nt.d := ne_of f.nl f.nt.dc (fun z => nomatch z)
  have tk : TK H2 (upd H2 rn.nl (.lst (nats zs ++ [V.int (z : Int)]))) := fun x o e h => by
    rw [upd_ne (fun z => by
      rw [z, f.nl] at e
      have e := Option.some.inj e
      rcases h with ⟨ys, h⟩ | ⟨P, h⟩ <;> rw [h] at e <;> exact nomatch e)]
    exact e
  refine ⟨by rw [upd_ne nr]; exact f.rob, by rw [upd_ne C.sn]; exact f.sl, fun i a ha => (f.st i a ha).tk tk, by rw [upd_same, nats_snoc], fun i y hy => ?_, f.kp.upd (List.mem_cons_of_mem _ List.mem_cons_self), f.nt.upd ⟨n1, n2, C.nn⟩, f.ext⟩
  by_cases hi : i < zs.length
  · rw [List.getElem?_append_left hi] at hy
    exact f.zz i y hy
  · have e : i = zs.length := by
      have := (List.getElem?_eq_some_iff.mp hy).1
      rw [List.length_append] at this
      simp at this
      omega
    subst e
    rw [mid_at zs z []] at hy
    cases hy
    exact hz
end K24
set_option Elab.async false
set_option autoImplicit false
set_option linter.all false
set_option maxRecDepth 100000
set_option maxHeartbeats 4000000
namespace K24
open PySem PySem.Spec PyProof.Rows L2
section
variable {P : Program} {w : World} {K : PySem.W.Frag} {mg : Str → Option Value} {base : Heap}
def spFollow (CN CR : Addr) (T : Tb) : Sp := fun vs H Q _ => ∃ (nt : Nt) (rn : Rn) (dxr pa wa sa : Addr) (p : List Ins) (ws : List Nat) (n : Nat) (b : Book), vs = [.ref rn.r, .ref pa, .ref wa, .int (n : Int)] ∧ Cal CN T nt H b ∧ FolC CR nt rn dxr H ∧ H rn.sl = some (.lst [V.ref sa]) ∧ StAt H sa st0 ∧ H rn.nl = some (.lst []) ∧
  PrAt H pa p ∧ PrOk p ∧ WdAt H wa ws ∧ WsOk ws ∧ n ≤ 16 ∧ b.length + 128 + n * 1000 ≤ LIM ∧
  ∀ (H' : Hp) (b' : Book) (sas : List Addr) (zs : List Nat), FolR CN CR nt rn dxr H b p ws H' b' sas zs → sas.length = n + 1 → zs.length = n → b'.length ≤ b.length + 128 + n * 1000 → Q .non H'
theorem sc_Run_follow : FnScope ["self", "program", "words", "steps", "tree", "memory", "index", "chain", "_", "old", "new", "fields"] ["self", "program", "words", "steps"] (defScope s_Run_follow) := ⟨rfl, rfl, rfl, by decide +kernel, rfl, by decide +kernel, by decide +kernel⟩
theorem ok_Run_follow {CN CT CR : Addr} {T : Tb} (F : FnM K CR "follow" "Run.follow" s_Run_follow) (C : Cst K mg) (TN : NotC K CN) (TT : WTreeC K CT) (TR : RunC K CR) (DT : Mkr P w K mg base 7 "WordTree" CT ["self", "notary", "height"] (spWTree CN CT T.l T.p))
    (DS : Mth P w K mg base 6 CT "set_word" ["self", "index", "word"] (spSetWord CN CT T.l T.p)) (DRo : Mth P w K mg base 1 CT "root" ["self"] (spTRoot CT)) (DC : Def P w K mg base 6 "written_chain" ["notary", "words"] (spChain CN T.l T.p)) (DStep : Def P w K mg base 4 "step" ["program", "words", "state"] spStep)
    (DSe : Mth P w K mg base 5 CN "seal" ["self", "parts"] (spSeal CN T.l T.p)) : Mth P w K mg base 9 CR "follow" ["self", "program", "words", "steps"] (spFollow CN CR T) := by
  obtain ⟨ag, gs, ts⟩ := C.tSTATE
  refine Mth.of F sc_Run_follow (fun _ _ _ _ _ _ us hl => match us, hl with | [_, _, _, _], _ => rfl) (fun vs H Q E h => ?_) (fun f cdv A outer s H vs Q E hr h => ?_)
  · obtain ⟨nt, rn, dxr, pa, wa, sa, p, ws, n, b, rfl, _⟩ := h; rfl
  · refine ⟨_, pss_cons (ps_set (i := 4) sc_Run_follow.nd rfl (Or.inl rfl) (pe_mk DT hr rfl (pa_cons (pe_fld (pv 0) rfl) (pa_cons (pe_gi C.nTREE_HEIGHT rfl) pa_nil))))
      (pss_cons (ps_set (i := 5) sc_Run_follow.nd rfl (Or.inl rfl) (pe_ix ix_tup (pe_ix ix_list (pe_fld (pv 0) rfl) pe_int (fun _ _ => rfl)) pe_int (fun _ _ => rfl)))
      (pss_cons (ps_for PassesOwn.never rfl (pi_range1 rfl C.range (pa_cons (pe_callB call_len_seq rfl C.len PySem.boot_len (pa_cons (pv 5) pa_nil)) pa_nil)) (pg_name (i := 6) sc_Run_follow.nd rfl (Or.inl rfl))
        (pss_one (ps_if (pt_cmpR op_ne (pe_ix ix_tup (pv 5) (pv 6) (fun _ _ => rfl)) pe_int (nomark _)) (pss_one (ps_expr (pe_m DS (pv 4) TT.cl (hr.mono (by decide)) (pa_cons (pv 6) (pa_cons (pe_ix ix_tup (pv 5) (pv 6) (fun _ _ => rfl)) pa_nil))))) pss_nil)))
      (pss_cons (ps_set (i := 7) sc_Run_follow.nd rfl (Or.inl rfl) (pe_d DC (hr.mono (by decide)) rfl (pa_cons (pe_fld (pv 0) rfl) (pa_cons (pe_ix ix_tup (pe_ix ix_list (pe_fld (pv 0) rfl) pe_int (fun _ _ => rfl)) pe_int (fun _ _ => rfl)) pa_nil))))
      (pss_one (ps_for PassesOwn.never rfl (pi_range1 rfl C.range (pa_cons (pv 3) pa_nil)) (pg_name (i := 8) sc_Run_follow.nd rfl (Or.inl rfl))
        (pss_cons (ps_set (i := 9) sc_Run_follow.nd rfl (Or.inl rfl) (pe_ix ix_list (pe_fld (pv 0) rfl) (pe_un un_neg pe_int) (fun _ _ => rfl)))
        (pss_cons (ps_set (i := 10) sc_Run_follow.nd rfl (Or.inl rfl) (pe_d DStep (hr.mono (by decide)) rfl (pa_cons (pv 1) (pa_cons (pv 2) (pa_cons (pv 9) pa_nil)))))
        (C8.pss_cut (ps_if (pt_cmpR (op_neD hr.units) (pe_ix ix_tup (pv 10) pe_int (fun _ _ => rfl)) (pe_ix ix_tup (pv 9) pe_int (fun _ _ => rfl)) (nomark _))
          (pss_one (ps_for PassesOwn.never rfl (pi_range1 rfl C.range (pa_cons (pe_callB call_len_seq rfl C.len PySem.boot_len (pa_cons (pv 5) pa_nil)) pa_nil)) (pg_name (i := 6) sc_Run_follow.nd rfl (Or.inl rfl))
            (pss_one (ps_if (pt_cmpR op_ne (pe_ix ix_tup (pe_ix ix_tup (pv 10) pe_int (fun _ _ => rfl)) (pv 6) (fun _ _ => rfl)) (pe_ix ix_tup (pe_ix ix_tup (pv 9) pe_int (fun _ _ => rfl)) (pv 6) (fun _ _ => rfl)) (nomark _))
              (pss_one (ps_expr (pe_m DS (pv 4) TT.cl (hr.mono (by decide)) (pa_cons (pv 6) (pa_cons (pe_ix ix_tup (pe_ix ix_tup (pv 10) pe_int (fun _ _ => rfl)) (pv 6) (fun _ _ => rfl)) pa_nil))))) pss_nil)))) pss_nil)
        (C8.pss_cut (ps_if (pt_cmpR op_gt (pe_callB call_len_seq rfl C.len PySem.boot_len (pa_cons (pe_ix ix_tup (pv 10) pe_int (fun _ _ => rfl)) pa_nil)) (pe_callB call_len_seq rfl C.len PySem.boot_len (pa_cons (pe_ix ix_tup (pv 9) pe_int (fun _ _ => rfl)) pa_nil)) (nomark _))
          (pss_one (ps_set (i := 7) sc_Run_follow.nd rfl (Or.inl rfl) (pe_m DSe (pe_fld (pv 0) rfl) TN.cl (hr.mono (by decide)) (pa_cons (pe_tup (pa_cons pe_str (pa_cons (pv 7) (pa_cons (pe_ix ix_tup (pe_ix ix_tup (pv 10) pe_int (fun _ _ => rfl)) (pe_un un_neg pe_int) (fun _ _ => rfl)) pa_nil)))) pa_nil)))) pss_nil)
        (pss_cons (ps_set (i := 11) sc_Run_follow.nd rfl (Or.inl rfl) (pe_op op_catA (pe_op op_catA (pe_tup (pa_cons (pe_ix ix_tup (pv 10) pe_int (fun _ _ => rfl)) pa_nil)) (pe_ix ix_tup (pv 10) pe_int (fun _ _ => rfl)))
          (pe_tup (pa_cons (pe_m0 DRo (pv 4) TT.cl (hr.mono (by decide))) (pa_cons (pe_ix ix_tup (pv 10) pe_int (fun _ _ => rfl)) (pa_cons (pv 7) (pa_cons (pe_ix ix_tup (pv 10) pe_int (fun _ _ => rfl)) pa_nil)))))))
        (pss_cons (ps_expr (pe_bm PySem.F.plainAttrs_list PySem.F.slot_list_append PySem.F.type_list_append mt_append (pe_fld (pv 0) rfl) (pa_cons (pv 10) pa_nil)))
        (pss_one (ps_expr (pe_bm PySem.F.plainAttrs_list PySem.F.slot_list_append PySem.F.type_list_append mt_append (pe_fld (pv 0) rfl) (pa_cons (pe_m DSe (pe_fld (pv 0) rfl) TN.cl (hr.mono (by decide)) (pa_cons (pe_op op_catA (pe_gr gs rfl) (pv 11)) pa_nil)) pa_nil))))))))))))))), ?_⟩
    obtain ⟨nt, rn, dxr, pa, wa, sa, p, ws, n, b, rfl, c, fc, hsl, hsa, hnl, hpa, po, hwa, wo, hn, hlim, k⟩ := h
    have hLIM : LIM = 16000000 := rfl
    -- the tree
    refine ⟨_, rfl, rn.r, CR, dxr, _, _, rfl, fc.rob, TR.cl, TR.notary, rnfl_notary _ _, fun t dxt ht hdxt hnet => ?_⟩
    have s1 : Same H (upd (upd H dxt (.own t)) t (.ins CT dxt [])) := Same.trans (same_new hdxt) (same_new (by rw [upd_ne (Ne.symm hnet)]; exact ht))
    have htn : t ≠ nt.n := (c.nt.nel ht).1
    have c1 := c.same s1
    have hins : (upd (upd H dxt (.own t)) t (.ins CT dxt [])) t = some (.ins CT dxt []) := upd_same
    generalize upd (upd H dxt (.own t)) t (.ins CT dxt []) = H1 at s1 c1 hins
    refine ⟨nt, t, dxt, b, rfl, hins, htn, c1.call, by omega, fun H2 b2 wt ls rt ewt fwl fR frs ta rl W tr lm kw n2 ext le => ?_⟩
    subst ewt
    refine ⟨rfl, ?_⟩
    simp only [L2.start, List.set_cons_succ, List.set_cons_zero, List.map_cons, List.map_nil, List.length_cons, List.length_nil, Nat.reduceAdd, Nat.reduceSub, List.replicate_succ, List.replicate_zero, List.cons_append, List.nil_append]
    have wn : WtNew wt H := ⟨ht, same_free s1 fwl, same_free s1 fR, fun r hr => same_free s1 (frs r hr)⟩
    have f0 : FolR CN CR nt rn dxr H b p ws H b [sa] [] := by
      refine ⟨fc.rob, hsl, fun i a ha => ?_, hnl, fun i z hz => by simp at hz, .refl _ _ _, c.nt, .refl _⟩
      cases i with
      | zero => cases ha; exact hsa
      | succ i => simp at ha
    have f2 : FolR CN CR nt rn dxr H b p ws H2 b2 [sa] [] := (f0.same fc s1).move fc kw (fun x hx => by rw [List.mem_singleton.mp hx]; exact ht) (kw.tkI c1.nt hins) n2 ext
    have t2 : TrI CT nt wt H2 b2 (trc p ws 0).me ls rt := ⟨ta, rl, W, tr, lm⟩
    clear hins kw fwl fR frs ta W tr lm
    obtain ⟨r0, m, u0, ha00, hr00, hm00, hu00⟩ := id hsa
    have tk02 : TK H H2 := f2.kp.tk c.nt fun x hx => by
      rcases List.mem_cons.mp hx with e | e
      · rw [e]; exact fc.sl
      · rw [List.mem_singleton.mp e]; exact fc.nl
    have ha0 := tk02.tup ha00
    have hm0 : H2 m = some (.tup (nats st0.me)) := tk02.tup hm00
    have hu0 : H2 u0 = some (.tup (nats st0.wr)) := tk02.tup hu00
    refine ⟨_, rfl, rn.r, CR, dxr, _, _, rfl, f2.rob, TR.cl, TR.states, rnfl_states _ _, rn.sl, _, 0, V.ref sa, rfl, rfl, SqL.of f2.sl, atI_nat (j := 0) rfl, sa, _, 2, .ref m, rfl, rfl, SqT.of ha0, atI_nat (j := 2) rfl, ?_⟩
    simp only [L2.start, List.set_cons_succ, List.set_cons_zero, List.map_cons, List.map_nil, List.length_cons, List.length_nil, Nat.reduceAdd, Nat.reduceSub, List.replicate_succ, List.replicate_zero, List.cons_append, List.nil_append]
    refine ⟨_, rfl, m, nats st0.me, rfl, .inr (SqT.of hm0), 64, rfl, by decide, by decide, ?_⟩
    refine for_range (lo := 0) (n := (64 : Int).toNat) (fun i σ H3 => H3 = H2 ∧ ∃ v6, σ = [some (.ref rn.r), some (.ref pa), some (.ref wa), some (.int (n : Int)), some (.ref wt.t), some (.ref m), v6, none, none, none, none, none]) ⟨rfl, none, rfl⟩ ?_ ?_
    · rintro i σ H3 hi ⟨rfl, v6, rfl⟩
      have e0 : st0.me[i]? = some 0 := List.getElem?_replicate_of_lt hi
      refine ⟨_, rfl, _, rfl, m, _, _, .int 0, rfl, rfl, SqT.of hm0, at_of (j := i) (by omega) (nats_at (x := 0) e0), rfl, _, rfl, iteF ⟨rfl, some (.int (0 + (i : Int))), rfl⟩⟩
    rintro σ H3 ⟨rfl, v6, rfl⟩
    have c2 : Cal CN T nt H3 b2 := ⟨f2.nt, c.t.tk (f2.kp.tk c.nt fun x hx => by
      rcases List.mem_cons.mp hx with e | e
      · rw [e]; exact fc.sl
      · rw [List.mem_singleton.mp e]; exact fc.nl)⟩
    refine ⟨_, rfl, rn.r, CR, dxr, _, _, rfl, f2.rob, TR.cl, TR.notary, rnfl_notary _ _, _, rfl, rn.r, CR, dxr, _, _, rfl, f2.rob, TR.cl, TR.states, rnfl_states _ _, rn.sl, _, 0, V.ref sa, rfl, rfl, SqL.of f2.sl, atI_nat (j := 0) rfl, sa, _, 4, .ref u0, rfl, rfl, SqT.of ha0, atI_nat (j := 4) rfl, ?_⟩
    refine ⟨nt, u0, [], b2, rfl, c2.call, hu0, (fun x hx => by cases hx), by show b2.length + 0 ≤ LIM; omega, fun H4 b4 ch Wc hch kp4 n4 ext4 le4 => ?_⟩
    have le4 : b4.length ≤ b2.length + 0 := le4
    have f4 := f2.keep fc kp4 n4 ext4
    have t4 := t2.keep f2.nt kp4 ext4
    clear hu0 ha0
    simp only [L2.start, List.set_cons_succ, List.set_cons_zero, List.map_cons, List.map_nil, List.length_cons, List.length_nil, Nat.reduceAdd, Nat.reduceSub, List.replicate_succ, List.replicate_zero, List.cons_append, List.nil_append]
    refine ⟨_, rfl, (n : Int), rfl, by omega, by omega, ?_⟩
    refine for_range (lo := 0) (n := (n : Int).toNat) (fun j σ H5 => ∃ (v6 v8 v9 v10 v11 : Option V) (ch : Nat) (ls : List Nat) (rt : List (List Nat)) (sas : List Addr) (zs : List Nat) (b5 : Book), σ = [some (.ref rn.r), some (.ref pa), some (.ref wa), some (.int (n : Int)), some (.ref wt.t), some (.ref m), v6, some (.int (ch : Int)), v8, v9, v10, v11] ∧
      FolR CN CR nt rn dxr H b p ws H5 b5 sas zs ∧ sas.length = j + 1 ∧ zs.length = j ∧ TrI CT nt wt H5 b5 (trc p ws j).me ls rt ∧ Wr b5 (trc p ws j).wr ch ∧ ch ≤ LIM ∧ j ≤ n ∧ b5.length ≤ b.length + 128 + j * 1000)
      ⟨v6, none, none, none, none, ch, ls, rt, [sa], [], b4, rfl, f4, rfl, rfl, t4, Wc, hch, Nat.zero_le _, by omega⟩ ?_ ?_
    · rintro j σ H5 hj ⟨v6, v8, v9, v10, v11, ch, ls, rt, sas, zs, b5, rfl, f5, hs5, hz5, t5, W5, hch5, hj5, le5⟩
      rw [Int.toNat_natCast] at hj
      obtain ⟨so, spo, swr⟩ := trc_ok po wo j (by omega)
      have kept := stepS_ok po so wo spo (by omega)
      have so2 := kept.ok
      have esu : trc p ws (j + 1) = stepS p ws (trc p ws j) := rfl
      rw [← esu] at kept so2
      obtain ⟨pre, al, rfl⟩ : ∃ pre al, sas = pre ++ [al] := ⟨sas.dropLast, sas.getLast (fun z => by rw [z] at hs5; simp at hs5), (List.dropLast_concat_getLast _).symm⟩
      have hpl : pre.length = j := by
        rw [List.length_append] at hs5
        simp at hs5
        omega
      have hal : StAt H5 al (trc p ws j) := f5.st j al (by rw [← hpl]; exact mid_at pre al [])
      have esl : H5 rn.sl = some (.lst (pre.map V.ref ++ [V.ref al])) := by
        have z := f5.sl
        rw [List.map_append] at z
        exact z
      have tkH : ∀ {H6 : Hp} {b6 : Book} {sas zs}, FolR CN CR nt rn dxr H b p ws H6 b6 sas zs → TK H H6 := fun f6 => f6.kp.tk c.nt fun x hx => by
        rcases List.mem_cons.mp hx with e | e
        · rw [e]; exact fc.sl
        · rw [List.mem_singleton.mp e]; exact fc.nl
      have cal : ∀ {H6 : Hp} {b6 : Book} {sas zs}, FolR CN CR nt rn dxr H b p ws H6 b6 sas zs → Call CN T.l T.p nt H6 b6 := fun f6 => (show Cal CN T nt _ _ from ⟨f6.nt, c.t.tk (tkH f6)⟩).call
      -- old, new
      refine ⟨_, rfl, rn.r, CR, dxr, _, _, rfl, f5.rob, TR.cl, TR.states, rnfl_states _ _, 1, rfl, rn.sl, _, -1, V.ref al, rfl, rfl, SqL.of esl, atI_last _ _, ?_⟩
      simp only [L2.start, List.set_cons_succ, List.set_cons_zero, List.map_cons, List.map_nil, List.length_cons, List.length_nil, Nat.reduceAdd, Nat.reduceSub, List.replicate_succ, List.replicate_zero, List.cons_append, List.nil_append]
      refine ⟨_, rfl, _, rfl, _, rfl, pa, wa, al, p, ws, trc p ws j, rfl, hpa.tk (tkH f5), po.ok, (tkH f5).tup hwa, wo.hi, spo, hal, so.four, fun q H6 s6 hq => ?_⟩
      rw [← esu] at hq
      simp only [L2.start, List.set_cons_succ, List.set_cons_zero, List.map_cons, List.map_nil, List.length_cons, List.length_nil, Nat.reduceAdd, Nat.reduceSub, List.replicate_succ, List.replicate_zero, List.cons_append, List.nil_append]
      have f6 := f5.same fc s6
      have t6 := t5.keep f5.nt (.of_same s6) (.refl _)
      have hal6 : StAt H6 al (trc p ws j) := hal.tk (Same.tk s6)
      have hme1 := so2.mel
      have hme0 := so.mel
      -- the memory's tree
      refine ⟨fun σ H7 => ∃ (v6 : Option V) (ls : List Nat) (rt : List (List Nat)) (b7 : Book), σ = [some (.ref rn.r), some (.ref pa), some (.ref wa), some (.int (n : Int)), some (.ref wt.t), some (.ref m), v6, some (.int (ch : Int)), some (.int (0 + (j : Int))), some (.ref al), some (.ref q), v11] ∧
        FolR CN CR nt rn dxr H b p ws H7 b7 (pre ++ [al]) zs ∧ TrI CT nt wt H7 b7 (trc p ws (j + 1)).me ls rt ∧ StAt H7 q (trc p ws (j + 1)) ∧ StAt H7 al (trc p ws j) ∧ Ext b5 b7 ∧ b7.length ≤ b5.length + 704, ?_, ?_⟩
      · obtain ⟨rq, mq, uq, aq, hrq, hmq, huq⟩ := hq
        obtain ⟨ra, ma, ua, aa, hra, hma, hua⟩ := hal6
        refine ⟨_, rfl, q, _, 2, .ref mq, rfl, rfl, SqT.of aq, atI_nat (j := 2) rfl, _, rfl, al, _, 2, .ref ma, rfl, rfl, SqT.of aa, atI_nat (j := 2) rfl, ?_⟩
        refine neK (natK_str (trc p ws (j + 1)).me) (natK_str (trc p ws j).me) (by rw [natK_map]; exact hmq) (by rw [natK_map]; exact hma) ⟨_, rfl, ?_⟩
        by_cases em : (trc p ws (j + 1)).me = (trc p ws j).me
        · rw [decide_eq_true (by rw [em])]
          exact iteF ⟨_, ls, rt, b5, rfl, f6, by rw [em]; exact t6, ⟨rq, mq, uq, aq, hrq, hmq, huq⟩, ⟨ra, ma, ua, aa, hra, hma, hua⟩, .refl _, by omega⟩
        · rw [decide_eq_false (fun z => em (natK_inj z))]
          have hmm : H6 m = some (.tup (nats st0.me)) := s6 _ _ ((tkH f5).tup hm00)
          refine iteT ⟨_, rfl, m, nats st0.me, rfl, .inr (SqT.of hmm), 64, rfl, by decide, by decide, ?_⟩
          refine for_range (lo := 0) (n := (64 : Int).toNat) (fun i σ H7 => ∃ (v6 : Option V) (ls : List Nat) (rt : List (List Nat)) (b7 : Book), σ = [some (.ref rn.r), some (.ref pa), some (.ref wa), some (.int (n : Int)), some (.ref wt.t), some (.ref m), v6, some (.int (ch : Int)), some (.int (0 + (j : Int))), some (.ref al), some (.ref q), v11] ∧
            FolR CN CR nt rn dxr H b p ws H7 b7 (pre ++ [al]) zs ∧ TrI CT nt wt H7 b7 ((trc p ws (j + 1)).me.take i ++ (trc p ws j).me.drop i) ls rt ∧ StAt H7 q (trc p ws (j + 1)) ∧ StAt H7 al (trc p ws j) ∧ Ext b5 b7 ∧ b7.length ≤ b5.length + i * 11)
            ⟨v6, ls, rt, b5, rfl, f6, t6, ⟨rq, mq, uq, aq, hrq, hmq, huq⟩, ⟨ra, ma, ua, aa, hra, hma, hua⟩, .refl _, by omega⟩ ?_ ?_
          · clear hrq hmq huq hra hma hua aq aa
            rintro i σ H7 hi ⟨v6, ls, rt, b7, rfl, f7, t7, hq7, ha7, e7, le7⟩
            have hi : i < 64 := hi
            obtain ⟨rq, mq, uq, aq, hrq, hmq, huq⟩ := id hq7
            obtain ⟨ra, ma, ua, aa, hra, hma, hua⟩ := id ha7
            have g1 : i < (trc p ws (j + 1)).me.length := by rw [hme1]; exact hi
            have g0 : i < (trc p ws j).me.length := by rw [hme0]; exact hi
            refine ⟨_, rfl, q, _, 2, .ref mq, rfl, rfl, SqT.of aq, atI_nat (j := 2) rfl, _, rfl, mq, _, _, .int ((trc p ws (j + 1)).me[i] : Int), rfl, rfl, SqT.of hmq, at_of (j := i) (by omega) (nats_at (List.getElem?_eq_getElem g1)), ?_⟩
            refine ⟨_, rfl, al, _, 2, .ref ma, rfl, rfl, SqT.of aa, atI_nat (j := 2) rfl, _, rfl, ma, _, _, .int ((trc p ws j).me[i] : Int), rfl, rfl, SqT.of hma, at_of (j := i) (by omega) (nats_at (List.getElem?_eq_getElem g0)), rfl, _, rfl, ?_⟩
            rw [nEq]
            by_cases ei : (trc p ws (j + 1)).me[i] = (trc p ws j).me[i]
            · rw [decide_eq_true ei]
              refine iteF ⟨_, ls, rt, b7, rfl, f7, ?_, hq7, ha7, e7, by omega⟩
              rw [← take_same_drop g1 g0 ei]
              exact t7
            · rw [decide_eq_false ei]
              obtain ⟨dx7, ob7⟩ := t7.ta.ob
              refine iteT ⟨_, rfl, wt.t, dx7, _, rfl, ob7, wfl_no _ _ (by decide +kernel) (by decide +kernel) (by decide +kernel), _, rfl, ?_⟩
              refine ⟨_, rfl, q, _, 2, .ref mq, rfl, rfl, SqT.of aq, atI_nat (j := 2) rfl, _, rfl, mq, _, _, .int ((trc p ws (j + 1)).me[i] : Int), rfl, rfl, SqT.of hmq, at_of (j := i) (by omega) (nats_at (List.getElem?_eq_getElem g1)), ?_⟩
              have hl : ((trc p ws (j + 1)).me.take i ++ (trc p ws j).me.drop i).length = 64 := by rw [List.length_append, List.length_take, List.length_drop, hme1, hme0]; omega
              refine ⟨nt, wt, _, ls, rt, b7, i, (trc p ws (j + 1)).me[i], by rw [show (0 : Int) + (i : Int) = (i : Int) by omega]; rfl, cal f7, t7.ta, t7.W, t7.tr, t7.lm, by rw [hl]; exact hi, so2.me _ (List.getElem_mem _), by rw [t7.rl]; decide, by omega, fun H8 b8 ls8 rt8 ta8 rl8 W8 tr8 lm8 k8 n8 e8 le8 => ?_⟩
              have tk8 : TK H7 H8 := k8.tk f7.nt t7.lists
              rw [take_set_drop g1 g0] at ta8 W8
              exact ⟨_, ls8, rt8, b8, rfl, f7.move fc k8 wn.mem tk8 n8 e8, ⟨ta8, by rw [rl8, t7.rl], W8, tr8, lm8⟩, hq7.tk tk8, ha7.tk tk8, e7.trans e8, by omega⟩
          · rintro σ H7 ⟨v6, ls, rt, b7, rfl, f7, t7, hq7, ha7, e7, le7⟩
            have e64 : (64 : Int).toNat = 64 := rfl
            rw [e64, List.take_of_length_le (by rw [hme1]; exact Nat.le_refl _), List.drop_of_length_le (by rw [hme0]; exact Nat.le_refl _), List.append_nil] at t7
            exact ⟨v6, ls, rt, b7, rfl, f7, t7, hq7, ha7, e7, by rw [e64] at le7; omega⟩
      clear f6 t6 hal6 hq
      rintro σ H7 ⟨v6, ls, rt, b7, rfl, f7, t7, hq7, ha7, e7, le7⟩
      -- the chain
      refine ⟨fun σ H8 => ∃ (ch : Nat) (b8 : Book), σ = [some (.ref rn.r), some (.ref pa), some (.ref wa), some (.int (n : Int)), some (.ref wt.t), some (.ref m), v6, some (.int (ch : Int)), some (.int (0 + (j : Int))), some (.ref al), some (.ref q), v11] ∧
        FolR CN CR nt rn dxr H b p ws H8 b8 (pre ++ [al]) zs ∧ TrI CT nt wt H8 b8 (trc p ws (j + 1)).me ls rt ∧ StAt H8 q (trc p ws (j + 1)) ∧ Wr b8 (trc p ws (j + 1)).wr ch ∧ ch ≤ LIM ∧ b8.length ≤ b5.length + 705, ?_, ?_⟩
      · obtain ⟨rq, mq, uq, aq, hrq, hmq, huq⟩ := id hq7
        obtain ⟨ra, ma, ua, aa, hra, hma, hua⟩ := id ha7
        refine ⟨_, rfl, q, _, 4, .ref uq, rfl, rfl, SqT.of aq, atI_nat (j := 4) rfl, uq, _, rfl, .inr (SqT.of huq), _, rfl, al, _, 4, .ref ua, rfl, rfl, SqT.of aa, atI_nat (j := 4) rfl, ua, _, rfl, .inr (SqT.of hua), _, _, rfl, rfl, _, rfl, ?_⟩
        rw [nats_len, nats_len]
        rcases kept.wr with ew | ⟨v, hv, ew⟩
        · rw [ew, decide_eq_false (by omega)]
          exact iteF ⟨ch, b7, rfl, f7, t7, hq7, W5.ext e7, hch5, by omega⟩
        · have hlt : ((trc p ws j).wr.length : Int) < ((trc p ws (j + 1)).wr.length : Int) := by
            rw [ew, List.length_append]
            show ((trc p ws j).wr.length : Int) < (((trc p ws j).wr.length + 1 : Nat) : Int)
            omega
          rw [decide_eq_true hlt]
          obtain ⟨dxn, z0, en⟩ := f7.nt.ob
          have huq2 : H7 uq = some (.tup (nats (trc p ws j).wr ++ [.int (v : Int)])) := by
            have z : H7 uq = some (.tup (nats (trc p ws (j + 1)).wr)) := huq
            rw [ew, ← nats_snoc] at z
            exact z
          refine iteT ⟨_, rfl, rn.r, CR, dxr, _, _, rfl, f7.rob, TR.cl, TR.notary, rnfl_notary _ _, nt.n, dxn, _, rfl, en, nfl_no _ _ (by decide +kernel) (by decide +kernel) (by decide +kernel), _, rfl, _, rfl, q, _, 4, .ref uq, rfl, rfl, SqT.of aq, atI_nat (j := 4) rfl, 1, rfl, uq, _, -1, .int (v : Int), rfl, rfl, SqT.of huq2, atI_last _ _, by show 3 ≤ sizeLine; decide, fun tq htq => ?_⟩
          have s8 := same_new (o := .tup [V.str "wrote", V.int (ch : Int), V.int (v : Int)]) htq
          refine ⟨nt, tq, wroteP ch v, b7, rfl, (cal f7).same s8, upd_same, wroteOk hch5 hv, by omega, fun H9 kp9 n9 => ?_⟩
          have l1 := addB_len b7 (wroteP ch v)
          have k9 : Keep nt H7 H9 := (Keep.of_same s8).trans kp9
          refine ⟨_, addB b7 (wroteP ch v), rfl, f7.keep fc k9 n9 (ext_add _ _), t7.keep f7.nt k9 (ext_add _ _), hq7.tk (k9.tk f7.nt), ?_, findB_lim (by omega), by omega⟩
          rw [ew]
          exact .snoc (W5.ext (e7.trans (ext_add _ _))) rfl (addB_find _ _)
      clear f7 t7 hq7 ha7 e7 le7 W5 hch5
      rintro σ H8 ⟨ch, b8, rfl, f8, t8, hq8, W8, hch8, le8⟩
      -- fields
      obtain ⟨rq, mq, uq, aq, hrq, hmq, huq⟩ := id hq8
      refine ⟨_, rfl, q, _, 0, .int ((trc p ws (j + 1)).pl : Int), rfl, rfl, SqT.of aq, atI_nat (j := 0) rfl, by show 1 ≤ sizeLine; decide, fun p1 hp1 => ?_⟩
      have s9 := same_new (o := .tup [V.int ((trc p ws (j + 1)).pl : Int)]) hp1
      refine ⟨_, rfl, q, _, 1, .ref rq, rfl, rfl, SqT.of (s9 _ _ aq), atI_nat (j := 1) rfl, ?_⟩
      refine catT upd_same (s9 _ _ hrq) (by rw [nats_len, so2.rgl]; show 1 + 4 ≤ sizeLine; decide) fun p2 H9 s10 h9 => ?_
      have sa := Same.trans s9 s10
      have f9 := f8.same fc sa
      have t9 := t8.keep f8.nt (.of_same sa) (.refl _)
      have aq9 := sa _ _ aq
      obtain ⟨dx9, ob9⟩ := t9.ta.ob
      refine ⟨_, rfl, wt.t, dx9, _, rfl, ob9, wfl_no _ _ (by decide +kernel) (by decide +kernel) (by decide +kernel), nt, wt, _, ls :: rt, b8, rfl, t9.ta, t9.tr, ?_⟩
      refine ⟨_, rfl, q, _, 3, .int ((trc p ws (j + 1)).po : Int), rfl, rfl, SqT.of aq9, atI_nat (j := 3) rfl, _, rfl, _, rfl, q, _, 5, .int ((trc p ws (j + 1)).ss : Int), rfl, rfl, SqT.of aq9, atI_nat (j := 5) rfl, by show 4 ≤ sizeLine; decide, fun p3 hp3 => ?_⟩
      have s11 := same_new (o := .tup [V.int (rootR (ls :: rt) : Int), V.int ((trc p ws (j + 1)).po : Int), V.int (ch : Int), V.int ((trc p ws (j + 1)).ss : Int)]) hp3
      refine catT (s11 _ _ h9) upd_same ?_ fun p4 H10 s12 h10 => ?_
      · rw [List.length_append, nats_len, so2.rgl]
        show 1 + 4 + 4 ≤ sizeLine
        decide
      have e10 : ([V.int ((trc p ws (j + 1)).pl : Int)] ++ nats (trc p ws (j + 1)).rg) ++ [V.int (rootR (ls :: rt) : Int), V.int ((trc p ws (j + 1)).po : Int), V.int (ch : Int), V.int ((trc p ws (j + 1)).ss : Int)] = nats (fieldsL (trc p ws (j + 1)) (rootR (ls :: rt)) ch) := by
        unfold fieldsL nats
        rw [List.map_cons, List.map_append]
        rfl
      rw [e10] at h10
      simp only [L2.start, List.set_cons_succ, List.set_cons_zero, List.map_cons, List.map_nil, List.length_cons, List.length_nil, Nat.reduceAdd, Nat.reduceSub, List.replicate_succ, List.replicate_zero, List.cons_append, List.nil_append]
      have sb := Same.trans s11 s12
      have f10 := f9.same fc sb
      have t10 := t9.keep f9.nt (.of_same sb) (.refl _)
      have hq10 := hq8.tk (Same.tk (sa.trans sb))
      have FB : FieldsB b8 (trc p ws (j + 1)) (fieldsL (trc p ws (j + 1)) (rootR (ls :: rt)) ch) := ⟨ls, rt, ch, ⟨t8.W, t8.tr, t8.rl⟩, W8, rfl⟩
      have hroot : rootR (ls :: rt) ≤ LIM := by
        obtain ⟨pr, x, e⟩ := tree_last t8.tr
        rw [e, root_last]
        exact t8.lm [x] (by rw [e]; simp) x (by simp)
      have fo := fields_ok so2 hroot hch8
      have fl := fields_len (root := rootR (ls :: rt)) (chain := ch) so2.rgl
      generalize fieldsL (trc p ws (j + 1)) (rootR (ls :: rt)) ch = fs at h10 FB fo fl
      clear f8 f9 t8 t9 hq8 aq hrq hmq huq aq9
      -- append the state
      refine ⟨_, rfl, rn.r, CR, dxr, _, _, rfl, f10.rob, TR.cl, TR.states, rnfl_states _ _, .inl ⟨rfl, _, SqL.of f10.sl⟩, _, rfl, rn.sl, _, .ref q, rfl, rfl, f10.sl, ?_, ?_⟩
      · rw [List.length_map, hs5]
        exact Nat.lt_of_le_of_lt (show j + 1 ≤ 17 by omega) (by decide)
      have f11 := f10.pushS fc (q := q) (by rw [hs5]; exact hq10)
      have h11 : (upd H10 rn.sl (.lst ((pre ++ [al]).map V.ref ++ [V.ref q]))) p4 = some (.tup (nats fs)) := by
        rw [upd_ne (ne_of h10 f10.sl (fun z => nomatch z))]
        exact h10
      obtain ⟨nt1, nt2, nt3, nt4⟩ := wn.ne fc.sl.choose_spec
      have t11 : TrI CT nt wt (upd H10 rn.sl (.lst ((pre ++ [al]).map V.ref ++ [V.ref q]))) b8 (trc p ws (j + 1)).me ls rt := t10.upd nt1 nt2 nt3 nt4
      generalize upd H10 rn.sl (.lst ((pre ++ [al]).map V.ref ++ [V.ref q])) = H11 at f11 h11 t11
      -- append the seal
      obtain ⟨dxn, z0, en⟩ := f11.nt.ob
      refine ⟨_, rfl, rn.r, CR, dxr, _, _, rfl, f11.rob, TR.cl, TR.named, rnfl_named _ _, .inl ⟨rfl, _, SqL.of f11.nl⟩, _, rfl, rn.r, CR, dxr, _, _, rfl, f11.rob, TR.cl, TR.notary, rnfl_notary _ _, nt.n, dxn, _, rfl, en, nfl_no _ _ (by decide +kernel) (by decide +kernel) (by decide +kernel), _, rfl, ?_⟩
      refine catG (ts H11) (SqT.of h11) (by simp) (fun z => by have := congrArg List.length z; rw [nats_len, fl] at this; simp at this) (by rw [nats_len, fl]; decide) fun p5 H12 s13 h12 => ?_
      have e12 : [V.str "state"] ++ nats fs = (stateP fs).map kV := by
        show V.str "state" :: nats fs = V.str "state" :: (natK fs).map kV
        rw [natK_map]
      rw [e12] at h12
      refine ⟨nt, p5, stateP fs, b8, rfl, (cal f11).same s13, h12, stateOk fl fo, by omega, fun H13 kp13 n13 => ?_⟩
      have k13 : Keep nt H11 H13 := (Keep.of_same s13).trans kp13
      have f13 := f11.keep fc k13 n13 (ext_add b8 (stateP fs))
      have t13 := t11.keep f11.nt k13 (ext_add b8 (stateP fs))
      refine ⟨rn.nl, _, _, rfl, rfl, f13.nl, ?_, ?_⟩
      · rw [nats_len, hz5]
        exact Nat.lt_of_le_of_lt (show j ≤ 16 by omega) (by decide)
      have f14 := f13.pushZ fc (z := findB (addB b8 (stateP fs)) (stateP fs)) (by rw [hz5]; exact ⟨fs, FB.ext (ext_add _ _), rfl, addB_find _ _⟩)
      obtain ⟨mt1, mt2, mt3, mt4⟩ := wn.ne fc.nl.choose_spec
      have l1 := addB_len b8 (stateP fs)
      exact ⟨v6, _, _, _, _, ch, ls, rt, _, _, _, rfl, f14, by rw [List.length_append, hs5]; rfl, by rw [List.length_append, hz5]; rfl, t13.upd mt1 mt2 mt3 mt4, W8.ext (ext_add _ _), hch8, by omega, by omega⟩
    · rintro σ H5 ⟨v6, v8, v9, v10, v11, ch, ls, rt, sas, zs, b5, rfl, f5, hs5, hz5, t5, W5, hch5, hj5, le5⟩
      rw [Int.toNat_natCast] at hs5 hz5 le5
      exact k H5 b5 sas zs f5 hs5 hz5 le5
end
end K24
set_option Elab.async false
set_option autoImplicit false
set_option linter.all false
set_option maxRecDepth 100000
set_option maxHeartbeats 4000000
namespace K24
open PySem PySem.Spec PyProof.Rows L2
/-- a run of n steps that stands -/
structure RunAt (CR : Addr) (nt : Nt) (rn : Rn) (p : List Ins) (ws : List Nat) (n lv : Nat) (H : Hp) (b : Book) (sas : List Addr) (zs q : List Nat) : Prop where
  rob : ∃ dx, H rn.r = some (.ins CR dx (rnfl nt rn))
  sl : H rn.sl = some (.lst (sas.map V.ref))
  sll : sas.length = n + 1
  st : ∀ i a, sas[i]? = some a → StAt H a (trc p ws i)
  nl : H rn.nl = some (.lst (nats zs))
  zl : zs.length = n
  zz : ∀ i z, zs[i]? = some z → SealB b (trc p ws (i + 1)) z
  ak : H rn.ak = some (.tup (nats q))
  qb : QB b p ws st0 lv q
  rr : rn.r ≠ nt.n
  ns : rn.sl ≠ nt.l
  nn : rn.nl ≠ nt.l
theorem RunAt.kw {CN CR : Addr} {nt : Nt} {rn : Rn} {p : List Ins} {ws : List Nat} {n lv : Nat} {H H' : Hp} {b b' b0 : Book} {sas : List Addr} {zs q : List Nat} {S : List Addr} (r : RunAt CR nt rn p ws n lv H b sas zs q) (N : NotAt CN nt H b0) (k : KeepW nt S H H') (tk : TK H H') (e : Ext b b')
    (h1 : rn.r ∉ S) (h2 : rn.sl ∉ S) (h3 : rn.nl ∉ S) : RunAt CR nt rn p ws n lv H' b' sas zs q := by
  obtain ⟨dx, ob⟩ := r.rob
  obtain ⟨ts, el, _⟩ := N.ls
  exact ⟨⟨dx, k _ _ ob r.rr (ne_of ob N.dc (fun z => nomatch z)) (ne_of ob el (fun z => nomatch z)) h1⟩, k.lst N r.sl r.ns h2, r.sll, fun i a ha => (r.st i a ha).tk tk, k.lst N r.nl r.nn h3, r.zl, fun i z hz => (r.zz i z hz).ext e, tk.tup r.ak, r.qb.ext e, r.rr, r.ns, r.nn⟩
theorem RunAt.keep {CN CR : Addr} {nt : Nt} {rn : Rn} {p : List Ins} {ws : List Nat} {n lv : Nat} {H H' : Hp} {b b' b0 : Book} {sas : List Addr} {zs q : List Nat} (r : RunAt CR nt rn p ws n lv H b sas zs q) (N : NotAt CN nt H b0) (k : Keep nt H H') (e : Ext b b') : RunAt CR nt rn p ws n lv H' b' sas zs q :=
  r.kw N (S := []) (Keep.w k) (k.tk N) e (fun h => by cases h) (fun h => by cases h) (fun h => by cases h)
section
variable {P : Program} {w : World} {K : PySem.W.Frag} {mg : Str → Option Value} {base : Heap}
def spRunInit (CN CR : Addr) (T : Tb) : Sp := fun vs H Q _ => ∃ (nt : Nt) (r dx pa wa sa : Addr) (p : List Ins) (ws : List Nat) (lv : Nat) (b : Book), vs = [.ref r, .ref nt.n, .ref pa, .ref wa, .ref sa, .int (lv : Int)] ∧ H r = some (.ins CR dx []) ∧ r ≠ nt.n ∧ Cal CN T nt H b ∧ PrAt H pa p ∧ PrOk p ∧ WdAt H wa ws ∧ WsOk ws ∧ StAt H sa st0 ∧ lv ≤ 4 ∧
  b.length + 20000 ≤ LIM ∧ ∀ (H' : Hp) (b' : Book) (rn : Rn) (sas : List Addr) (zs q : List Nat), rn.r = r → H rn.sl = none → H rn.nl = none → RunAt CR nt rn p ws (2 ^ lv) lv H' b' sas zs q → KeepW nt [r] H H' → NotAt CN nt H' b' → Ext b b' → b'.length ≤ b.length + 20000 → Q .non H'
theorem sc_Run_init : FnScope ["self", "notary", "program", "words", "state", "level"] ["self", "notary", "program", "words", "state", "level"] (defScope s_Run_init) := ⟨rfl, rfl, rfl, by decide +kernel, rfl, by decide +kernel, by decide +kernel⟩
def rf3 (nt : Nt) (cd gv : Addr) : List (Str × V) := [("notary", .ref nt.n), ("code", .ref cd), ("given", .ref gv)]
def rf4 (nt : Nt) (cd gv ak : Addr) : List (Str × V) := [("notary", .ref nt.n), ("code", .ref cd), ("given", .ref gv), ("asked", .ref ak)]
def rf5 (nt : Nt) (cd gv ak sl : Addr) : List (Str × V) := [("notary", .ref nt.n), ("code", .ref cd), ("given", .ref gv), ("asked", .ref ak), ("states", .ref sl)]
theorem rf4_put (nt : Nt) (cd gv ak : Addr) : putF "asked" (V.ref ak) (rf3 nt cd gv) = rf4 nt cd gv ak := by
  unfold rf3
  rw [put_miss (by decide +kernel), put_miss (by decide +kernel), put_miss (by decide +kernel), put_nil]
  rfl
theorem rf5_put (nt : Nt) (cd gv ak sl : Addr) : putF "states" (V.ref sl) (rf4 nt cd gv ak) = rf5 nt cd gv ak sl := by
  unfold rf4
  rw [put_miss (by decide +kernel), put_miss (by decide +kernel), put_miss (by decide +kernel), put_miss (by decide +kernel), put_nil]
  rfl
theorem rf6_put (nt : Nt) (cd gv ak sl nl r : Addr) : putF "named" (V.ref nl) (rf5 nt cd gv ak sl) = rnfl nt ⟨r, cd, gv, ak, sl, nl⟩ := by
  unfold rf5
  rw [put_miss (by decide +kernel), put_miss (by decide +kernel), put_miss (by decide +kernel), put_miss (by decide +kernel), put_miss (by decide +kernel), put_nil]
  rfl
theorem ok_Run_init {CN CR : Addr} {T : Tb} (F : FnI K mg "Run" CR "Run.__init__" s_Run_init) (C : Cst K mg) (TR : RunC K CR) (D1 : Def P w K mg base 8 "check_all" ["program", "words", "state", "level"] (spCheckAll T)) (D2 : Def P w K mg base 11 "question_states" ["notary", "program", "words", "state", "level"] (spQuestion CN T))
    (D3 : Def P w K mg base 1 "leaf_count" ["height"] spLeaves) (D4 : Mth P w K mg base 9 CR "follow" ["self", "program", "words", "steps"] (spFollow CN CR T)) : Mkr P w K mg base 12 "Run" CR ["self", "notary", "program", "words", "state", "level"] (spRunInit CN CR T) := by
  refine Mkr.of F sc_Run_init (fun _ _ _ _ _ _ us hl => match us, hl with | [_, _, _, _, _, _], _ => rfl) (fun vs H Q E h => ?_) (fun f cdv A outer s H vs Q E hr h => ?_)
  · obtain ⟨nt, r, dx, pa, wa, sa, p, ws, lv, b, rfl, _⟩ := h; rfl
  · refine ⟨_, pss_cons (ps_expr (pe_d D1 (hr.mono (by decide)) rfl (pa_cons (pv 2) (pa_cons (pv 3) (pa_cons (pv 4) (pa_cons (pv 5) pa_nil))))))
      (pss_cons (ps_fld (pv 0) (pv 1) rfl)
      (pss_cons (ps_fld (pv 0) (pv 2) rfl)
      (pss_cons (ps_fld (pv 0) (pv 3) rfl)
      (pss_cons (ps_fld (pv 0) (pe_d D2 hr rfl (pa_cons (pv 1) (pa_cons (pv 2) (pa_cons (pv 3) (pa_cons (pv 4) (pa_cons (pv 5) pa_nil)))))) rfl)
      (pss_cons (ps_fld (pv 0) (pe_lst (pa_cons (pv 4) pa_nil)) rfl)
      (pss_cons (ps_fld (pv 0) (pe_lst pa_nil) rfl)
      (pss_one (ps_expr (pe_m D4 (pv 0) TR.cl (hr.mono (by decide)) (pa_cons (pv 2) (pa_cons (pv 3) (pa_cons (pe_d D3 (hr.mono (by decide)) rfl (pa_cons (pv 5) pa_nil)) pa_nil)))))))))))), ?_⟩
    obtain ⟨nt, r, dx, pa, wa, sa, p, ws, lv, b, rfl, hr0, hrn, c, hpa, po, hwa, wo, hsa, hlv, hlim, k⟩ := h
    have hLIM : LIM = 16000000 := rfl
    refine ⟨_, rfl, _, rfl, _, rfl, _, rfl, pa, wa, sa, p, ws, st0, lv, rfl, hpa, po, hwa, wo, hsa, st0_ok, Nat.zero_le _, by omega, c.t, fun H1 s1 => ?_⟩
    have c1 := c.same s1
    have hr1 := s1 _ _ hr0
    have hrd : r ≠ nt.d := ne_of hr1 c1.nt.dc (fun z => nomatch z)
    obtain ⟨ts, el, _⟩ := c1.nt.ls
    have hrl : r ≠ nt.l := ne_of hr1 el (fun z => nomatch z)
    -- the first three fields
    refine ⟨_, rfl, _, rfl, r, CR, dx, _, rfl, hr1, TR.cl, TR.notary, by decide, ?_⟩
    refine ⟨_, rfl, _, rfl, r, CR, dx, _, rfl, upd_same, TR.cl, TR.code, by show 1 < 1000; decide, ?_⟩
    refine ⟨_, rfl, _, rfl, r, CR, dx, _, rfl, upd_same, TR.cl, TR.given, by show 2 < 1000; decide, ?_⟩
    have e3 : putF "given" (V.ref wa) (putF "code" (V.ref pa) (putF "notary" (V.ref nt.n) [])) = rf3 nt pa wa := by
      rw [put_nil, put_miss (by decide +kernel), put_nil, put_miss (by decide +kernel), put_miss (by decide +kernel), put_nil]
      rfl
    rw [e3]
    have k2 : KeepW nt [r] H (upd (upd (upd H1 r (.ins CR dx (putF "notary" (V.ref nt.n) []))) r (.ins CR dx (putF "code" (V.ref pa) (putF "notary" (V.ref nt.n) [])))) r (.ins CR dx (rf3 nt pa wa))) :=
      (((Keep.w (S := [r]) (Keep.of_same s1)).upd (by simp)).upd (by simp)).upd (by simp)
    have n2 : NotAt CN nt (upd (upd (upd H1 r (.ins CR dx (putF "notary" (V.ref nt.n) []))) r (.ins CR dx (putF "code" (V.ref pa) (putF "notary" (V.ref nt.n) [])))) r (.ins CR dx (rf3 nt pa wa))) b :=
      ((c1.nt.upd ⟨hrn, hrd, hrl⟩).upd ⟨hrn, hrd, hrl⟩).upd ⟨hrn, hrd, hrl⟩
    have r2 : (upd (upd (upd H1 r (.ins CR dx (putF "notary" (V.ref nt.n) []))) r (.ins CR dx (putF "code" (V.ref pa) (putF "notary" (V.ref nt.n) [])))) r (.ins CR dx (rf3 nt pa wa))) r = some (.ins CR dx (rf3 nt pa wa)) := upd_same
    generalize upd (upd (upd H1 r (.ins CR dx (putF "notary" (V.ref nt.n) []))) r (.ins CR dx (putF "code" (V.ref pa) (putF "notary" (V.ref nt.n) [])))) r (.ins CR dx (rf3 nt pa wa)) = H2 at k2 n2 r2
    have tk2 : TK H H2 := k2.tkI c.nt hr0
    have c2 : Cal CN T nt H2 b := ⟨n2, c.t.tk tk2⟩
    -- the question
    refine ⟨_, rfl, _, rfl, _, rfl, _, rfl, _, rfl, nt, pa, wa, sa, p, ws, st0, lv, b, rfl, c2, hpa.tk tk2, po, tk2.tup hwa, wo, hsa.tk tk2, st0_ok, Nat.zero_le _, by omega, by show b.length + 385 + 0 ≤ LIM; omega, fun H3 b3 ak q hq hak kp3 n3 ext3 le3 => ?_⟩
    have le3 : b3.length ≤ b.length + 385 + 0 := le3
    have c3 := c2.keep kp3 n3
    have r3 := kp3 _ _ r2 hrn hrd hrl
    have k3 : KeepW nt [r] H H3 := k2.trans (Keep.w kp3)
    refine ⟨_, rfl, r, CR, dx, _, rfl, r3, TR.cl, TR.asked, by show 3 < 1000; decide, ?_⟩
    have tk3 : TK H H3 := tk2.trans (kp3.tk n2)
    have tk34 : TK H3 (upd H3 r (.ins CR dx (putF "asked" (V.ref ak) (rf3 nt pa wa)))) := ((KeepW.refl nt [r] H3).upd (by simp)).tkI n3 r3
    have k4 := k3.upd (a := r) (o := .ins CR dx (putF "asked" (V.ref ak) (rf3 nt pa wa))) (by simp)
    have n4 := n3.upd (a := r) (o := .ins CR dx (putF "asked" (V.ref ak) (rf3 nt pa wa))) ⟨hrn, hrd, hrl⟩
    have r4 : (upd H3 r (.ins CR dx (putF "asked" (V.ref ak) (rf3 nt pa wa)))) r = some (.ins CR dx (putF "asked" (V.ref ak) (rf3 nt pa wa))) := upd_same
    have hak4 := tk34.tup hak
    have tk4 := tk3.trans tk34
    generalize upd H3 r (.ins CR dx (putF "asked" (V.ref ak) (rf3 nt pa wa))) = H4 at k4 n4 r4 hak4 tk4
    -- the lists
    have fr : ∀ {Hx : Hp} {x : Addr} {fs : List (Str × V)} {bx : Book}, KeepW nt [r] H Hx → NotAt CN nt Hx bx → Hx r = some (.ins CR dx fs) → Hx x = none → H x = none := fun kx nx rx hx => kx.free nx (fun y hy => by rw [List.mem_singleton.mp hy, rx]; simp) hx
    refine ⟨_, rfl, by show 1 ≤ sizeLine; decide, fun sl hsl => ?_⟩
    have hslH := fr k4 n4 r4 hsl
    have nsl := n4.nel hsl
    have nrsl : r ≠ sl := ne_of_none r4 hsl
    have tk45 : TK H4 (upd H4 sl (.lst [V.ref sa])) := Same.tk (same_new hsl)
    have k5 := k4.new (o := .lst [V.ref sa]) hslH
    have n5 := n4.upd (o := .lst [V.ref sa]) nsl
    have r5 : (upd H4 sl (.lst [V.ref sa])) r = some (.ins CR dx (putF "asked" (V.ref ak) (rf3 nt pa wa))) := by rw [upd_ne nrsl]; exact r4
    have sl5 : (upd H4 sl (.lst [V.ref sa])) sl = some (.lst [V.ref sa]) := upd_same
    have tk5 := tk4.trans tk45
    have hak5 := tk45.tup hak4
    generalize upd H4 sl (.lst [V.ref sa]) = H5 at k5 n5 r5 sl5 tk5 hak5
    refine ⟨_, rfl, r, CR, dx, _, rfl, r5, TR.cl, TR.states, ?_, ?_⟩
    · have e : (putF "asked" (V.ref ak) (rf3 nt pa wa)).length = 4 := by
        unfold rf3
        rw [put_miss (by decide +kernel), put_miss (by decide +kernel), put_miss (by decide +kernel), put_nil]
        rfl
      rw [e]; decide
    generalize ef5 : putF "states" (V.ref sl) (putF "asked" (V.ref ak) (rf3 nt pa wa)) = fs5
    have tk56 : TK H5 (upd H5 r (.ins CR dx fs5)) := ((KeepW.refl nt [r] H5).upd (by simp)).tkI n5 r5
    have k6 := k5.upd (a := r) (o := .ins CR dx fs5) (by simp)
    have n6 := n5.upd (a := r) (o := .ins CR dx fs5) ⟨hrn, hrd, hrl⟩
    have r6 : (upd H5 r (.ins CR dx fs5)) r = some (.ins CR dx fs5) := upd_same
    have sl6 : (upd H5 r (.ins CR dx fs5)) sl = some (.lst [V.ref sa]) := by rw [upd_ne (Ne.symm nrsl)]; exact sl5
    have tk6 := tk5.trans tk56
    have hak6 := tk56.tup hak5
    generalize upd H5 r (.ins CR dx fs5) = H6 at k6 n6 r6 sl6 tk6 hak6
    refine ⟨Nat.zero_le _, fun nl hnl => ?_⟩
    have hnlH := fr k6 n6 r6 hnl
    have nnl := n6.nel hnl
    have nrnl : r ≠ nl := ne_of_none r6 hnl
    have nslnl : sl ≠ nl := ne_of_none sl6 hnl
    have tk67 : TK H6 (upd H6 nl (.lst [])) := Same.tk (same_new hnl)
    have k7 := k6.new (o := .lst []) hnlH
    have n7 := n6.upd (o := .lst []) nnl
    have r7 : (upd H6 nl (.lst [])) r = some (.ins CR dx fs5) := by rw [upd_ne nrnl]; exact r6
    have sl7 : (upd H6 nl (.lst [])) sl = some (.lst [V.ref sa]) := by rw [upd_ne nslnl]; exact sl6
    have nl7 : (upd H6 nl (.lst [])) nl = some (.lst []) := upd_same
    have tk7 := tk6.trans tk67
    have hak7 := tk67.tup hak6
    generalize upd H6 nl (.lst []) = H7 at k7 n7 r7 sl7 nl7 tk7 hak7
    have e6 : putF "named" (V.ref nl) fs5 = rnfl nt ⟨r, pa, wa, ak, sl, nl⟩ := by
      rw [← ef5, rf4_put, rf5_put, rf6_put]
    have l5 : fs5.length < 1000 := by
      rw [← ef5, rf4_put, rf5_put]
      show 5 < 1000
      decide
    refine ⟨_, rfl, r, CR, dx, _, rfl, r7, TR.cl, TR.named, l5, ?_⟩
    rw [e6]
    have tk78 : TK H7 (upd H7 r (.ins CR dx (rnfl nt ⟨r, pa, wa, ak, sl, nl⟩))) := ((KeepW.refl nt [r] H7).upd (by simp)).tkI n7 r7
    have k8 := k7.upd (a := r) (o := .ins CR dx (rnfl nt ⟨r, pa, wa, ak, sl, nl⟩)) (by simp)
    have n8 := n7.upd (a := r) (o := .ins CR dx (rnfl nt ⟨r, pa, wa, ak, sl, nl⟩)) ⟨hrn, hrd, hrl⟩
    have r8 : (upd H7 r (.ins CR dx (rnfl nt ⟨r, pa, wa, ak, sl, nl⟩))) r = some (.ins CR dx (rnfl nt ⟨r, pa, wa, ak, sl, nl⟩)) := upd_same
    have sl8 : (upd H7 r (.ins CR dx (rnfl nt ⟨r, pa, wa, ak, sl, nl⟩))) sl = some (.lst [V.ref sa]) := by rw [upd_ne (Ne.symm nrsl)]; exact sl7
    have nl8 : (upd H7 r (.ins CR dx (rnfl nt ⟨r, pa, wa, ak, sl, nl⟩))) nl = some (.lst []) := by rw [upd_ne (Ne.symm nrnl)]; exact nl7
    have tk8 := tk7.trans tk78
    have hak8 := tk78.tup hak7
    generalize upd H7 r (.ins CR dx (rnfl nt ⟨r, pa, wa, ak, sl, nl⟩)) = H8 at k8 n8 r8 sl8 nl8 tk8 hak8
    -- follow
    have c8 : Cal CN T nt H8 b3 := ⟨n8, c.t.tk tk8⟩
    have fc : FolC CR nt ⟨r, pa, wa, ak, sl, nl⟩ dx H8 := ⟨r8, ⟨_, sl8⟩, ⟨_, nl8⟩, nsl.2.2, nnl.2.2, nslnl, hrn⟩
    have h16 : 2 ^ lv ≤ 16 := Nat.le_trans (Nat.pow_le_pow_right (by decide) hlv) (by decide)
    refine ⟨_, rfl, r, dx, _, rfl, r8, rnfl_no _ _ (by decide +kernel) (by decide +kernel) (by decide +kernel) (by decide +kernel) (by decide +kernel) (by decide +kernel), _, rfl, _, rfl, _, rfl, lv, by omega, rfl, ?_⟩
    refine ⟨nt, ⟨r, pa, wa, ak, sl, nl⟩, dx, pa, wa, sa, p, ws, 2 ^ lv, b3, rfl, c8, fc, sl8, hsa.tk tk8, nl8, hpa.tk tk8, po, tk8.tup hwa, wo, h16, by omega, fun H9 b9 sas zs f9 hs9 hz9 le9 => ?_⟩
    have tk9 : TK H8 H9 := f9.kp.tk n8 fun x hx => by
      rcases List.mem_cons.mp hx with e | e
      · rw [e]; exact ⟨_, sl8⟩
      · rw [List.mem_singleton.mp e]; exact ⟨_, nl8⟩
    have k9 : KeepW nt [r] H H9 := k8.fresh f9.kp fun x hx => by
      rcases List.mem_cons.mp hx with e | e
      · rw [e]; exact .inl hslH
      · rw [List.mem_singleton.mp e]; exact .inl hnlH
    exact k H9 b9 ⟨r, pa, wa, ak, sl, nl⟩ sas zs q rfl hslH hnlH ⟨⟨dx, f9.rob⟩, f9.sl, hs9, f9.st, f9.nl, hz9, f9.zz, tk9.tup hak8, hq.ext f9.ext, hrn, nsl.2.2, nnl.2.2⟩ k9 f9.nt (ext3.trans f9.ext) (by omega)
/-! ### what a run answers -/
def spRunQ (CR : Addr) : Sp := fun vs H Q _ => ∃ (nt : Nt) (rn : Rn) (p : List Ins) (ws : List Nat) (n lv : Nat) (b : Book) (sas : List Addr) (zs q : List Nat), vs = [.ref rn.r] ∧ RunAt CR nt rn p ws n lv H b sas zs q ∧ Q (.ref rn.ak) H
theorem sc_Run_question : FnScope ["self"] ["self"] (defScope s_Run_question) := ⟨rfl, rfl, rfl, by decide +kernel, rfl, by decide +kernel, by decide +kernel⟩
theorem ok_Run_question {CR : Addr} (F : FnM K CR "question" "Run.question" s_Run_question) (TR : RunC K CR) : Mth P w K mg base 1 CR "question" ["self"] (spRunQ CR) := by
  refine Mth.of F sc_Run_question (fun _ _ _ _ _ _ us hl => match us, hl with | [_], _ => rfl) (fun vs H Q E h => ?_) (fun f cdv A outer s H vs Q E hr h => ?_)
  · obtain ⟨nt, rn, p, ws, n, lv, b, sas, zs, q, rfl, _⟩ := h; rfl
  · refine ⟨_, pss_one (ps_ret (pe_fld (pv 0) rfl)), ?_⟩
    obtain ⟨nt, rn, p, ws, n, lv, b, sas, zs, q, rfl, ra, k⟩ := h
    obtain ⟨dx, ob⟩ := ra.rob
    exact ⟨_, rfl, rn.r, CR, dx, _, _, rfl, ob, TR.cl, TR.asked, rnfl_asked _ _, k⟩
def spRunStart (CR : Addr) : Sp := fun vs H Q _ => ∃ (nt : Nt) (rn : Rn) (p : List Ins) (ws : List Nat) (n lv : Nat) (b : Book) (sas : List Addr) (zs q : List Nat), vs = [.ref rn.r] ∧ RunAt CR nt rn p ws n lv H b sas zs q ∧ Q (.int (q.getD 4 0 : Int)) H
theorem sc_Run_start : FnScope ["self"] ["self"] (defScope s_Run_start) := ⟨rfl, rfl, rfl, by decide +kernel, rfl, by decide +kernel, by decide +kernel⟩
theorem ok_Run_start {CR : Addr} (F : FnM K CR "start" "Run.start" s_Run_start) (TR : RunC K CR) : Mth P w K mg base 1 CR "start" ["self"] (spRunStart CR) := by
  refine Mth.of F sc_Run_start (fun _ _ _ _ _ _ us hl => match us, hl with | [_], _ => rfl) (fun vs H Q E h => ?_) (fun f cdv A outer s H vs Q E hr h => ?_)
  · obtain ⟨nt, rn, p, ws, n, lv, b, sas, zs, q, rfl, _⟩ := h; rfl
  · refine ⟨_, pss_one (ps_ret (pe_ix ix_tup (pe_fld (pv 0) rfl) pe_int (fun _ _ => rfl))), ?_⟩
    obtain ⟨nt, rn, p, ws, n, lv, b, sas, zs, q, rfl, ra, k⟩ := h
    obtain ⟨dx, ob⟩ := ra.rob
    obtain ⟨_, _, _, _, _, _, _, _, hq⟩ := ra.qb.ex
    have hl : q.length = 6 := by rw [hq]; rfl
    exact ⟨_, rfl, rn.r, CR, dx, _, _, rfl, ob, TR.cl, TR.asked, rnfl_asked _ _, rn.ak, _, 4, .int (q.getD 4 0 : Int), rfl, rfl, SqT.of ra.ak, atI_nat (j := 4) (nats_at (getD_at (by rw [hl]; decide))), k⟩
def spRunSeals (CR : Addr) : Sp := fun vs H Q _ => ∃ (nt : Nt) (rn : Rn) (p : List Ins) (ws : List Nat) (n lv : Nat) (b : Book) (sas : List Addr) (zs q : List Nat), vs = [.ref rn.r] ∧ RunAt CR nt rn p ws n lv H b sas zs q ∧ ∀ p' H', Same H H' → H' p' = some (.tup (nats zs)) → Q (.ref p') H'
theorem sc_Run_seals : FnScope ["self"] ["self"] (defScope s_Run_seals) := ⟨rfl, rfl, rfl, by decide +kernel, rfl, by decide +kernel, by decide +kernel⟩
theorem ok_Run_seals {CR : Addr} (F : FnM K CR "seals" "Run.seals" s_Run_seals) (C : Cst K mg) (TR : RunC K CR) : Mth P w K mg base 1 CR "seals" ["self"] (spRunSeals CR) := by
  refine Mth.of F sc_Run_seals (fun _ _ _ _ _ _ us hl => match us, hl with | [_], _ => rfl) (fun vs H Q E h => ?_) (fun f cdv A outer s H vs Q E hr h => ?_)
  · obtain ⟨nt, rn, p, ws, n, lv, b, sas, zs, q, rfl, _⟩ := h; rfl
  · refine ⟨_, pss_one (ps_ret (pe_callTy call_tuple_of rfl C.tuple boot_tuple (pa_cons (pe_fld (pv 0) rfl) pa_nil))), ?_⟩
    obtain ⟨nt, rn, p, ws, n, lv, b, sas, zs, q, rfl, ra, k⟩ := h
    obtain ⟨dx, ob⟩ := ra.rob
    exact ⟨_, rfl, rn.r, CR, dx, _, _, rfl, ob, TR.cl, TR.named, rnfl_named _ _, rn.nl, _, rfl, .inl ⟨SqL.of ra.nl, fun p' hp' => k p' _ (same_new hp') upd_same⟩⟩
def spRunState (CR : Addr) : Sp := fun vs H Q _ => ∃ (nt : Nt) (rn : Rn) (p : List Ins) (ws : List Nat) (n lv i : Nat) (b : Book) (sas : List Addr) (zs q : List Nat), vs = [.ref rn.r, .int (i : Int)] ∧ RunAt CR nt rn p ws n lv H b sas zs q ∧ i ≤ n ∧ ∀ a, StAt H a (trc p ws i) → Q (.ref a) H
theorem sc_Run_state_at : FnScope ["self", "n"] ["self", "n"] (defScope s_Run_state_at) := ⟨rfl, rfl, rfl, by decide +kernel, rfl, by decide +kernel, by decide +kernel⟩
theorem ok_Run_state_at {CR : Addr} (F : FnM K CR "state_at" "Run.state_at" s_Run_state_at) (C : Cst K mg) (TR : RunC K CR) (D : Def P w K mg base 1 "is_number" ["value", "least", "most"] spNumber) : Mth P w K mg base 2 CR "state_at" ["self", "n"] (spRunState CR) := by
  refine Mth.of F sc_Run_state_at (fun _ _ _ _ _ _ us hl => match us, hl with | [_, _], _ => rfl) (fun vs H Q E h => ?_) (fun f cdv A outer s H vs Q E hr h => ?_)
  · obtain ⟨nt, rn, p, ws, n, lv, i, b, sas, zs, q, rfl, _⟩ := h; rfl
  · refine ⟨_, pss_cons (ps_if (pt_not (pt_val (pe_d D hr rfl (pa_cons (pv 1) (pa_cons pe_int (pa_cons (pe_callB call_len_seq rfl C.len PySem.boot_len (pa_cons (pe_fld (pv 0) rfl) pa_nil)) pa_nil)))))) (pss_one ps_never) pss_nil)
      (pss_one (ps_ret (pe_ix ix_list (pe_fld (pv 0) rfl) (pv 1) (fun _ _ => rfl)))), ?_⟩
    obtain ⟨nt, rn, p, ws, n, lv, i, b, sas, zs, q, rfl, ra, hi, k⟩ := h
    obtain ⟨dx, ob⟩ := ra.rob
    refine ⟨_, rfl, _, rfl, rn.r, CR, dx, _, _, rfl, ob, TR.cl, TR.named, rnfl_named _ _, rn.nl, _, rfl, .inl (SqL.of ra.nl), _, _, .inl ⟨(i : Int), rfl, _, rfl, ?_⟩⟩
    rw [nats_len, ra.zl, decide_eq_true (by omega)]
    have hi2 : i < sas.length := by rw [ra.sll]; omega
    have ea : (sas.map V.ref)[i]? = some (V.ref sas[i]) := by rw [List.getElem?_map, List.getElem?_eq_getElem hi2]; rfl
    refine iteF ⟨_, rfl, rn.r, CR, dx, _, _, rfl, ob, TR.cl, TR.states, rnfl_states _ _, _, rfl, rn.sl, _, _, V.ref sas[i], rfl, rfl, SqL.of ra.sl, atI_nat (j := i) ea, ?_⟩
    exact k _ (ra.st i _ (List.getElem?_eq_getElem hi2))
end
end K24
set_option Elab.async false
set_option autoImplicit false
set_option linter.all false
set_option maxRecDepth 100000
set_option maxHeartbeats 4000000
namespace K24
open PySem PySem.Spec PyProof.Rows L2
/-! ### papers -/
structure Pap where
  fs : List Nat
  code : Option Ins
  path : List Nat
  word : Nat
  wp : List Nat
  given : Nat
  gp : List Nat
def memP (fs : List Nat) : Option Ins → Prop
  | none => False
  | some c => (c.nm = "load" ∨ c.nm = "store") ∧ fs.getD (1 + c.a 1) 0 < 64
def readP (fs : List Nat) (n : Nat) : Option Ins → Prop
  | none => False
  | some c => c.nm = "read" ∧ fs.getD 6 0 < n
instance (fs : List Nat) (c : Option Ins) : Decidable (memP fs c) := by unfold memP; cases c <;> infer_instance
instance (fs : List Nat) (n : Nat) (c : Option Ins) : Decidable (readP fs n c) := by unfold readP; cases c <;> infer_instance
/-- the word's index that the code names -/
def idxP (fs : List Nat) : Option Ins → Nat
  | none => 0
  | some c => fs.getD (1 + c.a 1) 0
structure PapOk (pp : Pap) : Prop where
  fl : pp.fs.length = 9
  fo : ∀ x ∈ pp.fs, x ≤ 4294967295
  f0 : pp.fs.getD 0 0 ≤ 64
  f8 : pp.fs.getD 8 0 ≤ 2
  code : ∀ i, pp.code = some i → OkIns i
  path : ∀ x ∈ pp.path, x ≤ LIM
  word : isW pp.word
  wp : ∀ x ∈ pp.wp, x ≤ LIM
  given : isW pp.given
  gp : ∀ x ∈ pp.gp, x ≤ LIM
def papV (pp : Pap) (f c p w g : Addr) : List V := [.ref f, .ref c, .ref p, .int (pp.word : Int), .ref w, .int (pp.given : Int), .ref g]
def PapAt (H : Hp) (a : Addr) (pp : Pap) : Prop := ∃ f c p w g, H a = some (.tup (papV pp f c p w g)) ∧ WdAt H f pp.fs ∧ CodeAt H c pp.code ∧ WdAt H p pp.path ∧ WdAt H w pp.wp ∧ WdAt H g pp.gp
theorem PapAt.tk {H H' : Hp} (k : TK H H') {a : Addr} {pp : Pap} (h : PapAt H a pp) : PapAt H' a pp := by
  obtain ⟨f, c, p, w, g, h1, h2, h3, h4, h5, h6⟩ := h
  exact ⟨f, c, p, w, g, k.tup h1, k.tup h2, k.tup h3, k.tup h4, k.tup h5, k.tup h6⟩
/-- the paper of a program's state -/
structure PapB (b : Book) (pr : List Ins) (ws : List Nat) (st : St) (pp : Pap) : Prop where
  fs : FieldsB b st pp.fs
  next : ∃ z, SealB b (stepS pr ws st) z
  code : pp.code = if st.ss = 0 then pr[st.pl]? else none
  path : pp.code ≠ none → ∃ ls t, CTr b pr ls t ∧ pp.path = pathR (ls :: t) st.pl
  path0 : pp.code = none → pp.path = []
  mem : memP pp.fs pp.code → pp.word = st.me.getD (idxP pp.fs pp.code) 0 ∧ ∃ ls t, WTr b st.me ls t ∧ pp.wp = pathR (ls :: t) (idxP pp.fs pp.code)
  mem0 : ¬ memP pp.fs pp.code → pp.word = 0 ∧ pp.wp = []
  rd : readP pp.fs ws.length pp.code → pp.given = ws.getD st.po 0 ∧ ∃ ls t, WTr b (pad ws) ls t ∧ pp.gp = pathR (ls :: t) st.po
  rd0 : ¬ readP pp.fs ws.length pp.code → pp.given = 0 ∧ pp.gp = []
theorem PapB.ext {b b' : Book} (e : Ext b b') {pr : List Ins} {ws : List Nat} {st : St} {pp : Pap} (h : PapB b pr ws st pp) : PapB b' pr ws st pp := by
  refine ⟨h.fs.ext e, ?_, h.code, fun n => ?_, h.path0, fun m => ?_, h.mem0, fun m => ?_, h.rd0⟩
  · obtain ⟨z, hz⟩ := h.next
    exact ⟨z, hz.ext e⟩
  · obtain ⟨ls, t, h1, h2⟩ := h.path n
    exact ⟨ls, t, h1.ext e, h2⟩
  · obtain ⟨h0, ls, t, h1, h2⟩ := h.mem m
    exact ⟨h0, ls, t, h1.ext e, h2⟩
  · obtain ⟨h0, ls, t, h1, h2⟩ := h.rd m
    exact ⟨h0, ls, t, h1.ext e, h2⟩
/-- the fields of a state, one by one -/
theorem fields_at {st : St} {root chain : Nat} (h : st.rg.length = 4) : (fieldsL st root chain).getD 0 0 = st.pl ∧ (∀ i, i ≤ 3 → (fieldsL st root chain).getD (1 + i) 0 = st.r i) ∧ (fieldsL st root chain).getD 5 0 = root ∧ (fieldsL st root chain).getD 6 0 = st.po ∧
    (fieldsL st root chain).getD 7 0 = chain ∧ (fieldsL st root chain).getD 8 0 = st.ss ∧ ((fieldsL st root chain).drop 1).take 4 = st.rg := by
  obtain ⟨pl, rg, me, po, wr, ss⟩ := st
  match rg, h with
  | [r0, r1, r2, r3], _ =>
    refine ⟨rfl, fun i hi => ?_, rfl, rfl, rfl, rfl, rfl⟩
    rcases (show i = 0 ∨ i = 1 ∨ i = 2 ∨ i = 3 by omega) with e | e | e | e <;> subst e <;> rfl
theorem two_of {n : Str} (h : n = "load" ∨ n = "store") : n ∈ twoL := by
  rcases h with e | e <;> rw [e] <;> decide +kernel
theorem one_read {n : Str} (h : n = "read") : n ∈ oneL := by rw [h]; decide +kernel
def lsL : List Str := ["load", "store"]
theorem mem_ls {n : Str} : n ∈ lsL ↔ (n = "load" ∨ n = "store") := by
  unfold lsL
  rw [List.mem_cons, List.mem_singleton]
section
variable {P : Program} {w : World} {K : PySem.W.Frag} {mg : Str → Option Value} {base : Heap}
def PairAt (H : Hp) (a : Addr) (x : Nat) (l : List Nat) : Prop := ∃ q, H a = some (.tup [.int (x : Int), .ref q]) ∧ WdAt H q l
theorem PairAt.tk {H H' : Hp} (k : TK H H') {a : Addr} {x : Nat} {l : List Nat} (h : PairAt H a x l) : PairAt H' a x l := by
  obtain ⟨q, h1, h2⟩ := h
  exact ⟨q, k.tup h1, k.tup h2⟩
def spPaper (CN : Addr) (T : Tb) : Sp := fun vs H Q _ => ∃ (nt : Nt) (pa wa a : Addr) (pr : List Ins) (ws : List Nat) (st : St) (b : Book), vs = [.ref nt.n, .ref pa, .ref wa, .ref a] ∧ Cal CN T nt H b ∧ PrAt H pa pr ∧ PrOk pr ∧ WdAt H wa ws ∧ WsOk ws ∧ StAt H a st ∧ StOk st ∧ st.po ≤ ws.length ∧ st.wr.length ≤ 100 ∧
  b.length + 1000 ≤ LIM ∧ ∀ (H' : Hp) (b' : Book) (p : Addr) (pp : Pap), PapB b' pr ws st pp → PapOk pp → PapAt H' p pp → Keep nt H H' → NotAt CN nt H' b' → Ext b b' → b'.length ≤ b.length + 1000 → Q (.ref p) H'
theorem sc_make_paper : FnScope ["notary", "program", "words", "state", "fields", "code", "path", "memory", "given", "index"] ["notary", "program", "words", "state"] (defScope s_make_paper) := ⟨rfl, rfl, rfl, by decide +kernel, rfl, by decide +kernel, by decide +kernel⟩
theorem ok_make_paper {CN : Addr} {T : Tb} (F : FnF K mg "make_paper" "make_paper" s_make_paper) (C : Cst K mg) (TN : NotC K CN) (D1 : Def P w K mg base 9 "fields_of" ["notary", "state"] (spFields CN T.l T.p)) (D2 : Mth P w K mg base 5 CN "seal" ["self", "parts"] (spSeal CN T.l T.p)) (D3 : Def P w K mg base 10 "state_seal" ["notary", "state"] (spSSeal CN T.l T.p))
    (D4 : Def P w K mg base 4 "step" ["program", "words", "state"] spStep) (D5 : Def P w K mg base 1 "code_at" ["program", "place"] spCodeAt) (D6 : Def P w K mg base 8 "code_path" ["notary", "program", "place"] (spCPath CN T.l T.p)) (D7 : Def P w K mg base 8 "word_path" ["notary", "words", "index"] (spWPath CN T.l T.p)) :
    Def P w K mg base 11 "make_paper" ["notary", "program", "words", "state"] (spPaper CN T) := by
  obtain ⟨ag, gs, ts⟩ := C.tSTATE
  refine Def.of F sc_make_paper (fun _ _ _ _ _ _ us hl => match us, hl with | [_, _, _, _], _ => rfl) (fun vs H Q E h => ?_) (fun f cdv A outer s H vs Q E hr h => ?_)
  · obtain ⟨nt, pa, wa, a, pr, ws, st, b, rfl, _⟩ := h; rfl
  · refine ⟨_, pss_cons (ps_set (i := 4) sc_make_paper.nd rfl (Or.inl rfl) (pe_d D1 (hr.mono (by decide)) rfl (pa_cons (pv 0) (pa_cons (pv 3) pa_nil))))
      (pss_cons (ps_expr (pe_m D2 (pv 0) TN.cl (hr.mono (by decide)) (pa_cons (pe_op op_catA (pe_gr gs rfl) (pv 4)) pa_nil)))
      (pss_cons (ps_expr (pe_d D3 hr rfl (pa_cons (pv 0) (pa_cons (pe_d D4 (hr.mono (by decide)) rfl (pa_cons (pv 1) (pa_cons (pv 2) (pa_cons (pv 3) pa_nil)))) pa_nil))))
      (pss_cons (ps_set (i := 5) sc_make_paper.nd rfl (Or.inl rfl) (pe_tup pa_nil))
      (pss_cons (ps_set (i := 6) sc_make_paper.nd rfl (Or.inl rfl) (pe_tup pa_nil))
      (pss_cons (ps_set (i := 7) sc_make_paper.nd rfl (Or.inl rfl) (pe_tup (pa_cons pe_int (pa_cons (pe_tup pa_nil) pa_nil))))
      (pss_cons (ps_set (i := 8) sc_make_paper.nd rfl (Or.inl rfl) (pe_tup (pa_cons pe_int (pa_cons (pe_tup pa_nil) pa_nil))))
      (C8.pss_cut (ps_if (PW.pt (pw_and (pt_cmpR op_eq (pe_ix ix_tup (pv 3) pe_int (fun _ _ => rfl)) (pe_gi C.nRUNS rfl) (nomark _)) (pw_and1 (pt_cmpR op_lt (pe_ix ix_tup (pv 3) pe_int (fun _ _ => rfl)) (pe_callB call_len_seq rfl C.len PySem.boot_len (pa_cons (pv 1) pa_nil)) (nomark _)))))
        (pss_cons (ps_set (i := 5) sc_make_paper.nd rfl (Or.inl rfl) (pe_d D5 (hr.mono (by decide)) rfl (pa_cons (pv 1) (pa_cons (pe_ix ix_tup (pv 3) pe_int (fun _ _ => rfl)) pa_nil))))
        (pss_cons (ps_set (i := 6) sc_make_paper.nd rfl (Or.inl rfl) (pe_d D6 (hr.mono (by decide)) rfl (pa_cons (pv 0) (pa_cons (pv 1) (pa_cons (pe_ix ix_tup (pv 3) pe_int (fun _ _ => rfl)) pa_nil)))))
        (C8.pss_cut (ps_if (PW.pt (pw_and (pt_cmpR op_in_seq (pe_ix ix_tup (pv 5) pe_int (fun _ _ => rfl)) (pe_tup (pa_cons pe_str (pa_cons pe_str pa_nil))) rfl) (pw_and1 (pt_cmpR op_lt (pe_ix ix_tup (pe_ix ix_tup (pv 3) pe_int (fun _ _ => rfl)) (pe_ix ix_tup (pv 5) pe_int (fun _ _ => rfl)) (fun _ _ => rfl)) (pe_gi C.nMEMORY rfl) (nomark _)))))
          (pss_cons (ps_set (i := 9) sc_make_paper.nd rfl (Or.inl rfl) (pe_ix ix_tup (pe_ix ix_tup (pv 3) pe_int (fun _ _ => rfl)) (pe_ix ix_tup (pv 5) pe_int (fun _ _ => rfl)) (fun _ _ => rfl)))
          (pss_one (ps_set (i := 7) sc_make_paper.nd rfl (Or.inl rfl) (pe_tup (pa_cons (pe_ix ix_tup (pe_ix ix_tup (pv 3) pe_int (fun _ _ => rfl)) (pv 9) (fun _ _ => rfl)) (pa_cons (pe_d D7 (hr.mono (by decide)) rfl (pa_cons (pv 0) (pa_cons (pe_ix ix_tup (pv 3) pe_int (fun _ _ => rfl)) (pa_cons (pv 9) pa_nil)))) pa_nil)))))) pss_nil)
        (pss_one (ps_if (PW.pt (pw_and (pt_cmpR op_eq (pe_ix ix_tup (pv 5) pe_int (fun _ _ => rfl)) pe_str (nomark _)) (pw_and1 (pt_cmpR op_lt (pe_ix ix_tup (pv 3) pe_int (fun _ _ => rfl)) (pe_callB call_len_seq rfl C.len PySem.boot_len (pa_cons (pv 2) pa_nil)) (nomark _)))))
          (pss_one (ps_set (i := 8) sc_make_paper.nd rfl (Or.inl rfl) (pe_tup (pa_cons (pe_ix ix_tup (pv 2) (pe_ix ix_tup (pv 3) pe_int (fun _ _ => rfl)) (fun _ _ => rfl)) (pa_cons (pe_d D7 (hr.mono (by decide)) rfl (pa_cons (pv 0) (pa_cons (pv 2) (pa_cons (pe_ix ix_tup (pv 3) pe_int (fun _ _ => rfl)) pa_nil)))) pa_nil))))) pss_nil))))) pss_nil)
      (pss_one (ps_ret (pe_op op_catA (pe_op op_catA (pe_tup (pa_cons (pv 4) (pa_cons (pv 5) (pa_cons (pv 6) pa_nil)))) (pv 7)) (pv 8))))))))))), ?_⟩
    obtain ⟨nt, pa, wa, a, pr, ws, st, b, rfl, c, hpa, po, hwa, wo, ha, so, hpo, hwr, hlim, k⟩ := h
    have hLIM : LIM = 16000000 := rfl
    have kept := stepS_ok po so wo hpo (by omega)
    -- fields, their seal
    refine ⟨_, rfl, _, rfl, nt, a, st, b, rfl, c.call, ha, so, by omega, fun H1 b1 fa fs hf hfa fl fo kp1 n1 ext1 le1 => ?_⟩
    simp only [L2.start, List.set_cons_succ, List.set_cons_zero, List.map_cons, List.map_nil, List.length_cons, List.length_nil, Nat.reduceAdd, Nat.reduceSub, List.replicate_succ, List.replicate_zero, List.cons_append, List.nil_append]
    have c1 := c.keep kp1 n1
    have tk1 : TK H H1 := kp1.tk c.nt
    obtain ⟨dx, z0, en⟩ := n1.ob
    refine ⟨_, rfl, nt.n, dx, _, rfl, en, nfl_no _ _ (by decide +kernel) (by decide +kernel) (by decide +kernel), _, rfl, ?_⟩
    refine catG (ts H1) (SqT.of hfa) (by simp) (fun z => by have := congrArg List.length z; rw [nats_len, fl] at this; simp at this) (by rw [nats_len, fl]; decide) fun p2 H2 s2 h2 => ?_
    have e2 : [V.str "state"] ++ nats fs = (stateP fs).map kV := by
      show V.str "state" :: nats fs = V.str "state" :: (natK fs).map kV
      rw [natK_map]
    rw [e2] at h2
    have c2 := c1.same s2
    refine ⟨nt, p2, stateP fs, b1, rfl, c2.call, h2, stateOk fl fo, by omega, fun H3 kp3 n3 => ?_⟩
    have l1 := addB_len b1 (stateP fs)
    have c3 := c2.keep kp3 n3
    have tk3 : TK H H3 := (tk1.trans (Same.tk s2)).trans (kp3.tk c2.nt)
    -- the next state's seal
    refine ⟨_, rfl, _, rfl, _, rfl, _, rfl, pa, wa, a, pr, ws, st, rfl, hpa.tk tk3, po.ok, tk3.tup hwa, wo.hi, hpo, ha.tk tk3, so.four, fun q H4 s4 hq => ?_⟩
    have c4 := c3.same s4
    have wrl : (stepS pr ws st).wr.length ≤ st.wr.length + 1 := by
      rcases kept.wr with e | ⟨v, _, e⟩
      · rw [e]; omega
      · rw [e, List.length_append]; exact Nat.le_refl _
    refine ⟨nt, q, stepS pr ws st, addB b1 (stateP fs), rfl, c4.call, hq, kept.ok, by omega, fun H5 b5 z hz hzl kp5 n5 ext5 le5 => ?_⟩
    have c5 := c4.keep kp5 n5
    have kp05 : Keep nt H H5 := (((kp1.trans (.of_same s2)).trans kp3).trans (.of_same s4)).trans kp5
    have ext05 : Ext b b5 := (ext1.trans (ext_add _ _)).trans ext5
    have FB : FieldsB b5 st fs := hf.ext ((ext_add _ _).trans ext5)
    have hfa5 : H5 fa = some (.tup (nats fs)) := ((Same.tk s2).trans (kp3.tk c2.nt) |>.trans (Same.tk s4) |>.trans (kp5.tk c4.nt)).tup hfa
    have le5' : b5.length ≤ b.length + 128 + st.wr.length + 1 + 129 + (st.wr.length + 1) := by omega
    clear kp5 n5 ext5 le5 c4 hq c3 tk3 c2 h2 e2 kp3 n3 tk1 c1 hf hfa kp1 n1 ext1 le1 l1
    -- the defaults
    refine ⟨Nat.zero_le _, fun e1 he1 => ?_⟩
    have s6 := same_new (o := .tup []) he1
    refine ⟨Nat.zero_le _, fun e2 he2 => ?_⟩
    have s7 := same_new (o := .tup []) he2
    refine ⟨Nat.zero_le _, fun e3 he3 => ⟨by show 2 ≤ sizeLine; decide, fun m0 hm0 => ?_⟩⟩
    have s8 := same_new (o := .tup []) he3
    have s9 := same_new (o := .tup [V.int 0, V.ref e3]) hm0
    refine ⟨Nat.zero_le _, fun e4 he4 => ⟨by show 2 ≤ sizeLine; decide, fun g0 hg0 => ?_⟩⟩
    have s10 := same_new (o := .tup []) he4
    have s11 := same_new (o := .tup [V.int 0, V.ref e4]) hg0
    simp only [L2.start, List.set_cons_succ, List.set_cons_zero, List.map_cons, List.map_nil, List.length_cons, List.length_nil, Nat.reduceAdd, Nat.reduceSub, List.replicate_succ, List.replicate_zero, List.cons_append, List.nil_append]
    have sA := ((((Same.trans s6 s7).trans s8).trans s9).trans s10).trans s11
    have d1 : CodeAt _ e1 none := s11 _ _ (s10 _ _ (s9 _ _ (s8 _ _ (s7 _ _ upd_same))))
    have d2 : WdAt _ e2 [] := s11 _ _ (s10 _ _ (s9 _ _ (s8 _ _ upd_same)))
    have d3 : PairAt _ m0 0 [] := ⟨e3, s11 _ _ (s10 _ _ upd_same), s11 _ _ (s10 _ _ (s9 _ _ upd_same))⟩
    have d4 : PairAt _ g0 0 [] := ⟨e4, upd_same, s11 _ _ upd_same⟩
    generalize upd (upd (upd (upd (upd (upd H5 e1 (.tup [])) e2 (.tup [])) e3 (.tup [])) m0 (.tup [V.int 0, V.ref e3])) e4 (.tup [])) g0 (.tup [V.int 0, V.ref e4]) = H6 at sA d1 d2 d3 d4
    have c6 := c5.same sA
    have kp06 : Keep nt H H6 := kp05.trans (.of_same sA)
    have tk06 : TK H H6 := kp06.tk c.nt
    have hfa6 := sA _ _ hfa5
    clear s6 s7 s8 s9 s10 s11 he1 he2 he3 he4 hm0 hg0 hfa5 c5
    obtain ⟨r, m, u, ha0, hrg, hme, hwrt⟩ := id ha
    obtain ⟨lsM, tM, chM, WM, WrM, efs⟩ := id FB.ex
    obtain ⟨f0, fr, f5, f6, f7, f8, f9⟩ := fields_at (root := rootR (lsM :: tM)) (chain := chM) so.rgl
    rw [← efs] at f0 fr f5 f6 f7 f8 f9
    have hss := so.ss
    have hpl := so.pl
    refine ⟨fun σ H' => ∃ (v9 : Option V) (ca ph mm gg : Addr) (pp : Pap) (b' : Book), σ = [some (.ref nt.n), some (.ref pa), some (.ref wa), some (.ref a), some (.ref fa), some (.ref ca), some (.ref ph), some (.ref mm), some (.ref gg), v9] ∧ pp.fs = fs ∧ PapB b' pr ws st pp ∧ PapOk pp ∧ WdAt H' fa fs ∧ CodeAt H' ca pp.code ∧ WdAt H' ph pp.path ∧
      PairAt H' mm pp.word pp.wp ∧ PairAt H' gg pp.given pp.gp ∧ Keep nt H H' ∧ NotAt CN nt H' b' ∧ Ext b b' ∧ b'.length ≤ b.length + 1000, ?_, ?_⟩
    · have none_case : (if st.ss = 0 then pr[st.pl]? else none) = none → ∃ (v9 : Option V) (ca ph mm gg : Addr) (pp : Pap) (b' : Book), [some (V.ref nt.n), some (.ref pa), some (.ref wa), some (.ref a), some (.ref fa), some (.ref e1), some (.ref e2), some (.ref m0), some (.ref g0), none] = [some (.ref nt.n), some (.ref pa), some (.ref wa), some (.ref a), some (.ref fa), some (.ref ca), some (.ref ph), some (.ref mm), some (.ref gg), v9] ∧
          pp.fs = fs ∧ PapB b' pr ws st pp ∧ PapOk pp ∧ WdAt H6 fa fs ∧ CodeAt H6 ca pp.code ∧ WdAt H6 ph pp.path ∧ PairAt H6 mm pp.word pp.wp ∧ PairAt H6 gg pp.given pp.gp ∧ Keep nt H H6 ∧ NotAt CN nt H6 b' ∧ Ext b b' ∧ b'.length ≤ b.length + 1000 := fun hc => by
        refine ⟨none, e1, e2, m0, g0, ⟨fs, none, [], 0, [], 0, []⟩, b5, rfl, rfl, ⟨FB, ⟨z, hz⟩, hc.symm, fun n => absurd rfl n, fun _ => rfl, fun n => n.elim, fun _ => ⟨rfl, rfl⟩, fun n => n.elim, fun _ => ⟨rfl, rfl⟩⟩,
          ⟨fl, fo, by rw [f0]; exact hpl, by rw [f8]; exact hss, fun i hi => (nomatch hi), fun x hx => (by cases hx), Nat.zero_le _, fun x hx => (by cases hx), Nat.zero_le _, fun x hx => (by cases hx)⟩, hfa6, d1, d2, d3, d4, kp06, c6.nt, ext05, by omega⟩
      have ha6 := tk06.tup ha0
      refine ⟨_, rfl, a, _, 5, .int (st.ss : Int), rfl, rfl, SqT.of ha6, atI_nat (j := 5) rfl, rfl, _, rfl, ?_⟩
      rw [dec_nat0]
      by_cases hs : st.ss = 0
      case neg =>
        rw [decide_eq_false hs]
        exact iteF (none_case (if_neg hs))
      rw [decide_eq_true hs]
      obtain ⟨as, hp1, hp2⟩ := (hpa.tk tk06).len
      refine iteT ⟨_, rfl, a, _, 0, .int (st.pl : Int), rfl, rfl, SqT.of ha6, atI_nat (j := 0) rfl, _, rfl, pa, _, rfl, .inr (SqT.of hp1), _, _, rfl, rfl, _, rfl, ?_⟩
      rw [hp2]
      by_cases hl : st.pl < pr.length
      case neg =>
        rw [decide_eq_false (show ¬ (st.pl : Int) < (pr.length : Int) by omega)]
        exact iteF (none_case (by rw [if_pos hs, List.getElem?_eq_none (by omega)]))
      rw [decide_eq_true (show (st.pl : Int) < (pr.length : Int) by omega)]
      clear none_case
      have eci := List.getElem?_eq_getElem hl
      have oc : OkIns pr[st.pl] := po.ok _ (List.getElem_mem _)
      refine iteT ⟨_, rfl, _, rfl, a, _, 0, .int (st.pl : Int), rfl, rfl, SqT.of ha6, atI_nat (j := 0) rfl, pa, pr, st.pl, rfl, hpa.tk tk06, fun ca H7 s7 hca => ?_⟩
      rw [eci] at hca
      generalize pr[st.pl] = ci at oc hca eci
      simp only [L2.start, List.set_cons_succ, List.set_cons_zero, List.map_cons, List.map_nil, List.length_cons, List.length_nil, Nat.reduceAdd, Nat.reduceSub, List.replicate_succ, List.replicate_zero, List.cons_append, List.nil_append]
      have c7 := c6.same s7
      have tk7 := tk06.trans (Same.tk s7)
      refine ⟨_, rfl, _, rfl, _, rfl, a, _, 0, .int (st.pl : Int), rfl, rfl, SqT.of (tk7.tup ha0), atI_nat (j := 0) rfl, nt, pa, pr, st.pl, b5, rfl, c7.call, hpa.tk tk7, po.ok, by have := po.hi; omega, by omega, fun H8 b8 ph lsC tC CT hph hphl kp8 n8 ext8 le8 => ?_⟩
      simp only [L2.start, List.set_cons_succ, List.set_cons_zero, List.map_cons, List.map_nil, List.length_cons, List.length_nil, Nat.reduceAdd, Nat.reduceSub, List.replicate_succ, List.replicate_zero, List.cons_append, List.nil_append]
      have c8 := c7.keep kp8 n8
      have kp08 : Keep nt H H8 := (kp06.trans (.of_same s7)).trans kp8
      have tk78 := kp8.tk c7.nt
      have tk8 := tk7.trans tk78
      have hca8 : CodeAt H8 ca (some ci) := tk78.tup hca
      have d38 := (d3.tk (Same.tk s7)).tk tk78
      have d48 := (d4.tk (Same.tk s7)).tk tk78
      have hfa8 := tk78.tup (s7 _ _ hfa6)
      clear d1 d2 d3 d4 hca kp8 n8 c7 c6
      have hcr : ∀ i, i ≤ 3 → fs.getD (1 + i) 0 = st.r i := fr
      -- the memory's word
      refine ⟨fun σ H' => ∃ (v9 : Option V) (mm : Addr) (word : Nat) (wp : List Nat) (b' : Book), σ = [some (.ref nt.n), some (.ref pa), some (.ref wa), some (.ref a), some (.ref fa), some (.ref ca), some (.ref ph), some (.ref mm), some (.ref g0), v9] ∧
        (memP fs (some ci) → word = st.me.getD (idxP fs (some ci)) 0 ∧ ∃ ls t, WTr b' st.me ls t ∧ wp = pathR (ls :: t) (idxP fs (some ci))) ∧ (¬ memP fs (some ci) → word = 0 ∧ wp = []) ∧ isW word ∧ (∀ x ∈ wp, x ≤ LIM) ∧ PairAt H' mm word wp ∧ Keep nt H8 H' ∧ NotAt CN nt H' b' ∧ Ext b8 b' ∧ b'.length ≤ b8.length + 128, ?_, ?_⟩
      · refine ⟨_, rfl, ca, _, 0, .str ci.nm, rfl, rfl, SqT.of hca8, atI_nat (j := 0) code_nm, by show 2 ≤ sizeLine; decide, fun pt hpt => ⟨pt, lsL.map V.str, rfl, .inr (SqT.of upd_same), rfl, flat_strs _, _, rfl, ?_⟩⟩
        have s9 := same_new (o := .tup [V.str "load", V.str "store"]) hpt
        have hca9 := s9 _ _ hca8
        have tk9 := tk8.trans (Same.tk s9)
        have c9 := c8.same s9
        have d39 := d38.tk (Same.tk s9)
        have kp9 : Keep nt H8 (upd H8 pt (.tup [V.str "load", V.str "store"])) := .of_same s9
        generalize upd H8 pt (.tup [V.str "load", V.str "store"]) = H9 at s9 hca9 tk9 c9 d39 kp9
        rw [if_neg (by decide), inV_strs]
        by_cases hm : ci.nm ∈ lsL
        case neg =>
          rw [decide_eq_false hm]
          exact iteF ⟨_, m0, 0, [], b8, rfl, fun n => absurd (mem_ls.mpr n.1) hm, fun _ => ⟨rfl, rfl⟩, Nat.zero_le _, fun x hx => (by cases hx), d39, kp9, c9.nt, .refl _, by omega⟩
        rw [decide_eq_true hm]
        obtain ⟨o1, o2, ear, ho1, ho2⟩ := oc.two (two_of (mem_ls.mp hm))
        have e1 : ci.ar[1]? = some o2 := by rw [ear]; rfl
        have ea1 := a_of e1
        have eidx : idxP fs (some ci) = st.r o2 := by show fs.getD (1 + ci.a 1) 0 = _; rw [ea1]; exact hcr o2 ho2
        refine iteT ⟨_, rfl, a, _, 1, .ref r, rfl, rfl, SqT.of (tk9.tup ha0), atI_nat (j := 1) rfl, _, rfl, ca, _, 2, .int (o2 : Int), rfl, rfl, SqT.of hca9, atI_nat (j := 2) (code_at e1), r, _, _, .int (st.r o2 : Int), rfl, rfl, SqT.of (tk9.tup hrg), atI_nat (j := o2) (nats_at (St.r_at so.rgl ho2)), _, _, rfl, rfl, _, rfl, ?_⟩
        by_cases h64 : st.r o2 < 64
        case neg =>
          rw [decide_eq_false (show ¬ (st.r o2 : Int) < 64 by omega)]
          exact iteF ⟨_, m0, 0, [], b8, rfl, fun n => absurd (by have := n.2; rw [ea1, hcr o2 ho2] at this; exact this) h64, fun _ => ⟨rfl, rfl⟩, Nat.zero_le _, fun x hx => (by cases hx), d39, kp9, c9.nt, .refl _, by omega⟩
        rw [decide_eq_true (show (st.r o2 : Int) < 64 by omega)]
        have hmp : memP fs (some ci) := ⟨mem_ls.mp hm, by rw [ea1, hcr o2 ho2]; exact h64⟩
        have hml : st.r o2 < st.me.length := by rw [so.mel]; exact h64
        refine iteT ⟨_, rfl, a, _, 1, .ref r, rfl, rfl, SqT.of (tk9.tup ha0), atI_nat (j := 1) rfl, _, rfl, ca, _, 2, .int (o2 : Int), rfl, rfl, SqT.of hca9, atI_nat (j := 2) (code_at e1), r, _, _, .int (st.r o2 : Int), rfl, rfl, SqT.of (tk9.tup hrg), atI_nat (j := o2) (nats_at (St.r_at so.rgl ho2)), ?_⟩
        simp only [L2.start, List.set_cons_succ, List.set_cons_zero, List.map_cons, List.map_nil, List.length_cons, List.length_nil, Nat.reduceAdd, Nat.reduceSub, List.replicate_succ, List.replicate_zero, List.cons_append, List.nil_append]
        refine ⟨_, rfl, a, _, 2, .ref m, rfl, rfl, SqT.of (tk9.tup ha0), atI_nat (j := 2) rfl, _, rfl, m, _, _, .int (st.me.getD (st.r o2) 0 : Int), rfl, rfl, SqT.of (tk9.tup hme), atI_nat (j := st.r o2) (nats_at (getD_at hml)), ?_⟩
        refine ⟨_, rfl, _, rfl, a, _, 2, .ref m, rfl, rfl, SqT.of (tk9.tup ha0), atI_nat (j := 2) rfl, _, rfl, nt, m, st.me, st.r o2, b8, rfl, c9.call, tk9.tup hme, ⟨by rw [so.mel]; decide, so.me⟩, h64, by omega, fun H10 b10 wp lsW tW WT hwp hwpl kp10 n10 ext10 le10 => ?_⟩
        rw [pad_full so.mel] at WT
        refine ⟨by show 2 ≤ sizeLine; decide, fun mm hmm => ?_⟩
        have s11 := same_new (o := .tup [V.int (st.me.getD (st.r o2) 0 : Int), V.ref wp]) hmm
        refine ⟨_, mm, st.me.getD (st.r o2) 0, _, b10, rfl, fun _ => ⟨by rw [eidx], lsW, tW, WT, by rw [eidx]⟩, fun n => absurd hmp n, getD_w so.me _, hwpl, ⟨wp, upd_same, s11 _ _ hwp⟩, (kp9.trans kp10).trans (.of_same s11), n10.same s11, ext10, le10⟩
      -- the input's word
      clear d38
      rintro σ H9 ⟨v9, mm, word, wp, b9, rfl, hw1, hw2, hww, hwl, hmm, kp9, n9, ext9, le9⟩
      have c9 := c8.keep kp9 n9
      have tk89 := kp9.tk c8.nt
      have tk9 := tk8.trans tk89
      have hca9 : CodeAt H9 ca (some ci) := tk89.tup hca8
      have d49 := d48.tk tk89
      have kp09 : Keep nt H H9 := kp08.trans kp9
      have ext89 : Ext b b9 := (ext05.trans ext8).trans ext9
      have hci : (some ci) = if st.ss = 0 then pr[st.pl]? else none := by rw [if_pos hs, eci]
      refine ⟨_, rfl, ca, _, 0, .str ci.nm, rfl, rfl, SqT.of hca9, atI_nat (j := 0) code_nm, rfl, _, rfl, ?_⟩
      rw [sEq]
      have no_read : ¬ readP fs ws.length (some ci) → ∃ (v9' : Option V) (ca' ph' mm' gg : Addr) (pp : Pap) (b' : Book), [some (V.ref nt.n), some (.ref pa), some (.ref wa), some (.ref a), some (.ref fa), some (.ref ca), some (.ref ph), some (.ref mm), some (.ref g0), v9] = [some (.ref nt.n), some (.ref pa), some (.ref wa), some (.ref a), some (.ref fa), some (.ref ca'), some (.ref ph'), some (.ref mm'), some (.ref gg), v9'] ∧
          pp.fs = fs ∧ PapB b' pr ws st pp ∧ PapOk pp ∧ WdAt H9 fa fs ∧ CodeAt H9 ca' pp.code ∧ WdAt H9 ph' pp.path ∧ PairAt H9 mm' pp.word pp.wp ∧ PairAt H9 gg pp.given pp.gp ∧ Keep nt H H9 ∧ NotAt CN nt H9 b' ∧ Ext b b' ∧ b'.length ≤ b.length + 1000 := fun hn => by
        refine ⟨v9, ca, ph, mm, g0, ⟨fs, some ci, pathR (lsC :: tC) st.pl, word, wp, 0, []⟩, b9, rfl, rfl, ⟨(FB.ext ext8).ext ext9, ⟨z, (hz.ext ext8).ext ext9⟩, hci, fun _ => ⟨lsC, tC, CT.ext ext9, rfl⟩, fun n => (nomatch n), hw1, hw2, fun n => absurd n hn, fun _ => ⟨rfl, rfl⟩⟩,
          ⟨fl, fo, by rw [f0]; exact hpl, by rw [f8]; exact hss, fun i hi => (by cases hi; exact oc), hphl, hww, hwl, Nat.zero_le _, fun x hx => (by cases hx)⟩, tk89.tup hfa8, hca9, tk89.tup hph, hmm, d49, kp09, n9, ext89, by omega⟩
      by_cases hre : ci.nm = "read"
      case neg =>
        rw [decide_eq_false hre]
        exact iteF (no_read fun n => hre n.1)
      rw [decide_eq_true hre]
      have hwa9 := tk9.tup hwa
      refine iteT ⟨_, rfl, a, _, 3, .int (st.po : Int), rfl, rfl, SqT.of (tk9.tup ha0), atI_nat (j := 3) rfl, _, rfl, wa, _, rfl, .inr (SqT.of hwa9), _, _, rfl, rfl, _, rfl, ?_⟩
      rw [nats_len]
      by_cases hpo2 : st.po < ws.length
      case neg =>
        rw [decide_eq_false (show ¬ (st.po : Int) < (ws.length : Int) by omega)]
        exact iteF (no_read fun n => hpo2 (by have := n.2; rw [f6] at this; exact this))
      rw [decide_eq_true (show (st.po : Int) < (ws.length : Int) by omega)]
      clear no_read
      have hrp : readP fs ws.length (some ci) := ⟨hre, by rw [f6]; exact hpo2⟩
      refine iteT ⟨_, rfl, _, rfl, a, _, 3, .int (st.po : Int), rfl, rfl, SqT.of (tk9.tup ha0), atI_nat (j := 3) rfl, wa, _, _, .int (ws.getD st.po 0 : Int), rfl, rfl, SqT.of hwa9, atI_nat (j := st.po) (nats_at (getD_at hpo2)), ?_⟩
      refine ⟨_, rfl, _, rfl, _, rfl, a, _, 3, .int (st.po : Int), rfl, rfl, SqT.of (tk9.tup ha0), atI_nat (j := 3) rfl, nt, wa, ws, st.po, b9, rfl, c9.call, hwa9, wo, by have := wo.hi; omega, by omega, fun H10 b10 gp lsG tG WG hgp hgpl kp10 n10 ext10 le10 => ?_⟩
      refine ⟨by show 2 ≤ sizeLine; decide, fun gg hgg => ?_⟩
      have s11 := same_new (o := .tup [V.int (ws.getD st.po 0 : Int), V.ref gp]) hgg
      have kpx : Keep nt H9 _ := kp10.trans (.of_same s11)
      have tkx := kpx.tk n9
      refine ⟨v9, ca, ph, mm, gg, ⟨fs, some ci, pathR (lsC :: tC) st.pl, word, wp, ws.getD st.po 0, pathR (lsG :: tG) st.po⟩, b10, rfl, rfl, ⟨((FB.ext ext8).ext ext9).ext ext10, ⟨z, ((hz.ext ext8).ext ext9).ext ext10⟩, hci, fun _ => ⟨lsC, tC, (CT.ext ext9).ext ext10, rfl⟩, fun n => (nomatch n), fun n => ?_, hw2, fun _ => ⟨rfl, lsG, tG, WG, rfl⟩, fun n => absurd hrp n⟩,
        ⟨fl, fo, by rw [f0]; exact hpl, by rw [f8]; exact hss, fun i hi => (by cases hi; exact oc), hphl, hww, hwl, getD_w wo.ok _, hgpl⟩, tkx.tup (tk89.tup hfa8), tkx.tup hca9, tkx.tup (tk89.tup hph), hmm.tk tkx, ⟨gp, upd_same, s11 _ _ hgp⟩, kp09.trans kpx, n10.same s11, ext89.trans ext10, by omega⟩
      obtain ⟨q1, q2, q3, q4, q5⟩ := hw1 n
      exact ⟨q1, q2, q3, q4.ext ext10, q5⟩
    -- the paper
    clear d1 d2 d3 d4 hfa6
    rintro σ H7 ⟨v9, ca, ph, mm, gg, pp, b7, rfl, hfs, PB, PO, hfa7, hca7, hph7, ⟨q1, hm1, hm2⟩, ⟨q2, hg1, hg2⟩, kp7, n7, ext7, le7⟩
    refine ⟨_, rfl, _, rfl, _, rfl, by show 3 ≤ sizeLine; decide, fun p1 hp1 => ?_⟩
    have s1 := same_new (o := .tup [V.ref fa, V.ref ca, V.ref ph]) hp1
    refine ⟨_, rfl, catT upd_same (s1 _ _ hm1) (by show 3 + 2 ≤ sizeLine; decide) fun p2 H8 s2 h8 => ⟨_, rfl, ?_⟩⟩
    refine catT h8 (s2 _ _ (s1 _ _ hg1)) (by show 5 + 2 ≤ sizeLine; decide) fun p3 H9 s3 h9 => ?_
    have sa := (Same.trans s1 s2).trans s3
    exact k H9 b7 p3 pp PB PO ⟨fa, ca, ph, q1, q2, h9, by rw [hfs]; exact sa _ _ hfa7, sa _ _ hca7, sa _ _ hph7, sa _ _ hm2, sa _ _ hg2⟩ (kp7.trans (.of_same sa)) (n7.same sa) ext7 le7
end
end K24
set_option Elab.async false
set_option autoImplicit false
set_option linter.all false
set_option maxRecDepth 100000
set_option maxHeartbeats 4000000
namespace K24
open PySem PySem.Spec PyProof.Rows L2
/-! ### what the check answers, plain -/
def runsB (q : List Nat) (fs : List Nat) : Bool := decide (fs.getD 8 0 = 0) && decide (fs.getD 0 0 < q.getD 1 0)
def memB (fs : List Nat) (c : Option Ins) : Bool := decide (memP fs c)
def readB (fs : List Nat) (n : Nat) (c : Option Ins) : Bool := decide (readP fs n c)
def six (b : Bool) : Nat := if b = true then 6 else 0
def hasForm (q : List Nat) (pp : Pap) : Bool :=
  if ¬ pp.fs.getD 6 0 ≤ q.getD 3 0 then false else if runsB q pp.fs ≠ pp.code.isSome then false else
  if pp.path.length ≠ six (runsB q pp.fs) then false else if pp.wp.length ≠ six (memB pp.fs pp.code) then false else if pp.gp.length ≠ six (readB pp.fs (q.getD 3 0) pp.code) then false else
  (memB pp.fs pp.code || decide (pp.word = 0)) && (readB pp.fs (q.getD 3 0) pp.code || decide (pp.given = 0))
/-- the question's tuple, as the check reads it -/
structure QOk (q : List Nat) : Prop where
  len : q.length = 6
  inn : q.getD 3 0 ≤ 64
  pn : q.getD 1 0 ≤ 64
theorem q_at {q : List Nat} (h : QOk q) {i : Nat} (hi : i < 6) : (nats q)[i]? = some (.int (q.getD i 0 : Int)) := nats_at (getD_at (by rw [h.len]; exact hi))
theorem fs_at {fs : List Nat} (h : fs.length = 9) {i : Nat} (hi : i < 9) : (nats fs)[i]? = some (.int (fs.getD i 0 : Int)) := nats_at (getD_at (by rw [h]; exact hi))
theorem nats_sub {xs : List Nat} {i k : Nat} : ((nats xs).drop i).take k = nats ((xs.drop i).take k) := by
  unfold nats
  rw [List.map_take, List.map_drop]
theorem pe_mon {X : Cx} {e : Expr} {t : TE} (h : PE X e t) : PE X e (fun σ H Q => ∃ Q0 : VK, t σ H Q0 ∧ ∀ x H1, Q0 x H1 → Q x H1) := by
  refine ⟨fun pins s σ H Q I q => ?_⟩
  obtain ⟨Q0, q0, w⟩ := q
  exact thn (h.run pins s σ H Q0 I q0) fun u s1 ⟨x, H1, I1, r1, q1⟩ => ⟨x, H1, I1, r1, w x H1 q1⟩
section
variable {P : Program} {w : World} {K : PySem.W.Frag} {mg : Str → Option Value} {base : Heap}
def spAreF (tf : Addr) : Sp := fun vs H Q _ => ∃ (a : Addr) (l : List Nat), vs = [.ref a] ∧ WdAt H a l ∧ l.length = 9 ∧ (∀ x ∈ l, x ≤ 281474976710656) ∧ HTab H tf ∧ Q (.bl true) H
theorem sc_are_fields : FnScope ["value", "part"] ["value"] (defScope s_are_fields) := ⟨rfl, rfl, rfl, by decide +kernel, rfl, by decide +kernel, by decide +kernel⟩
theorem ok_are_fields {tf : Addr} (F : FnG K mg base "are_fields" s_are_fields tf) (C : Cst K mg) (D : Def P w K mg base 1 "is_number" ["value", "least", "most"] spNumber) : Def P w K mg base 3 "are_fields" ["value"] (spAreF tf) := by
  refine Def.ofG F sc_are_fields (fun _ _ _ _ _ _ us hl => match us, hl with | [_], _ => rfl) (fun vs H Q E h => ?_) (fun f c T A outer s H vs Q E hr h => ?_)
  · obtain ⟨a, l, rfl, _⟩ := h; rfl
  · refine ⟨_, pss_cons (ps_if (PW.pt (pw_or (pt_not (pt_val (pe_isi C.isi C.tuple boot_tuple rfl rfl (pv 0)))) (pw_or1 (pt_cmpR op_ne (pe_callB call_len_seq rfl C.len PySem.boot_len (pa_cons (pv 0) pa_nil)) pe_int (nomark _))))) (pss_one (ps_ret pe_bl)) pss_nil)
      (pss_one (ps_ret (pe_allG (k := 1) hr rfl rfl C.all T rfl sc_are_fields.nd (genC_by (own := [("part", 1)]) (N := ["value", "part"]) (sc := defScope s_are_fields) (by decide +kernel)) (pi_tup (pv 0)) (fun _ _ _ _ _ _ _ => pg_name (i := 1) sc_are_fields.nd rfl (Or.inl rfl))
        (fun _ _ _ _ _ _ _ hr2 => pe_d D hr2 rfl (pa_cons (pv 1) (pa_cons pe_int (pa_cons (pe_gi C.nMAX_PART rfl) pa_nil))))))), ?_⟩
    obtain ⟨a, l, rfl, ha, hl, ho, ht, q⟩ := h
    refine ⟨_, rfl, _, _, .type "tuple", .type "tuple", true, rfl, .ty _, .base (.tup ha), kit_ty (by decide +kernel), _, rfl, iteF ?_⟩
    refine ⟨_, rfl, a, _, rfl, .inr (SqT.of ha), rfl, _, rfl, ?_⟩
    rw [nats_len, hl]
    refine iteF ⟨_, rfl, a, rfl, ⟨_, SqT.of ha⟩, ht, allb_tup (fun _ => true) (SqT.of ha) (fun i x R hx r => ⟨rfl, ?_⟩) (vb (by simp) q)⟩
    obtain ⟨y, hy, rfl⟩ := nats_at_inv hx
    have hw := ho y (List.mem_of_getElem? hy)
    exact ⟨_, rfl, _, _, .inl ⟨(y : Int), rfl, by rw [decide_eq_true (by omega)]; exact r⟩⟩
def spIsPath (ta : Addr) : Sp := fun vs H Q _ => ∃ (a : Addr) (l : List Nat) (n : Nat), vs = [.ref a, .int (n : Int)] ∧ WdAt H a l ∧ (∀ x ∈ l, x ≤ 281474976710656) ∧ HTab H ta ∧ Q (.bl (decide (l.length = n))) H
theorem sc_is_path : FnScope ["value", "length", "part"] ["value", "length"] (defScope s_is_path) := ⟨rfl, rfl, rfl, by decide +kernel, rfl, by decide +kernel, by decide +kernel⟩
theorem ok_is_path {ta : Addr} (F : FnG K mg base "is_path" s_is_path ta) (C : Cst K mg) (D : Def P w K mg base 1 "is_number" ["value", "least", "most"] spNumber) : Def P w K mg base 3 "is_path" ["value", "length"] (spIsPath ta) := by
  refine Def.ofG F sc_is_path (fun _ _ _ _ _ _ us hl => match us, hl with | [_, _], _ => rfl) (fun vs H Q E h => ?_) (fun f c T A outer s H vs Q E hr h => ?_)
  · obtain ⟨a, l, n, rfl, _⟩ := h; rfl
  · refine ⟨_, pss_cons (ps_if (PW.pt (pw_or (pt_not (pt_val (pe_isi C.isi C.tuple boot_tuple rfl rfl (pv 0)))) (pw_or1 (pt_cmpR op_ne (pe_callB call_len_seq rfl C.len PySem.boot_len (pa_cons (pv 0) pa_nil)) (pv 1) (nomark _))))) (pss_one (ps_ret pe_bl)) pss_nil)
      (pss_one (ps_ret (pe_allG (k := 1) hr rfl rfl C.all T rfl sc_is_path.nd (genC_by (own := [("part", 2)]) (N := ["value", "length", "part"]) (sc := defScope s_is_path) (by decide +kernel)) (pi_tup (pv 0)) (fun _ _ _ _ _ _ _ => pg_name (i := 2) sc_is_path.nd rfl (Or.inl rfl))
        (fun _ _ _ _ _ _ _ hr2 => pe_d D hr2 rfl (pa_cons (pv 2) (pa_cons pe_int (pa_cons (pe_gi C.nMAX_PART rfl) pa_nil))))))), ?_⟩
    obtain ⟨a, l, n, rfl, ha, ho, ht, q⟩ := h
    refine ⟨_, rfl, _, _, .type "tuple", .type "tuple", true, rfl, .ty _, .base (.tup ha), kit_ty (by decide +kernel), _, rfl, iteF ?_⟩
    refine ⟨_, rfl, a, _, rfl, .inr (SqT.of ha), _, rfl, rfl, _, rfl, ?_⟩
    rw [nats_len, nEq]
    by_cases hn : l.length = n
    · rw [decide_eq_true hn]
      refine iteF ⟨_, rfl, a, rfl, ⟨_, SqT.of ha⟩, ht, allb_tup (fun _ => true) (SqT.of ha) (fun i x R hx r => ⟨rfl, ?_⟩) (vb (by simp [hn]) q)⟩
      obtain ⟨y, hy, rfl⟩ := nats_at_inv hx
      have hw := ho y (List.mem_of_getElem? hy)
      exact ⟨_, rfl, _, _, .inl ⟨(y : Int), rfl, by rw [decide_eq_true (by omega)]; exact r⟩⟩
    · rw [decide_eq_false hn]
      exact iteT (vb (by simp [hn]) q)
def spRow (tr : Addr) : Sp := fun vs H Q _ => ∃ (a : Addr) (l : List Nat) (n : Nat), vs = [.ref a, .int (n : Int)] ∧ WdAt H a l ∧ l.length = 9 ∧ (∀ x ∈ l, x ≤ 4294967295) ∧ l.getD 0 0 ≤ 64 ∧ l.getD 8 0 ≤ 2 ∧ HTab H tr ∧ ∀ H', Same H H' → Q (.bl (decide (l.getD 6 0 ≤ n))) H'
theorem sc_is_state_row : FnScope ["fields", "input_length", "word"] ["fields", "input_length"] (defScope s_is_state_row) := ⟨rfl, rfl, rfl, by decide +kernel, rfl, by decide +kernel, by decide +kernel⟩
theorem ok_is_state_row {tr : Addr} (F : FnG K mg base "is_state_row" s_is_state_row tr) (C : Cst K mg) (D : Def P w K mg base 1 "is_number" ["value", "least", "most"] spNumber) (D2 : Def P w K mg base 2 "is_word" ["value"] spWord) : Def P w K mg base 4 "is_state_row" ["fields", "input_length"] (spRow tr) := by
  refine Def.ofG F sc_is_state_row (fun _ _ _ _ _ _ us hl => match us, hl with | [_, _], _ => rfl) (fun vs H Q E h => ?_) (fun f c T A outer s H vs Q E hr h => ?_)
  · obtain ⟨a, l, n, rfl, _⟩ := h; rfl
  · refine ⟨_, pss_cons (ps_if (PW.pt (pw_or (pt_not (pt_val (pe_d D (hr.mono (by decide)) rfl (pa_cons (pe_ix ix_tup (pv 0) pe_int (fun _ _ => rfl)) (pa_cons pe_int (pa_cons (pe_gi C.nMAX_PROGRAM rfl) pa_nil))))))
        (pw_or1 (pt_not (pt_val (pe_mon (pe_allG (k := 2) hr rfl rfl C.all T rfl sc_is_state_row.nd (genC_by (own := [("word", 2)]) (N := ["fields", "input_length", "word"]) (sc := defScope s_is_state_row) (by decide +kernel)) (pi_tup (pe_slice sl_tupA (pv 0) (po_some pe_int) (po_some pe_int))) (fun _ _ _ _ _ _ _ => pg_name (i := 2) sc_is_state_row.nd rfl (Or.inl rfl))
          (fun _ _ _ _ _ _ _ hr2 => pe_d D2 hr2 rfl (pa_cons (pv 2) pa_nil))))))))) (pss_one (ps_ret pe_bl)) pss_nil)
      (pss_one (ps_ret (pe_and (pe_cmpR op_le (pe_ix ix_tup (pv 0) pe_int (fun _ _ => rfl)) (pv 1) (nomark _)) (pe_one (pe_cmpR op_le (pe_ix ix_tup (pv 0) pe_int (fun _ _ => rfl)) (pe_gi C.nFAULT rfl) (nomark _)))))), ?_⟩
    obtain ⟨a, l, n, rfl, ha, hl, ho, h0, h8, ht, q⟩ := h
    refine ⟨_, rfl, a, _, 0, .int (l.getD 0 0 : Int), rfl, rfl, SqT.of ha, atI_nat (j := 0) (fs_at hl (by decide)), _, _, .inl ⟨_, rfl, _, rfl, ?_⟩⟩
    rw [decide_eq_true (by omega)]
    refine iteF ⟨fun x Hx => x = .bl true ∧ Same H Hx, ⟨_, rfl, _, rfl, _, rfl, slT ha fun p1 H1 s1 h1 => ?_⟩, ?_⟩
    · have e15 : cutV (nats l) (some 1) (some 5) = nats ((l.drop 1).take 4) := by
        rw [show (some (1 : Int)) = some ((1 : Nat) : Int) from rfl, show (some (5 : Int)) = some ((5 : Nat) : Int) from rfl, cut_both (nats l) 1 5 (by decide) (by rw [nats_len, hl]; decide), nats_sub]
      rw [e15] at h1
      refine ⟨p1, rfl, ⟨_, SqT.of h1⟩, (Same.tk s1).tab ht, allb_tup (Q := fun x Hx => x = .bl true ∧ Same H Hx) (fun _ => true) (SqT.of h1) (fun i x R hx r => ⟨rfl, ?_⟩) ⟨by simp, s1⟩⟩
      obtain ⟨y, hy, rfl⟩ := nats_at_inv hx
      have hw := ho y (List.mem_of_mem_drop (List.mem_of_mem_take (List.mem_of_getElem? hy)))
      exact ⟨_, rfl, (y : Int), rfl, by rw [decide_eq_true (by omega)]; exact r⟩
    · rintro x H1 ⟨rfl, s1⟩
      have ha1 := s1 _ _ ha
      refine ⟨_, rfl, iteF ⟨_, rfl, a, _, 6, .int (l.getD 6 0 : Int), rfl, rfl, SqT.of ha1, atI_nat (j := 6) (fs_at hl (by decide)), _, rfl, _, _, rfl, rfl, _, rfl, ?_⟩⟩
      by_cases hn : l.getD 6 0 ≤ n
      · rw [decide_eq_true (show (l.getD 6 0 : Int) ≤ (n : Int) by omega)]
        refine iteT ⟨_, rfl, a, _, 8, .int (l.getD 8 0 : Int), rfl, rfl, SqT.of ha1, atI_nat (j := 8) (fs_at hl (by decide)), _, _, rfl, rfl, vb ?_ (q H1 s1)⟩
        rw [decide_eq_true hn, decide_eq_true (show (l.getD 8 0 : Int) ≤ 2 by omega)]
      · rw [decide_eq_false (show ¬ (l.getD 6 0 : Int) ≤ (n : Int) by omega)]
        exact iteF (vb (decide_eq_false hn) (q H1 s1))
def spLooked : Sp := fun vs H Q _ => ∃ (fa ca : Addr) (fs : List Nat) (c : Option Ins) (n : Nat), vs = [.ref fa, .ref ca, .int (n : Int)] ∧ WdAt H fa fs ∧ fs.length = 9 ∧ CodeAt H ca c ∧ (∀ i, c = some i → OkIns i) ∧ ∀ p H', Same H H' → H' p = some (.tup [.bl (memB fs c), .bl (readB fs n c)]) → Q (.ref p) H'
theorem sc_looked_at : FnScope ["fields", "code", "input_length", "memory"] ["fields", "code", "input_length"] (defScope s_looked_at) := ⟨rfl, rfl, rfl, by decide +kernel, rfl, by decide +kernel, by decide +kernel⟩
theorem ok_looked_at (F : FnF K mg "looked_at" "looked_at" s_looked_at) (C : Cst K mg) : Def P w K mg base 1 "looked_at" ["fields", "code", "input_length"] spLooked := by
  refine Def.of F sc_looked_at (fun _ _ _ _ _ _ us hl => match us, hl with | [_, _, _], _ => rfl) (fun vs H Q E h => ?_) (fun f cdv A outer s H vs Q E hr h => ?_)
  · obtain ⟨fa, ca, fs, c, n, rfl, _⟩ := h; rfl
  · refine ⟨_, pss_cons (ps_if (pt_cmpR (op_eqD hr.units) (pv 1) (pe_tup pa_nil) (nomark _)) (pss_one (ps_ret (pe_tup (pa_cons pe_bl (pa_cons pe_bl pa_nil))))) pss_nil)
      (pss_cons (ps_set (i := 3) sc_looked_at.nd rfl (Or.inl rfl) (pe_and (pe_cmpR op_in_seq (pe_ix ix_tup (pv 1) pe_int (fun _ _ => rfl)) (pe_tup (pa_cons pe_str (pa_cons pe_str pa_nil))) rfl) (pe_one (pe_cmpR op_lt (pe_ix ix_tup (pv 0) (pe_op op_add pe_int (pe_ix ix_tup (pv 1) pe_int (fun _ _ => rfl))) (fun _ _ => rfl)) (pe_gi C.nMEMORY rfl) (nomark _)))))
      (pss_one (ps_ret (pe_tup (pa_cons (pv 3) (pa_cons (pe_and (pe_cmpR op_eq (pe_ix ix_tup (pv 1) pe_int (fun _ _ => rfl)) pe_str (nomark _)) (pe_one (pe_cmpR op_lt (pe_ix ix_tup (pv 0) pe_int (fun _ _ => rfl)) (pv 2) (nomark _)))) pa_nil)))))), ?_⟩
    obtain ⟨fa, ca, fs, c, n, rfl, hfa, fl, hca, oc, k⟩ := h
    refine ⟨_, rfl, Nat.zero_le _, fun e0 he0 => ?_⟩
    have s0 := same_new (o := .tup []) he0
    refine eqK (xs := codeK c) (ys := []) (codeK_str oc) nilK_str (s0 _ _ hca) upd_same ⟨_, rfl, ?_⟩
    cases c with
    | none =>
      rw [decide_eq_true (show codeK none = [] from rfl)]
      refine iteT ⟨by show 2 ≤ sizeLine; decide, fun p hp => k p _ (Same.trans s0 (same_new hp)) ?_⟩
      rw [upd_same]
      unfold memB readB
      rw [decide_eq_false (show ¬ memP fs none from id), decide_eq_false (show ¬ readP fs n none from id)]
    | some ci =>
      rw [decide_eq_false (show codeK (some ci) ≠ [] from fun z => nomatch z)]
      have hci := oc ci rfl
      have hca0 := s0 _ _ hca
      have hfa0 := s0 _ _ hfa
      refine iteF ⟨_, rfl, ca, _, 0, .str ci.nm, rfl, rfl, SqT.of hca0, atI_nat (j := 0) code_nm, by show 2 ≤ sizeLine; decide, fun pt hpt => ⟨pt, lsL.map V.str, rfl, .inr (SqT.of upd_same), rfl, flat_strs _, _, rfl, ?_⟩⟩
      have s1 := same_new (o := .tup [V.str "load", V.str "store"]) hpt
      have hca1 := s1 _ _ hca0
      have hfa1 := s1 _ _ hfa0
      have s01 := Same.trans s0 s1
      generalize upd (upd H e0 (.tup [])) pt (.tup [V.str "load", V.str "store"]) = H1 at s1 hca1 hfa1 s01
      rw [show (if false = true then !inV (V.str ci.nm) (lsL.map V.str) else inV (V.str ci.nm) (lsL.map V.str)) = decide (ci.nm ∈ lsL) by rw [if_neg (by decide), inV_strs]]
      have rest : ∀ mb : Bool, mb = memB fs (some ci) → (tRet (tTup (tCons (tVar 3) (tCons (tAndV (tOp rEq (tOp (rIxT K) (tVar 1) (tC (.int 0))) (tC (.str "read"))) (tOp (rI0 fun i j => .bl (decide (i < j))) (tOp (rIxT K) (tVar 0) (tC (.int 6))) (tVar 2))) tNil)))) { nx := fun x H' => Q V.non H', rt := Q } [some (.ref fa), some (.ref ca), some (.int (n : Int)), some (.bl mb)] H1 := fun mb emb => by
        subst emb
        refine ⟨_, rfl, _, rfl, ca, _, 0, .str ci.nm, rfl, rfl, SqT.of hca1, atI_nat (j := 0) code_nm, rfl, _, rfl, ?_⟩
        rw [sEq]
        have fin : ∀ rb : Bool, rb = readB fs n (some ci) → ([V.bl (memB fs (some ci)), V.bl rb].length ≤ sizeLine ∧ ∀ p, H1 p = none → Q (.ref p) (upd H1 p (.tup [V.bl (memB fs (some ci)), V.bl rb]))) := fun rb erb => by
          subst erb
          exact ⟨by show 2 ≤ sizeLine; decide, fun p hp => k p _ (s01.trans (same_new hp)) upd_same⟩
        by_cases hr1 : ci.nm = "read"
        · rw [decide_eq_true hr1]
          refine iteT ⟨_, rfl, fa, _, 6, .int (fs.getD 6 0 : Int), rfl, rfl, SqT.of hfa1, atI_nat (j := 6) (fs_at fl (by decide)), _, rfl, _, _, rfl, rfl, fin _ ?_⟩
          unfold readB
          by_cases hn : fs.getD 6 0 < n
          · rw [decide_eq_true (show (fs.getD 6 0 : Int) < (n : Int) by omega), decide_eq_true (show readP fs n (some ci) from ⟨hr1, hn⟩)]
          · rw [decide_eq_false (show ¬ (fs.getD 6 0 : Int) < (n : Int) by omega), decide_eq_false (show ¬ readP fs n (some ci) from fun z => hn z.2)]
        · rw [decide_eq_false hr1]
          refine iteF (fin _ ?_)
          unfold readB
          rw [decide_eq_false (show ¬ readP fs n (some ci) from fun z => hr1 z.1)]
      by_cases hm : ci.nm ∈ lsL
      · rw [decide_eq_true hm]
        obtain ⟨o1, o2, ear, ho1, ho2⟩ := hci.two (two_of (mem_ls.mp hm))
        have e1 : ci.ar[1]? = some o2 := by rw [ear]; rfl
        have ea1 := a_of e1
        refine iteT ⟨_, rfl, _, rfl, ca, _, 2, .int (o2 : Int), rfl, rfl, SqT.of hca1, atI_nat (j := 2) (code_at e1), _, _, rfl, rfl, fa, _, _, .int (fs.getD (1 + o2) 0 : Int), rfl, rfl, SqT.of hfa1, at_of (j := 1 + o2) (by omega) (fs_at fl (by omega)), _, _, rfl, rfl, ?_⟩
        refine rest _ ?_
        unfold memB
        by_cases h64 : fs.getD (1 + o2) 0 < 64
        · rw [decide_eq_true (show (fs.getD (1 + o2) 0 : Int) < 64 by omega), decide_eq_true (show memP fs (some ci) from ⟨mem_ls.mp hm, by rw [ea1]; exact h64⟩)]
        · rw [decide_eq_false (show ¬ (fs.getD (1 + o2) 0 : Int) < 64 by omega), decide_eq_false (show ¬ memP fs (some ci) from fun z => h64 (by have := z.2; rw [ea1] at this; exact this))]
      · rw [decide_eq_false hm]
        refine iteF (rest _ ?_)
        unfold memB
        rw [decide_eq_false (show ¬ memP fs (some ci) from fun z => hm (mem_ls.mpr z.1))]
end
end K24
set_option Elab.async false
set_option autoImplicit false
set_option linter.all false
set_option maxRecDepth 100000
set_option maxHeartbeats 4000000
namespace K24
open PySem PySem.Spec PyProof.Rows L2
theorem six_rd {σ : L2.St} {H : Hp} {b : Bool} {i : Nat} (h : σ[i]? = some (some (.bl b))) : tIf (tB (tVar i)) (tC (.int 6)) (tC (.int 0)) σ H (fun x Hx => x = .int (six b : Int) ∧ Hx = H) := by
  refine ⟨_, h, b, rfl, ?_⟩
  cases b with
  | true => exact ⟨rfl, rfl⟩
  | false => exact ⟨rfl, rfl⟩
section
variable {P : Program} {w : World} {K : PySem.W.Frag} {mg : Str → Option Value} {base : Heap}
def spHasForm (T : Tb) : Sp := fun vs H Q _ => ∃ (qa pa : Addr) (q : List Nat) (pp : Pap), vs = [.ref qa, .ref pa] ∧ WdAt H qa q ∧ QOk q ∧ PapAt H pa pp ∧ PapOk pp ∧ AllT T H ∧ ∀ H', Same H H' → Q (.bl (hasForm q pp)) H'
theorem sc_has_form : FnScope ["question", "paper", "fields", "code", "path", "word", "its_path", "given", "given_path", "runs", "memory", "read"] ["question", "paper"] (defScope s_has_form) := ⟨rfl, rfl, rfl, by decide +kernel, rfl, by decide +kernel, by decide +kernel⟩
theorem ok_has_form {T : Tb} (F : FnF K mg "has_form" "has_form" s_has_form) (C : Cst K mg) (D1 : Def P w K mg base 3 "are_fields" ["value"] (spAreF T.f)) (D2 : Def P w K mg base 4 "is_state_row" ["fields", "input_length"] (spRow T.r)) (D3 : Def P w K mg base 2 "is_word" ["value"] spWord)
    (D4 : Def P w K mg base 5 "is_instruction" ["value"] (spInstr T.i)) (D5 : Def P w K mg base 1 "looked_at" ["fields", "code", "input_length"] spLooked) (D6 : Def P w K mg base 3 "is_path" ["value", "length"] (spIsPath T.a)) : Def P w K mg base 6 "has_form" ["question", "paper"] (spHasForm T) := by
  refine Def.of F sc_has_form (fun _ _ _ _ _ _ us hl => match us, hl with | [_, _], _ => rfl) (fun vs H Q E h => ?_) (fun f cdv A outer s H vs Q E hr h => ?_)
  · obtain ⟨qa, pa, q, pp, rfl, _⟩ := h; rfl
  · refine ⟨_, pss_cons (ps_if (PW.pt (pw_or (pt_not (pt_val (pe_isi C.isi C.tuple boot_tuple rfl rfl (pv 1)))) (pw_or (pt_cmpR op_ne (pe_callB call_len_seq rfl C.len PySem.boot_len (pa_cons (pv 1) pa_nil)) pe_int (nomark _)) (pw_or1 (pt_not (pt_val (pe_d D1 (hr.mono (by decide)) rfl (pa_cons (pe_ix ix_tup (pv 1) pe_int (fun _ _ => rfl)) pa_nil)))))))) (pss_one (ps_ret pe_bl)) pss_nil)
      (pss_cons (ps_asg (pv 1) (pg_tup rfl (pgs_cons (pg_name (i := 2) sc_has_form.nd rfl (Or.inl rfl)) (pgs_cons (pg_name (i := 3) sc_has_form.nd rfl (Or.inl rfl)) (pgs_cons (pg_name (i := 4) sc_has_form.nd rfl (Or.inl rfl)) (pgs_cons (pg_name (i := 5) sc_has_form.nd rfl (Or.inl rfl)) (pgs_cons (pg_name (i := 6) sc_has_form.nd rfl (Or.inl rfl)) (pgs_cons (pg_name (i := 7) sc_has_form.nd rfl (Or.inl rfl)) (pgs_cons (pg_name (i := 8) sc_has_form.nd rfl (Or.inl rfl)) pgs_nil)))))))))
      (pss_cons (ps_if (PW.pt (pw_or (pt_not (pt_val (pe_d D2 (hr.mono (by decide)) rfl (pa_cons (pv 2) (pa_cons (pe_ix ix_tup (pv 0) pe_int (fun _ _ => rfl)) pa_nil))))) (pw_or (pt_not (pt_val (pe_d D3 (hr.mono (by decide)) rfl (pa_cons (pv 5) pa_nil)))) (pw_or1 (pt_not (pt_val (pe_d D3 (hr.mono (by decide)) rfl (pa_cons (pv 7) pa_nil)))))))) (pss_one (ps_ret pe_bl)) pss_nil)
      (C8.pss_cut (ps_set (i := 9) sc_has_form.nd rfl (Or.inl rfl) (pe_and (pe_cmpR op_eq (pe_ix ix_tup (pv 2) pe_int (fun _ _ => rfl)) (pe_gi C.nRUNS rfl) (nomark _)) (pe_one (pe_cmpR op_lt (pe_ix ix_tup (pv 2) pe_int (fun _ _ => rfl)) (pe_ix ix_tup (pv 0) pe_int (fun _ _ => rfl)) (nomark _)))))
      (C8.pss_cut (ps_if (PW.pt (pw_or (pt_cmpR op_ne (pv 9) (pe_d D4 hr rfl (pa_cons (pv 3) pa_nil)) (nomark _)) (pw_or1 (PW.pt (pw_and (pt_not (pt_val (pv 9))) (pw_and1 (pt_cmpR (op_neD hr.units) (pv 3) (pe_tup pa_nil) (nomark _)))))))) (pss_one (ps_ret pe_bl)) pss_nil)
      (pss_cons (ps_asg (pe_d D5 (hr.mono (by decide)) rfl (pa_cons (pv 2) (pa_cons (pv 3) (pa_cons (pe_ix ix_tup (pv 0) pe_int (fun _ _ => rfl)) pa_nil)))) (pg_tup rfl (pgs_cons (pg_name (i := 10) sc_has_form.nd rfl (Or.inl rfl)) (pgs_cons (pg_name (i := 11) sc_has_form.nd rfl (Or.inl rfl)) pgs_nil))))
      (pss_cons (ps_if (PW.pt (pw_or (pt_not (pt_val (pe_d D6 (hr.mono (by decide)) rfl (pa_cons (pv 4) (pa_cons (pe_mon (pe_ifExp (pt_val (pv 9)) (pe_gi C.nTREE_HEIGHT rfl) pe_int)) pa_nil))))) (pw_or1 (pt_not (pt_val (pe_d D6 (hr.mono (by decide)) rfl (pa_cons (pv 6) (pa_cons (pe_mon (pe_ifExp (pt_val (pv 10)) (pe_gi C.nTREE_HEIGHT rfl) pe_int)) pa_nil)))))))) (pss_one (ps_ret pe_bl)) pss_nil)
      (pss_cons (ps_if (pt_not (pt_val (pe_d D6 (hr.mono (by decide)) rfl (pa_cons (pv 8) (pa_cons (pe_mon (pe_ifExp (pt_val (pv 11)) (pe_gi C.nTREE_HEIGHT rfl) pe_int)) pa_nil))))) (pss_one (ps_ret pe_bl)) pss_nil)
      (pss_one (ps_ret (pe_and (pe_or (pv 10) (pe_one (pe_cmpR op_eq (pv 5) pe_int (nomark _)))) (pe_one (pe_or (pv 11) (pe_one (pe_cmpR op_eq (pv 7) pe_int (nomark _))))))))))))))), ?_⟩
    obtain ⟨qa, pa, q, pp, rfl, hq, qo, hp, ok, ht, k⟩ := h
    obtain ⟨fa, ca, pha, wpa, gpa, hpa, hfa, hca, hph, hwp, hgp⟩ := hp
    have hLIM : LIM = 16000000 := rfl
    have hww : pp.word ≤ 4294967295 := ok.word
    have hgg : pp.given ≤ 4294967295 := ok.given
    have lim : ∀ {l : List Nat}, (∀ x ∈ l, x ≤ LIM) → ∀ x ∈ l, x ≤ 281474976710656 := fun h x hx => by have := h x hx; omega
    refine ⟨_, rfl, _, _, .type "tuple", .type "tuple", true, rfl, .ty _, .base (.tup hpa), kit_ty (by decide +kernel), _, rfl, iteF ?_⟩
    refine ⟨_, rfl, pa, _, rfl, .inr (SqT.of hpa), rfl, _, rfl, iteF ?_⟩
    refine ⟨_, rfl, pa, _, 0, .ref fa, rfl, rfl, SqT.of hpa, atI_nat (j := 0) rfl, fa, pp.fs, rfl, hfa, ok.fl, fun x hx => (by have := ok.fo x hx; omega), ht.f, _, rfl, iteF ?_⟩
    refine ⟨_, rfl, pa, _, rfl, SqT.of hpa, rfl, _, _, rfl, _, _, rfl, _, _, rfl, _, _, rfl, _, _, rfl, _, _, rfl, _, _, rfl, rfl, ?_⟩
    simp only [L2.start, List.set_cons_succ, List.set_cons_zero, List.map_cons, List.map_nil, List.length_cons, List.length_nil, Nat.reduceAdd, Nat.reduceSub, List.replicate_succ, List.replicate_zero, List.cons_append, List.nil_append]
    have q3 := q_at qo (i := 3) (by decide)
    refine ⟨_, rfl, _, rfl, qa, _, 3, .int (q.getD 3 0 : Int), rfl, rfl, SqT.of hq, atI_nat (j := 3) q3, fa, pp.fs, q.getD 3 0, rfl, hfa, ok.fl, ok.fo, ok.f0, ok.f8, ht.r, fun H1 s1 => ⟨_, rfl, ?_⟩⟩
    unfold hasForm at k
    by_cases g1 : pp.fs.getD 6 0 ≤ q.getD 3 0
    case neg =>
      rw [decide_eq_false g1]
      rw [if_pos g1] at k
      exact iteT (k H1 s1)
    rw [decide_eq_true g1]
    rw [if_neg (fun n => n g1)] at k
    refine iteF ⟨_, rfl, (pp.word : Int), rfl, _, rfl, ?_⟩
    rw [decide_eq_true (by omega)]
    refine iteF ⟨_, rfl, (pp.given : Int), rfl, _, rfl, ?_⟩
    rw [decide_eq_true (by omega)]
    have hfa1 := s1 _ _ hfa
    have hq1 := s1 _ _ hq
    have hca1 := s1 _ _ hca
    have tk1 := Same.tk s1
    clear hpa
    refine iteF ⟨fun σ Hx => Hx = H1 ∧ σ = [some (.ref qa), some (.ref pa), some (.ref fa), some (.ref ca), some (.ref pha), some (.int (pp.word : Int)), some (.ref wpa), some (.int (pp.given : Int)), some (.ref gpa), some (.bl (runsB q pp.fs)), none, none], ?_, ?_⟩
    · refine ⟨_, rfl, fa, _, 8, .int (pp.fs.getD 8 0 : Int), rfl, rfl, SqT.of hfa1, atI_nat (j := 8) (fs_at ok.fl (by decide)), rfl, _, rfl, ?_⟩
      rw [dec_nat0]
      unfold runsB
      by_cases z : pp.fs.getD 8 0 = 0
      · rw [decide_eq_true z]
        refine iteT ⟨_, rfl, fa, _, 0, .int (pp.fs.getD 0 0 : Int), rfl, rfl, SqT.of hfa1, atI_nat (j := 0) (fs_at ok.fl (by decide)), _, rfl, qa, _, 1, .int (q.getD 1 0 : Int), rfl, rfl, SqT.of hq1, atI_nat (j := 1) (q_at qo (by decide)), _, _, rfl, rfl, rfl, ?_⟩
        have e : decide ((pp.fs.getD 0 0 : Int) < (q.getD 1 0 : Int)) = (true && decide (pp.fs.getD 0 0 < q.getD 1 0)) := by
          rw [Bool.true_and, Bool.eq_iff_iff, decide_eq_true_iff, decide_eq_true_iff]
          omega
        rw [← e]
        rfl
      · rw [decide_eq_false z]
        exact iteF ⟨rfl, rfl⟩
    rintro σ Hx ⟨rfl, rfl⟩
    refine ⟨fun σ Hy => Same H Hy ∧ runsB q pp.fs = pp.code.isSome ∧ σ = [some (.ref qa), some (.ref pa), some (.ref fa), some (.ref ca), some (.ref pha), some (.int (pp.word : Int)), some (.ref wpa), some (.int (pp.given : Int)), some (.ref gpa), some (.bl (runsB q pp.fs)), none, none], ?_, ?_⟩
    · refine ⟨_, rfl, _, rfl, ca, pp.code, rfl, hca1, ok.code, tk1.tab ht.i, fun H2 s2 => ⟨rfl, _, rfl, ?_⟩⟩
      rw [dec_bl]
      have s12 := Same.trans s1 s2
      by_cases g2 : runsB q pp.fs = pp.code.isSome
      case neg =>
        rw [if_pos g2] at k
        rw [beq_eq_false_iff_ne.mpr g2]
        exact iteT (k H2 s12)
      rw [g2, beq_self_eq_true]
      refine iteF ⟨_, rfl, _, rfl, ?_⟩
      cases hc : pp.code with
      | some ci => exact iteF ⟨s12, rfl, rfl⟩
      | none =>
        refine iteT ⟨_, rfl, Nat.zero_le _, fun e0 he0 => ?_⟩
        have s3 := same_new (o := .tup []) he0
        refine neK (xs := []) (ys := []) nilK_str nilK_str ?_ upd_same ⟨_, rfl, ?_⟩
        · have z := s3 _ _ (s12 _ _ hca)
          rw [hc] at z
          exact z
        rw [decide_eq_true rfl]
        exact iteF ⟨Same.trans s12 s3, rfl, rfl⟩
    rintro σ H2 ⟨s2, g2, rfl⟩
    rw [if_neg (fun n => n g2)] at k
    refine ⟨_, rfl, _, rfl, _, rfl, qa, _, 3, .int (q.getD 3 0 : Int), rfl, rfl, SqT.of (s2 _ _ hq), atI_nat (j := 3) q3, fa, ca, pp.fs, pp.code, q.getD 3 0, rfl, s2 _ _ hfa, ok.fl, s2 _ _ hca, ok.code, fun p4 H4 s4 h4 => ?_⟩
    have s14 := Same.trans s2 s4
    have tk4 := Same.tk s14
    refine ⟨p4, _, rfl, SqT.of h4, rfl, _, _, rfl, _, _, rfl, rfl, ?_⟩
    simp only [L2.start, List.set_cons_succ, List.set_cons_zero, List.map_cons, List.map_nil, List.length_cons, List.length_nil, Nat.reduceAdd, Nat.reduceSub, List.replicate_succ, List.replicate_zero, List.cons_append, List.nil_append]
    refine ⟨_, rfl, _, six_rd rfl, fun x Hx e => ?_⟩
    obtain ⟨rfl, rfl⟩ := e
    refine ⟨pha, pp.path, six (runsB q pp.fs), rfl, s14 _ _ hph, lim ok.path, tk4.tab ht.a, _, rfl, ?_⟩
    by_cases g3 : pp.path.length = six (runsB q pp.fs)
    case neg =>
      rw [decide_eq_false g3]
      rw [if_pos g3] at k
      exact iteT (k _ s14)
    rw [decide_eq_true g3]
    rw [if_neg (fun n => n g3)] at k
    refine iteF ⟨_, rfl, _, six_rd rfl, fun x Hx e => ?_⟩
    obtain ⟨rfl, rfl⟩ := e
    refine ⟨wpa, pp.wp, six (memB pp.fs pp.code), rfl, s14 _ _ hwp, lim ok.wp, tk4.tab ht.a, _, rfl, ?_⟩
    by_cases g4 : pp.wp.length = six (memB pp.fs pp.code)
    case neg =>
      rw [decide_eq_false g4]
      rw [if_pos g4] at k
      exact iteT (k _ s14)
    rw [decide_eq_true g4]
    rw [if_neg (fun n => n g4)] at k
    refine iteF ⟨_, rfl, _, six_rd rfl, fun x Hx e => ?_⟩
    obtain ⟨rfl, rfl⟩ := e
    refine ⟨gpa, pp.gp, six (readB pp.fs (q.getD 3 0) pp.code), rfl, s14 _ _ hgp, lim ok.gp, tk4.tab ht.a, _, rfl, ?_⟩
    by_cases g5 : pp.gp.length = six (readB pp.fs (q.getD 3 0) pp.code)
    case neg =>
      rw [decide_eq_false g5]
      rw [if_pos g5] at k
      exact iteT (k _ s14)
    rw [decide_eq_true g5]
    rw [if_neg (fun n => n g5)] at k
    have kk := k _ s14
    refine iteF ⟨_, rfl, _, rfl, ?_⟩
    cases hmb : memB pp.fs pp.code with
    | true =>
      rw [hmb] at kk
      refine iteT ⟨_, rfl, iteT ⟨_, rfl, _, rfl, ?_⟩⟩
      cases hrb : readB pp.fs (q.getD 3 0) pp.code with
      | true => rw [hrb] at kk; exact iteT kk
      | false =>
        rw [hrb] at kk
        refine iteF ⟨_, rfl, rfl, ?_⟩
        rw [dec_nat0]
        exact vb (by simp) kk
    | false =>
      rw [hmb] at kk
      refine iteF ⟨_, rfl, rfl, ?_⟩
      rw [dec_nat0]
      refine ⟨_, rfl, ?_⟩
      by_cases gw : pp.word = 0
      · rw [decide_eq_true gw] at kk ⊢
        refine iteT ⟨_, rfl, _, rfl, ?_⟩
        cases hrb : readB pp.fs (q.getD 3 0) pp.code with
        | true => rw [hrb] at kk; exact iteT kk
        | false =>
          rw [hrb] at kk
          refine iteF ⟨_, rfl, rfl, ?_⟩
          rw [dec_nat0]
          exact vb (by simp) kk
      · rw [decide_eq_false gw] at kk ⊢
        exact iteF kk
end
end K24
set_option Elab.async false
set_option autoImplicit false
set_option linter.all false
set_option maxRecDepth 100000
set_option maxHeartbeats 4000000
namespace K24
open PySem PySem.Spec PyProof.Rows L2
def leadsB (b : Book) (i : Nat) (ps : Parts) (path : List Nat) (root : Nat) : Bool := if path = [] then true else decide (findB b ps ≠ 0) && decide (rootBy b i (findB b ps) path = root)
def wIdx (pp : Pap) : Nat := if pp.wp ≠ [] then idxP pp.fs pp.code else 0
def showsB (b : Book) (q : List Nat) (pp : Pap) : Bool :=
  if ¬ leadsB b (pp.fs.getD 0 0) (codeP pp.code) pp.path (q.getD 0 0) = true then false else if ¬ leadsB b (wIdx pp) (wordP pp.word) pp.wp (pp.fs.getD 5 0) = true then false else leadsB b (pp.fs.getD 6 0) (wordP pp.given) pp.gp (q.getD 2 0)
def smallS (fs : List Nat) (c : Ins) (word given n : Nat) : St := stepC c (List.replicate n given) ⟨fs.getD 0 0, (fs.drop 1).take 4, List.replicate 64 word, fs.getD 6 0, [], fs.getD 8 0⟩
def rootP (b : Book) (pp : Pap) (c : Ins) (s : St) : Nat :=
  if c.nm = "store" ∧ pp.wp ≠ [] then (if findB b (wordP (s.me.getD (idxP pp.fs (some c)) 0)) ≠ 0 then rootBy b (idxP pp.fs (some c)) (findB b (wordP (s.me.getD (idxP pp.fs (some c)) 0))) pp.wp else 0) else pp.fs.getD 5 0
def chainP (b : Book) (pp : Pap) (s : St) : Nat := if s.wr ≠ [] then findB b (wroteP (pp.fs.getD 7 0) (s.wr.getD 0 0)) else pp.fs.getD 7 0
def behindB (b : Book) (q : List Nat) (pp : Pap) : Option (List Nat) :=
  if pp.fs.getD 8 0 ≠ 0 then some pp.fs else match pp.code with
  | none => some (pp.fs.take 8 ++ [2])
  | some c => if rootP b pp c (smallS pp.fs c pp.word pp.given (q.getD 3 0)) = 0 ∨ (chainP b pp (smallS pp.fs c pp.word pp.given (q.getD 3 0)) = 0 ∧ (smallS pp.fs c pp.word pp.given (q.getD 3 0)).wr ≠ []) then none
    else some (fieldsL (smallS pp.fs c pp.word pp.given (q.getD 3 0)) (rootP b pp c (smallS pp.fs c pp.word pp.given (q.getD 3 0))) (chainP b pp (smallS pp.fs c pp.word pp.given (q.getD 3 0))))
def checkB (b : Book) (q : List Nat) (before : Nat) (pp : Pap) : Nat :=
  if ¬ hasForm q pp = true then 0 else if findB b (stateP pp.fs) ≠ before then 0 else if ¬ showsB b q pp = true then 0 else match behindB b q pp with
  | none => 0
  | some fs => findB b (stateP fs)
theorem wroteOk2 {c v : Nat} (hc : c ≤ 4294967295) (hv : isW v) : PartsOk (wroteP c v) := by
  have hv : v ≤ 4294967295 := hv
  refine ⟨by show 1 ≤ 3; decide, by show 3 ≤ 16; decide, fun k hk => ?_⟩
  rcases List.mem_cons.mp hk with e | hk
  · subst e
    show okText ("wrote" : Str)
    exact ⟨by decide +kernel, by decide +kernel⟩
  · rcases List.mem_cons.mp hk with e | hk
    · subst e
      exact ⟨by omega, by omega⟩
    · rw [List.mem_singleton.mp hk]
      exact ⟨by omega, by omega⟩
theorem natK_nil {l : List Nat} : natK l = [] ↔ l = [] := by
  unfold natK
  exact List.map_eq_nil_iff
/-- what hasForm tells -/
theorem hasForm_of {q : List Nat} {pp : Pap} (h : hasForm q pp = true) : pp.fs.getD 6 0 ≤ q.getD 3 0 ∧ runsB q pp.fs = pp.code.isSome ∧ pp.path.length = six (runsB q pp.fs) ∧ pp.wp.length = six (memB pp.fs pp.code) ∧ pp.gp.length = six (readB pp.fs (q.getD 3 0) pp.code) := by
  unfold hasForm at h
  split at h
  · cases h
  rename_i h1
  split at h
  · cases h
  rename_i h2
  split at h
  · cases h
  rename_i h3
  split at h
  · cases h
  rename_i h4
  split at h
  · cases h
  rename_i h5
  exact ⟨Decidable.not_not.mp h1, Decidable.not_not.mp h2, Decidable.not_not.mp h3, Decidable.not_not.mp h4, Decidable.not_not.mp h5⟩
theorem wp_mem {q : List Nat} {pp : Pap} (h : hasForm q pp = true) (hw : pp.wp ≠ []) : memP pp.fs pp.code := by
  obtain ⟨_, _, _, h4, _⟩ := hasForm_of h
  unfold memB at h4
  by_cases m : memP pp.fs pp.code
  · exact m
  · rw [decide_eq_false m] at h4
    exact absurd (List.eq_nil_of_length_eq_zero h4) hw
section
variable {P : Program} {w : World} {K : PySem.W.Frag} {mg : Str → Option Value} {base : Heap}
def spLeads (CN tl tp : Addr) : Sp := fun vs H Q _ => ∃ (nt : Nt) (psa pa : Addr) (i : Nat) (ps : Parts) (path : List Nat) (root : Nat) (b : Book), vs = [.ref nt.n, .int (i : Int), .ref psa, .ref pa, .int (root : Int)] ∧ Call CN tl tp nt H b ∧ H psa = some (.tup (ps.map kV)) ∧ PartsOk ps ∧ WdAt H pa path ∧ (∀ y ∈ path, y ≤ LIM) ∧ b.length ≤ LIM ∧
  ∀ H', Keep nt H H' → NotAt CN nt H' b → Q (.bl (leadsB b i ps path root)) H'
theorem sc_leads : FnScope ["notary", "index", "parts", "path", "root", "leaf"] ["notary", "index", "parts", "path", "root"] (defScope s_leads) := ⟨rfl, rfl, rfl, by decide +kernel, rfl, by decide +kernel, by decide +kernel⟩
theorem ok_leads {CN tl tp : Addr} (F : FnF K mg "leads" "leads" s_leads) (TN : NotC K CN) (D1 : Mth P w K mg base 5 CN "find" ["self", "parts"] (spFind CN tl tp)) (D2 : Def P w K mg base 6 "root_by" ["notary", "index", "leaf", "path"] (spRootBy CN tl tp)) : Def P w K mg base 7 "leads" ["notary", "index", "parts", "path", "root"] (spLeads CN tl tp) := by
  refine Def.of F sc_leads (fun _ _ _ _ _ _ us hl => match us, hl with | [_, _, _, _, _], _ => rfl) (fun vs H Q E h => ?_) (fun f cdv A outer s H vs Q E hr h => ?_)
  · obtain ⟨nt, psa, pa, i, ps, path, root, b, rfl, _⟩ := h; rfl
  · refine ⟨_, pss_cons (ps_if (pt_cmpR (op_eqD hr.units) (pv 3) (pe_tup pa_nil) (nomark _)) (pss_one (ps_ret pe_bl)) pss_nil)
      (pss_cons (ps_set (i := 5) sc_leads.nd rfl (Or.inl rfl) (pe_m D1 (pv 0) TN.cl (hr.mono (by decide)) (pa_cons (pv 2) pa_nil)))
      (pss_one (ps_ret (pe_and (pe_cmpR op_ne (pv 5) pe_int (nomark _)) (pe_one (pe_cmpR op_eq (pe_d D2 hr rfl (pa_cons (pv 0) (pa_cons (pv 1) (pa_cons (pv 5) (pa_cons (pv 3) pa_nil))))) (pv 4) (nomark _))))))), ?_⟩
    obtain ⟨nt, psa, pa, i, ps, path, root, b, rfl, c, hps, pok, hpa, hpl, hbl, k⟩ := h
    unfold leadsB at k
    refine ⟨_, rfl, Nat.zero_le _, fun e0 he0 => ?_⟩
    have s0 := same_new (o := .tup []) he0
    refine eqK (xs := natK path) (ys := []) (natK_str _) nilK_str (by rw [natK_map]; exact s0 _ _ hpa) upd_same ⟨_, rfl, ?_⟩
    have c0 := c.same s0
    by_cases hn : path = []
    · rw [decide_eq_true (natK_nil.mpr hn)]
      rw [if_pos hn] at k
      exact iteT (k _ (.of_same s0) c0.nt)
    rw [decide_eq_false (fun z => hn (natK_nil.mp z))]
    rw [if_neg hn] at k
    obtain ⟨dx, z0, en⟩ := c0.nt.ob
    refine iteF ⟨_, rfl, nt.n, dx, _, rfl, en, nfl_no _ _ (by decide +kernel) (by decide +kernel) (by decide +kernel), _, rfl, nt, psa, ps, b, rfl, c0, s0 _ _ hps, pok, fun H2 kp2 n2 => ?_⟩
    have kp02 : Keep nt H H2 := (Keep.of_same s0).trans kp2
    refine ⟨_, rfl, rfl, _, rfl, ?_⟩
    rw [dec_nat0]
    by_cases hz : findB b ps = 0
    · rw [decide_eq_true hz]
      exact iteF (vb (by simp [hz]) (k H2 kp02 n2))
    rw [decide_eq_false hz]
    refine iteT ⟨_, rfl, _, rfl, _, rfl, _, rfl, nt, pa, path, b, i, findB b ps, rfl, c.keep kp02 n2, kp02.tup c.nt hpa, findB_lim hbl, hpl, hbl, fun H3 kp3 n3 => ⟨_, rfl, rfl, ?_⟩⟩
    rw [nEq]
    exact vb (by simp [hz]) (k H3 (kp02.trans kp3) n3)
/-! ### shows_tree -/
def spShows (CN : Addr) (T : Tb) : Sp := fun vs H Q _ => ∃ (nt : Nt) (qa pa : Addr) (q : List Nat) (pp : Pap) (b : Book), vs = [.ref nt.n, .ref qa, .ref pa] ∧ Cal CN T nt H b ∧ WdAt H qa q ∧ QOk q ∧ PapAt H pa pp ∧ PapOk pp ∧ hasForm q pp = true ∧ b.length ≤ LIM ∧ ∀ H', Keep nt H H' → NotAt CN nt H' b → Q (.bl (showsB b q pp)) H'
theorem sc_shows_tree : FnScope ["notary", "question", "paper", "fields", "code", "path", "word", "its_path", "given", "given_path", "index"] ["notary", "question", "paper"] (defScope s_shows_tree) := ⟨rfl, rfl, rfl, by decide +kernel, rfl, by decide +kernel, by decide +kernel⟩
theorem ok_shows_tree {CN : Addr} {T : Tb} (F : FnF K mg "shows_tree" "shows_tree" s_shows_tree) (D : Def P w K mg base 7 "leads" ["notary", "index", "parts", "path", "root"] (spLeads CN T.l T.p)) : Def P w K mg base 8 "shows_tree" ["notary", "question", "paper"] (spShows CN T) := by
  refine Def.of F sc_shows_tree (fun _ _ _ _ _ _ us hl => match us, hl with | [_, _, _], _ => rfl) (fun vs H Q E h => ?_) (fun f cdv A outer s H vs Q E hr h => ?_)
  · obtain ⟨nt, qa, pa, q, pp, b, rfl, _⟩ := h; rfl
  · refine ⟨_, pss_cons (ps_asg (pv 2) (pg_tup rfl (pgs_cons (pg_name (i := 3) sc_shows_tree.nd rfl (Or.inl rfl)) (pgs_cons (pg_name (i := 4) sc_shows_tree.nd rfl (Or.inl rfl)) (pgs_cons (pg_name (i := 5) sc_shows_tree.nd rfl (Or.inl rfl)) (pgs_cons (pg_name (i := 6) sc_shows_tree.nd rfl (Or.inl rfl)) (pgs_cons (pg_name (i := 7) sc_shows_tree.nd rfl (Or.inl rfl)) (pgs_cons (pg_name (i := 8) sc_shows_tree.nd rfl (Or.inl rfl)) (pgs_cons (pg_name (i := 9) sc_shows_tree.nd rfl (Or.inl rfl)) pgs_nil)))))))))
      (pss_cons (ps_set (i := 10) sc_shows_tree.nd rfl (Or.inl rfl) (pe_mon (pe_ifExp (pt_cmpR (op_neD hr.units) (pv 7) (pe_tup pa_nil) (nomark _)) (pe_ix ix_tup (pv 3) (pe_op op_add pe_int (pe_ix ix_tup (pv 4) pe_int (fun _ _ => rfl))) (fun _ _ => rfl)) pe_int)))
      (pss_cons (ps_if (pt_not (pt_val (pe_d D hr rfl (pa_cons (pv 0) (pa_cons (pe_ix ix_tup (pv 3) pe_int (fun _ _ => rfl)) (pa_cons (pe_op op_catA (pe_tup (pa_cons pe_str pa_nil)) (pv 4)) (pa_cons (pv 5) (pa_cons (pe_ix ix_tup (pv 1) pe_int (fun _ _ => rfl)) pa_nil)))))))) (pss_one (ps_ret pe_bl)) pss_nil)
      (pss_cons (ps_if (pt_not (pt_val (pe_d D hr rfl (pa_cons (pv 0) (pa_cons (pv 10) (pa_cons (pe_tup (pa_cons pe_str (pa_cons (pv 6) pa_nil))) (pa_cons (pv 7) (pa_cons (pe_ix ix_tup (pv 3) pe_int (fun _ _ => rfl)) pa_nil)))))))) (pss_one (ps_ret pe_bl)) pss_nil)
      (pss_one (ps_ret (pe_d D hr rfl (pa_cons (pv 0) (pa_cons (pe_ix ix_tup (pv 3) pe_int (fun _ _ => rfl)) (pa_cons (pe_tup (pa_cons pe_str (pa_cons (pv 8) pa_nil))) (pa_cons (pv 9) (pa_cons (pe_ix ix_tup (pv 1) pe_int (fun _ _ => rfl)) pa_nil))))))))))), ?_⟩
    obtain ⟨nt, qa, pa, q, pp, b, rfl, c, hq, qo, hp, ok, hf, hbl, k⟩ := h
    obtain ⟨fa, ca, pha, wpa, gpa, hpa, hfa, hca, hph, hwp, hgp⟩ := hp
    unfold showsB at k
    refine ⟨_, rfl, pa, _, rfl, SqT.of hpa, rfl, _, _, rfl, _, _, rfl, _, _, rfl, _, _, rfl, _, _, rfl, _, _, rfl, _, _, rfl, rfl, ?_⟩
    simp only [L2.start, List.set_cons_succ, List.set_cons_zero, List.map_cons, List.map_nil, List.length_cons, List.length_nil, Nat.reduceAdd, Nat.reduceSub, List.replicate_succ, List.replicate_zero, List.cons_append, List.nil_append]
    refine ⟨fun x Hx => x = .int (wIdx pp : Int) ∧ Same H Hx, ⟨_, rfl, Nat.zero_le _, fun e0 he0 => ?_⟩, fun x H1 e => ?_⟩
    · have s0 := same_new (o := .tup []) he0
      refine neK (xs := natK pp.wp) (ys := []) (natK_str _) nilK_str (by rw [natK_map]; exact s0 _ _ hwp) upd_same ⟨_, rfl, ?_⟩
      by_cases hw : pp.wp = []
      · rw [decide_eq_true (natK_nil.mpr hw)]
        refine iteF ⟨?_, s0⟩
        unfold wIdx
        rw [if_neg (fun n => n hw)]
        rfl
      · rw [decide_eq_false (fun z => hw (natK_nil.mp z))]
        have m := wp_mem hf hw
        cases hc : pp.code with
        | none => rw [hc] at m; exact m.elim
        | some ci =>
          rw [hc] at m
          have oc := ok.code ci hc
          obtain ⟨o1, o2, ear, ho1, ho2⟩ := oc.two (two_of m.1)
          have e1 : ci.ar[1]? = some o2 := by rw [ear]; rfl
          have hca0 : CodeAt (upd H e0 (.tup [])) ca (some ci) := by rw [← hc]; exact s0 _ _ hca
          refine iteT ⟨_, rfl, _, rfl, ca, _, 2, .int (o2 : Int), rfl, rfl, SqT.of hca0, atI_nat (j := 2) (code_at e1), _, _, rfl, rfl, fa, _, _, .int (pp.fs.getD (1 + o2) 0 : Int), rfl, rfl, SqT.of (s0 _ _ hfa), at_of (j := 1 + o2) (by omega) (fs_at ok.fl (by omega)), ?_, s0⟩
          unfold wIdx
          rw [if_pos hw, hc]
          show V.int (pp.fs.getD (1 + o2) 0 : Int) = V.int (pp.fs.getD (1 + ci.a 1) 0 : Int)
          rw [a_of e1]
    obtain ⟨rfl, s1⟩ := e
    have c1 := c.same s1
    simp only [L2.start, List.set_cons_succ, List.set_cons_zero, List.map_cons, List.map_nil, List.length_cons, List.length_nil, Nat.reduceAdd, Nat.reduceSub, List.replicate_succ, List.replicate_zero, List.cons_append, List.nil_append]
    -- the code
    refine ⟨_, rfl, _, rfl, fa, _, 0, .int (pp.fs.getD 0 0 : Int), rfl, rfl, SqT.of (s1 _ _ hfa), atI_nat (j := 0) (fs_at ok.fl (by decide)), by show 1 ≤ sizeLine; decide, fun tq htq => ?_⟩
    have s2 := same_new (o := .tup [V.str "code"]) htq
    refine ⟨_, rfl, ?_⟩
    refine catT upd_same (s2 _ _ (s1 _ _ hca)) ?_ fun p3 H3 s3 h3 => ?_
    · rw [List.length_map]
      cases hc : pp.code with
      | none => decide
      | some ci =>
        have sm := (ok.code ci hc).small
        refine Nat.le_trans (show 1 + (codeK (some ci)).length ≤ 5 from ?_) (by decide)
        show 1 + ((natK ci.ar).length + 1) ≤ 5
        unfold natK
        rw [List.length_map]
        omega
    have s13 := (Same.trans s1 s2).trans s3
    have c3 := c.same s13
    refine ⟨_, rfl, _, rfl, qa, _, 0, .int (q.getD 0 0 : Int), rfl, rfl, SqT.of (s13 _ _ hq), atI_nat (j := 0) (q_at qo (by decide)), nt, p3, pha, pp.fs.getD 0 0, codeP pp.code, pp.path, q.getD 0 0, b, rfl, c3.call, h3, codeOk ok.code, s13 _ _ hph, ok.path, hbl, fun H4 kp4 n4 => ⟨_, rfl, ?_⟩⟩
    have kp04 : Keep nt H H4 := (Keep.of_same s13).trans kp4
    have tk4 := kp04.tk c.nt
    have c4 := c.keep kp04 n4
    cases l1 : leadsB b (pp.fs.getD 0 0) (codeP pp.code) pp.path (q.getD 0 0) with
    | false =>
      rw [l1, if_pos Bool.false_ne_true] at k
      exact iteT (k H4 kp04 n4)
    | true =>
    rw [l1, if_neg (fun n => n rfl)] at k
    -- the memory's word
    refine iteF ⟨_, rfl, _, rfl, _, rfl, by show 2 ≤ sizeLine; decide, fun t5 ht5 => ?_⟩
    have s5 := same_new (o := .tup [V.str "word", V.int (pp.word : Int)]) ht5
    refine ⟨_, rfl, _, rfl, fa, _, 5, .int (pp.fs.getD 5 0 : Int), rfl, rfl, SqT.of (s5 _ _ (tk4.tup hfa)), atI_nat (j := 5) (fs_at ok.fl (by decide)), nt, t5, wpa, wIdx pp, wordP pp.word, pp.wp, pp.fs.getD 5 0, b, rfl, (c4.same s5).call, upd_same, wordOk ok.word, s5 _ _ (tk4.tup hwp), ok.wp, hbl, fun H6 kp6 n6 => ⟨_, rfl, ?_⟩⟩
    have kp06 : Keep nt H H6 := (kp04.trans (.of_same s5)).trans kp6
    have tk6 := kp06.tk c.nt
    have c6 := c.keep kp06 n6
    cases l2 : leadsB b (wIdx pp) (wordP pp.word) pp.wp (pp.fs.getD 5 0) with
    | false =>
      rw [l2, if_pos Bool.false_ne_true] at k
      exact iteT (k H6 kp06 n6)
    | true =>
    rw [l2, if_neg (fun n => n rfl)] at k
    -- the input's word
    refine iteF ⟨_, rfl, _, rfl, fa, _, 6, .int (pp.fs.getD 6 0 : Int), rfl, rfl, SqT.of (tk6.tup hfa), atI_nat (j := 6) (fs_at ok.fl (by decide)), _, rfl, by show 2 ≤ sizeLine; decide, fun t7 ht7 => ?_⟩
    have s7 := same_new (o := .tup [V.str "word", V.int (pp.given : Int)]) ht7
    exact ⟨_, rfl, _, rfl, qa, _, 2, .int (q.getD 2 0 : Int), rfl, rfl, SqT.of (s7 _ _ (tk6.tup hq)), atI_nat (j := 2) (q_at qo (by decide)), nt, t7, gpa, pp.fs.getD 6 0, wordP pp.given, pp.gp, q.getD 2 0, b, rfl, (c6.same s7).call, upd_same, wordOk ok.given, s7 _ _ (tk6.tup hgp), ok.gp, hbl, fun H8 kp8 n8 => k H8 ((kp06.trans (.of_same s7)).trans kp8) n8⟩
/-! ### small_step -/
def spSmall : Sp := fun vs H Q _ => ∃ (fa ca : Addr) (fs : List Nat) (c : Ins) (word given n : Nat), vs = [.ref fa, .ref ca, .int (word : Int), .int (given : Int), .int (n : Int)] ∧ WdAt H fa fs ∧ fs.length = 9 ∧ (∀ x ∈ fs, x ≤ 4294967295) ∧ CodeAt H ca (some c) ∧ OkIns c ∧ isW word ∧ isW given ∧ n ≤ 64 ∧ fs.getD 6 0 ≤ n ∧
  ∀ p H', Same H H' → StAt H' p (smallS fs c word given n) → Q (.ref p) H'
theorem sc_small_step : FnScope ["fields", "code", "word", "given", "input_length", "memory", "words"] ["fields", "code", "word", "given", "input_length"] (defScope s_small_step) := ⟨rfl, rfl, rfl, by decide +kernel, rfl, by decide +kernel, by decide +kernel⟩
theorem rep_nats (k x : Nat) : (List.replicate k [V.int (x : Int)]).flatten = nats (List.replicate k x) := by
  induction k with
  | zero => rfl
  | succ k ih => rw [List.replicate_succ, List.flatten_cons, ih]; rfl
theorem ok_small_step (F : FnF K mg "small_step" "small_step" s_small_step) (C : Cst K mg) (D : Def P w K mg base 3 "step_code" ["code", "words", "state"] spStepC) : Def P w K mg base 4 "small_step" ["fields", "code", "word", "given", "input_length"] spSmall := by
  refine Def.of F sc_small_step (fun _ _ _ _ _ _ us hl => match us, hl with | [_, _, _, _, _], _ => rfl) (fun vs H Q E h => ?_) (fun f cdv A outer s H vs Q E hr h => ?_)
  · obtain ⟨fa, ca, fs, c, word, given, n, rfl, _⟩ := h; rfl
  · refine ⟨_, pss_cons (ps_set (i := 5) sc_small_step.nd rfl (Or.inl rfl) (pe_op op_repA (pe_tup (pa_cons (pv 2) pa_nil)) (pe_gi C.nMEMORY rfl)))
      (pss_cons (ps_set (i := 6) sc_small_step.nd rfl (Or.inl rfl) (pe_op op_repA (pe_tup (pa_cons (pv 3) pa_nil)) (pv 4)))
      (pss_one (ps_ret (pe_d D hr rfl (pa_cons (pv 1) (pa_cons (pv 6) (pa_cons (pe_tup (pa_cons (pe_ix ix_tup (pv 0) pe_int (fun _ _ => rfl)) (pa_cons (pe_slice sl_tupA (pv 0) (po_some pe_int) (po_some pe_int)) (pa_cons (pv 5) (pa_cons (pe_ix ix_tup (pv 0) pe_int (fun _ _ => rfl)) (pa_cons (pe_tup pa_nil) (pa_cons (pe_ix ix_tup (pv 0) pe_int (fun _ _ => rfl)) pa_nil))))))) pa_nil))))))), ?_⟩
    obtain ⟨fa, ca, fs, c, word, given, n, rfl, hfa, fl, fo, hca, oc, hw, hg, hn, h6, k⟩ := h
    refine ⟨_, rfl, by show 1 ≤ sizeLine; decide, fun t1 ht1 => ⟨t1, 64, _, rfl, rfl, upd_same, by simp, by decide, by show 1 ≤ 1000; decide, fun ma H1 s1 hma => ?_⟩⟩
    have s0 := same_new (o := .tup [V.int (word : Int)]) ht1
    rw [rep_nats] at hma
    simp only [L2.start, List.set_cons_succ, List.set_cons_zero, List.map_cons, List.map_nil, List.length_cons, List.length_nil, Nat.reduceAdd, Nat.reduceSub, List.replicate_succ, List.replicate_zero, List.cons_append, List.nil_append]
    refine ⟨_, rfl, by show 1 ≤ sizeLine; decide, fun t2 ht2 => ⟨_, rfl, t2, n, _, rfl, rfl, upd_same, by simp, by omega, by show 1 ≤ 1000; decide, fun wa H2 s2 hwa => ?_⟩⟩
    have s1b := same_new (o := .tup [V.int (given : Int)]) ht2
    rw [rep_nats] at hwa
    simp only [L2.start, List.set_cons_succ, List.set_cons_zero, List.map_cons, List.map_nil, List.length_cons, List.length_nil, Nat.reduceAdd, Nat.reduceSub, List.replicate_succ, List.replicate_zero, List.cons_append, List.nil_append]
    have s02 := ((Same.trans s0 s1).trans s1b).trans s2
    have hma2 := s2 _ _ (s1b _ _ hma)
    refine ⟨_, rfl, _, rfl, _, rfl, fa, _, 0, .int (fs.getD 0 0 : Int), rfl, rfl, SqT.of (s02 _ _ hfa), atI_nat (j := 0) (fs_at fl (by decide)), _, rfl, _, rfl, _, rfl, slT (s02 _ _ hfa) fun ra H3 s3 hra => ?_⟩
    have e15 : cutV (nats fs) (some 1) (some 5) = nats ((fs.drop 1).take 4) := by
      rw [show (some (1 : Int)) = some ((1 : Nat) : Int) from rfl, show (some (5 : Int)) = some ((5 : Nat) : Int) from rfl, cut_both (nats fs) 1 5 (by decide) (by rw [nats_len, fl]; decide), nats_sub]
    rw [e15] at hra
    have s03 := s02.trans s3
    refine ⟨_, rfl, _, rfl, fa, _, 6, .int (fs.getD 6 0 : Int), rfl, rfl, SqT.of (s03 _ _ hfa), atI_nat (j := 6) (fs_at fl (by decide)), Nat.zero_le _, fun ua hua => ?_⟩
    have s4 := same_new (o := .tup []) hua
    have s04 := s03.trans s4
    refine ⟨_, rfl, fa, _, 8, .int (fs.getD 8 0 : Int), rfl, rfl, SqT.of (s04 _ _ hfa), atI_nat (j := 8) (fs_at fl (by decide)), by show 6 ≤ sizeLine; decide, fun sa hsa => ?_⟩
    have s5 := same_new (o := .tup (stV ⟨fs.getD 0 0, (fs.drop 1).take 4, List.replicate 64 word, fs.getD 6 0, [], fs.getD 8 0⟩ ra ma ua)) hsa
    have s05 := s04.trans s5
    have l4 : ((fs.drop 1).take 4).length = 4 := by rw [List.length_take, List.length_drop, fl]; rfl
    refine ⟨ca, wa, sa, c, List.replicate n given, ⟨fs.getD 0 0, (fs.drop 1).take 4, List.replicate 64 word, fs.getD 6 0, [], fs.getD 8 0⟩, rfl, s05 _ _ hca, oc, s5 _ _ (s4 _ _ (s3 _ _ hwa)), by rw [List.length_replicate]; exact hn, by rw [List.length_replicate]; exact h6, ⟨ra, ma, ua, upd_same, s5 _ _ (s4 _ _ hra), s5 _ _ (s4 _ _ (s3 _ _ hma2)), s5 _ _ upd_same⟩, ⟨l4, fun x hx => fo x (List.mem_of_mem_drop (List.mem_of_mem_take hx)), List.length_replicate, Nat.zero_le _⟩, fun p H6 s6 hp => k p H6 (s05.trans s6) hp⟩
end
end K24
set_option Elab.async false
set_option autoImplicit false
set_option linter.all false
set_option maxRecDepth 100000
set_option maxHeartbeats 4000000
namespace K24
open PySem PySem.Spec PyProof.Rows L2
def initS (fs : List Nat) (word : Nat) : St := ⟨fs.getD 0 0, (fs.drop 1).take 4, List.replicate 64 word, fs.getD 6 0, [], fs.getD 8 0⟩
theorem getD_mem {xs : List Nat} {i : Nat} (h : i < xs.length) : xs.getD i 0 ∈ xs := List.mem_of_getElem? (getD_at h)
theorem small_ok {q : List Nat} {pp : Pap} {c : Ins} (hf : hasForm q pp = true) (ok : PapOk pp) (qo : QOk q) (hc : pp.code = some c) : Kept (List.replicate (q.getD 3 0) pp.given) (initS pp.fs pp.word) (smallS pp.fs c pp.word pp.given (q.getD 3 0)) := by
  obtain ⟨h1, h2, _⟩ := hasForm_of hf
  rw [hc] at h2
  have h2 : runsB q pp.fs = true := h2
  unfold runsB at h2
  rw [Bool.and_eq_true, decide_eq_true_iff, decide_eq_true_iff] at h2
  have hp := qo.pn
  have hi := qo.inn
  have l4 : ((pp.fs.drop 1).take 4).length = 4 := by rw [List.length_take, List.length_drop, ok.fl]; rfl
  have so : StOk (initS pp.fs pp.word) := by
    refine ⟨ok.f0, l4, fun x hx => ok.fo x (List.mem_of_mem_drop (List.mem_of_mem_take hx)), List.length_replicate, fun x hx => ?_, ?_, Nat.zero_le _, fun x hx => (by cases hx), ok.f8⟩
    · rw [List.eq_of_mem_replicate hx]; exact ok.word
    · show pp.fs.getD 6 0 ≤ 64
      omega
  have wo : WsOk (List.replicate (q.getD 3 0) pp.given) := ⟨by rw [List.length_replicate]; exact hi, fun x hx => by rw [List.eq_of_mem_replicate hx]; exact ok.given⟩
  exact stepC_ok (ok.code c hc) so wo (by rw [List.length_replicate]; exact h1) (by show pp.fs.getD 0 0 < 64; omega) (Nat.zero_le _)
section
variable {P : Program} {w : World} {K : PySem.W.Frag} {mg : Str → Option Value} {base : Heap}
def spBehind (CN : Addr) (T : Tb) : Sp := fun vs H Q _ => ∃ (nt : Nt) (qa pa : Addr) (q : List Nat) (pp : Pap) (b : Book), vs = [.ref nt.n, .ref qa, .ref pa] ∧ Cal CN T nt H b ∧ WdAt H qa q ∧ QOk q ∧ PapAt H pa pp ∧ PapOk pp ∧ hasForm q pp = true ∧ b.length ≤ LIM ∧
  ∀ H', Keep nt H H' → NotAt CN nt H' b → (behindB b q pp = none → Q .non H') ∧ ∀ fs p, behindB b q pp = some fs → H' p = some (.tup (nats fs)) → Q (.ref p) H'
theorem sc_fields_behind : FnScope ["notary", "question", "paper", "fields", "code", "path", "word", "its_path", "given", "given_path", "place", "registers", "memory", "position", "written", "status", "root", "chain", "index", "leaf"] ["notary", "question", "paper"] (defScope s_fields_behind) := ⟨rfl, rfl, rfl, by decide +kernel, rfl, by decide +kernel, by decide +kernel⟩
theorem ok_fields_behind {CN : Addr} {T : Tb} (F : FnF K mg "fields_behind" "fields_behind" s_fields_behind) (C : Cst K mg) (TN : NotC K CN) (D1 : Def P w K mg base 4 "small_step" ["fields", "code", "word", "given", "input_length"] spSmall) (D2 : Mth P w K mg base 5 CN "find" ["self", "parts"] (spFind CN T.l T.p))
    (D3 : Def P w K mg base 6 "root_by" ["notary", "index", "leaf", "path"] (spRootBy CN T.l T.p)) : Def P w K mg base 7 "fields_behind" ["notary", "question", "paper"] (spBehind CN T) := by
  refine Def.of F sc_fields_behind (fun _ _ _ _ _ _ us hl => match us, hl with | [_, _, _], _ => rfl) (fun vs H Q E h => ?_) (fun f cdv A outer s H vs Q E hr h => ?_)
  · obtain ⟨nt, qa, pa, q, pp, b, rfl, _⟩ := h; rfl
  · refine ⟨_, pss_cons (ps_asg (pv 2) (pg_tup rfl (pgs_cons (pg_name (i := 3) sc_fields_behind.nd rfl (Or.inl rfl)) (pgs_cons (pg_name (i := 4) sc_fields_behind.nd rfl (Or.inl rfl)) (pgs_cons (pg_name (i := 5) sc_fields_behind.nd rfl (Or.inl rfl)) (pgs_cons (pg_name (i := 6) sc_fields_behind.nd rfl (Or.inl rfl)) (pgs_cons (pg_name (i := 7) sc_fields_behind.nd rfl (Or.inl rfl)) (pgs_cons (pg_name (i := 8) sc_fields_behind.nd rfl (Or.inl rfl)) (pgs_cons (pg_name (i := 9) sc_fields_behind.nd rfl (Or.inl rfl)) pgs_nil)))))))))
      (pss_cons (ps_if (pt_cmpR op_ne (pe_ix ix_tup (pv 3) pe_int (fun _ _ => rfl)) (pe_gi C.nRUNS rfl) (nomark _)) (pss_one (ps_ret (pv 3))) pss_nil)
      (pss_cons (ps_if (pt_cmpR (op_eqD hr.units) (pv 4) (pe_tup pa_nil) (nomark _)) (pss_one (ps_ret (pe_op op_catA (pe_slice sl_tupA (pv 3) po_none (po_some pe_int)) (pe_tup (pa_cons (pe_gi C.nFAULT rfl) pa_nil))))) pss_nil)
      (pss_cons (ps_asg (pe_d D1 (hr.mono (by decide)) rfl (pa_cons (pv 3) (pa_cons (pv 4) (pa_cons (pv 6) (pa_cons (pv 8) (pa_cons (pe_ix ix_tup (pv 1) pe_int (fun _ _ => rfl)) pa_nil)))))) (pg_tup rfl (pgs_cons (pg_name (i := 10) sc_fields_behind.nd rfl (Or.inl rfl)) (pgs_cons (pg_name (i := 11) sc_fields_behind.nd rfl (Or.inl rfl)) (pgs_cons (pg_name (i := 12) sc_fields_behind.nd rfl (Or.inl rfl)) (pgs_cons (pg_name (i := 13) sc_fields_behind.nd rfl (Or.inl rfl)) (pgs_cons (pg_name (i := 14) sc_fields_behind.nd rfl (Or.inl rfl)) (pgs_cons (pg_name (i := 15) sc_fields_behind.nd rfl (Or.inl rfl)) pgs_nil))))))))
      (pss_cons (ps_set (i := 16) sc_fields_behind.nd rfl (Or.inl rfl) (pe_ix ix_tup (pv 3) pe_int (fun _ _ => rfl)))
      (pss_cons (ps_set (i := 17) sc_fields_behind.nd rfl (Or.inl rfl) (pe_ix ix_tup (pv 3) pe_int (fun _ _ => rfl)))
      (C8.pss_cut (ps_if (PW.pt (pw_and (pt_cmpR op_eq (pe_ix ix_tup (pv 4) pe_int (fun _ _ => rfl)) pe_str (nomark _)) (pw_and1 (pt_cmpR (op_neD hr.units) (pv 7) (pe_tup pa_nil) (nomark _)))))
        (pss_cons (ps_set (i := 18) sc_fields_behind.nd rfl (Or.inl rfl) (pe_ix ix_tup (pv 3) (pe_op op_add pe_int (pe_ix ix_tup (pv 4) pe_int (fun _ _ => rfl))) (fun _ _ => rfl)))
        (pss_cons (ps_set (i := 19) sc_fields_behind.nd rfl (Or.inl rfl) (pe_m D2 (pv 0) TN.cl (hr.mono (by decide)) (pa_cons (pe_tup (pa_cons pe_str (pa_cons (pe_ix ix_tup (pv 12) (pv 18) (fun _ _ => rfl)) pa_nil))) pa_nil)))
        (pss_one (ps_set (i := 16) sc_fields_behind.nd rfl (Or.inl rfl) (pe_ifExp (pt_cmpR op_ne (pv 19) pe_int (nomark _)) (pe_d D3 hr rfl (pa_cons (pv 0) (pa_cons (pv 18) (pa_cons (pv 19) (pa_cons (pv 7) pa_nil))))) pe_int))))) pss_nil)
      (C8.pss_cut (ps_if (pt_cmpR op_gt (pe_callB call_len_seq rfl C.len PySem.boot_len (pa_cons (pv 14) pa_nil)) pe_int (nomark _))
        (pss_one (ps_set (i := 17) sc_fields_behind.nd rfl (Or.inl rfl) (pe_m D2 (pv 0) TN.cl (hr.mono (by decide)) (pa_cons (pe_tup (pa_cons pe_str (pa_cons (pv 17) (pa_cons (pe_ix ix_tup (pv 14) pe_int (fun _ _ => rfl)) pa_nil)))) pa_nil)))) pss_nil)
      (pss_cons (ps_if (PW.pt (pw_or (pt_cmpR op_eq (pv 16) pe_int (nomark _)) (pw_or1 (PW.pt (pw_and (pt_cmpR op_eq (pv 17) pe_int (nomark _)) (pw_and1 (pt_cmpR op_gt (pe_callB call_len_seq rfl C.len PySem.boot_len (pa_cons (pv 14) pa_nil)) pe_int (nomark _)))))))) (pss_one (ps_ret pe_non)) pss_nil)
      (pss_one (ps_ret (pe_op op_catA (pe_op op_catA (pe_tup (pa_cons (pv 10) pa_nil)) (pv 11)) (pe_tup (pa_cons (pv 16) (pa_cons (pv 13) (pa_cons (pv 17) (pa_cons (pv 15) pa_nil)))))))))))))))), ?_⟩
    obtain ⟨nt, qa, pa, q, pp, b, rfl, c, hq, qo, hp, ok, hf, hbl, k⟩ := h
    obtain ⟨fa, ca, pha, wpa, gpa, hpa, hfa, hca, hph, hwp, hgp⟩ := hp
    refine ⟨_, rfl, pa, _, rfl, SqT.of hpa, rfl, _, _, rfl, _, _, rfl, _, _, rfl, _, _, rfl, _, _, rfl, _, _, rfl, _, _, rfl, rfl, ?_⟩
    simp only [L2.start, List.set_cons_succ, List.set_cons_zero, List.map_cons, List.map_nil, List.length_cons, List.length_nil, Nat.reduceAdd, Nat.reduceSub, List.replicate_succ, List.replicate_zero, List.cons_append, List.nil_append]
    refine ⟨_, rfl, fa, _, 8, .int (pp.fs.getD 8 0 : Int), rfl, rfl, SqT.of hfa, atI_nat (j := 8) (fs_at ok.fl (by decide)), rfl, _, rfl, ?_⟩
    rw [dec_nat0]
    by_cases z8 : pp.fs.getD 8 0 = 0
    case neg =>
      rw [decide_eq_false z8]
      exact iteT ⟨_, rfl, (k H (.refl _ _) c.nt).2 _ fa (by unfold behindB; rw [if_pos z8]) hfa⟩
    rw [decide_eq_true z8]
    refine iteF ⟨_, rfl, Nat.zero_le _, fun e0 he0 => ?_⟩
    have s0 := same_new (o := .tup []) he0
    refine eqK (xs := codeK pp.code) (ys := []) (codeK_str ok.code) nilK_str (s0 _ _ hca) upd_same ⟨_, rfl, ?_⟩
    cases hc : pp.code with
    | none =>
      rw [decide_eq_true (show codeK none = [] from rfl)]
      refine iteT ⟨_, rfl, _, rfl, slT (s0 _ _ hfa) fun p1 H1 s1 h1 => ⟨by show 1 ≤ sizeLine; decide, fun p2 hp2 => ?_⟩⟩
      have s2 := same_new (o := .tup [V.int 2]) hp2
      rw [show (some (8 : Int)) = some ((8 : Nat) : Int) from rfl, cut_hi _ 8 (by rw [nats_len, ok.fl]; decide)] at h1
      refine catT (s2 _ _ h1) upd_same ?_ fun p3 H3 s3 h3 => ?_
      · rw [List.length_take, nats_len, ok.fl]
        show 8 + 1 ≤ sizeLine
        decide
      · have sa := ((Same.trans s0 s1).trans s2).trans s3
        refine (k H3 (.of_same sa) (c.nt.same sa)).2 (pp.fs.take 8 ++ [2]) p3 (by unfold behindB; rw [if_neg (fun n => n z8), hc]) ?_
        rw [h3]
        unfold nats
        rw [List.map_append, List.map_take]
        rfl
    | some ci =>
    have oc := ok.code ci hc
    have kept := small_ok hf ok qo hc
    obtain ⟨g1, g2, g3, g4, g5⟩ := hasForm_of hf
    rw [decide_eq_false (show codeK (some ci) ≠ [] from fun z => nomatch z)]
    have hcac : CodeAt H ca (some ci) := by rw [← hc]; exact hca
    refine iteF ⟨_, rfl, _, rfl, _, rfl, _, rfl, _, rfl, qa, _, 3, .int (q.getD 3 0 : Int), rfl, rfl, SqT.of (s0 _ _ hq), atI_nat (j := 3) (q_at qo (by decide)), fa, ca, pp.fs, ci, pp.word, pp.given, q.getD 3 0, rfl, s0 _ _ hfa, ok.fl, ok.fo, s0 _ _ hcac, oc, ok.word, ok.given, qo.inn, g1, fun sa H1 s1 hsa => ?_⟩
    have hb : behindB b q pp = if rootP b pp ci (smallS pp.fs ci pp.word pp.given (q.getD 3 0)) = 0 ∨ (chainP b pp (smallS pp.fs ci pp.word pp.given (q.getD 3 0)) = 0 ∧ (smallS pp.fs ci pp.word pp.given (q.getD 3 0)).wr ≠ []) then none
        else some (fieldsL (smallS pp.fs ci pp.word pp.given (q.getD 3 0)) (rootP b pp ci (smallS pp.fs ci pp.word pp.given (q.getD 3 0))) (chainP b pp (smallS pp.fs ci pp.word pp.given (q.getD 3 0)))) := by
      unfold behindB
      rw [if_neg (fun n => n z8), hc]
    generalize hS : smallS pp.fs ci pp.word pp.given (q.getD 3 0) = S at hb kept hsa
    have so := kept.ok
    obtain ⟨ra, ma, ua, aa, hra, hma, hua⟩ := hsa
    have s01 := Same.trans s0 s1
    refine ⟨sa, _, rfl, SqT.of aa, rfl, _, _, rfl, _, _, rfl, _, _, rfl, _, _, rfl, _, _, rfl, _, _, rfl, rfl, ?_⟩
    simp only [L2.start, List.set_cons_succ, List.set_cons_zero, List.map_cons, List.map_nil, List.length_cons, List.length_nil, Nat.reduceAdd, Nat.reduceSub, List.replicate_succ, List.replicate_zero, List.cons_append, List.nil_append]
    have hfa1 := s01 _ _ hfa
    refine ⟨_, rfl, fa, _, 5, .int (pp.fs.getD 5 0 : Int), rfl, rfl, SqT.of hfa1, atI_nat (j := 5) (fs_at ok.fl (by decide)), ?_⟩
    refine ⟨_, rfl, fa, _, 7, .int (pp.fs.getD 7 0 : Int), rfl, rfl, SqT.of hfa1, atI_nat (j := 7) (fs_at ok.fl (by decide)), ?_⟩
    simp only [L2.start, List.set_cons_succ, List.set_cons_zero, List.map_cons, List.map_nil, List.length_cons, List.length_nil, Nat.reduceAdd, Nat.reduceSub, List.replicate_succ, List.replicate_zero, List.cons_append, List.nil_append]
    have c1 := c.same s01
    have hca1 := s01 _ _ hcac
    have hwp1 := s01 _ _ hwp
    clear hph hgp hpa g3 g5
    -- the root
    refine ⟨fun σ H' => ∃ v18 v19 : Option V, Keep nt H1 H' ∧ NotAt CN nt H' b ∧ σ = [some (.ref nt.n), some (.ref qa), some (.ref pa), some (.ref fa), some (.ref ca), some (.ref pha), some (.int (pp.word : Int)), some (.ref wpa), some (.int (pp.given : Int)), some (.ref gpa), some (.int (S.pl : Int)), some (.ref ra), some (.ref ma), some (.int (S.po : Int)), some (.ref ua), some (.int (S.ss : Int)), some (.int (rootP b pp ci S : Int)), some (.int (pp.fs.getD 7 0 : Int)), v18, v19], ?_, ?_⟩
    · refine ⟨_, rfl, ca, _, 0, .str ci.nm, rfl, rfl, SqT.of hca1, atI_nat (j := 0) code_nm, rfl, _, rfl, ?_⟩
      rw [sEq]
      have fin : ∀ (x : Nat) (v18 v19 : Option V) (H' : Hp), Keep nt H1 H' → NotAt CN nt H' b → x = rootP b pp ci S → ∃ v18' v19' : Option V, Keep nt H1 H' ∧ NotAt CN nt H' b ∧ [some (V.ref nt.n), some (.ref qa), some (.ref pa), some (.ref fa), some (.ref ca), some (.ref pha), some (.int (pp.word : Int)), some (.ref wpa), some (.int (pp.given : Int)), some (.ref gpa), some (.int (S.pl : Int)), some (.ref ra), some (.ref ma), some (.int (S.po : Int)), some (.ref ua), some (.int (S.ss : Int)), some (.int (x : Int)), some (.int (pp.fs.getD 7 0 : Int)), v18, v19] =
          [some (.ref nt.n), some (.ref qa), some (.ref pa), some (.ref fa), some (.ref ca), some (.ref pha), some (.int (pp.word : Int)), some (.ref wpa), some (.int (pp.given : Int)), some (.ref gpa), some (.int (S.pl : Int)), some (.ref ra), some (.ref ma), some (.int (S.po : Int)), some (.ref ua), some (.int (S.ss : Int)), some (.int (rootP b pp ci S : Int)), some (.int (pp.fs.getD 7 0 : Int)), v18', v19'] := fun x v18 v19 H' k1 n1 e => ⟨v18, v19, k1, n1, by rw [e]⟩
      by_cases hs : ci.nm = "store"
      case neg =>
        rw [decide_eq_false hs]
        exact iteF (fin _ none none H1 (.refl _ _) c1.nt (by unfold rootP; rw [if_neg (fun n => hs n.1)]))
      rw [decide_eq_true hs]
      refine iteT ⟨_, rfl, Nat.zero_le _, fun e2 he2 => ?_⟩
      have s2 := same_new (o := .tup []) he2
      refine neK (xs := natK pp.wp) (ys := []) (natK_str _) nilK_str (by rw [natK_map]; exact s2 _ _ hwp1) upd_same ⟨_, rfl, ?_⟩
      by_cases hw : pp.wp = []
      · rw [decide_eq_true (natK_nil.mpr hw)]
        exact iteF (fin _ none none (upd H1 e2 (.tup [])) (.of_same s2) (c1.nt.same s2) (by unfold rootP; rw [if_neg (fun n => n.2 hw)]))
      rw [decide_eq_false (fun z => hw (natK_nil.mp z))]
      have m := wp_mem hf hw
      rw [hc] at m
      obtain ⟨o1, o2, ear, ho1, ho2⟩ := oc.two (two_of m.1)
      have e1 : ci.ar[1]? = some o2 := by rw [ear]; rfl
      have eidx : idxP pp.fs (some ci) = pp.fs.getD (1 + o2) 0 := by show pp.fs.getD (1 + ci.a 1) 0 = _; rw [a_of e1]
      have hid : pp.fs.getD (1 + o2) 0 < 64 := by have := m.2; rw [a_of e1] at this; exact this
      have hml : pp.fs.getD (1 + o2) 0 < S.me.length := by rw [so.mel]; exact hid
      refine iteT ⟨_, rfl, _, rfl, ca, _, 2, .int (o2 : Int), rfl, rfl, SqT.of (s2 _ _ hca1), atI_nat (j := 2) (code_at e1), _, _, rfl, rfl, fa, _, _, .int (pp.fs.getD (1 + o2) 0 : Int), rfl, rfl, SqT.of (s2 _ _ hfa1), at_of (j := 1 + o2) (by omega) (fs_at ok.fl (by omega)), ?_⟩
      simp only [L2.start, List.set_cons_succ, List.set_cons_zero, List.map_cons, List.map_nil, List.length_cons, List.length_nil, Nat.reduceAdd, Nat.reduceSub, List.replicate_succ, List.replicate_zero, List.cons_append, List.nil_append]
      have c2 := c1.same s2
      obtain ⟨dx, z0, en⟩ := c2.nt.ob
      refine ⟨_, rfl, nt.n, dx, _, rfl, en, nfl_no _ _ (by decide +kernel) (by decide +kernel) (by decide +kernel), _, rfl, _, rfl, ma, _, _, .int (S.me.getD (pp.fs.getD (1 + o2) 0) 0 : Int), rfl, rfl, SqT.of (s2 _ _ hma), atI_nat (j := pp.fs.getD (1 + o2) 0) (nats_at (getD_at hml)), by show 2 ≤ sizeLine; decide, fun t3 ht3 => ?_⟩
      have s3 := same_new (o := .tup [V.str "word", V.int (S.me.getD (pp.fs.getD (1 + o2) 0) 0 : Int)]) ht3
      refine ⟨nt, t3, wordP (S.me.getD (pp.fs.getD (1 + o2) 0) 0), b, rfl, (c2.same s3).call, upd_same, wordOk (getD_w so.me _), fun H4 kp4 n4 => ?_⟩
      simp only [L2.start, List.set_cons_succ, List.set_cons_zero, List.map_cons, List.map_nil, List.length_cons, List.length_nil, Nat.reduceAdd, Nat.reduceSub, List.replicate_succ, List.replicate_zero, List.cons_append, List.nil_append]
      have s23 := Same.trans s2 s3
      have kp14 : Keep nt H1 H4 := (Keep.of_same s23).trans kp4
      refine ⟨_, rfl, rfl, _, rfl, ?_⟩
      rw [dec_nat0]
      by_cases hz : findB b (wordP (S.me.getD (pp.fs.getD (1 + o2) 0) 0)) = 0
      · rw [decide_eq_true hz]
        exact iteF (fin 0 (some (.int (pp.fs.getD (1 + o2) 0 : Int))) (some (.int (findB b (wordP (S.me.getD (pp.fs.getD (1 + o2) 0) 0)) : Int))) H4 kp14 n4 (by unfold rootP; rw [if_pos ⟨hs, hw⟩, eidx, if_neg (fun n => n hz)]))
      · rw [decide_eq_false hz]
        refine iteT ⟨_, rfl, _, rfl, _, rfl, _, rfl, nt, wpa, pp.wp, b, pp.fs.getD (1 + o2) 0, _, rfl, (c1.keep kp14 n4).call, kp14.tup c1.nt hwp1, findB_lim hbl, ok.wp, hbl, fun H5 kp5 n5 => ?_⟩
        exact fin _ _ _ H5 (kp14.trans kp5) n5 (by unfold rootP; rw [if_pos ⟨hs, hw⟩, eidx, if_pos hz])
    rintro σ H2 ⟨v18, v19, kp2, n2, rfl⟩
    have c2 := c1.keep kp2 n2
    have tk2 := kp2.tk c1.nt
    have hua2 := tk2.tup hua
    have hra2 := tk2.tup hra
    -- the chain
    refine ⟨fun σ H' => Keep nt H2 H' ∧ NotAt CN nt H' b ∧ σ = [some (.ref nt.n), some (.ref qa), some (.ref pa), some (.ref fa), some (.ref ca), some (.ref pha), some (.int (pp.word : Int)), some (.ref wpa), some (.int (pp.given : Int)), some (.ref gpa), some (.int (S.pl : Int)), some (.ref ra), some (.ref ma), some (.int (S.po : Int)), some (.ref ua), some (.int (S.ss : Int)), some (.int (rootP b pp ci S : Int)), some (.int (chainP b pp S : Int)), v18, v19], ?_, ?_⟩
    · refine ⟨_, rfl, ua, _, rfl, .inr (SqT.of hua2), _, _, rfl, rfl, _, rfl, ?_⟩
      rw [nats_len]
      unfold chainP
      by_cases hw : S.wr = []
      · rw [hw, decide_eq_false (by decide), if_neg (fun n => n rfl)]
        exact iteF ⟨.refl _ _, n2, rfl⟩
      · have hl : 0 < S.wr.length := List.length_pos_iff.mpr hw
        rw [decide_eq_true (show (0 : Int) < (S.wr.length : Int) by omega), if_pos hw]
        obtain ⟨dx, z0, en⟩ := n2.ob
        refine iteT ⟨_, rfl, nt.n, dx, _, rfl, en, nfl_no _ _ (by decide +kernel) (by decide +kernel) (by decide +kernel), _, rfl, _, rfl, ua, _, 0, .int (S.wr.getD 0 0 : Int), rfl, rfl, SqT.of hua2, atI_nat (j := 0) (nats_at (getD_at hl)), by show 3 ≤ sizeLine; decide, fun t3 ht3 => ?_⟩
        have s3 := same_new (o := .tup [V.str "wrote", V.int (pp.fs.getD 7 0 : Int), V.int (S.wr.getD 0 0 : Int)]) ht3
        exact ⟨nt, t3, wroteP (pp.fs.getD 7 0) (S.wr.getD 0 0), b, rfl, (c2.same s3).call, upd_same, wroteOk2 (ok.fo _ (getD_mem (by rw [ok.fl]; decide))) (getD_w so.wr _), fun H4 kp4 n4 => ⟨(Keep.of_same s3).trans kp4, n4, rfl⟩⟩
    rintro σ H3 ⟨kp3, n3, rfl⟩
    have kp03 : Keep nt H H3 := ((Keep.of_same s01).trans kp2).trans kp3
    have hua3 := kp3.tup n2 hua2
    have hra3 := kp3.tup n2 hra2
    have kk := k H3 kp03 n3
    -- the end
    have last : ¬ (rootP b pp ci S = 0 ∨ (chainP b pp S = 0 ∧ S.wr ≠ [])) → (tRet (tOp (rCatA K) (tOp (rCatA K) (tTup (tCons (tVar 10) tNil)) (tVar 11)) (tTup (tCons (tVar 16) (tCons (tVar 13) (tCons (tVar 17) (tCons (tVar 15) tNil))))))) { nx := fun x H' => Q V.non H', rt := Q }
        [some (.ref nt.n), some (.ref qa), some (.ref pa), some (.ref fa), some (.ref ca), some (.ref pha), some (.int (pp.word : Int)), some (.ref wpa), some (.int (pp.given : Int)), some (.ref gpa), some (.int (S.pl : Int)), some (.ref ra), some (.ref ma), some (.int (S.po : Int)), some (.ref ua), some (.int (S.ss : Int)), some (.int (rootP b pp ci S : Int)), some (.int (chainP b pp S : Int)), v18, v19] H3 := fun hn => by
      refine ⟨_, rfl, by show 1 ≤ sizeLine; decide, fun p1 hp1 => ⟨_, rfl, ?_⟩⟩
      have t1 := same_new (o := .tup [V.int (S.pl : Int)]) hp1
      refine catT upd_same (t1 _ _ hra3) (by rw [nats_len, so.rgl]; show 1 + 4 ≤ sizeLine; decide) fun p2 H4 t2 h2 => ?_
      refine ⟨_, rfl, _, rfl, _, rfl, _, rfl, by show 4 ≤ sizeLine; decide, fun p3 hp3 => ?_⟩
      have t3 := same_new (o := .tup [V.int (rootP b pp ci S : Int), V.int (S.po : Int), V.int (chainP b pp S : Int), V.int (S.ss : Int)]) hp3
      refine catT (t3 _ _ h2) upd_same ?_ fun p5 H5 t5 h5 => ?_
      · rw [List.length_append, nats_len, so.rgl]
        show 1 + 4 + 4 ≤ sizeLine
        decide
      have e5 : ([V.int (S.pl : Int)] ++ nats S.rg) ++ [V.int (rootP b pp ci S : Int), V.int (S.po : Int), V.int (chainP b pp S : Int), V.int (S.ss : Int)] = nats (fieldsL S (rootP b pp ci S) (chainP b pp S)) := by
        unfold fieldsL nats
        rw [List.map_cons, List.map_append]
        rfl
      rw [e5] at h5
      have ta := ((Same.trans t1 t2).trans t3).trans t5
      refine (k H5 (kp03.trans (.of_same ta)) (n3.same ta)).2 _ p5 ?_ h5
      rw [hb, if_neg hn]
    refine ⟨_, rfl, rfl, _, rfl, ?_⟩
    rw [dec_nat0]
    by_cases z1 : rootP b pp ci S = 0
    · rw [decide_eq_true z1]
      refine iteT (kk.1 ?_)
      rw [hb, if_pos (.inl z1)]
    rw [decide_eq_false z1]
    refine iteF ⟨_, rfl, rfl, _, rfl, ?_⟩
    rw [dec_nat0]
    by_cases z2 : chainP b pp S = 0
    · rw [decide_eq_true z2]
      refine iteT ⟨_, rfl, ua, _, rfl, .inr (SqT.of hua3), _, _, rfl, rfl, _, rfl, ?_⟩
      rw [nats_len]
      by_cases hw : S.wr = []
      · rw [hw, decide_eq_false (by decide)]
        exact iteF (last (fun n => n.elim z1 fun n => n.2 hw))
      · have hl : 0 < S.wr.length := List.length_pos_iff.mpr hw
        rw [decide_eq_true (show (0 : Int) < (S.wr.length : Int) by omega)]
        refine iteT (kk.1 ?_)
        rw [hb, if_pos (.inr ⟨z2, hw⟩)]
    · rw [decide_eq_false z2]
      exact iteF (last (fun n => n.elim z1 fun n => z2 n.1))
end
end K24
set_option Elab.async false
set_option autoImplicit false
set_option linter.all false
set_option maxRecDepth 100000
set_option maxHeartbeats 4000000
namespace K24
open PySem PySem.Spec PyProof.Rows L2
theorem rootBy_lim {b : Book} (hb : b.length ≤ LIM) : ∀ {p : List Nat} {i x : Nat}, x ≤ LIM → rootBy b i x p ≤ LIM
  | [], i, x, h => by
    show (if i = 0 then x else 0) ≤ LIM
    split
    · exact h
    · exact Nat.zero_le _
  | o :: p, i, x, h => by
    show (if findB b (if i % 2 = 0 then pairP x o else pairP o x) = 0 then 0 else rootBy b (i / 2) (findB b (if i % 2 = 0 then pairP x o else pairP o x)) p) ≤ LIM
    have hz := findB_lim (p := if i % 2 = 0 then pairP x o else pairP o x) hb
    generalize findB b (if i % 2 = 0 then pairP x o else pairP o x) = z at hz ⊢
    by_cases e : z = 0
    · rw [if_pos e]; exact Nat.zero_le _
    · rw [if_neg e]; exact rootBy_lim hb hz
theorem behind_ok {b : Book} {q : List Nat} {pp : Pap} {fs : List Nat} (hb : b.length ≤ LIM) (hf : hasForm q pp = true) (ok : PapOk pp) (qo : QOk q) (h : behindB b q pp = some fs) : fs.length = 9 ∧ ∀ x ∈ fs, x ≤ 4294967295 := by
  have hLIM : LIM = 16000000 := rfl
  unfold behindB at h
  split at h
  · cases h
    exact ⟨ok.fl, ok.fo⟩
  · cases hc : pp.code with
    | none =>
      rw [hc] at h
      cases h
      refine ⟨by rw [List.length_append, List.length_take, ok.fl]; rfl, fun x hx => ?_⟩
      rcases List.mem_append.mp hx with e | e
      · exact ok.fo x (List.mem_of_mem_take e)
      · rw [List.mem_singleton.mp e]; decide
    | some ci =>
      have kept := small_ok hf ok qo hc
      rw [hc] at h
      have h : (if rootP b pp ci (smallS pp.fs ci pp.word pp.given (q.getD 3 0)) = 0 ∨ (chainP b pp (smallS pp.fs ci pp.word pp.given (q.getD 3 0)) = 0 ∧ (smallS pp.fs ci pp.word pp.given (q.getD 3 0)).wr ≠ []) then none
        else some (fieldsL (smallS pp.fs ci pp.word pp.given (q.getD 3 0)) (rootP b pp ci (smallS pp.fs ci pp.word pp.given (q.getD 3 0))) (chainP b pp (smallS pp.fs ci pp.word pp.given (q.getD 3 0))))) = some fs := h
      generalize smallS pp.fs ci pp.word pp.given (q.getD 3 0) = S at h kept
      split at h
      · cases h
      · cases h
        have so := kept.ok
        have := so.pl
        have := so.po
        have := so.ss
        have hr : rootP b pp ci S ≤ 4294967295 := by
          unfold rootP
          split
          · split
            · exact Nat.le_trans (rootBy_lim hb (findB_lim hb)) (by decide)
            · exact Nat.zero_le _
          · exact ok.fo _ (getD_mem (by rw [ok.fl]; decide))
        have hch : chainP b pp S ≤ 4294967295 := by
          unfold chainP
          split
          · exact Nat.le_trans (findB_lim hb) (by decide)
          · exact ok.fo _ (getD_mem (by rw [ok.fl]; decide))
        refine ⟨fields_len so.rgl, fun x hx => ?_⟩
        rcases List.mem_cons.mp hx with e | hx
        · omega
        · rcases List.mem_append.mp hx with e | hx
          · exact so.rg x e
          · simp at hx
            omega
section
variable {P : Program} {w : World} {K : PySem.W.Frag} {mg : Str → Option Value} {base : Heap}
def spCheck (CN : Addr) (T : Tb) : Sp := fun vs H Q _ => ∃ (nt : Nt) (qa pa : Addr) (q : List Nat) (before : Nat) (pp : Pap) (b : Book), vs = [.ref nt.n, .ref qa, .int (before : Int), .ref pa] ∧ Cal CN T nt H b ∧ WdAt H qa q ∧ QOk q ∧ PapAt H pa pp ∧ PapOk pp ∧ b.length ≤ LIM ∧
  ∀ H', Keep nt H H' → NotAt CN nt H' b → Q (.int (checkB b q before pp : Int)) H'
theorem sc_check_paper : FnScope ["notary", "question", "before", "paper", "fields"] ["notary", "question", "before", "paper"] (defScope s_check_paper) := ⟨rfl, rfl, rfl, by decide +kernel, rfl, by decide +kernel, by decide +kernel⟩
theorem ok_check_paper {CN : Addr} {T : Tb} (F : FnF K mg "check_paper" "check_paper" s_check_paper) (C : Cst K mg) (TN : NotC K CN) (D1 : Def P w K mg base 6 "has_form" ["question", "paper"] (spHasForm T)) (D2 : Mth P w K mg base 5 CN "find" ["self", "parts"] (spFind CN T.l T.p))
    (D3 : Def P w K mg base 8 "shows_tree" ["notary", "question", "paper"] (spShows CN T)) (D4 : Def P w K mg base 7 "fields_behind" ["notary", "question", "paper"] (spBehind CN T)) : Def P w K mg base 9 "check_paper" ["notary", "question", "before", "paper"] (spCheck CN T) := by
  obtain ⟨ag, gs, ts⟩ := C.tSTATE
  refine Def.of F sc_check_paper (fun _ _ _ _ _ _ us hl => match us, hl with | [_, _, _, _], _ => rfl) (fun vs H Q E h => ?_) (fun f cdv A outer s H vs Q E hr h => ?_)
  · obtain ⟨nt, qa, pa, q, before, pp, b, rfl, _⟩ := h; rfl
  · refine ⟨_, pss_cons (ps_if (PW.pt (pw_or (pt_not (pt_val (pe_d D1 (hr.mono (by decide)) rfl (pa_cons (pv 1) (pa_cons (pv 3) pa_nil))))) (pw_or1 (pt_cmpR op_ne (pe_m D2 (pv 0) TN.cl (hr.mono (by decide)) (pa_cons (pe_op op_catA (pe_gr gs rfl) (pe_ix ix_tup (pv 3) pe_int (fun _ _ => rfl))) pa_nil)) (pv 2) (nomark _))))) (pss_one (ps_ret pe_int)) pss_nil)
      (pss_cons (ps_if (pt_not (pt_val (pe_d D3 hr rfl (pa_cons (pv 0) (pa_cons (pv 1) (pa_cons (pv 3) pa_nil)))))) (pss_one (ps_ret pe_int)) pss_nil)
      (pss_cons (ps_set (i := 4) sc_check_paper.nd rfl (Or.inl rfl) (pe_d D4 (hr.mono (by decide)) rfl (pa_cons (pv 0) (pa_cons (pv 1) (pa_cons (pv 3) pa_nil)))))
      (pss_cons (ps_if (pt_cmpR op_isN (pv 4) pe_non (nomark _)) (pss_one (ps_ret pe_int)) pss_nil)
      (pss_one (ps_ret (pe_m D2 (pv 0) TN.cl (hr.mono (by decide)) (pa_cons (pe_op op_catA (pe_gr gs rfl) (pv 4)) pa_nil))))))), ?_⟩
    obtain ⟨nt, qa, pa, q, before, pp, b, rfl, c, hq, qo, hp, ok, hbl, k⟩ := h
    have e0 : ∀ fs : List Nat, [V.str "state"] ++ nats fs = (stateP fs).map kV := fun fs => by
      show V.str "state" :: nats fs = V.str "state" :: (natK fs).map kV
      rw [natK_map]
    refine ⟨_, rfl, _, rfl, qa, pa, q, pp, rfl, hq, qo, hp, ok, c.t, fun H1 s1 => ⟨_, rfl, ?_⟩⟩
    have c1 := c.same s1
    cases hf : hasForm q pp with
    | false =>
      refine iteT ?_
      have kk := k H1 (.of_same s1) c1.nt
      unfold checkB at kk
      rw [hf, if_pos Bool.false_ne_true] at kk
      exact kk
    | true =>
    obtain ⟨dx, z0, en⟩ := c1.nt.ob
    obtain ⟨fa, ca, pha, wpa, gpa, hpa, hfa, _⟩ := hp.tk (Same.tk s1)
    refine iteF ⟨_, rfl, nt.n, dx, _, rfl, en, nfl_no _ _ (by decide +kernel) (by decide +kernel) (by decide +kernel), _, rfl, pa, _, 0, .ref fa, rfl, rfl, SqT.of hpa, atI_nat (j := 0) rfl, ?_⟩
    refine catG (ts H1) (SqT.of hfa) (by simp) (fun z => by have := congrArg List.length z; rw [nats_len, ok.fl] at this; simp at this) (by rw [nats_len, ok.fl]; decide) fun p2 H2 s2 h2 => ?_
    rw [e0] at h2
    refine ⟨nt, p2, stateP pp.fs, b, rfl, (c1.same s2).call, h2, stateOk ok.fl ok.fo, fun H3 kp3 n3 => ⟨_, rfl, rfl, _, rfl, ?_⟩⟩
    rw [nEq]
    have kp03 : Keep nt H H3 := (Keep.of_same (Same.trans s1 s2)).trans kp3
    by_cases g1 : findB b (stateP pp.fs) = before
    case neg =>
      rw [decide_eq_false g1]
      have kk := k H3 kp03 n3
      unfold checkB at kk
      rw [if_neg (fun n => n hf), if_pos g1] at kk
      exact iteT kk
    rw [decide_eq_true g1]
    have c3 := c.keep kp03 n3
    have tk3 := kp03.tk c.nt
    refine iteF ⟨_, rfl, _, rfl, _, rfl, nt, qa, pa, q, pp, b, rfl, c3, tk3.tup hq, qo, hp.tk tk3, ok, hf, hbl, fun H4 kp4 n4 => ⟨_, rfl, ?_⟩⟩
    have kp04 := kp03.trans kp4
    have tk4 := kp04.tk c.nt
    have c4 := c.keep kp04 n4
    cases g2 : showsB b q pp with
    | false =>
      have kk := k H4 kp04 n4
      unfold checkB at kk
      rw [if_neg (fun n => n hf), if_neg (fun n => n g1), g2, if_pos Bool.false_ne_true] at kk
      exact iteT kk
    | true =>
    refine iteF ⟨_, rfl, _, rfl, _, rfl, nt, qa, pa, q, pp, b, rfl, c4, tk4.tup hq, qo, hp.tk tk4, ok, hf, hbl, fun H5 kp5 n5 => ⟨fun hn => ?_, fun fs p hs h5 => ?_⟩⟩
    · refine ⟨_, rfl, rfl, _, rfl, ?_⟩
      have kk := k H5 (kp04.trans kp5) n5
      unfold checkB at kk
      rw [if_neg (fun n => n hf), if_neg (fun n => n g1), if_neg (fun n => n g2), hn] at kk
      rw [decide_eq_true rfl]
      exact iteT kk
    · refine ⟨_, rfl, rfl, _, rfl, ?_⟩
      rw [decide_eq_false (fun z => nomatch z)]
      have kp05 := kp04.trans kp5
      have c5 := c.keep kp05 n5
      obtain ⟨fl, fo⟩ := behind_ok hbl hf ok qo hs
      obtain ⟨dx, z0, en⟩ := n5.ob
      refine iteF ⟨_, rfl, nt.n, dx, _, rfl, en, nfl_no _ _ (by decide +kernel) (by decide +kernel) (by decide +kernel), _, rfl, ?_⟩
      refine catG (ts H5) (SqT.of h5) (by simp) (fun z => by have := congrArg List.length z; rw [nats_len, fl] at this; simp at this) (by rw [nats_len, fl]; decide) fun p6 H6 s6 h6 => ?_
      rw [e0] at h6
      refine ⟨nt, p6, stateP fs, b, rfl, (c5.same s6).call, h6, stateOk fl fo, fun H7 kp7 n7 => ?_⟩
      have kk := k H7 ((kp05.trans (.of_same s6)).trans kp7) n7
      unfold checkB at kk
      rw [if_neg (fun n => n hf), if_neg (fun n => n g1), if_neg (fun n => n g2), hs] at kk
      exact kk
end
end K24
set_option Elab.async false
set_option autoImplicit false
set_option linter.all false
set_option maxRecDepth 100000
set_option maxHeartbeats 4000000
/-! The plain law: what the check answers. -/
namespace K24
open PySem PySem.Spec PyProof.Rows L2
/-- what the checker's small step shares with the state's own -/
structure Alike (st S S' : St) (c : Ins) (idx : Nat) (mem : Prop) (word : Nat) : Prop where
  pl : S.pl = S'.pl
  rg : S.rg = S'.rg
  po : S.po = S'.po
  ss : S.ss = S'.ss
  wr : (S'.wr = st.wr ∧ S.wr = []) ∨ ∃ v, S'.wr = st.wr ++ [v] ∧ S.wr = [v]
  me : (c.nm = "store" ∧ mem ∧ ∃ v, S'.me = st.me.set idx v ∧ S.me = (List.replicate 64 word).set idx v) ∨ (¬ (c.nm = "store" ∧ mem) ∧ S'.me = st.me)
theorem rep_getD {n x i : Nat} (h : i < n) : (List.replicate n x).getD i 0 = x := by
  rw [List.getD_eq_getElem?_getD, List.getElem?_replicate_of_lt h]
  rfl
theorem alike {c : Ins} {ws : List Nat} {st : St} {word given : Nat} (oc : OkIns c) (so : StOk st) (hp : st.po ≤ ws.length)
    (hm : (c.nm = "load" ∨ c.nm = "store") ∧ st.r (c.a 1) < 64 → word = st.me.getD (st.r (c.a 1)) 0) (hr : c.nm = "read" ∧ st.po < ws.length → given = ws.getD st.po 0) :
    Alike st (stepC c (List.replicate ws.length given) ⟨st.pl, st.rg, List.replicate 64 word, st.po, [], st.ss⟩) (stepC c ws st) c (st.r (c.a 1)) ((c.nm = "load" ∨ c.nm = "store") ∧ st.r (c.a 1) < 64) word := by
  have er : ∀ i, St.r ⟨st.pl, st.rg, List.replicate 64 word, st.po, [], st.ss⟩ i = st.r i := fun i => rfl
  have els : ("load" : Str) ≠ "store" := by decide +kernel
  unfold stepC
  by_cases n1 : c.nm = "stop"
  · rw [if_pos n1, if_pos n1]
    have ns : c.nm ≠ "store" := by rw [n1]; decide +kernel
    exact ⟨rfl, rfl, rfl, rfl, .inl ⟨rfl, rfl⟩, .inr ⟨fun z => ns z.1, rfl⟩⟩
  rw [if_neg n1, if_neg n1]
  by_cases n2 : c.nm = "set"
  · rw [if_pos n2, if_pos n2]
    have ns : c.nm ≠ "store" := by rw [n2]; decide +kernel
    exact ⟨rfl, rfl, rfl, rfl, .inl ⟨rfl, rfl⟩, .inr ⟨fun z => ns z.1, rfl⟩⟩
  rw [if_neg n2, if_neg n2]
  by_cases n3 : c.nm = "copy"
  · rw [if_pos n3, if_pos n3]
    have ns : c.nm ≠ "store" := by rw [n3]; decide +kernel
    exact ⟨rfl, rfl, rfl, rfl, .inl ⟨rfl, rfl⟩, .inr ⟨fun z => ns z.1, rfl⟩⟩
  rw [if_neg n3, if_neg n3]
  by_cases n4 : c.nm = "jump"
  · rw [if_pos n4, if_pos n4]
    have ns : c.nm ≠ "store" := by rw [n4]; decide +kernel
    exact ⟨rfl, rfl, rfl, rfl, .inl ⟨rfl, rfl⟩, .inr ⟨fun z => ns z.1, rfl⟩⟩
  rw [if_neg n4, if_neg n4]
  by_cases n5 : c.nm = "zero"
  · rw [if_pos n5, if_pos n5]
    have ns : c.nm ≠ "store" := by rw [n5]; decide +kernel
    exact ⟨rfl, rfl, rfl, rfl, .inl ⟨rfl, rfl⟩, .inr ⟨fun z => ns z.1, rfl⟩⟩
  rw [if_neg n5, if_neg n5]
  by_cases n6 : c.nm = "load" ∨ c.nm = "store"
  · rw [if_pos n6, if_pos n6]
    unfold memC
    rw [er, er]
    by_cases h64 : 64 ≤ st.r (c.a 1)
    · rw [if_pos h64, if_pos h64]
      exact ⟨rfl, rfl, rfl, rfl, .inl ⟨rfl, rfl⟩, .inr ⟨fun z => by have := z.2.2; omega, rfl⟩⟩
    rw [if_neg h64, if_neg h64]
    by_cases hl : c.nm = "load"
    · rw [if_pos hl, if_pos hl]
      have ns : c.nm ≠ "store" := by rw [hl]; exact els
      have e : (List.replicate 64 word).getD (st.r (c.a 1)) 0 = st.me.getD (st.r (c.a 1)) 0 := by
        rw [rep_getD (by omega)]
        exact hm ⟨n6, by omega⟩
      refine ⟨rfl, ?_, rfl, rfl, .inl ⟨rfl, rfl⟩, .inr ⟨fun z => ns z.1, rfl⟩⟩
      show st.rg.set _ _ = st.rg.set _ _
      rw [e]
    · rw [if_neg hl, if_neg hl]
      have hs : c.nm = "store" := n6.elim (fun z => absurd z hl) id
      exact ⟨rfl, rfl, rfl, rfl, .inl ⟨rfl, rfl⟩, .inl ⟨hs, ⟨n6, by omega⟩, _, rfl, rfl⟩⟩
  rw [if_neg n6, if_neg n6]
  have ns : c.nm ≠ "store" := fun z => n6 (.inr z)
  by_cases n7 : c.nm ∈ oneL
  · rw [if_pos n7, if_pos n7]
    unfold inpC
    by_cases h1 : c.nm = "left"
    · rw [if_pos h1, if_pos h1]
      refine ⟨rfl, ?_, rfl, rfl, .inl ⟨rfl, rfl⟩, .inr ⟨fun z => ns z.1, rfl⟩⟩
      show st.rg.set _ _ = st.rg.set _ _
      rw [List.length_replicate]
    rw [if_neg h1, if_neg h1]
    by_cases h2 : c.nm = "write"
    · rw [if_pos h2, if_pos h2]
      exact ⟨rfl, rfl, rfl, rfl, .inr ⟨_, rfl, rfl⟩, .inr ⟨fun z => ns z.1, rfl⟩⟩
    rw [if_neg h2, if_neg h2]
    have h3 : c.nm = "read" := by
      have z : ∀ n ∈ oneL, n = "read" ∨ n = "left" ∨ n = "write" := by decide +kernel
      rcases z _ n7 with e | e | e
      · exact e
      · exact absurd e h1
      · exact absurd e h2
    have el : (List.replicate ws.length given).length = ws.length := List.length_replicate
    by_cases h4 : ws.length ≤ st.po
    · rw [if_pos (show (List.replicate ws.length given).length ≤ st.po by rw [el]; exact h4), if_pos h4]
      exact ⟨rfl, rfl, rfl, rfl, .inl ⟨rfl, rfl⟩, .inr ⟨fun z => ns z.1, rfl⟩⟩
    · rw [if_neg (show ¬ (List.replicate ws.length given).length ≤ st.po by rw [el]; exact h4), if_neg h4]
      refine ⟨rfl, ?_, rfl, rfl, .inl ⟨rfl, rfl⟩, .inr ⟨fun z => ns z.1, rfl⟩⟩
      show st.rg.set _ _ = st.rg.set _ _
      rw [rep_getD (show st.po < ws.length by omega), hr ⟨h3, by omega⟩]
  · rw [if_neg n7, if_neg n7, er, er]
    cases compN c.nm (st.r (c.a 1)) (st.r (c.a 2)) with
    | none => exact ⟨rfl, rfl, rfl, rfl, .inl ⟨rfl, rfl⟩, .inr ⟨fun z => ns z.1, rfl⟩⟩
    | some v => exact ⟨rfl, rfl, rfl, rfl, .inl ⟨rfl, rfl⟩, .inr ⟨fun z => ns z.1, rfl⟩⟩
/-- a path that leads to a tree's root -/
theorem leads_of {b : Book} {i : Nat} {ps : Parts} {path : List Nat} {r : List Nat} {t : List (List Nat)} (h : leadsB b i ps path (rootR (r :: t)) = true) (hp : path.length = 6) (tr : TreeB b (r :: t)) (ht : t.length = 6) (hi : i < r.length) (hr : rootR (r :: t) ≠ 0) : r[i]? = some (findB b ps) ∧ path = pathR (r :: t) i := by
  unfold leadsB at h
  rw [if_neg (fun z => by rw [z] at hp; cases hp), Bool.and_eq_true, decide_eq_true_iff, decide_eq_true_iff] at h
  exact path_of_root tr hi (by rw [hp, ht]) hr h.2
theorem leads_own {b : Book} {i : Nat} {ps : Parts} {r : List Nat} {t : List (List Nat)} (tr : TreeB b (r :: t)) (hi : r[i]? = some (findB b ps)) (hn : findB b ps ≠ 0) : leadsB b i ps (pathR (r :: t) i) (rootR (r :: t)) = true := by
  unfold leadsB
  by_cases e : pathR (r :: t) i = []
  · rw [if_pos e]
  · rw [if_neg e, root_of_path tr hi, Bool.and_eq_true, decide_eq_true_iff, decide_eq_true_iff]
    exact ⟨hn, rfl⟩
end K24
set_option Elab.async false
set_option autoImplicit false
set_option linter.all false
set_option maxRecDepth 100000
set_option maxHeartbeats 4000000
namespace K24
open PySem PySem.Spec PyProof.Rows L2
/-- a tree of height 6 has a root that is a seal -/
theorem root_ne6 {b : Book} {r : List Nat} {t : List (List Nat)} (tr : TreeB b (r :: t)) (ht : t.length = 6) : rootR (r :: t) ≠ 0 := by
  cases t with
  | nil => cases ht
  | cons s t => exact root_ne tr
/-- what stands around a check -/
structure Around1 (b : Book) (pr : List Ins) (ws : List Nat) (lv : Nat) (q : List Nat) (st : St) (fs : List Nat) : Prop where
  po : PrOk pr
  wo : WsOk ws
  so : StOk st
  pos : st.po ≤ ws.length
  wrl : st.wr.length ≤ 1999
  qb : QB b pr ws st0 lv q
  fs : FieldsB b st fs
/-- the paper says what is so -/
structure Right (pr : List Ins) (ws : List Nat) (st : St) (fs ls : List Nat) (t : List (List Nat)) (pp : Pap) : Prop where
  efs : pp.fs = fs
  code : pp.code = if st.ss = 0 then pr[st.pl]? else none
  mem : memP fs pp.code → pp.word = st.me.getD (idxP fs pp.code) 0 ∧ pp.wp = pathR (ls :: t) (idxP fs pp.code)
  mem0 : ¬ memP fs pp.code → pp.wp = []
  rd : readP fs ws.length pp.code → pp.given = ws.getD st.po 0
theorem path_ne {r : List Nat} {t : List (List Nat)} {i : Nat} (ht : t.length = 6) : pathR (r :: t) i ≠ [] := fun z => by
  have := congrArg List.length z
  rw [pathR_len, ht] at this
  cases this
theorem getD_of {xs : List Nat} {i x : Nat} (h : xs[i]? = some x) : xs.getD i 0 = x := by
  rw [List.getD_eq_getElem?_getD, h]
  rfl
theorem set_getD {xs : List Nat} {i v : Nat} (h : i < xs.length) : (xs.set i v).getD i 0 = v := by
  rw [List.getD_eq_getElem?_getD, List.getElem?_set_self h]
  rfl
/-- the right paper's answer is the next state's seal -/
theorem behind_right {b : Book} {pr : List Ins} {ws : List Nat} {lv : Nat} {q : List Nat} {st : St} {fs ls : List Nat} {t : List (List Nat)} {ch : Nat} {pp : Pap} {z : Nat} (A : Around1 b pr ws lv q st fs) (W : WTr b st.me ls t) (C : Wr b st.wr ch) (ef : fs = fieldsL st (rootR (ls :: t)) ch) (R : Right pr ws st fs ls t pp)
    (hz : SealB b (stepS pr ws st) z) : ∃ gs, behindB b q pp = some gs ∧ findB b (stateP gs) = z := by
  obtain ⟨f0, fr, f5, f6, f7, f8, f9⟩ := fields_at (root := rootR (ls :: t)) (chain := ch) A.so.rgl
  rw [← ef] at f0 fr f5 f6 f7 f8 f9
  obtain ⟨pls, pt, ils, it, s, h1, h2, h3, hq⟩ := A.qb.ex
  have q3 : q.getD 3 0 = ws.length := by rw [hq]; rfl
  obtain ⟨gs, hg, hgz, hz0⟩ := hz
  have hroot := root_ne6 W.tr W.len
  unfold behindB
  rw [R.efs, f8]
  by_cases hs : st.ss = 0
  case neg =>
    rw [if_pos hs]
    have e : stepS pr ws st = st := by unfold stepS; rw [if_pos hs]
    rw [e] at hg
    exact ⟨fs, rfl, by rw [A.fs.det hg]; exact hgz⟩
  rw [if_neg (fun n => n hs)]
  have hcode := R.code
  rw [if_pos hs] at hcode
  cases hc : pp.code with
  | none =>
    rw [hc] at hcode
    have e : stepS pr ws st = st.sta 2 := by
      unfold stepS
      rw [if_neg (fun n => n hs), ← hcode]
    rw [e] at hg
    refine ⟨_, rfl, ?_⟩
    have ge : fs.take 8 ++ [2] = gs := by
      have g2 : FieldsB b (st.sta 2) (fieldsL (st.sta 2) (rootR (ls :: t)) ch) := ⟨ls, t, ch, W, C, rfl⟩
      rw [← g2.det hg, ef]
      obtain ⟨pl, rg, me, po, wr, ss⟩ := st
      match rg, A.so.rgl with
      | [r0, r1, r2, r3], _ => rfl
    rw [ge]
    exact hgz
  | some ci =>
    rw [hc] at hcode
    have oc : OkIns ci := A.po.ok ci (List.mem_of_getElem? hcode.symm)
    have e : stepS pr ws st = stepC ci ws st := by
      unfold stepS
      rw [if_neg (fun n => n hs), ← hcode]
    rw [e] at hg
    have eS : smallS fs ci pp.word pp.given (q.getD 3 0) = stepC ci (List.replicate ws.length pp.given) ⟨st.pl, st.rg, List.replicate 64 pp.word, st.po, [], st.ss⟩ := by
      unfold smallS
      rw [f0, f9, f6, f8, q3]
    have hRm := R.mem
    have hRm0 := R.mem0
    have hRr := R.rd
    rw [hc] at hRm hRm0 hRr
    have hm2 : (ci.nm = "load" ∨ ci.nm = "store") → fs.getD (1 + ci.a 1) 0 = st.r (ci.a 1) := fun h => by
      obtain ⟨o1, o2, ear, ho1, ho2⟩ := oc.two (two_of h)
      rw [a_of (i := 1) (x := o2) (by rw [ear]; rfl)]
      exact fr o2 ho2
    have hmem : memP fs (some ci) ↔ ((ci.nm = "load" ∨ ci.nm = "store") ∧ st.r (ci.a 1) < 64) := by
      constructor
      · rintro ⟨m1, m2⟩
        rw [hm2 m1] at m2
        exact ⟨m1, m2⟩
      · rintro ⟨m1, m2⟩
        rw [← hm2 m1] at m2
        exact ⟨m1, m2⟩
    have hidx : (ci.nm = "load" ∨ ci.nm = "store") → idxP fs (some ci) = st.r (ci.a 1) := hm2
    have al := alike (ws := ws) (st := st) (word := pp.word) (given := pp.given) oc A.so A.pos (fun m => by
      have := (hRm (hmem.mpr m)).1
      rw [hidx m.1] at this
      exact this) (fun m => hRr ⟨m.1, by rw [f6]; exact m.2⟩)
    rw [← eS] at al
    have kept := stepS_ok A.po A.so A.wo A.pos A.wrl
    rw [e] at kept
    obtain ⟨ls', t', ch', W', C', eg⟩ := hg.ex
    have hroot' := root_ne6 W'.tr W'.len
    generalize hS : smallS fs ci pp.word pp.given (q.getD 3 0) = S at al
    -- the root
    have eroot : rootP b pp ci S = rootR (ls' :: t') := by
      unfold rootP
      rw [R.efs]
      rcases al.me with ⟨m1, m2, v, e1, e2⟩ | ⟨m1, e1⟩
      · have mm := hmem.mpr m2
        obtain ⟨hw1, hw2⟩ := hRm mm
        have ei := hidx m2.1
        rw [ei] at hw2
        have wne : pp.wp ≠ [] := by rw [hw2]; exact path_ne W.len
        rw [if_pos ⟨m1, wne⟩, ei, e2, set_getD (by rw [List.length_replicate]; exact m2.2)]
        have hml : st.r (ci.a 1) < st.me.length := by rw [A.so.mel]; exact m2.2
        have hv : (stepC ci ws st).me[st.r (ci.a 1)]? = some v := by rw [e1, List.getElem?_set_self hml]
        obtain ⟨l1, l2⟩ := W'.lv.at_ _ v hv
        rw [if_pos l2, hw2]
        have hps : pathR (ls' :: t') (st.r (ci.a 1)) = pathR (ls :: t) (st.r (ci.a 1)) := by
          refine path_same W.tr W'.tr (by rw [W'.lv.len, W.lv.len, e1, List.length_set]) (fun j hj => ?_) (by rw [W.lv.len]; exact hml)
          by_cases hjl : j < st.me.length
          · rw [(W.lv.at_ j _ (List.getElem?_eq_getElem hjl)).1]
            exact (W'.lv.at_ j _ (by rw [e1, List.getElem?_set_ne (Ne.symm hj)]; exact List.getElem?_eq_getElem hjl)).1
          · rw [List.getElem?_eq_none (show ls'.length ≤ j by rw [W'.lv.len, e1, List.length_set]; omega), List.getElem?_eq_none (show ls.length ≤ j by rw [W.lv.len]; omega)]
        rw [← hps]
        exact root_of_path W'.tr l1
      · have e2 : ¬ (ci.nm = "store" ∧ pp.wp ≠ []) := fun n => by
          by_cases mm : memP fs (some ci)
          · exact m1 ⟨n.1, hmem.mp mm⟩
          · exact n.2 (hRm0 mm)
        rw [if_neg e2, f5]
        rw [e1] at W'
        obtain ⟨d1, d2⟩ := W.det W'
        rw [d1, d2]
    have echain : chainP b pp S = ch' ∧ ¬ (ch' = 0 ∧ S.wr ≠ []) := by
      unfold chainP
      rw [R.efs, f7]
      rcases al.wr with ⟨w1, w2⟩ | ⟨v, w1, w2⟩
      · rw [w2, if_neg (fun n => n rfl)]
        rw [w1] at C'
        exact ⟨C.det C', fun n => n.2 rfl⟩
      · rw [w2, if_pos (by simp)]
        rw [w1] at C'
        rcases C'.inv with ⟨n1, _⟩ | ⟨us, d, v', n1, n2, n3, n4⟩
        · simp at n1
        · obtain ⟨a1, a2⟩ := List.append_inj' n1 rfl
          subst a1
          have a2 : v = v' := by simpa using a2
          subst a2
          have := C.det n2
          subst this
          exact ⟨n3, fun n => n4 n.1⟩
    refine ⟨gs, ?_, hgz⟩
    show (if rootP b pp ci (smallS fs ci pp.word pp.given (q.getD 3 0)) = 0 ∨ (chainP b pp (smallS fs ci pp.word pp.given (q.getD 3 0)) = 0 ∧ (smallS fs ci pp.word pp.given (q.getD 3 0)).wr ≠ []) then none else some (fieldsL (smallS fs ci pp.word pp.given (q.getD 3 0)) (rootP b pp ci (smallS fs ci pp.word pp.given (q.getD 3 0))) (chainP b pp (smallS fs ci pp.word pp.given (q.getD 3 0))))) = some gs
    rw [hS, eroot, echain.1, if_neg (fun n => n.elim hroot' echain.2), eg]
    unfold fieldsL
    rw [al.pl, al.rg, al.po, al.ss]
end K24
set_option Elab.async false
set_option autoImplicit false
set_option linter.all false
set_option maxRecDepth 100000
set_option maxHeartbeats 4000000
namespace K24
open PySem PySem.Spec PyProof.Rows L2
theorem six_t {b : Bool} {n : Nat} (h : n = six b) (hb : b = true) : n = 6 := by rw [h, hb]; rfl
theorem six_f {b : Bool} {n : Nat} (h : n = six b) (hb : b = false) : n = 0 := by rw [h, hb]; rfl
/-- whatever paper is accepted leads to the next state's seal -/
theorem check_sound {b : Book} {pr : List Ins} {ws : List Nat} {lv : Nat} {q : List Nat} {st : St} {before z : Nat} {pp : Pap} (po : PrOk pr) (wo : WsOk ws) (so : StOk st) (pos : st.po ≤ ws.length) (wrl : st.wr.length ≤ 1999) (qb : QB b pr ws st0 lv q)
    (hb : SealB b st before) (hz : SealB b (stepS pr ws st) z) : checkB b q before pp = 0 ∨ checkB b q before pp = z := by
  unfold checkB
  by_cases g1 : hasForm q pp = true
  case neg => rw [if_pos g1]; exact .inl rfl
  rw [if_neg (fun n => n g1)]
  by_cases g2 : findB b (stateP pp.fs) = before
  case neg => rw [if_pos g2]; exact .inl rfl
  rw [if_neg (fun n => n g2)]
  by_cases g3 : showsB b q pp = true
  case neg => rw [if_pos g3]; exact .inl rfl
  rw [if_neg (fun n => n g3)]
  right
  obtain ⟨fs, hfs, hfz, hf0⟩ := hb
  have efs : pp.fs = fs := stateP_inj (findB_inj (g2.trans hfz.symm) (by rw [g2]; exact hf0))
  obtain ⟨ls, t, ch, W, C, ef⟩ := id hfs.ex
  obtain ⟨f0, fr, f5, f6, f7, f8, f9⟩ := fields_at (root := rootR (ls :: t)) (chain := ch) so.rgl
  rw [← ef] at f0 fr f5 f6 f7 f8 f9
  obtain ⟨pls, pt, ils, it, s, h1, h2, h3, hq⟩ := qb.ex
  have q0 : q.getD 0 0 = rootR (pls :: pt) := by rw [hq]; rfl
  have q1 : q.getD 1 0 = pr.length := by rw [hq]; rfl
  have q2 : q.getD 2 0 = rootR (ils :: it) := by rw [hq]; rfl
  have q3 : q.getD 3 0 = ws.length := by rw [hq]; rfl
  obtain ⟨k1, k2, k3, k4, k5⟩ := hasForm_of g1
  rw [efs] at k1 k2 k3 k4 k5
  rw [q3] at k5
  unfold showsB at g3
  have g3a : leadsB b (pp.fs.getD 0 0) (codeP pp.code) pp.path (q.getD 0 0) = true := by
    by_cases e : leadsB b (pp.fs.getD 0 0) (codeP pp.code) pp.path (q.getD 0 0) = true
    · exact e
    · rw [if_pos e] at g3; cases g3
  rw [if_neg (fun n => n g3a)] at g3
  have g3b : leadsB b (wIdx pp) (wordP pp.word) pp.wp (pp.fs.getD 5 0) = true := by
    by_cases e : leadsB b (wIdx pp) (wordP pp.word) pp.wp (pp.fs.getD 5 0) = true
    · exact e
    · rw [if_pos e] at g3; cases g3
  rw [if_neg (fun n => n g3b)] at g3
  rw [efs] at g3 g3a g3b
  rw [f0, q0] at g3a
  rw [f5] at g3b
  rw [f6, q2] at g3
  have hpll : pls.length = 64 := h1.lv.len
  have hpr := po.hi
  have hws := wo.hi
  have R : Right pr ws st fs ls t pp := by
    refine ⟨efs, ?_, fun m => ?_, fun m => ?_, fun m => ?_⟩
    · by_cases hs : st.ss = 0
      · rw [if_pos hs]
        by_cases hl : st.pl < pr.length
        · have hr : runsB q fs = true := by
            unfold runsB
            rw [f8, f0, q1, decide_eq_true hs, decide_eq_true hl]
            rfl
          obtain ⟨a1, a2⟩ := leads_of g3a (six_t k3 hr) h1.tr h1.len (by omega) (root_ne6 h1.tr h1.len)
          obtain ⟨b1, b2⟩ := h1.lv.at_ st.pl (by omega)
          rw [a1] at b1
          have b1 := Option.some.inj b1
          exact codeP_inj (findB_inj b1 (by rw [b1]; exact b2))
        · have hr : runsB q fs = false := by
            unfold runsB
            rw [f8, f0, q1, decide_eq_false hl, Bool.and_false]
          rw [hr] at k2
          rw [List.getElem?_eq_none (by omega)]
          cases hc : pp.code with
          | none => rfl
          | some c => rw [hc] at k2; cases k2
      · rw [if_neg hs]
        have hr : runsB q fs = false := by
          unfold runsB
          rw [f8, decide_eq_false hs, Bool.false_and]
        rw [hr] at k2
        cases hc : pp.code with
        | none => rfl
        | some c => rw [hc] at k2; cases k2
    · have hl : pp.wp.length = 6 := six_t k4 (decide_eq_true m)
      have wne : pp.wp ≠ [] := fun z => by rw [z] at hl; cases hl
      have ei : wIdx pp = idxP fs pp.code := by unfold wIdx; rw [if_pos wne, efs]
      rw [ei] at g3b
      have hid : idxP fs pp.code < 64 := by
        cases hc : pp.code with
        | none => rw [hc] at m; exact m.elim
        | some c => rw [hc] at m; exact m.2
      have hml : idxP fs pp.code < st.me.length := by rw [so.mel]; exact hid
      obtain ⟨a1, a2⟩ := leads_of g3b hl W.tr W.len (by rw [W.lv.len]; exact hml) (root_ne6 W.tr W.len)
      obtain ⟨b1, b2⟩ := W.lv.at_ _ _ (getD_at hml)
      rw [a1] at b1
      have b1 := Option.some.inj b1
      exact ⟨wordP_inj (findB_inj b1 (by rw [b1]; exact b2)), a2⟩
    · exact List.eq_nil_of_length_eq_zero (six_f k4 (decide_eq_false m))
    · have hl : pp.gp.length = 6 := six_t k5 (decide_eq_true m)
      have hp : st.po < ws.length := by
        cases hc : pp.code with
        | none => rw [hc] at m; exact m.elim
        | some c => rw [hc] at m; have := m.2; rw [f6] at this; exact this
      have hil : ils.length = 64 := by rw [h2.lv.len, pad_len hws]
      obtain ⟨a1, a2⟩ := leads_of g3 hl h2.tr h2.len (by omega) (root_ne6 h2.tr h2.len)
      obtain ⟨b1, b2⟩ := h2.lv.at_ _ _ (pad_at (getD_at hp))
      rw [a1] at b1
      have b1 := Option.some.inj b1
      exact wordP_inj (findB_inj b1 (by rw [b1]; exact b2))
  obtain ⟨gs, hg1, hg2⟩ := behind_right (lv := lv) (q := q) ⟨po, wo, so, pos, wrl, qb, hfs⟩ W C ef R hz
  rw [hg1]
  exact hg2
/-- the state's own paper is accepted -/
theorem check_own {b : Book} {pr : List Ins} {ws : List Nat} {lv : Nat} {q : List Nat} {st : St} {before z : Nat} {pp : Pap} (po : PrOk pr) (wo : WsOk ws) (so : StOk st) (pos : st.po ≤ ws.length) (wrl : st.wr.length ≤ 1999) (qb : QB b pr ws st0 lv q)
    (hb : SealB b st before) (hz : SealB b (stepS pr ws st) z) (PB : PapB b pr ws st pp) : checkB b q before pp = z := by
  obtain ⟨fs, hfs, hfz, hf0⟩ := hb
  have efs : pp.fs = fs := PB.fs.det hfs
  obtain ⟨ls, t, ch, W, C, ef⟩ := id hfs.ex
  obtain ⟨f0, fr, f5, f6, f7, f8, f9⟩ := fields_at (root := rootR (ls :: t)) (chain := ch) so.rgl
  rw [← ef] at f0 fr f5 f6 f7 f8 f9
  obtain ⟨pls, pt, ils, it, s, h1, h2, h3, hq⟩ := qb.ex
  have q0 : q.getD 0 0 = rootR (pls :: pt) := by rw [hq]; rfl
  have q1 : q.getD 1 0 = pr.length := by rw [hq]; rfl
  have q2 : q.getD 2 0 = rootR (ils :: it) := by rw [hq]; rfl
  have q3 : q.getD 3 0 = ws.length := by rw [hq]; rfl
  have hpr := po.hi
  have hws := wo.hi
  have hcode := PB.code
  have hpath := PB.path
  have hpath0 := PB.path0
  have hmem := PB.mem
  have hmem0 := PB.mem0
  have hrd := PB.rd
  have hrd0 := PB.rd0
  rw [efs] at hmem hmem0 hrd hrd0
  have hr : runsB q fs = pp.code.isSome := by
    unfold runsB
    rw [f8, f0, q1, hcode]
    by_cases hs : st.ss = 0
    · rw [if_pos hs, decide_eq_true hs, Bool.true_and]
      by_cases hl : st.pl < pr.length
      · rw [decide_eq_true hl, List.getElem?_eq_getElem hl]; rfl
      · rw [decide_eq_false hl, List.getElem?_eq_none (by omega)]; rfl
    · rw [if_neg hs, decide_eq_false hs]; rfl
  have hform : hasForm q pp = true := by
    unfold hasForm
    rw [efs, f6, q3, if_neg (fun n => n pos), if_neg (fun n => n hr)]
    have e3 : pp.path.length = six (runsB q fs) := by
      rw [hr]
      cases hc : pp.code with
      | none => rw [hpath0 hc]; rfl
      | some c =>
        obtain ⟨ls', t', c1, c2⟩ := hpath (by rw [hc]; exact fun n => nomatch n)
        rw [c2, pathR_len, c1.len]
        rfl
    rw [if_neg (fun n => n e3)]
    have e4 : pp.wp.length = six (memB fs pp.code) := by
      unfold memB
      by_cases m : memP fs pp.code
      · obtain ⟨_, ls', t', c1, c2⟩ := hmem m
        rw [decide_eq_true m, c2, pathR_len, c1.len]
        rfl
      · rw [decide_eq_false m, (hmem0 m).2]; rfl
    rw [if_neg (fun n => n e4)]
    have e5 : pp.gp.length = six (readB fs ws.length pp.code) := by
      unfold readB
      by_cases m : readP fs ws.length pp.code
      · obtain ⟨_, ls', t', c1, c2⟩ := hrd m
        rw [decide_eq_true m, c2, pathR_len, c1.len]
        rfl
      · rw [decide_eq_false m, (hrd0 m).2]; rfl
    rw [if_neg (fun n => n e5)]
    rw [Bool.and_eq_true, Bool.or_eq_true, Bool.or_eq_true]
    unfold memB readB
    constructor
    · by_cases m : memP fs pp.code
      · exact .inl (decide_eq_true m)
      · exact .inr (decide_eq_true (hmem0 m).1)
    · by_cases m : readP fs ws.length pp.code
      · exact .inl (decide_eq_true m)
      · exact .inr (decide_eq_true (hrd0 m).1)
  have hidx : memP fs pp.code → idxP fs pp.code < st.me.length := fun m => by
    rw [so.mel]
    cases hc : pp.code with
    | none => rw [hc] at m; exact m.elim
    | some c => rw [hc] at m; exact m.2
  have hpol : readP fs ws.length pp.code → st.po < ws.length := fun m => by
    cases hc : pp.code with
    | none => rw [hc] at m; exact m.elim
    | some c => rw [hc] at m; have := m.2; rw [f6] at this; exact this
  have hshow : showsB b q pp = true := by
    unfold showsB
    rw [efs, f0, f5, f6, q0, q2]
    have l1 : leadsB b st.pl (codeP pp.code) pp.path (rootR (pls :: pt)) = true := by
      cases hc : pp.code with
      | none => rw [hpath0 hc]; unfold leadsB; rw [if_pos rfl]
      | some c =>
        obtain ⟨ls', t', c1, c2⟩ := hpath (by rw [hc]; exact fun n => nomatch n)
        obtain ⟨d1, d2⟩ := h1.det c1
        rw [c2, ← d1, ← d2]
        have hcc : pp.code = pr[st.pl]? := by
          rw [hcode]
          by_cases hs : st.ss = 0
          · rw [if_pos hs]
          · rw [hcode, if_neg hs] at hc; cases hc
        have hl : st.pl < 64 := by
          rw [hc] at hcc
          have := (List.getElem?_eq_some_iff.mp hcc.symm).1
          omega
        obtain ⟨b1, b2⟩ := h1.lv.at_ st.pl hl
        have eq : codesF pr st.pl = codeP (some c) := by unfold codesF; rw [← hcc, hc]
        rw [eq] at b1 b2
        exact leads_own h1.tr b1 b2
    rw [if_neg (fun n => n l1)]
    have l2 : leadsB b (wIdx pp) (wordP pp.word) pp.wp (rootR (ls :: t)) = true := by
      by_cases m : memP fs pp.code
      · obtain ⟨c0, ls', t', c1, c2⟩ := hmem m
        obtain ⟨d1, d2⟩ := W.det c1
        rw [← d1, ← d2] at c2
        have wne : pp.wp ≠ [] := by rw [c2]; exact path_ne W.len
        have ei : wIdx pp = idxP fs pp.code := by unfold wIdx; rw [if_pos wne, efs]
        obtain ⟨b1, b2⟩ := W.lv.at_ _ _ (getD_at (hidx m))
        rw [ei, c2, c0]
        exact leads_own W.tr b1 b2
      · rw [(hmem0 m).2]; unfold leadsB; rw [if_pos rfl]
    rw [if_neg (fun n => n l2)]
    by_cases m : readP fs ws.length pp.code
    · obtain ⟨c0, ls', t', c1, c2⟩ := hrd m
      obtain ⟨d1, d2⟩ := h2.det c1
      rw [← d1, ← d2] at c2
      obtain ⟨b1, b2⟩ := h2.lv.at_ _ _ (pad_at (getD_at (hpol m)))
      rw [c2, c0]
      exact leads_own h2.tr b1 b2
    · rw [(hrd0 m).2]; unfold leadsB; rw [if_pos rfl]
  have R : Right pr ws st fs ls t pp := by
    refine ⟨efs, hcode, fun m => ?_, fun m => (hmem0 m).2, fun m => (hrd m).1⟩
    obtain ⟨c0, ls', t', c1, c2⟩ := hmem m
    obtain ⟨d1, d2⟩ := W.det c1
    rw [← d1, ← d2] at c2
    exact ⟨c0, c2⟩
  obtain ⟨gs, hg1, hg2⟩ := behind_right (lv := lv) (q := q) ⟨po, wo, so, pos, wrl, qb, hfs⟩ W C ef R hz
  unfold checkB
  rw [if_neg (fun n => n hform), if_neg (fun n => n (by rw [efs]; exact hfz)), if_neg (fun n => n hshow), hg1]
  exact hg2
end K24
set_option Elab.async false
set_option autoImplicit false
set_option linter.all false
set_option maxRecDepth 100000
set_option maxHeartbeats 4000000
namespace K24
open PySem PySem.Spec PyProof.Rows L2
/-! ### the law's draws -/
structure Bx where
  b : Addr
  c : Addr
structure BoxAt (H : Hp) (bx : Bx) : Prop where
  ex : ∃ (ns : List Int) (acc seed : Int), H bx.b = some (.lst [.ref bx.c, .int acc, .int seed, .int 0]) ∧ H bx.c = some (.lst (ns.map V.int)) ∧ bx.b ≠ bx.c
/-- all but the box stays -/
def KeepB (bx : Bx) (H H' : Hp) : Prop := ∀ a o, H a = some o → a ≠ bx.b → a ≠ bx.c → H' a = some o
theorem KeepB.refl (bx : Bx) (H : Hp) : KeepB bx H H := fun _ _ e _ _ => e
theorem KeepB.trans {bx : Bx} {H H1 H2 : Hp} (a : KeepB bx H H1) (b : KeepB bx H1 H2) : KeepB bx H H2 := fun x o e h1 h2 => b x o (a x o e h1 h2) h1 h2
theorem KeepB.of_same {bx : Bx} {H H' : Hp} (s : Same H H') : KeepB bx H H' := fun x o e _ _ => s x o e
theorem BoxAt.same {bx : Bx} {H H' : Hp} (s : Same H H') (h : BoxAt H bx) : BoxAt H' bx := by
  obtain ⟨ns, acc, seed, h1, h2, h3⟩ := h.ex
  exact ⟨ns, acc, seed, s _ _ h1, s _ _ h2, h3⟩
theorem KeepB.tk {bx : Bx} {H H' : Hp} (k : KeepB bx H H') (h : BoxAt H bx) : TK H H' := fun x o e ht => by
  obtain ⟨ns, acc, seed, h1, h2, h3⟩ := h.ex
  refine k x o e (fun z => ?_) fun z => ?_
  · rw [z, h1] at e
    have e := Option.some.inj e
    rcases ht with ⟨ys, h⟩ | ⟨P, h⟩ <;> rw [h] at e <;> exact nomatch e
  · rw [z, h2] at e
    have e := Option.some.inj e
    rcases ht with ⟨ys, h⟩ | ⟨P, h⟩ <;> rw [h] at e <;> exact nomatch e
theorem BoxAt.free {bx : Bx} {H : Hp} (h : BoxAt H bx) {a : Addr} (e : H a = none) : a ≠ bx.b ∧ a ≠ bx.c := by
  obtain ⟨ns, acc, seed, h1, h2, h3⟩ := h.ex
  exact ⟨Ne.symm (ne_of_none h1 e), Ne.symm (ne_of_none h2 e)⟩
theorem six0 {n : Nat} (h : 0 < n) : seqIndex? 0 n = some 0 := by
  unfold seqIndex?
  simp
  omega
section
variable {P : Program} {w : World} {K : PySem.W.Frag} {mg : Str → Option Value} {base : Heap}
def spLSame : Sp := fun vs H Q _ => ∃ a b : Nat, vs = [.int (a : Int), .int (b : Int)] ∧ Q (.bl (decide (a = b))) H
theorem sc_law_same : FnScope ["_law_a", "_law_b", "_law_k"] ["_law_a", "_law_b"] (defScope s_law_same) := ⟨rfl, rfl, rfl, by decide +kernel, rfl, by decide +kernel, by decide +kernel⟩
theorem ok_law_same (F : FnF K mg "_law_same" "_law_same" s_law_same) (C : Cst K mg) : Def P w K mg base 1 "_law_same" ["_law_a", "_law_b"] spLSame := by
  refine Def.of F sc_law_same (fun _ _ _ _ _ _ us hl => match us, hl with | [_, _], _ => rfl) (fun vs H Q E h => ?_) (fun f cdv A outer s H vs Q E hr h => ?_)
  · obtain ⟨a, b, rfl, _⟩ := h; rfl
  · refine ⟨_, pss_cons (ps_if (PW.pt (pw_and (pt_val (pe_isi C.isi C.tuple boot_tuple rfl rfl (pv 0))) (pw_and1 (pt_val (pe_isi C.isi C.tuple boot_tuple rfl rfl (pv 1)))))) pss_never pss_nil)
      (pss_cons (ps_if (PW.pt (pw_or (pt_val (pe_isi C.isi C.bool boot_bool rfl rfl (pv 0))) (pw_or1 (pt_val (pe_isi C.isi C.bool boot_bool rfl rfl (pv 1)))))) pss_never pss_nil)
      (pss_cons (ps_if (PW.pt (pw_and (pt_val (pe_isi C.isi C.int boot_int rfl rfl (pv 0))) (pw_and1 (pt_val (pe_isi C.isi C.int boot_int rfl rfl (pv 1)))))) (pss_one (ps_ret (pe_cmpR op_eq (pv 0) (pv 1) (nomark _)))) pss_nil)
      pss_never)), ?_⟩
    obtain ⟨a, b, rfl, q⟩ := h
    refine ⟨_, rfl, _, _, .type "int", .type "tuple", false, rfl, .ty _, .base (.int _), kit_ty (by decide +kernel), _, rfl, iteF ?_⟩
    refine ⟨_, rfl, _, _, .type "int", .type "bool", false, rfl, .ty _, .base (.int _), kit_ty (by decide +kernel), _, rfl, iteF ?_⟩
    refine ⟨_, rfl, _, _, .type "int", .type "bool", false, rfl, .ty _, .base (.int _), kit_ty (by decide +kernel), _, rfl, iteF ?_⟩
    refine ⟨_, rfl, _, _, .type "int", .type "int", true, rfl, .ty _, .base (.int _), kit_ty (by decide +kernel), _, rfl, iteT ?_⟩
    refine ⟨_, rfl, _, _, .type "int", .type "int", true, rfl, .ty _, .base (.int _), kit_ty (by decide +kernel), _, rfl, iteT ?_⟩
    refine ⟨_, rfl, _, rfl, rfl, ?_⟩
    rw [nEq]
    exact q
def spLBox : Sp := fun vs H Q _ => ∃ (a : Addr) (ns : List Int), vs = [.ref a, .int 0] ∧ SqL K H a (ns.map V.int) ∧ ns.length ≤ sizeLine ∧ ∀ (bx : Bx) (H' : Hp), Same H H' → H bx.b = none → H bx.c = none → BoxAt H' bx → Q (.ref bx.b) H'
theorem sc_law_box : FnScope ["_law_script", "_law_nodes"] ["_law_script", "_law_nodes"] (defScope s_law_box) := ⟨rfl, rfl, rfl, by decide +kernel, rfl, by decide +kernel, by decide +kernel⟩
theorem ok_law_box (F : FnF K mg "_law_box" "_law_box" s_law_box) (C : Cst K mg) : Def P w K mg base 1 "_law_box" ["_law_script", "_law_nodes"] (spLBox (K := K)) := by
  refine Def.of F sc_law_box (fun _ _ _ _ _ _ us hl => match us, hl with | [_, _], _ => rfl) (fun vs H Q E h => ?_) (fun f cdv A outer s H vs Q E hr h => ?_)
  · obtain ⟨a, ns, rfl, _⟩ := h; rfl
  · refine ⟨_, pss_one (ps_ret (pe_lst (pa_cons (pe_callTy call_list_of rfl C.list boot_list (pa_cons (pv 0) pa_nil)) (pa_cons pe_int (pa_cons (pe_op op_add pe_int (pe_callB call_len_seq rfl C.len PySem.boot_len (pa_cons (pv 0) pa_nil))) (pa_cons (pv 1) pa_nil)))))), ?_⟩
    obtain ⟨a, ns, rfl, ha, hl, k⟩ := h
    refine ⟨_, rfl, a, _, rfl, .inl ha, fun c hc => ?_⟩
    have s0 : Same H (upd H c (.lst (ns.map V.int))) := same_new hc
    have ha2 : SqL K (upd H c (.lst (ns.map V.int))) a (ns.map V.int) := by
      rcases ha with z | z
      · rcases z with z | ⟨o, z⟩
        · exact .inl (.inl (s0 _ _ z))
        · exact .inl (.inr ⟨o, s0 _ _ z⟩)
      · exact .inr z
    refine ⟨_, rfl, a, _, rfl, .inl ha2, _, _, rfl, rfl, _, rfl, by show 4 ≤ sizeLine; decide, fun b hb => ?_⟩
    have nbc : b ≠ c := Ne.symm (ne_of_none upd_same hb)
    have s1 := same_new (o := .lst [V.ref c, V.int 0, V.int (4711 + ((ns.map V.int).length : Int)), V.int 0]) hb
    exact k ⟨b, c⟩ _ (Same.trans s0 s1) (same_free s0 hb) hc ⟨ns, 0, _, upd_same, s1 _ _ upd_same, nbc⟩
def spLLoad : Sp := fun vs H Q _ => ∃ bx : Bx, vs = [.ref bx.b] ∧ BoxAt H bx ∧ ∀ (H' : Hp) (z : Int), BoxAt H' bx → KeepB bx H H' → Q (.int z) H'
theorem sc_law_load : FnScope ["_law_box_here", "_law_cells", "_law_cell", "_law_size", "_law_first", "_law_second"] ["_law_box_here"] (defScope s_law_load) := ⟨rfl, rfl, rfl, by decide +kernel, rfl, by decide +kernel, by decide +kernel⟩
theorem BoxAt.set2 {bx : Bx} {H : Hp} {ns : List Int} {acc seed z : Int} (h1 : H bx.b = some (.lst [.ref bx.c, .int acc, .int seed, .int 0])) (h2 : H bx.c = some (.lst (ns.map V.int))) (h3 : bx.b ≠ bx.c) :
    (upd H bx.b (.lst ([V.ref bx.c, .int acc, .int seed, .int 0].set 2 (.int z)))) bx.b = some (.lst [.ref bx.c, .int acc, .int z, .int 0]) ∧ (upd H bx.b (.lst ([V.ref bx.c, .int acc, .int seed, .int 0].set 2 (.int z)))) bx.c = some (.lst (ns.map V.int)) ∧ KeepB bx H (upd H bx.b (.lst ([V.ref bx.c, .int acc, .int seed, .int 0].set 2 (.int z)))) := by
  refine ⟨upd_same, by rw [upd_ne (Ne.symm h3)]; exact h2, fun a o e n1 _ => ?_⟩
  rw [upd_ne n1]
  exact e
theorem ok_law_load (F : FnF K mg "_law_load" "_law_load" s_law_load) (C : Cst K mg) : Def P w K mg base 1 "_law_load" ["_law_box_here"] spLLoad := by
  refine Def.of F sc_law_load (fun _ _ _ _ _ _ us hl => match us, hl with | [_], _ => rfl) (fun vs H Q E h => ?_) (fun f cdv A outer s H vs Q E hr h => ?_)
  · obtain ⟨bx, rfl, _⟩ := h; rfl
  · refine ⟨_, pss_cons (ps_set (i := 1) sc_law_load.nd rfl (Or.inl rfl) (pe_ix ix_list (pv 0) pe_int (fun _ _ => rfl)))
      (C8.pss_cut (ps_if (pt_cmpR op_gt (pe_callB call_len_seq rfl C.len PySem.boot_len (pa_cons (pv 1) pa_nil)) pe_int (nomark _))
        (pss_cons (ps_set (i := 2) sc_law_load.nd rfl (Or.inl rfl) (pe_callTy call_int1 rfl C.int boot_int (pa_cons (pe_bm PySem.F.plainAttrs_list PySem.F.slot_list_pop PySem.F.type_list_pop mt_popAt (pv 1) (pa_cons pe_int pa_nil)) pa_nil)))
        (pss_cons (ps_set (i := 3) sc_law_load.nd rfl (Or.inl rfl) (pe_ifExp (pt_cmpR op_ge (pv 2) pe_int (nomark _)) (pe_op op_mul pe_int (pv 2)) (pe_op op_sub (pe_op op_mul (pe_un un_neg pe_int) (pv 2)) pe_int)))
        (pss_cons (ps_if (pt_cmpR op_ge (pv 3) pe_int (nomark _)) (pss_one (ps_ret (pv 3))) pss_nil)
        (pss_one (ps_asg (pe_op op_mod (pe_callTy call_int1 rfl C.int boot_int (pa_cons (pe_op op_add (pe_op op_add (pe_op op_mul (pe_ix ix_list (pv 0) pe_int (fun _ _ => rfl)) pe_int) (pe_op op_mul (pv 3) pe_int)) pe_int) pa_nil)) pe_int) (pg_sub (pv 0) pe_int set_list)))))) pss_nil)
      (pss_cons (ps_set (i := 4) sc_law_load.nd rfl (Or.inl rfl) (pe_op op_mod (pe_callTy call_int1 rfl C.int boot_int (pa_cons (pe_op op_add (pe_op op_mul (pe_ix ix_list (pv 0) pe_int (fun _ _ => rfl)) pe_int) pe_int) pa_nil)) pe_int))
      (pss_cons (ps_set (i := 5) sc_law_load.nd rfl (Or.inl rfl) (pe_op op_mod (pe_callTy call_int1 rfl C.int boot_int (pa_cons (pe_op op_add (pe_op op_mul (pv 4) pe_int) pe_int) pa_nil)) pe_int))
      (pss_cons (ps_asg (pe_op op_mod (pe_callTy call_int1 rfl C.int boot_int (pa_cons (pe_op op_add (pe_op op_mul (pv 5) pe_int) pe_int) pa_nil)) pe_int) (pg_sub (pv 0) pe_int set_list))
      (pss_one (ps_ret (pe_op op_add (pe_op op_add (pe_op op_mul (pv 4) pe_int) (pe_op op_mul (pv 5) pe_int)) (pe_ix ix_list (pv 0) pe_int (fun _ _ => rfl))))))))), ?_⟩
    obtain ⟨bx, rfl, hb, k⟩ := h
    obtain ⟨ns, acc, seed, h1, h2, h3⟩ := hb.ex
    refine ⟨_, rfl, bx.b, _, 0, .ref bx.c, rfl, rfl, SqL.of h1, atI_nat (j := 0) rfl, ?_⟩
    refine ⟨fun σ H' => ∃ (ns' : List Int) (seed' : Int) (v2 v3 : Option V), σ = [some (.ref bx.b), some (.ref bx.c), v2, v3, none, none] ∧ H' bx.b = some (.lst [.ref bx.c, .int acc, .int seed', .int 0]) ∧ H' bx.c = some (.lst (ns'.map V.int)) ∧ KeepB bx H H', ?_, ?_⟩
    · refine ⟨_, rfl, bx.c, _, rfl, .inl (SqL.of h2), _, _, rfl, rfl, _, rfl, ?_⟩
      rw [List.length_map]
      cases ns with
      | nil =>
        rw [decide_eq_false (by decide)]
        exact iteF ⟨[], seed, none, none, rfl, h1, h2, .refl _ _⟩
      | cons n ns =>
        rw [decide_eq_true (show (0 : Int) < ((n :: ns).length : Int) by rw [List.length_cons]; omega)]
        refine iteT ⟨_, rfl, .inl ⟨rfl, _, SqL.of h2⟩, bx.c, _, 0, 0, .int n, rfl, rfl, h2, by decide, by decide, six0 (by simp), rfl, .inl ⟨n, rfl, ?_⟩⟩
        have h1' : (upd H bx.c (.lst (((n :: ns).map V.int).eraseIdx 0))) bx.b = some (.lst [.ref bx.c, .int acc, .int seed, .int 0]) := by rw [upd_ne h3]; exact h1
        have h2' : (upd H bx.c (.lst (((n :: ns).map V.int).eraseIdx 0))) bx.c = some (.lst (ns.map V.int)) := upd_same
        have k1 : KeepB bx H (upd H bx.c (.lst (((n :: ns).map V.int).eraseIdx 0))) := fun a o e _ n2 => by rw [upd_ne n2]; exact e
        generalize upd H bx.c (.lst (((n :: ns).map V.int).eraseIdx 0)) = H1 at h1' h2' k1
        have rest : ∀ sz : Int, (tSeq (tIfS (tTest (tOp (rI0 fun i j => .bl (decide (j ≤ i))) (tVar 3) (tC (.int 1000000000000000000)))) (tRet (tVar 3)) tNext)
            (tAsg (tOp (rI (fun _ j => 0 < j) fun i j => .int (i % j)) (tCB (fun xs H Q => (∃ i, xs = [.int i] ∧ Q (.int i) H) ∨ ∃ k, xs = [.bl k] ∧ Q (.int (if k then 1 else 0)) H) (tCons (tOp (rI0 fun i j => .int (i + j)) (tOp (rI0 fun i j => .int (i + j)) (tOp (rI CMul fun i j => .int (i * j)) (tOp (rIxL K) (tVar 0) (tC (.int 2))) (tC (.int 69621))) (tOp (rI CMul fun i j => .int (i * j)) (tVar 3) (tC (.int 48271)))) (tC (.int 11))) tNil)) (tC (.int 2147483647))) (gSub (tVar 0) (tC (.int 2)) rSetL)))
            { nx := fun σ H' => ∃ (ns' : List Int) (seed' : Int) (v2 v3 : Option V), σ = [some (.ref bx.b), some (.ref bx.c), v2, v3, none, none] ∧ H' bx.b = some (.lst [.ref bx.c, .int acc, .int seed', .int 0]) ∧ H' bx.c = some (.lst (ns'.map V.int)) ∧ KeepB bx H H', rt := Q }
            [some (.ref bx.b), some (.ref bx.c), some (.int n), some (.int sz), none, none] H1 := fun sz => by
          refine ⟨_, rfl, _, _, rfl, rfl, _, rfl, ?_⟩
          by_cases hb : (1000000000000000000 : Int) ≤ sz
          · rw [decide_eq_true hb]
            exact iteT ⟨_, rfl, k H1 sz ⟨ns, acc, seed, h1', h2', h3⟩ k1⟩
          · rw [decide_eq_false hb]
            refine iteF ⟨_, rfl, bx.b, _, 2, .int seed, rfl, rfl, SqL.of h1', atI_nat (j := 2) rfl, _, _, rfl, rfl, .inr ⟨by decide, by decide⟩, _, rfl, _, _, rfl, rfl, .inr ⟨by decide, by decide⟩, _, _, rfl, rfl, _, _, rfl, rfl, .inl ⟨_, rfl, _, _, rfl, rfl, (show (0 : Int) < 2147483647 by decide), ?_⟩⟩
            refine ⟨_, rfl, bx.b, _, 2, 2, rfl, rfl, h1', rfl, ?_⟩
            obtain ⟨z1, z2, z3⟩ := BoxAt.set2 (z := (seed * 69621 + sz * 48271 + 11) % 2147483647) h1' h2' h3
            exact ⟨ns, _, _, _, rfl, z1, z2, k1.trans z3⟩
        refine ⟨_, rfl, _, _, rfl, rfl, _, rfl, ?_⟩
        by_cases hc : (0 : Int) ≤ n
        · rw [decide_eq_true hc]
          exact iteT ⟨_, rfl, _, _, rfl, rfl, .inl ⟨by decide, by decide⟩, rest _⟩
        · rw [decide_eq_false hc]
          exact iteF ⟨2, rfl, _, rfl, _, _, rfl, rfl, .inl ⟨by decide, by decide⟩, _, _, rfl, rfl, rest _⟩
    rintro σ H2 ⟨ns', seed', v2, v3, rfl, g1, g2, k2⟩
    refine ⟨_, rfl, bx.b, _, 2, .int seed', rfl, rfl, SqL.of g1, atI_nat (j := 2) rfl, _, _, rfl, rfl, .inr ⟨by decide, by decide⟩, _, _, rfl, rfl, .inl ⟨_, rfl, _, _, rfl, rfl, (show (0 : Int) < 2147483629 by decide), ?_⟩⟩
    refine ⟨_, rfl, _, _, rfl, rfl, .inr ⟨by decide, by decide⟩, _, _, rfl, rfl, .inl ⟨_, rfl, _, _, rfl, rfl, (show (0 : Int) < 2147483587 by decide), ?_⟩⟩
    refine ⟨_, rfl, _, _, rfl, rfl, .inr ⟨by decide, by decide⟩, _, _, rfl, rfl, .inl ⟨_, rfl, _, _, rfl, rfl, (show (0 : Int) < 2147483563 by decide), ?_⟩⟩
    refine ⟨_, rfl, bx.b, _, 2, 2, rfl, rfl, g1, rfl, ?_⟩
    obtain ⟨z1, z2, z3⟩ := BoxAt.set2 (z := ((((seed' * 48271 + 17) % 2147483629) * 69621 + 5) % 2147483587 * 40692 + 3) % 2147483563) g1 g2 h3
    refine ⟨_, rfl, _, _, rfl, rfl, .inr ⟨by decide, by decide⟩, _, rfl, _, _, rfl, rfl, .inr ⟨by decide, by decide⟩, _, _, rfl, rfl, _, rfl, bx.b, _, 2, _, rfl, rfl, SqL.of z1, atI_nat (j := 2) rfl, _, _, rfl, rfl, ?_⟩
    exact k _ _ ⟨ns', acc, _, z1, z2, h3⟩ (k2.trans z3)
end
end K24
set_option Elab.async false
set_option autoImplicit false
set_option linter.all false
set_option maxRecDepth 100000
set_option maxHeartbeats 4000000
namespace K24
open PySem PySem.Spec PyProof.Rows L2
theorem okI_three {n : Str} {r s t : Nat} (h : n ∈ threeL) (hr : r ≤ 3) (hs : s ≤ 3) (ht : t ≤ 3) : OkIns ⟨n, [r, s, t]⟩ := by
  refine ⟨?_, by show 3 = _; rw [kinds3 h]; rfl, fun i k v h1 h2 => ?_⟩
  · have z : ∀ n ∈ threeL, n ∈ namesL := by decide +kernel
    exact z n h
  · have h1 : (kindsOf n)[i]? = some k := h1
    rw [kinds3 h] at h1
    have h2 : [r, s, t][i]? = some v := h2
    match i with
    | 0 => cases h1; cases h2; exact okReg.mpr hr
    | 1 => cases h1; cases h2; exact okReg.mpr hs
    | 2 => cases h1; cases h2; exact okReg.mpr ht
    | i + 3 => cases h2
theorem okI_two {n : Str} {r s : Nat} (h : n ∈ twoL) (hr : r ≤ 3) (hs : s ≤ 3) : OkIns ⟨n, [r, s]⟩ := by
  refine ⟨?_, by show 2 = _; rw [kinds2 h]; rfl, fun i k v h1 h2 => ?_⟩
  · have z : ∀ n ∈ twoL, n ∈ namesL := by decide +kernel
    exact z n h
  · have h1 : (kindsOf n)[i]? = some k := h1
    rw [kinds2 h] at h1
    have h2 : [r, s][i]? = some v := h2
    match i with
    | 0 => cases h1; cases h2; exact okReg.mpr hr
    | 1 => cases h1; cases h2; exact okReg.mpr hs
    | i + 2 => cases h2
theorem okI_one {n : Str} {r : Nat} (h : n ∈ oneL) (hr : r ≤ 3) : OkIns ⟨n, [r]⟩ := by
  refine ⟨?_, by show 1 = _; rw [kinds1 h]; rfl, fun i k v h1 h2 => ?_⟩
  · have z : ∀ n ∈ oneL, n ∈ namesL := by decide +kernel
    exact z n h
  · have h1 : (kindsOf n)[i]? = some k := h1
    rw [kinds1 h] at h1
    have h2 : [r][i]? = some v := h2
    match i with
    | 0 => cases h1; cases h2; exact okReg.mpr hr
    | i + 1 => cases h2
theorem okI_set {r s : Nat} (hr : r ≤ 3) (hs : isW s) : OkIns ⟨"set", [r, s]⟩ := by
  have nm : ("set" : Str) ∈ namesL := by decide +kernel
  have e : kindsOf "set" = kSet := by decide +kernel
  refine ⟨nm, by show 2 = _; rw [e]; rfl, fun i k v h1 h2 => ?_⟩
  have h1 : (kindsOf "set")[i]? = some k := h1
  rw [e] at h1
  have h2 : [r, s][i]? = some v := h2
  match i with
  | 0 => cases h1; cases h2; exact okReg.mpr hr
  | 1 => cases h1; cases h2; exact okWord.mpr hs
  | i + 2 => cases h2
theorem okI_jump {r : Nat} (hr : r ≤ 64) : OkIns ⟨"jump", [r]⟩ := by
  have nm : ("jump" : Str) ∈ namesL := by decide +kernel
  have e : kindsOf "jump" = kJump := by decide +kernel
  refine ⟨nm, by show 1 = _; rw [e]; rfl, fun i k v h1 h2 => ?_⟩
  have h1 : (kindsOf "jump")[i]? = some k := h1
  rw [e] at h1
  have h2 : [r][i]? = some v := h2
  match i with
  | 0 => cases h1; cases h2; exact okPlace.mpr hr
  | i + 1 => cases h2
theorem okI_zero {r s : Nat} (hr : r ≤ 3) (hs : s ≤ 64) : OkIns ⟨"zero", [r, s]⟩ := by
  have nm : ("zero" : Str) ∈ namesL := by decide +kernel
  have e : kindsOf "zero" = kZero := by decide +kernel
  refine ⟨nm, by show 2 = _; rw [e]; rfl, fun i k v h1 h2 => ?_⟩
  have h1 : (kindsOf "zero")[i]? = some k := h1
  rw [e] at h1
  have h2 : [r, s][i]? = some v := h2
  match i with
  | 0 => cases h1; cases h2; exact okReg.mpr hr
  | 1 => cases h1; cases h2; exact okPlace.mpr hs
  | i + 2 => cases h2
theorem okI_stop : OkIns ⟨"stop", []⟩ := by
  have e : kindsOf "stop" = [] := by decide +kernel
  refine ⟨by decide +kernel, by show 0 = _; rw [e]; rfl, fun i k v h1 h2 => ?_⟩
  have h2 : ([] : List Nat)[i]? = some v := h2
  simp at h2
section
variable {P : Program} {w : World} {K : PySem.W.Frag} {mg : Str → Option Value} {base : Heap}
def spDraw : Sp := fun vs H Q _ => ∃ (bx : Bx) (many : Nat), vs = [.ref bx.b, .int (many : Int)] ∧ BoxAt H bx ∧ 1 ≤ many ∧ many ≤ 8000000000 ∧ ∀ (H' : Hp) (d : Nat), d < many → BoxAt H' bx → KeepB bx H H' → Q (.int (d : Int)) H'
theorem sc_law_draw : FnScope ["_law_box_here", "_law_many", "_law_digit"] ["_law_box_here", "_law_many"] (defScope s_law_draw) := ⟨rfl, rfl, rfl, by decide +kernel, rfl, by decide +kernel, by decide +kernel⟩
theorem ok_law_draw (F : FnF K mg "_law_draw" "_law_draw" s_law_draw) (C : Cst K mg) (D : Def P w K mg base 1 "_law_load" ["_law_box_here"] spLLoad) : Def P w K mg base 2 "_law_draw" ["_law_box_here", "_law_many"] spDraw := by
  refine Def.of F sc_law_draw (fun _ _ _ _ _ _ us hl => match us, hl with | [_, _], _ => rfl) (fun vs H Q E h => ?_) (fun f cdv A outer s H vs Q E hr h => ?_)
  · obtain ⟨bx, many, rfl, _⟩ := h; rfl
  · refine ⟨_, C8.pss_cut (ps_if (pt_cmpR op_lt (pe_ix ix_list (pv 0) pe_int (fun _ _ => rfl)) (pv 1) (nomark _)) (pss_one (ps_asg (pe_d D hr rfl (pa_cons (pv 0) pa_nil)) (pg_sub (pv 0) pe_int set_list))) pss_nil)
      (pss_cons (ps_set (i := 2) sc_law_draw.nd rfl (Or.inl rfl) (pe_op op_mod (pe_callTy call_int1 rfl C.int boot_int (pa_cons (pe_ix ix_list (pv 0) pe_int (fun _ _ => rfl)) pa_nil)) (pv 1)))
      (pss_cons (ps_asg (pe_op op_fdivW (pe_ix ix_list (pv 0) pe_int (fun _ _ => rfl)) (pv 1)) (pg_sub (pv 0) pe_int set_list))
      (pss_one (ps_ret (pv 2))))), ?_⟩
    obtain ⟨bx, many, rfl, hb, hm, hm2, k⟩ := h
    obtain ⟨ns, acc, seed, h1, h2, h3⟩ := id hb.ex
    refine ⟨fun σ H' => ∃ (ns' : List Int) (acc' seed' : Int), σ = [some (.ref bx.b), some (.int (many : Int)), none] ∧ H' bx.b = some (.lst [.ref bx.c, .int acc', .int seed', .int 0]) ∧ H' bx.c = some (.lst (ns'.map V.int)) ∧ KeepB bx H H', ?_, ?_⟩
    · refine ⟨_, rfl, bx.b, _, 1, .int acc, rfl, rfl, SqL.of h1, atI_nat (j := 1) rfl, _, rfl, _, _, rfl, rfl, _, rfl, ?_⟩
      by_cases hl : acc < (many : Int)
      · rw [decide_eq_true hl]
        refine iteT ⟨_, rfl, bx, rfl, hb, fun H1 z hb1 k1 => ?_⟩
        obtain ⟨ns1, acc1, seed1, g1, g2, _⟩ := hb1.ex
        refine ⟨_, rfl, bx.b, _, 1, 1, rfl, rfl, g1, rfl, ns1, z, seed1, rfl, upd_same, by rw [upd_ne (Ne.symm h3)]; exact g2, fun a o e n1 n2 => ?_⟩
        rw [upd_ne n1]
        exact k1 a o e n1 n2
      · rw [decide_eq_false hl]
        exact iteF ⟨ns, acc, seed, rfl, h1, h2, .refl _ _⟩
    rintro σ H2 ⟨ns', acc', seed', rfl, g1, g2, k2⟩
    have lg : ((many : Int)).natAbs.log2 < 9000 := by
      rw [Int.natAbs_natCast]
      exact Nat.lt_trans ((Nat.log2_lt (by omega)).mpr (show many < 2 ^ 33 by omega)) (by decide)
    have hmp : (0 : Int) < (many : Int) := by omega
    refine ⟨_, rfl, bx.b, _, 1, .int acc', rfl, rfl, SqL.of g1, atI_nat (j := 1) rfl, .inl ⟨acc', rfl, _, rfl, _, _, rfl, rfl, hmp, ?_⟩⟩
    refine ⟨_, rfl, bx.b, _, 1, .int acc', rfl, rfl, SqL.of g1, atI_nat (j := 1) rfl, _, rfl, _, _, rfl, rfl, ⟨hmp, lg⟩, ?_⟩
    refine ⟨_, rfl, bx.b, _, 1, 1, rfl, rfl, g1, rfl, _, rfl, ?_⟩
    have n0 := Int.emod_nonneg acc' (Int.ne_of_gt hmp)
    have n1 := Int.emod_lt_of_pos acc' hmp
    have kk := k (upd H2 bx.b (.lst ([V.ref bx.c, .int acc', .int seed', .int 0].set 1 (.int (acc' / (many : Int)))))) (acc' % (many : Int)).toNat (by omega)
      ⟨ns', acc' / (many : Int), seed', upd_same, by rw [upd_ne (Ne.symm h3)]; exact g2, h3⟩ (fun a o e n1 n2 => by rw [upd_ne n1]; exact k2 a o e n1 n2)
    rw [Int.toNat_of_nonneg n0] at kk
    exact kk
/-! ### words and codes -/
def wordsL : List Nat := [0, 1, 2, 63, 64, 4294967295, 4294967294, 2147483648]
theorem wordsL_w : ∀ x ∈ wordsL, isW x := by
  have z : ∀ x ∈ wordsL, x ≤ 4294967295 := by decide
  exact z
theorem KeepB.lst {bx : Bx} {H H' : Hp} (k : KeepB bx H H') {a : Addr} {o : HO} (e : H a = some o) (n : a ≠ bx.b ∧ a ≠ bx.c) : H' a = some o := k a o e n.1 n.2
def spLWord : Sp := fun vs H Q _ => ∃ bx : Bx, vs = [.ref bx.b] ∧ BoxAt H bx ∧ ∀ (H' : Hp) (v : Nat), isW v → BoxAt H' bx → KeepB bx H H' → Q (.int (v : Int)) H'
theorem sc_law_word : FnScope ["_law_box_here", "_law_kind"] ["_law_box_here"] (defScope s_law_word) := ⟨rfl, rfl, rfl, by decide +kernel, rfl, by decide +kernel, by decide +kernel⟩
theorem ok_law_word (F : FnF K mg "_law_word" "_law_word" s_law_word) (D : Def P w K mg base 2 "_law_draw" ["_law_box_here", "_law_many"] spDraw) : Def P w K mg base 3 "_law_word" ["_law_box_here"] spLWord := by
  refine Def.of F sc_law_word (fun _ _ _ _ _ _ us hl => match us, hl with | [_], _ => rfl) (fun vs H Q E h => ?_) (fun f cdv A outer s H vs Q E hr h => ?_)
  · obtain ⟨bx, rfl, _⟩ := h; rfl
  · refine ⟨_, pss_cons (ps_set (i := 1) sc_law_word.nd rfl (Or.inl rfl) (pe_d D hr rfl (pa_cons (pv 0) (pa_cons pe_int pa_nil))))
      (pss_cons (ps_if (pt_cmpR op_eq (pv 1) pe_int (nomark _)) (pss_one (ps_ret (pe_ix ix_list (pe_lst (pa_cons pe_int (pa_cons pe_int (pa_cons pe_int (pa_cons pe_int (pa_cons pe_int (pa_cons pe_int (pa_cons pe_int (pa_cons pe_int pa_nil))))))))) (pe_d D hr rfl (pa_cons (pv 0) (pa_cons pe_int pa_nil))) (fun _ _ => rfl)))) pss_nil)
      (pss_cons (ps_if (pt_cmpR op_eq (pv 1) pe_int (nomark _)) (pss_one (ps_ret (pe_d D hr rfl (pa_cons (pv 0) (pa_cons pe_int pa_nil))))) pss_nil)
      (pss_one (ps_ret (pe_d D hr rfl (pa_cons (pv 0) (pa_cons pe_int pa_nil))))))), ?_⟩
    obtain ⟨bx, rfl, hb, k⟩ := h
    refine ⟨_, rfl, bx, 4, rfl, hb, by decide, by decide, fun H1 d hd hb1 k1 => ?_⟩
    refine ⟨_, rfl, rfl, _, rfl, ?_⟩
    by_cases e0 : d = 0
    · rw [dec_nat0, decide_eq_true e0]
      refine iteT ⟨by show 8 ≤ sizeLine; decide, fun l hl => ?_⟩
      have s1 := same_new (o := .lst (nats wordsL)) hl
      have hb2 := hb1.same s1
      have nl := hb1.free hl
      refine ⟨_, rfl, bx, 8, rfl, hb2, by decide, by decide, fun H3 d3 hd3 hb3 k3 => ?_⟩
      have hl3 : H3 l = some (.lst (nats wordsL)) := k3.lst upd_same nl
      have hlen : d3 < wordsL.length := hd3
      refine ⟨l, _, _, .int (wordsL.getD d3 0 : Int), rfl, rfl, SqL.of hl3, atI_nat (j := d3) (nats_at (getD_at hlen)), ?_⟩
      exact k H3 _ (wordsL_w _ (getD_mem hlen)) hb3 ((k1.trans (.of_same s1)).trans k3)
    · rw [dec_nat0, decide_eq_false e0]
      refine iteF ⟨_, rfl, rfl, _, rfl, ?_⟩
      cases decide (V.int (d : Int) = V.int 1) with
      | true => exact iteT ⟨_, rfl, bx, 4294967296, rfl, hb1, by decide, by decide, fun H3 d3 hd3 hb3 k3 => k H3 d3 (show d3 ≤ 4294967295 by omega) hb3 (k1.trans k3)⟩
      | false => exact iteF ⟨_, rfl, bx, 70, rfl, hb1, by decide, by decide, fun H3 d3 hd3 hb3 k3 => k H3 d3 (show d3 ≤ 4294967295 by omega) hb3 (k1.trans k3)⟩
/-- made codes -/
def CodesAt (H : Hp) (L : List (Addr × Ins)) : Prop := ∀ x ∈ L, CodeAt H x.1 (some x.2) ∧ OkIns x.2
theorem CodesAt.tk {H H' : Hp} (k : TK H H') {L : List (Addr × Ins)} (h : CodesAt H L) : CodesAt H' L := fun x hx => ⟨k.tup (h x hx).1, (h x hx).2⟩
theorem CodesAt.snoc {H H' : Hp} {L : List (Addr × Ins)} {p : Addr} {c : Ins} (h : CodesAt H L) (k : TK H H') (hp : CodeAt H' p (some c)) (oc : OkIns c) : CodesAt H' (L ++ [(p, c)]) := fun x hx => by
  rcases List.mem_append.mp hx with e | e
  · exact h.tk k x e
  · rw [List.mem_singleton.mp e]; exact ⟨hp, oc⟩
def spLCode : Sp := fun vs H Q _ => ∃ (bx : Bx) (n : Nat), vs = [.ref bx.b, .int (n : Int)] ∧ BoxAt H bx ∧ n ≤ 63 ∧ ∀ (H' : Hp) (p : Addr) (c : Ins), CodeAt H' p (some c) → OkIns c → BoxAt H' bx → KeepB bx H H' → Q (.ref p) H'
theorem sc_law_code : FnScope ["_law_box_here", "_law_length", "_law_r", "_law_s", "_law_t", "_law_place", "_law_three", "_law_kind"] ["_law_box_here", "_law_length"] (defScope s_law_code) := ⟨rfl, rfl, rfl, by decide +kernel, rfl, by decide +kernel, by decide +kernel⟩

theorem ok_law_code (F : FnF K mg "_law_code" "_law_code" s_law_code) (D : Def P w K mg base 2 "_law_draw" ["_law_box_here", "_law_many"] spDraw) (D2 : Def P w K mg base 3 "_law_word" ["_law_box_here"] spLWord) : Def P w K mg base 4 "_law_code" ["_law_box_here", "_law_length"] spLCode := by
  refine Def.of F sc_law_code (fun _ _ _ _ _ _ us hl => match us, hl with | [_, _], _ => rfl) (fun vs H Q E h => ?_) (fun f cdv A outer s H vs Q E hr h => ?_)
  · obtain ⟨bx, n, rfl, _⟩ := h; rfl
  · refine ⟨_, pss_cons (ps_set (i := 2) sc_law_code.nd rfl (Or.inl rfl) (pe_d D (hr.mono (by decide)) rfl (pa_cons (pv 0) (pa_cons pe_int pa_nil))))
      (pss_cons (ps_set (i := 3) sc_law_code.nd rfl (Or.inl rfl) (pe_d D (hr.mono (by decide)) rfl (pa_cons (pv 0) (pa_cons pe_int pa_nil))))
      (pss_cons (ps_set (i := 4) sc_law_code.nd rfl (Or.inl rfl) (pe_d D (hr.mono (by decide)) rfl (pa_cons (pv 0) (pa_cons pe_int pa_nil))))
      (pss_cons (ps_set (i := 5) sc_law_code.nd rfl (Or.inl rfl) (pe_d D (hr.mono (by decide)) rfl (pa_cons (pv 0) (pa_cons (pe_op op_add (pv 1) pe_int) pa_nil))))
      (C8.pss_cut (ps_if (pt_cmpR op_eq (pe_d D (hr.mono (by decide)) rfl (pa_cons (pv 0) (pa_cons pe_int pa_nil))) pe_int (nomark _)) (pss_one (ps_set (i := 5) sc_law_code.nd rfl (Or.inl rfl) (pe_d D (hr.mono (by decide)) rfl (pa_cons (pv 0) (pa_cons pe_int pa_nil))))) pss_nil)
      (pss_cons (ps_set (i := 6) sc_law_code.nd rfl (Or.inl rfl) (pe_lst (pa_cons pe_str (pa_cons pe_str (pa_cons pe_str (pa_cons pe_str (pa_cons pe_str (pa_cons pe_str (pa_cons pe_str pa_nil)))))))))
      (pss_cons (ps_set (i := 7) sc_law_code.nd rfl (Or.inl rfl) (pe_d D (hr.mono (by decide)) rfl (pa_cons (pv 0) (pa_cons pe_int pa_nil))))
      (pss_cons (ps_if (pt_cmpR op_lt (pv 7) pe_int (nomark _)) (pss_one (ps_ret (pe_tup (pa_cons (pe_ix ix_list (pv 6) (pv 7) (fun _ _ => rfl)) (pa_cons (pv 2) (pa_cons (pv 3) (pa_cons (pv 4) pa_nil))))))) pss_nil)
      (pss_one (ps_ret (pe_ix ix_list (pe_lst (pa_cons (pe_tup (pa_cons pe_str (pa_cons (pv 2) (pa_cons (pe_d D2 hr rfl (pa_cons (pv 0) pa_nil)) pa_nil))))
        (pa_cons (pe_tup (pa_cons pe_str (pa_cons (pv 2) (pa_cons (pe_d D (hr.mono (by decide)) rfl (pa_cons (pv 0) (pa_cons pe_int pa_nil))) pa_nil))))
        (pa_cons (pe_tup (pa_cons pe_str (pa_cons (pv 2) (pa_cons (pv 3) pa_nil))))
        (pa_cons (pe_tup (pa_cons pe_str (pa_cons (pv 2) (pa_cons (pv 3) pa_nil))))
        (pa_cons (pe_tup (pa_cons pe_str (pa_cons (pv 2) (pa_cons (pv 3) pa_nil))))
        (pa_cons (pe_tup (pa_cons pe_str (pa_cons (pv 5) pa_nil)))
        (pa_cons (pe_tup (pa_cons pe_str (pa_cons (pv 2) (pa_cons (pv 5) pa_nil))))
        (pa_cons (pe_tup (pa_cons pe_str (pa_cons (pv 2) pa_nil)))
        (pa_cons (pe_tup (pa_cons pe_str (pa_cons (pv 2) pa_nil)))
        (pa_cons (pe_tup (pa_cons pe_str (pa_cons (pv 2) pa_nil)))
        (pa_cons (pe_tup (pa_cons pe_str pa_nil))
        (pa_cons (pe_tup (pa_cons pe_str (pa_cons (pv 2) (pa_cons (pv 3) pa_nil))))
        (pa_cons (pe_tup (pa_cons pe_str (pa_cons (pv 2) pa_nil)))
        pa_nil)))))))))))))) (pe_op op_sub (pv 7) pe_int) (fun _ _ => rfl))))))))))), ?_⟩
    obtain ⟨bx, n, rfl, hb, hn, k⟩ := h

    refine ⟨_, rfl, bx, 4, rfl, hb, by decide, by decide, fun H1 r hr1 hb1 k1 => ?_⟩
    refine ⟨_, rfl, bx, 4, rfl, hb1, by decide, by decide, fun H2 s2 hs2 hb2 k2 => ?_⟩
    refine ⟨_, rfl, bx, 4, rfl, hb2, by decide, by decide, fun H3 tv htv hb3 k3 => ?_⟩
    refine ⟨_, rfl, _, rfl, _, _, rfl, rfl, bx, n + 1, rfl, hb3, by omega, by omega, fun H4 p4 hp4 hb4 k4 => ?_⟩
    simp only [L2.start, List.set_cons_succ, List.set_cons_zero, List.map_cons, List.map_nil, List.length_cons, List.length_nil, Nat.reduceAdd, Nat.reduceSub, List.replicate_succ, List.replicate_zero, List.cons_append, List.nil_append]
    have k04 := ((k1.trans k2).trans k3).trans k4
    clear hb hb1 hb2 hb3 k1 k2 k3 k4
    refine ⟨fun σ H' => ∃ pl : Nat, pl ≤ 64 ∧ BoxAt H' bx ∧ KeepB bx H H' ∧ σ = [some (.ref bx.b), some (.int (n : Int)), some (.int (r : Int)), some (.int (s2 : Int)), some (.int (tv : Int)), some (.int (pl : Int)), none, none], ?_, ?_⟩
    · refine ⟨_, rfl, bx, 12, rfl, hb4, by decide, by decide, fun H5 d5 hd5 hb5 k5 => ⟨rfl, _, rfl, ?_⟩⟩
      cases decide (V.int (d5 : Int) = V.int 0) with
      | true => exact iteT ⟨_, rfl, bx, 65, rfl, hb5, by decide, by decide, fun H6 d6 hd6 hb6 k6 => ⟨d6, by omega, hb6, (k04.trans k5).trans k6, rfl⟩⟩
      | false => exact iteF ⟨p4, by omega, hb5, k04.trans k5, rfl⟩
    rintro σ H5 ⟨pl, hpl, hb5, k5, rfl⟩
    refine ⟨by show 7 ≤ sizeLine; decide, fun tl htl => ?_⟩
    have s6 := same_new (o := .lst (threeL.map V.str)) htl
    have ntl := hb5.free htl
    refine ⟨_, rfl, bx, 20, rfl, hb5.same s6, by decide, by decide, fun H7 kd hkd hb7 k7 => ?_⟩
    simp only [L2.start, List.set_cons_succ, List.set_cons_zero, List.map_cons, List.map_nil, List.length_cons, List.length_nil, Nat.reduceAdd, Nat.reduceSub, List.replicate_succ, List.replicate_zero, List.cons_append, List.nil_append]
    have k07 := (k5.trans (.of_same s6)).trans k7
    have htl7 : H7 tl = some (.lst (threeL.map V.str)) := k7.lst upd_same ntl
    refine ⟨_, rfl, _, _, rfl, rfl, _, rfl, ?_⟩
    by_cases h7 : kd < 7
    · rw [decide_eq_true (show (kd : Int) < 7 by omega)]
      have hlen : kd < threeL.length := h7
      have e7 : (threeL.map V.str)[kd]? = some (.str threeL[kd]) := by rw [List.getElem?_map, List.getElem?_eq_getElem hlen]; rfl
      refine iteT ⟨_, rfl, _, rfl, tl, _, _, .str threeL[kd], rfl, rfl, SqL.of htl7, atI_nat (j := kd) e7, _, rfl, _, rfl, _, rfl, by show 4 ≤ sizeLine; decide, fun p hp => ?_⟩
      have s8 := same_new (o := .tup ((codeK (some ⟨threeL[kd], [r, s2, tv]⟩)).map kV)) hp
      exact k _ p ⟨threeL[kd], [r, s2, tv]⟩ upd_same (okI_three (List.getElem_mem _) (by omega) (by omega) (by omega)) (hb7.same s8) (k07.trans (.of_same s8))
    rw [decide_eq_false (show ¬ (kd : Int) < 7 by omega)]
    refine iteF ?_
    have A0 : CodesAt H7 [] := fun x hx => by cases hx
    refine ⟨_, rfl, _, rfl, bx, rfl, hb7, fun Hd0 v0 hv0 hbd0 kd0 => ⟨by show 3 ≤ sizeLine; decide, fun p0 hp0 => ?_⟩⟩
    have t0 := same_new (o := .tup ((codeK (some ⟨"set", [r, v0]⟩)).map kV)) hp0
    have hbb0 := hbd0.same t0
    have kb0 := (k07.trans kd0).trans (.of_same t0)
    have A1 := A0.snoc (c := ⟨"set", [r, v0]⟩) ((kd0.tk hb7).trans (Same.tk t0)) upd_same (okI_set (by omega) hv0)
    refine ⟨_, rfl, _, rfl, bx, 64, rfl, hbb0, by decide, by decide, fun Hd1 v1 hv1 hbd1 kd1 => ⟨by show 3 ≤ sizeLine; decide, fun p1 hp1 => ?_⟩⟩
    have t1 := same_new (o := .tup ((codeK (some ⟨"set", [r, v1]⟩)).map kV)) hp1
    have hbb1 := hbd1.same t1
    have kb1 := (kb0.trans kd1).trans (.of_same t1)
    have A2 := A1.snoc (c := ⟨"set", [r, v1]⟩) ((kd1.tk hbb0).trans (Same.tk t1)) upd_same (okI_set (by omega) (show v1 ≤ 4294967295 by omega))
    refine ⟨_, rfl, _, rfl, by show 3 ≤ sizeLine; decide, fun p2 hp2 => ?_⟩
    have t2 := same_new (o := .tup ((codeK (some ⟨"copy", [r, s2]⟩)).map kV)) hp2
    have hbb2 := hbb1.same t2
    have kb2 := kb1.trans (.of_same t2)
    have A3 := A2.snoc (c := ⟨"copy", [r, s2]⟩) (Same.tk t2) upd_same (okI_two (by decide +kernel) (by omega) (by omega))
    refine ⟨_, rfl, _, rfl, by show 3 ≤ sizeLine; decide, fun p3 hp3 => ?_⟩
    have t3 := same_new (o := .tup ((codeK (some ⟨"load", [r, s2]⟩)).map kV)) hp3
    have hbb3 := hbb2.same t3
    have kb3 := kb2.trans (.of_same t3)
    have A4 := A3.snoc (c := ⟨"load", [r, s2]⟩) (Same.tk t3) upd_same (okI_two (by decide +kernel) (by omega) (by omega))
    refine ⟨_, rfl, _, rfl, by show 3 ≤ sizeLine; decide, fun p4 hp4 => ?_⟩
    have t4 := same_new (o := .tup ((codeK (some ⟨"store", [r, s2]⟩)).map kV)) hp4
    have hbb4 := hbb3.same t4
    have kb4 := kb3.trans (.of_same t4)
    have A5 := A4.snoc (c := ⟨"store", [r, s2]⟩) (Same.tk t4) upd_same (okI_two (by decide +kernel) (by omega) (by omega))
    refine ⟨_, rfl, by show 2 ≤ sizeLine; decide, fun p5 hp5 => ?_⟩
    have t5 := same_new (o := .tup ((codeK (some ⟨"jump", [pl]⟩)).map kV)) hp5
    have hbb5 := hbb4.same t5
    have kb5 := kb4.trans (.of_same t5)
    have A6 := A5.snoc (c := ⟨"jump", [pl]⟩) (Same.tk t5) upd_same (okI_jump hpl)
    refine ⟨_, rfl, _, rfl, by show 3 ≤ sizeLine; decide, fun p6 hp6 => ?_⟩
    have t6 := same_new (o := .tup ((codeK (some ⟨"zero", [r, pl]⟩)).map kV)) hp6
    have hbb6 := hbb5.same t6
    have kb6 := kb5.trans (.of_same t6)
    have A7 := A6.snoc (c := ⟨"zero", [r, pl]⟩) (Same.tk t6) upd_same (okI_zero (by omega) hpl)
    refine ⟨_, rfl, by show 2 ≤ sizeLine; decide, fun p7 hp7 => ?_⟩
    have t7 := same_new (o := .tup ((codeK (some ⟨"read", [r]⟩)).map kV)) hp7
    have hbb7 := hbb6.same t7
    have kb7 := kb6.trans (.of_same t7)
    have A8 := A7.snoc (c := ⟨"read", [r]⟩) (Same.tk t7) upd_same (okI_one (by decide +kernel) (by omega))
    refine ⟨_, rfl, by show 2 ≤ sizeLine; decide, fun p8 hp8 => ?_⟩
    have t8 := same_new (o := .tup ((codeK (some ⟨"left", [r]⟩)).map kV)) hp8
    have hbb8 := hbb7.same t8
    have kb8 := kb7.trans (.of_same t8)
    have A9 := A8.snoc (c := ⟨"left", [r]⟩) (Same.tk t8) upd_same (okI_one (by decide +kernel) (by omega))
    refine ⟨_, rfl, by show 2 ≤ sizeLine; decide, fun p9 hp9 => ?_⟩
    have t9 := same_new (o := .tup ((codeK (some ⟨"write", [r]⟩)).map kV)) hp9
    have hbb9 := hbb8.same t9
    have kb9 := kb8.trans (.of_same t9)
    have A10 := A9.snoc (c := ⟨"write", [r]⟩) (Same.tk t9) upd_same (okI_one (by decide +kernel) (by omega))
    refine ⟨by show 1 ≤ sizeLine; decide, fun p10 hp10 => ?_⟩
    have t10 := same_new (o := .tup ((codeK (some ⟨"stop", []⟩)).map kV)) hp10
    have hbb10 := hbb9.same t10
    have kb10 := kb9.trans (.of_same t10)
    have A11 := A10.snoc (c := ⟨"stop", []⟩) (Same.tk t10) upd_same (okI_stop)
    refine ⟨_, rfl, _, rfl, by show 3 ≤ sizeLine; decide, fun p11 hp11 => ?_⟩
    have t11 := same_new (o := .tup ((codeK (some ⟨"store", [r, s2]⟩)).map kV)) hp11
    have hbb11 := hbb10.same t11
    have kb11 := kb10.trans (.of_same t11)
    have A12 := A11.snoc (c := ⟨"store", [r, s2]⟩) (Same.tk t11) upd_same (okI_two (by decide +kernel) (by omega) (by omega))
    refine ⟨_, rfl, by show 2 ≤ sizeLine; decide, fun p12 hp12 => ?_⟩
    have t12 := same_new (o := .tup ((codeK (some ⟨"read", [r]⟩)).map kV)) hp12
    have hbb12 := hbb11.same t12
    have kb12 := kb11.trans (.of_same t12)
    have A13 := A12.snoc (c := ⟨"read", [r]⟩) (Same.tk t12) upd_same (okI_one (by decide +kernel) (by omega))
    refine ⟨by show 13 ≤ sizeLine; decide, fun cl hcl => ?_⟩
    have tt := same_new (o := .lst ([p0, p1, p2, p3, p4, p5, p6, p7, p8, p9, p10, p11, p12].map V.ref)) hcl
    have AL := A13.tk (Same.tk tt)
    have hbz := hbb12.same tt
    have kz := kb12.trans (.of_same tt)
    simp only [List.nil_append, List.cons_append] at AL
    have key : ∀ Hz : Hp, Hz cl = some (.lst ([p0, p1, p2, p3, p4, p5, p6, p7, p8, p9, p10, p11, p12].map V.ref)) → CodesAt Hz [(p0, (⟨"set", [r, v0]⟩ : Ins)), (p1, (⟨"set", [r, v1]⟩ : Ins)), (p2, (⟨"copy", [r, s2]⟩ : Ins)), (p3, (⟨"load", [r, s2]⟩ : Ins)), (p4, (⟨"store", [r, s2]⟩ : Ins)), (p5, (⟨"jump", [pl]⟩ : Ins)), (p6, (⟨"zero", [r, pl]⟩ : Ins)), (p7, (⟨"read", [r]⟩ : Ins)), (p8, (⟨"left", [r]⟩ : Ins)), (p9, (⟨"write", [r]⟩ : Ins)), (p10, (⟨"stop", []⟩ : Ins)), (p11, (⟨"store", [r, s2]⟩ : Ins)), (p12, (⟨"read", [r]⟩ : Ins))] → BoxAt Hz bx → KeepB bx H Hz → rIxL K (.ref cl) (.int ((kd : Int) - 7)) Hz Q := fun Hz hz AZ hbz kz => by
      have hi : kd - 7 < 13 := by omega
      have hx := List.getElem?_eq_getElem (l := [(p0, (⟨"set", [r, v0]⟩ : Ins)), (p1, (⟨"set", [r, v1]⟩ : Ins)), (p2, (⟨"copy", [r, s2]⟩ : Ins)), (p3, (⟨"load", [r, s2]⟩ : Ins)), (p4, (⟨"store", [r, s2]⟩ : Ins)), (p5, (⟨"jump", [pl]⟩ : Ins)), (p6, (⟨"zero", [r, pl]⟩ : Ins)), (p7, (⟨"read", [r]⟩ : Ins)), (p8, (⟨"left", [r]⟩ : Ins)), (p9, (⟨"write", [r]⟩ : Ins)), (p10, (⟨"stop", []⟩ : Ins)), (p11, (⟨"store", [r, s2]⟩ : Ins)), (p12, (⟨"read", [r]⟩ : Ins))]) (i := kd - 7) hi
      generalize ([(p0, (⟨"set", [r, v0]⟩ : Ins)), (p1, (⟨"set", [r, v1]⟩ : Ins)), (p2, (⟨"copy", [r, s2]⟩ : Ins)), (p3, (⟨"load", [r, s2]⟩ : Ins)), (p4, (⟨"store", [r, s2]⟩ : Ins)), (p5, (⟨"jump", [pl]⟩ : Ins)), (p6, (⟨"zero", [r, pl]⟩ : Ins)), (p7, (⟨"read", [r]⟩ : Ins)), (p8, (⟨"left", [r]⟩ : Ins)), (p9, (⟨"write", [r]⟩ : Ins)), (p10, (⟨"stop", []⟩ : Ins)), (p11, (⟨"store", [r, s2]⟩ : Ins)), (p12, (⟨"read", [r]⟩ : Ins))] : List (Addr × Ins))[kd - 7] = x at hx
      obtain ⟨c1, c2⟩ := AZ x (List.mem_of_getElem? hx)
      refine ⟨cl, _, _, .ref x.1, rfl, rfl, SqL.of hz, at_of (j := kd - 7) (by omega) ?_, k _ x.1 x.2 c1 c2 hbz kz⟩
      have e2 : [p0, p1, p2, p3, p4, p5, p6, p7, p8, p9, p10, p11, p12].map V.ref = [(p0, (⟨"set", [r, v0]⟩ : Ins)), (p1, (⟨"set", [r, v1]⟩ : Ins)), (p2, (⟨"copy", [r, s2]⟩ : Ins)), (p3, (⟨"load", [r, s2]⟩ : Ins)), (p4, (⟨"store", [r, s2]⟩ : Ins)), (p5, (⟨"jump", [pl]⟩ : Ins)), (p6, (⟨"zero", [r, pl]⟩ : Ins)), (p7, (⟨"read", [r]⟩ : Ins)), (p8, (⟨"left", [r]⟩ : Ins)), (p9, (⟨"write", [r]⟩ : Ins)), (p10, (⟨"stop", []⟩ : Ins)), (p11, (⟨"store", [r, s2]⟩ : Ins)), (p12, (⟨"read", [r]⟩ : Ins))].map (fun y : Addr × Ins => V.ref y.1) := rfl
      rw [e2, List.getElem?_map, hx]
      rfl
    exact ⟨_, rfl, _, _, rfl, rfl, key _ upd_same AL hbz kz⟩

end
end K24
set_option Elab.async false
set_option autoImplicit false
set_option linter.all false
set_option maxRecDepth 100000
set_option maxHeartbeats 4000000
namespace K24
open PySem PySem.Spec PyProof.Rows L2
theorem codes_pr {H : Hp} {L : List (Addr × Ins)} (h : CodesAt H L) : Paired (fun x c => CodeAt H x (some c)) (L.map (·.1)) (L.map (·.2)) := by
  induction L with
  | nil => exact .nil
  | cons x L ih => exact .cons (h x List.mem_cons_self).1 (ih fun y hy => h y (List.mem_cons_of_mem _ hy))
theorem KeepB.new {bx : Bx} {H H' : Hp} {a : Addr} {o : HO} (k : KeepB bx H H') (h : H a = none) : KeepB bx H (upd H' a o) := fun x u e h1 h2 => by
  rw [upd_ne (ne_of_none e h)]
  exact k x u e h1 h2
theorem BoxAt.upd {bx : Bx} {H : Hp} {a : Addr} {o : HO} (h : BoxAt H bx) (n : a ≠ bx.b ∧ a ≠ bx.c) : BoxAt (L2.upd H a o) bx := by
  obtain ⟨ns, acc, seed, h1, h2, h3⟩ := h.ex
  exact ⟨ns, acc, seed, by rw [upd_ne (Ne.symm n.1)]; exact h1, by rw [upd_ne (Ne.symm n.2)]; exact h2, h3⟩
theorem tk_upd_lst {H : Hp} {a : Addr} {xs : List V} {o : HO} (h : H a = some (.lst xs)) : TK H (upd H a o) := fun x u e ht => by
  rw [upd_ne (fun z => by
    rw [z, h] at e
    have e := Option.some.inj e
    rcases ht with ⟨ys, h⟩ | ⟨P, h⟩ <;> rw [h] at e <;> exact nomatch e)]
  exact e
section
variable {P : Program} {w : World} {K : PySem.W.Frag} {mg : Str → Option Value} {base : Heap}
def spLProg : Sp := fun vs H Q _ => ∃ (bx : Bx) (most : Nat), vs = [.ref bx.b, .int (most : Int)] ∧ BoxAt H bx ∧ 1 ≤ most ∧ most ≤ 60 ∧ ∀ (H' : Hp) (p : Addr) (pr : List Ins), PrAt H' p pr → PrOk pr → BoxAt H' bx → KeepB bx H H' → Q (.ref p) H'
theorem sc_law_program : FnScope ["_law_box_here", "_law_most", "_law_length", "_law_k"] ["_law_box_here", "_law_most"] (defScope s_law_program) := ⟨rfl, rfl, rfl, by decide +kernel, rfl, by decide +kernel, by decide +kernel⟩
theorem ok_law_program (F : FnF K mg "_law_program" "_law_program" s_law_program) (C : Cst K mg) (D : Def P w K mg base 2 "_law_draw" ["_law_box_here", "_law_many"] spDraw) (D2 : Def P w K mg base 4 "_law_code" ["_law_box_here", "_law_length"] spLCode) : Def P w K mg base 5 "_law_program" ["_law_box_here", "_law_most"] spLProg := by
  refine Def.of F sc_law_program (fun _ _ _ _ _ _ us hl => match us, hl with | [_, _], _ => rfl) (fun vs H Q E h => ?_) (fun f cdv A outer s H vs Q E hr h => ?_)
  · obtain ⟨bx, most, rfl, _⟩ := h; rfl
  · refine ⟨_, pss_cons (ps_set (i := 2) sc_law_program.nd rfl (Or.inr rfl) (pe_op op_add pe_int (pe_d D (hr.mono (by decide)) rfl (pa_cons (pv 0) (pa_cons (pv 1) pa_nil)))))
      (pss_one (ps_ret (pe_callTy call_tuple_of rfl C.tuple boot_tuple (pa_cons (pe_lc (own := [("_law_k", 3)]) (g := gName 3) (tt := tYes) rfl sc_law_program.nd (pi_range1 rfl C.range (pa_cons (pv 2) pa_nil))
            (blkOk_by (N := ["_law_box_here", "_law_most", "_law_length", "_law_k"]) (sc := defScope s_law_program) (by decide +kernel)) (fun _ _ _ _ _ => pg_name (i := 3) sc_law_program.nd rfl (Or.inl rfl)) (fun _ _ _ _ _ => pts_nil)
            (fun _ _ _ _ _ => pe_d D2 hr rfl (pa_cons (pv 0) (pa_cons (pv 2) pa_nil)))) pa_nil)))), ?_⟩
    obtain ⟨bx, most, rfl, hb, hm, hm2, k⟩ := h
    refine ⟨_, rfl, _, rfl, bx, most, rfl, hb, hm, by omega, fun H1 d hd hb1 k1 => ?_⟩
    refine ⟨_, _, rfl, rfl, ?_⟩
    have e1 : (1 : Int) + (d : Int) = ((d + 1 : Nat) : Int) := by omega
    simp only [L2.start, List.set_cons_succ, List.set_cons_zero, List.map_cons, List.map_nil, List.length_cons, List.length_nil, Nat.reduceAdd, Nat.reduceSub, List.replicate_succ, List.replicate_zero, List.cons_append, List.nil_append]
    rw [e1]
    refine ⟨_, rfl, ((d + 1 : Nat) : Int), rfl, by omega, by omega, fun D hD => ?_⟩
    have nD := hb1.free hD
    refine lc_any (n := ((d + 1 : Nat) : Int).toNat) (fun i H2 => ∃ L : List (Addr × Ins), H2 D = some (.lst (L.map fun x => V.ref x.1)) ∧ L.length = i ∧ CodesAt H2 L ∧ BoxAt H2 bx ∧ KeepB bx H1 H2)
      ⟨[], upd_same, rfl, fun x hx => (by cases hx), hb1.upd nD, (KeepB.refl _ _).new hD⟩ (fun i H2 hi _ => hi) (fun H2 _ => Nat.le_refl _) ?_ ?_
    · rintro i H2 x H3 hi ⟨L, hL, hLl, cL, hb2, k2⟩ ⟨rfl, rfl⟩
      refine ⟨rfl, ?_⟩
      refine ⟨_, rfl, _, rfl, bx, d + 1, rfl, hb2, by omega, fun H4 p c hp oc hb4 k4 => ?_⟩
      have hD4 := k4.lst hL nD
      rw [Int.toNat_natCast] at hi
      refine ⟨_, hD4, by rw [List.length_map, hLl]; exact Nat.lt_of_lt_of_le hi (Nat.le_trans (show d + 1 ≤ 61 by omega) (by decide)), L ++ [(p, c)], ?_, by rw [List.length_append, hLl]; rfl, ?_, hb4.upd nD, (k2.trans k4).new hD⟩
      · rw [upd_same, List.map_append]
        rfl
      · exact ((cL.snoc (k4.tk hb2) hp oc)).tk (tk_upd_lst hD4)
    · rintro H2 ⟨L, hL, hLl, cL, hb2, k2⟩
      rw [Int.toNat_natCast] at hLl
      refine ⟨D, _, rfl, .inl ⟨SqL.of hL, fun p hp => ?_⟩⟩
      have s3 := same_new (o := .tup (L.map fun x => V.ref x.1)) hp
      have c3 := cL.tk (Same.tk s3)
      refine k _ p (L.map (·.2)) ⟨L.map (·.1), ?_, codes_pr c3⟩ ⟨by rw [List.length_map]; omega, by rw [List.length_map]; omega, fun c hc => ?_⟩ (hb2.same s3) ((k1.trans k2).trans (.of_same s3))
      · rw [upd_same, List.map_map]
        rfl
      · obtain ⟨x, hx, rfl⟩ := List.mem_map.mp hc
        exact (cL x hx).2
def spLInput : Sp := fun vs H Q _ => ∃ (bx : Bx) (most : Nat), vs = [.ref bx.b, .int (most : Int)] ∧ BoxAt H bx ∧ most ≤ 60 ∧ ∀ (H' : Hp) (p : Addr) (ws : List Nat), WdAt H' p ws → WsOk ws → BoxAt H' bx → KeepB bx H H' → Q (.ref p) H'
theorem sc_law_input : FnScope ["_law_box_here", "_law_most", "_law_k"] ["_law_box_here", "_law_most"] (defScope s_law_input) := ⟨rfl, rfl, rfl, by decide +kernel, rfl, by decide +kernel, by decide +kernel⟩
theorem ok_law_input (F : FnF K mg "_law_input" "_law_input" s_law_input) (C : Cst K mg) (D : Def P w K mg base 2 "_law_draw" ["_law_box_here", "_law_many"] spDraw) (D2 : Def P w K mg base 3 "_law_word" ["_law_box_here"] spLWord) : Def P w K mg base 4 "_law_input" ["_law_box_here", "_law_most"] spLInput := by
  refine Def.of F sc_law_input (fun _ _ _ _ _ _ us hl => match us, hl with | [_, _], _ => rfl) (fun vs H Q E h => ?_) (fun f cdv A outer s H vs Q E hr h => ?_)
  · obtain ⟨bx, most, rfl, _⟩ := h; rfl
  · refine ⟨_, pss_one (ps_ret (pe_callTy call_tuple_of rfl C.tuple boot_tuple (pa_cons (pe_lc (own := [("_law_k", 2)]) (g := gName 2) (tt := tYes) rfl sc_law_input.nd (pi_range1 rfl C.range (pa_cons (pe_d D (hr.mono (by decide)) rfl (pa_cons (pv 0) (pa_cons (pe_op op_add (pv 1) pe_int) pa_nil))) pa_nil))
            (blkOk_by (N := ["_law_box_here", "_law_most", "_law_k"]) (sc := defScope s_law_input) (by decide +kernel)) (fun _ _ _ _ _ => pg_name (i := 2) sc_law_input.nd rfl (Or.inl rfl)) (fun _ _ _ _ _ => pts_nil)
            (fun _ _ _ _ _ => pe_d D2 hr rfl (pa_cons (pv 0) pa_nil))) pa_nil))), ?_⟩
    obtain ⟨bx, most, rfl, hb, hm2, k⟩ := h
    refine ⟨_, rfl, _, rfl, _, _, rfl, rfl, bx, most + 1, rfl, hb, by omega, by omega, fun H1 d hd hb1 k1 => ?_⟩
    refine ⟨(d : Int), rfl, by omega, by omega, fun D hD => ?_⟩
    have nD := hb1.free hD
    refine lc_any (n := (d : Int).toNat) (fun i H2 => ∃ ws : List Nat, H2 D = some (.lst (nats ws)) ∧ ws.length = i ∧ (∀ x ∈ ws, isW x) ∧ BoxAt H2 bx ∧ KeepB bx H1 H2)
      ⟨[], upd_same, rfl, fun x hx => (by cases hx), hb1.upd nD, (KeepB.refl _ _).new hD⟩ (fun i H2 hi _ => hi) (fun H2 _ => Nat.le_refl _) ?_ ?_
    · rintro i H2 x H3 hi ⟨ws, hL, hLl, cL, hb2, k2⟩ ⟨rfl, rfl⟩
      refine ⟨rfl, ?_⟩
      refine ⟨_, rfl, bx, rfl, hb2, fun H4 v hv hb4 k4 => ?_⟩
      have hD4 := k4.lst hL nD
      rw [Int.toNat_natCast] at hi
      refine ⟨_, hD4, by rw [nats_len, hLl]; exact Nat.lt_of_lt_of_le hi (Nat.le_trans (show d ≤ 61 by omega) (by decide)), ws ++ [v], ?_, by rw [List.length_append, hLl]; rfl, fun x hx => ?_, hb4.upd nD, (k2.trans k4).new hD⟩
      · rw [upd_same, nats_snoc]
      · rcases List.mem_append.mp hx with e | e
        · exact cL x e
        · rw [List.mem_singleton.mp e]; exact hv
    · rintro H2 ⟨ws, hL, hLl, cL, hb2, k2⟩
      rw [Int.toNat_natCast] at hLl
      refine ⟨D, _, rfl, .inl ⟨SqL.of hL, fun p hp => ?_⟩⟩
      have s3 := same_new (o := .tup (nats ws)) hp
      exact k _ p ws upd_same ⟨by omega, cL⟩ (hb2.same s3) ((k1.trans k2).trans (.of_same s3))
end
end K24
set_option Elab.async false
set_option autoImplicit false
set_option linter.all false
set_option maxRecDepth 100000
set_option maxHeartbeats 4000000
namespace K24
open PySem PySem.Spec PyProof.Rows L2
def OffB (bx : Bx) (a : Addr) : Prop := a ≠ bx.b ∧ a ≠ bx.c
/-- the notary and the box -/
structure Wld (CN : Addr) (T : Tb) (bx : Bx) (nt : Nt) (H : Hp) (b : Book) : Prop where
  box : BoxAt H bx
  cal : Cal CN T nt H b
  on : OffB bx nt.n
  od : OffB bx nt.d
  ol : OffB bx nt.l
theorem NotAt.kb {CN : Addr} {bx : Bx} {nt : Nt} {H H' : Hp} {b : Book} (N : NotAt CN nt H b) (k : KeepB bx H H') (o1 : OffB bx nt.n) (o2 : OffB bx nt.d) (o3 : OffB bx nt.l) : NotAt CN nt H' b := by
  obtain ⟨dx, z, e1⟩ := N.ob
  obtain ⟨ts, e3, e4⟩ := N.ls
  exact ⟨⟨dx, z, k _ _ e1 o1.1 o1.2⟩, k _ _ N.dc o2.1 o2.2, ⟨ts, k _ _ e3 o3.1 o3.2, e4⟩⟩
theorem Wld.moveB {CN : Addr} {T : Tb} {bx : Bx} {nt : Nt} {H H' : Hp} {b : Book} (w : Wld CN T bx nt H b) (k : KeepB bx H H') (hb : BoxAt H' bx) : Wld CN T bx nt H' b := ⟨hb, ⟨w.cal.nt.kb k w.on w.od w.ol, w.cal.t.tk (k.tk w.box)⟩, w.on, w.od, w.ol⟩
theorem Wld.moveN {CN : Addr} {T : Tb} {bx : Bx} {nt : Nt} {H H' : Hp} {b b' : Book} (w : Wld CN T bx nt H b) (k : Keep nt H H') (n : NotAt CN nt H' b') : Wld CN T bx nt H' b' := by
  obtain ⟨ns, acc, seed, h1, h2, h3⟩ := w.box.ex
  exact ⟨⟨ns, acc, seed, k _ _ h1 (Ne.symm w.on.1) (Ne.symm w.od.1) (Ne.symm w.ol.1), k _ _ h2 (Ne.symm w.on.2) (Ne.symm w.od.2) (Ne.symm w.ol.2), h3⟩, w.cal.keep k n, w.on, w.od, w.ol⟩
theorem keep_of_w {nt : Nt} {H H' : Hp} (k : KeepW nt [] H H') : Keep nt H H' := fun x o e h1 h2 h3 => k x o e h1 h2 h3 (by simp)
structure RunW (CR : Addr) (bx : Bx) (nt : Nt) (rn : Rn) (p : List Ins) (ws : List Nat) (n lv : Nat) (H : Hp) (b : Book) (sas : List Addr) (zs q : List Nat) : Prop where
  run : RunAt CR nt rn p ws n lv H b sas zs q
  r : OffB bx rn.r
  s : OffB bx rn.sl
  n : OffB bx rn.nl
theorem RunW.moveN {CN CR : Addr} {T : Tb} {bx : Bx} {nt : Nt} {rn : Rn} {p : List Ins} {ws : List Nat} {n lv : Nat} {H H' : Hp} {b b' : Book} {sas : List Addr} {zs q : List Nat} (R : RunW CR bx nt rn p ws n lv H b sas zs q) (w : Wld CN T bx nt H b) (k : Keep nt H H') (e : Ext b b') : RunW CR bx nt rn p ws n lv H' b' sas zs q :=
  ⟨R.run.keep w.cal.nt k e, R.r, R.s, R.n⟩
theorem RunW.moveB {CN CR : Addr} {T : Tb} {bx : Bx} {nt : Nt} {rn : Rn} {p : List Ins} {ws : List Nat} {n lv : Nat} {H H' : Hp} {b : Book} {sas : List Addr} {zs q : List Nat} (R : RunW CR bx nt rn p ws n lv H b sas zs q) (w : Wld CN T bx nt H b) (k : KeepB bx H H') : RunW CR bx nt rn p ws n lv H' b sas zs q := by
  obtain ⟨dx, ob⟩ := R.run.rob
  have tk := k.tk w.box
  exact ⟨⟨⟨dx, k _ _ ob R.r.1 R.r.2⟩, k _ _ R.run.sl R.s.1 R.s.2, R.run.sll, fun i a ha => (R.run.st i a ha).tk tk, k _ _ R.run.nl R.n.1 R.n.2, R.run.zl, R.run.zz, tk.tup R.run.ak, R.run.qb, R.run.rr, R.run.ns, R.run.nn⟩, R.r, R.s, R.n⟩
/-- the good papers -/
def GoodL (H : Hp) (b : Book) (pr : List Ins) (ws : List Nat) (gas : List Addr) : Prop := ∀ i a, gas[i]? = some a → ∃ pp, PapAt H a pp ∧ PapOk pp ∧ PapB b pr ws (trc pr ws i) pp
theorem GoodL.tk {H H' : Hp} {b b' : Book} {pr : List Ins} {ws : List Nat} {gas : List Addr} (g : GoodL H b pr ws gas) (k : TK H H') (e : Ext b b') : GoodL H' b' pr ws gas := fun i a ha => by
  obtain ⟨pp, h1, h2, h3⟩ := g i a ha
  exact ⟨pp, h1.tk k, h2, h3.ext e⟩
theorem QB.ok {b : Book} {pr : List Ins} {ws : List Nat} {st : St} {lv : Nat} {q : List Nat} (h : QB b pr ws st lv q) (po : PrOk pr) (wo : WsOk ws) : QOk q := by
  obtain ⟨pls, pt, ils, it, s, h1, h2, h3, hq⟩ := h.ex
  exact ⟨by rw [hq]; rfl, by rw [hq]; exact wo.hi, by rw [hq]; exact po.hi⟩
theorem QB.start {b : Book} {pr : List Ins} {ws : List Nat} {st : St} {lv : Nat} {q : List Nat} (h : QB b pr ws st lv q) : SealB b st (q.getD 4 0) := by
  obtain ⟨pls, pt, ils, it, s, h1, h2, h3, hq⟩ := h.ex
  rw [hq]
  exact h3
/-- all that stands while the law checks -/
structure AllS (CN CR : Addr) (T : Tb) (bx : Bx) (nt : Nt) (rn rn2 : Rn) (pr spr : List Ins) (ws sws : List Nat) (n lv : Nat) (sas : List Addr) (zs q : List Nat) (sas2 : List Addr) (zs2 q2 : List Nat) (D pa wa sga gga : Addr) (gas : List Addr) (H : Hp) (b : Book) : Prop where
  w : Wld CN T bx nt H b
  R : RunW CR bx nt rn pr ws n lv H b sas zs q
  R2 : RunW CR bx nt rn2 spr sws 16 4 H b sas2 zs2 q2
  G : GoodL H b pr ws gas
  fD : H D = some (.lst (gas.map V.ref))
  fpa : PrAt H pa pr
  fwa : WdAt H wa ws
  fsg : PrAt H sga spr
  fgg : WdAt H gga sws
  oD : OffB bx D
  lD : D ≠ nt.l
section
variable {CN CR : Addr} {T : Tb} {bx : Bx} {nt : Nt} {rn rn2 : Rn} {pr spr : List Ins} {ws sws : List Nat} {n lv : Nat} {sas : List Addr} {zs q : List Nat} {sas2 : List Addr} {zs2 q2 : List Nat} {D pa wa sga gga : Addr} {gas : List Addr} {H H' : Hp} {b b' : Book}
theorem AllS.moveN (A : AllS CN CR T bx nt rn rn2 pr spr ws sws n lv sas zs q sas2 zs2 q2 D pa wa sga gga gas H b) (k : Keep nt H H') (N : NotAt CN nt H' b') (e : Ext b b') : AllS CN CR T bx nt rn rn2 pr spr ws sws n lv sas zs q sas2 zs2 q2 D pa wa sga gga gas H' b' := by
  have tk := k.tk A.w.cal.nt
  exact ⟨A.w.moveN k N, A.R.moveN A.w k e, A.R2.moveN A.w k e, A.G.tk tk e, k.lst A.w.cal.nt A.fD A.lD, A.fpa.tk tk, tk.tup A.fwa, A.fsg.tk tk, tk.tup A.fgg, A.oD, A.lD⟩
theorem AllS.moveB (A : AllS CN CR T bx nt rn rn2 pr spr ws sws n lv sas zs q sas2 zs2 q2 D pa wa sga gga gas H b) (k : KeepB bx H H') (hb : BoxAt H' bx) : AllS CN CR T bx nt rn rn2 pr spr ws sws n lv sas zs q sas2 zs2 q2 D pa wa sga gga gas H' b := by
  have tk := k.tk A.w.box
  exact ⟨A.w.moveB k hb, A.R.moveB A.w k, A.R2.moveB A.w k, A.G.tk tk (.refl _), k _ _ A.fD A.oD.1 A.oD.2, A.fpa.tk tk, tk.tup A.fwa, A.fsg.tk tk, tk.tup A.fgg, A.oD, A.lD⟩
theorem AllS.same (A : AllS CN CR T bx nt rn rn2 pr spr ws sws n lv sas zs q sas2 zs2 q2 D pa wa sga gga gas H b) (s : Same H H') : AllS CN CR T bx nt rn rn2 pr spr ws sws n lv sas zs q sas2 zs2 q2 D pa wa sga gga gas H' b := A.moveN (.of_same s) (A.w.cal.nt.same s) (.refl _)
end
theorem gas_at {gas : List Addr} {i : Nat} (h : i < gas.length) : (gas.map V.ref)[i]? = some (V.ref gas[i]) := by
  rw [List.getElem?_map, List.getElem?_eq_getElem h]
  rfl
section
variable {P : Program} {w : World} {K : PySem.W.Frag} {mg : Str → Option Value} {base : Heap}
def spLaw (T : Tb) : Sp := fun vs H Q _ => ∃ (a : Addr) (ns : List Int), vs = [.ref a] ∧ SqL K H a (ns.map V.int) ∧ ns.length ≤ sizeLine ∧ AllT T H ∧ ∀ H', AllT T H' → Q (.bl true) H'
theorem sc_law : FnScope ["_law_script", "_law_box_here", "_law_notary", "_law_program_here", "_law_words", "_law_run", "_law_strange", "_law_given", "_law_many", "_law_second", "_law_good", "_law_before", "_law_k", "_law_paper", "_law_kind", "_law_told"] ["_law_script"] (defScope s_law) := ⟨rfl, rfl, rfl, by decide +kernel, rfl, by decide +kernel, by decide +kernel⟩
theorem ok_law {CN CR : Addr} {T : Tb} (F : FnF K mg "law" "law" s_law) (C : Cst K mg) (TN : NotC K CN) (TR : RunC K CR) (D1 : Def P w K mg base 1 "_law_box" ["_law_script", "_law_nodes"] (spLBox (K := K))) (D2 : Mkr P w K mg base 1 "Notary" CN ["self"] (spNotary CN)) (D3 : Def P w K mg base 5 "_law_program" ["_law_box_here", "_law_most"] spLProg)
    (D4 : Def P w K mg base 4 "_law_input" ["_law_box_here", "_law_most"] spLInput) (D5 : Mkr P w K mg base 12 "Run" CR ["self", "notary", "program", "words", "state", "level"] (spRunInit CN CR T)) (D6 : Def P w K mg base 1 "first_state" [] spFirst) (D7 : Def P w K mg base 2 "_law_draw" ["_law_box_here", "_law_many"] spDraw)
    (D8 : Mth P w K mg base 1 CR "seals" ["self"] (spRunSeals CR)) (D9 : Def P w K mg base 11 "make_paper" ["notary", "program", "words", "state"] (spPaper CN T)) (D10 : Mth P w K mg base 2 CR "state_at" ["self", "n"] (spRunState CR)) (D11 : Mth P w K mg base 1 CR "start" ["self"] (spRunStart CR))
    (D12 : Def P w K mg base 9 "check_paper" ["notary", "question", "before", "paper"] (spCheck CN T)) (D13 : Mth P w K mg base 1 CR "question" ["self"] (spRunQ CR)) (D14 : Def P w K mg base 1 "_law_same" ["_law_a", "_law_b"] spLSame) : Def P w K mg base 14 "law" ["_law_script"] (spLaw (K := K) T) := by
  refine Def.of F sc_law (fun _ _ _ _ _ _ us hl => match us, hl with | [_], _ => rfl) (fun vs H Q E h => ?_) (fun f cdv A outer s H vs Q E hr h => ?_)
  · obtain ⟨a, ns, rfl, _⟩ := h; rfl
  · have hr1 : ∀ j, j ≤ 13 → Room j (A.deeper (envOfC "law" (defScope s_law) s.heap.objs.size f cdv)) := fun j h => hr.mono h
    refine ⟨_, pss_cons (ps_set (i := 1) sc_law.nd rfl (Or.inl rfl) (pe_d D1 (hr1 1 (by decide)) rfl (pa_cons (pv 0) (pa_cons pe_int pa_nil))))
      (pss_cons (ps_set (i := 2) sc_law.nd rfl (Or.inr rfl) (pe_mk0 D2 (hr1 2 (by decide)) rfl))
      (pss_cons (ps_set (i := 3) sc_law.nd rfl (Or.inr rfl) (pe_d D3 (hr1 5 (by decide)) rfl (pa_cons (pv 1) (pa_cons pe_int pa_nil))))
      (pss_cons (ps_set (i := 4) sc_law.nd rfl (Or.inr rfl) (pe_d D4 (hr1 4 (by decide)) rfl (pa_cons (pv 1) (pa_cons pe_int pa_nil))))
      (pss_cons (ps_set (i := 5) sc_law.nd rfl (Or.inr rfl) (pe_mk D5 hr rfl (pa_cons (pv 2) (pa_cons (pv 3) (pa_cons (pv 4) (pa_cons (pe_d0 D6 (hr1 1 (by decide)) rfl) (pa_cons (pe_d D7 (hr1 2 (by decide)) rfl (pa_cons (pv 1) (pa_cons pe_int pa_nil))) pa_nil)))))))
      (pss_cons (ps_set (i := 6) sc_law.nd rfl (Or.inl rfl) (pv 3))
      (pss_cons (ps_set (i := 7) sc_law.nd rfl (Or.inl rfl) (pv 4))
      (C8.pss_cut (ps_if (pt_cmpR op_eq (pe_d D7 (hr1 2 (by decide)) rfl (pa_cons (pv 1) (pa_cons pe_int pa_nil))) pe_int (nomark _)) (pss_one (ps_set (i := 6) sc_law.nd rfl (Or.inl rfl) (pe_d D3 (hr1 5 (by decide)) rfl (pa_cons (pv 1) (pa_cons pe_int pa_nil))))) (pss_one (ps_set (i := 7) sc_law.nd rfl (Or.inl rfl) (pe_d D4 (hr1 4 (by decide)) rfl (pa_cons (pv 1) (pa_cons pe_int pa_nil))))))
      (pss_cons (ps_set (i := 8) sc_law.nd rfl (Or.inl rfl) (pe_callB call_len_seq rfl C.len PySem.boot_len (pa_cons (pe_m0 D8 (pv 5) TR.cl (hr1 1 (by decide))) pa_nil)))
      (pss_cons (ps_set (i := 9) sc_law.nd rfl (Or.inl rfl) (pe_mk D5 hr rfl (pa_cons (pv 2) (pa_cons (pv 6) (pa_cons (pv 7) (pa_cons (pe_d0 D6 (hr1 1 (by decide)) rfl) (pa_cons pe_int pa_nil)))))))
      (pss_cons (ps_setLc (i := 10) (own := [("_law_k", 12)]) (g := gName 12) (tt := tYes) rfl sc_law.nd rfl rfl (sw_true rfl rfl rfl (by rfl)) (pi_range1 rfl C.range (pa_cons (pv 8) pa_nil))
            (blkOk_by (N := ["_law_script", "_law_box_here", "_law_notary", "_law_program_here", "_law_words", "_law_run", "_law_strange", "_law_given", "_law_many", "_law_second", "_law_good", "_law_before", "_law_k", "_law_paper", "_law_kind", "_law_told"]) (sc := defScope s_law) (by decide +kernel)) (fun _ _ _ _ _ => pg_name (i := 12) sc_law.nd rfl (Or.inl rfl)) (fun _ _ _ _ _ => pts_nil)
            (fun _ _ _ _ _ => pe_d D9 (hr1 11 (by decide)) rfl (pa_cons (pv 2) (pa_cons (pv 3) (pa_cons (pv 4) (pa_cons (pe_m D10 (pv 5) TR.cl (hr1 2 (by decide)) (pa_cons (pv 12) pa_nil)) pa_nil))))))
      (pss_cons (ps_set (i := 11) sc_law.nd rfl (Or.inl rfl) (pe_m0 D11 (pv 5) TR.cl (hr1 1 (by decide))))
      (pss_cons (ps_for PassesOwn.never rfl (pi_range1 rfl C.range (pa_cons (pv 8) pa_nil)) (pg_name (i := 12) sc_law.nd rfl (Or.inl rfl))
        (pss_cons (ps_set (i := 11) sc_law.nd rfl (Or.inl rfl) (pe_d D12 (hr1 9 (by decide)) rfl (pa_cons (pv 2) (pa_cons (pe_m0 D13 (pv 5) TR.cl (hr1 1 (by decide))) (pa_cons (pv 11) (pa_cons (pe_ix ix_list (pv 10) (pv 12) (fun _ _ => rfl)) pa_nil))))))
        (pss_one (ps_if (pt_not (pt_val (pe_d D14 (hr1 1 (by decide)) rfl (pa_cons (pv 11) (pa_cons (pe_ix ix_tup (pe_m0 D8 (pv 5) TR.cl (hr1 1 (by decide))) (pv 12) (fun _ _ => rfl)) pa_nil))))) (pss_one (ps_ret pe_bl)) pss_nil))))
      (pss_cons (ps_set (i := 11) sc_law.nd rfl (Or.inl rfl) (pe_m0 D11 (pv 5) TR.cl (hr1 1 (by decide))))
      (pss_cons (ps_for PassesOwn.never rfl (pi_range1 rfl C.range (pa_cons (pv 8) pa_nil)) (pg_name (i := 12) sc_law.nd rfl (Or.inl rfl))
        (pss_cons (ps_set (i := 13) sc_law.nd rfl (Or.inl rfl) (pe_ix ix_list (pv 10) (pv 12) (fun _ _ => rfl)))
        (pss_cons (ps_set (i := 14) sc_law.nd rfl (Or.inl rfl) (pe_d D7 (hr1 2 (by decide)) rfl (pa_cons (pv 1) (pa_cons pe_int pa_nil))))
        (C8.pss_cut (ps_if (pt_cmpR op_eq (pv 14) pe_int (nomark _)) (pss_one (ps_set (i := 13) sc_law.nd rfl (Or.inl rfl) (pe_ix ix_list (pv 10) (pe_d D7 (hr1 2 (by decide)) rfl (pa_cons (pv 1) (pa_cons (pv 8) pa_nil))) (fun _ _ => rfl))))
          (pss_one (ps_if (pt_cmpR op_eq (pv 14) pe_int (nomark _)) (pss_one (ps_set (i := 13) sc_law.nd rfl (Or.inl rfl) (pe_d D9 (hr1 11 (by decide)) rfl (pa_cons (pv 2) (pa_cons (pv 6) (pa_cons (pv 7) (pa_cons (pe_m D10 (pv 9) TR.cl (hr1 2 (by decide)) (pa_cons (pe_d D7 (hr1 2 (by decide)) rfl (pa_cons (pv 1) (pa_cons pe_int pa_nil))) pa_nil)) pa_nil))))))) pss_nil)))
        (pss_cons (ps_set (i := 15) sc_law.nd rfl (Or.inl rfl) (pe_d D12 (hr1 9 (by decide)) rfl (pa_cons (pv 2) (pa_cons (pe_m0 D13 (pv 5) TR.cl (hr1 1 (by decide))) (pa_cons (pv 11) (pa_cons (pv 13) pa_nil))))))
        (C8.pss_cut (ps_if (pt_cmpR op_eq (pv 15) pe_int (nomark _)) (pss_one (ps_set (i := 15) sc_law.nd rfl (Or.inl rfl) (pe_d D12 (hr1 9 (by decide)) rfl (pa_cons (pv 2) (pa_cons (pe_m0 D13 (pv 5) TR.cl (hr1 1 (by decide))) (pa_cons (pv 11) (pa_cons (pe_ix ix_list (pv 10) (pv 12) (fun _ _ => rfl)) pa_nil))))))) pss_nil)
        (pss_cons (ps_if (pt_not (pt_val (pe_d D14 (hr1 1 (by decide)) rfl (pa_cons (pv 15) (pa_cons (pe_ix ix_tup (pe_m0 D8 (pv 5) TR.cl (hr1 1 (by decide))) (pv 12) (fun _ _ => rfl)) pa_nil))))) (pss_one (ps_ret pe_bl)) pss_nil)
        (pss_one (ps_set (i := 11) sc_law.nd rfl (Or.inl rfl) (pv 15))))))))))
      (pss_one (ps_ret pe_bl)))))))))))))))), ?_⟩
    obtain ⟨a, ns, rfl, ha, hl, ht, k⟩ := h
    have hLIM : LIM = 16000000 := rfl
    -- the box
    refine ⟨_, rfl, a, ns, rfl, ha, hl, fun bx H1 s1 nb nc hb1 => ?_⟩
    have ht1 := ht.tk (Same.tk s1)
    clear ha s1 nb nc ht
    -- the notary
    refine fun p dx hp hdx hne => ⟨p, dx, rfl, upd_same, fun nt H2 en hd hl2 N hk => ⟨rfl, ?_⟩⟩
    have s2 : Same H1 (upd (upd H1 dx (.own p)) p (.ins CN dx [])) := Same.trans (same_new hdx) (same_new (by rw [upd_ne (Ne.symm hne)]; exact hp))
    subst en
    have hbm := hb1.same s2
    have hb2 : BoxAt H2 bx := by
      obtain ⟨ns', acc, seed, h1, h2, h3⟩ := hbm.ex
      obtain ⟨n1, n2⟩ := hb1.free hp
      exact ⟨ns', acc, seed, hk _ _ h1 (Ne.symm n1), hk _ _ h2 (Ne.symm n2), h3⟩
    have ht2 : AllT T H2 := ht1.tk fun x o e ht => hk _ _ (s2 _ _ e) (ne_of_none e hp)
    have W2 : Wld CN T bx nt H2 [] := ⟨hb2, ⟨N, ht2⟩, hb1.free hp, hbm.free hd, hbm.free hl2⟩
    clear hd hl2 N hk s2 hbm hb2 ht2 ht1 hp hdx hne hb1
    -- program, words
    refine ⟨_, rfl, bx, 10, rfl, W2.box, by decide, by decide, fun H3 pa pr hpa po hb3 k3 => ?_⟩
    have W3 := W2.moveB k3 hb3
    refine ⟨_, rfl, bx, 6, rfl, hb3, by decide, fun H4 wa ws hwa wo hb4 k4 => ?_⟩
    have W4 := W3.moveB k4 hb4
    have hpa4 := hpa.tk (k4.tk hb3)
    clear hpa k3 k4 W2 W3 hb3 hb4
    simp only [L2.start, List.set_cons_succ, List.set_cons_zero, List.map_cons, List.map_nil, List.length_cons, List.length_nil, Nat.reduceAdd, Nat.reduceSub, List.replicate_succ, List.replicate_zero, List.cons_append, List.nil_append]
    -- the run
    refine ⟨_, rfl, _, rfl, _, rfl, rfl, fun sa H5 s5 hsa => ?_⟩
    have W5 := W4.moveN (.of_same s5) (W4.cal.nt.same s5)
    refine ⟨_, rfl, bx, 5, rfl, W5.box, by decide, by decide, fun H6 lv hlv hb6 k6 => ?_⟩
    have W6 := W5.moveB k6 hb6
    have tk6 : TK H4 H6 := (Same.tk s5).trans (k6.tk W5.box)
    have hsa6 := hsa.tk (k6.tk W5.box)
    have hpa6 := hpa4.tk tk6
    have hwa6 := tk6.tup hwa
    clear hpa4 hwa hsa k6 s5 W4 W5 hb6
    refine fun r dxr hr0 hdr hner => ?_
    have s7 : Same H6 (upd (upd H6 dxr (.own r)) r (.ins CR dxr [])) := Same.trans (same_new hdr) (same_new (by rw [upd_ne (Ne.symm hner)]; exact hr0))
    have W6m := W6.moveN (.of_same s7) (W6.cal.nt.same s7)
    refine ⟨nt, r, dxr, pa, wa, sa, pr, ws, lv, [], rfl, upd_same, (W6.cal.nt.nel hr0).1, W6m.cal, hpa6.tk (Same.tk s7), po, s7 _ _ hwa6, wo, hsa6.tk (Same.tk s7), by omega, by show 0 + 20000 ≤ LIM; omega, fun H7 b7 rn sas zs q er fsl fnl RA7 kw7 n7 ext7 le7 => ⟨rfl, ?_⟩⟩
    have kp7 : Keep nt H6 H7 := keep_of_w ((Keep.w (S := []) (Keep.of_same s7)).fresh kw7 fun x hx => .inl (by rw [List.mem_singleton.mp hx]; exact hr0))
    have W7 := W6.moveN kp7 n7
    have R7 : RunW CR bx nt rn pr ws (2 ^ lv) lv H7 b7 sas zs q := ⟨RA7, by rw [er]; exact W6.box.free hr0, W6m.box.free fsl, W6m.box.free fnl⟩
    have hpa7 := hpa6.tk (kp7.tk W6.cal.nt)
    have hwa7 := (kp7.tk W6.cal.nt).tup hwa6
    have le7 : b7.length ≤ 0 + 20000 := le7
    have hn1 : 1 ≤ 2 ^ lv := Nat.pow_pos (by decide)
    have hn16 : 2 ^ lv ≤ 16 := Nat.le_trans (Nat.pow_le_pow_right (by decide) (show lv ≤ 4 by omega)) (by decide)
    subst er
    clear fsl fnl RA7 kw7 s7 W6m W6 hpa6 hwa6 hsa6 kp7 tk6 n7 ext7 hr0 hdr hner
    generalize 2 ^ lv = n at R7 hn1 hn16
    -- strange, given
    refine ⟨_, rfl, _, rfl, ?_⟩
    simp only [L2.start, List.set_cons_succ, List.set_cons_zero, List.map_cons, List.map_nil, List.length_cons, List.length_nil, Nat.reduceAdd, Nat.reduceSub, List.replicate_succ, List.replicate_zero, List.cons_append, List.nil_append]
    refine ⟨fun σ H' => ∃ (sga gga : Addr) (spr : List Ins) (sws : List Nat), σ = [some (.ref a), some (.ref bx.b), some (.ref nt.n), some (.ref pa), some (.ref wa), some (.ref rn.r), some (.ref sga), some (.ref gga), none, none, none, none, none, none, none, none] ∧ PrAt H' sga spr ∧ PrOk spr ∧ WdAt H' gga sws ∧ WsOk sws ∧ BoxAt H' bx ∧ KeepB bx H7 H', ?_, ?_⟩
    · refine ⟨_, rfl, bx, 2, rfl, W7.box, by decide, by decide, fun H8 d8 hd8 hb8 k8 => ⟨rfl, _, rfl, ?_⟩⟩
      cases decide (V.int (d8 : Int) = V.int 0) with
      | true => exact iteT ⟨_, rfl, bx, 10, rfl, hb8, by decide, by decide, fun H9 sga spr h1 h2 hb9 k9 => ⟨sga, wa, spr, ws, rfl, h1, h2, (k9.tk hb8).tup ((k8.tk W7.box).tup hwa7), wo, hb9, k8.trans k9⟩⟩
      | false => exact iteF ⟨_, rfl, bx, 6, rfl, hb8, by decide, fun H9 gga sws h1 h2 hb9 k9 => ⟨pa, gga, pr, sws, rfl, (hpa7.tk (k8.tk W7.box)).tk (k9.tk hb8), po, h1, h2, hb9, k8.trans k9⟩⟩
    rintro σ H8 ⟨sga, gga, spr, sws, rfl, hsg, spo, hgg, swo, hb8, k8⟩
    have W8 := W7.moveB k8 hb8
    have R8 := R7.moveB W7 k8
    have hpa8 := hpa7.tk (k8.tk W7.box)
    have hwa8 := (k8.tk W7.box).tup hwa7
    clear W7 R7 hpa7 hwa7 hb8 k8
    -- many
    obtain ⟨dx8, ob8⟩ := R8.run.rob
    refine ⟨_, rfl, rn.r, dx8, _, rfl, ob8, rnfl_no _ _ (by decide +kernel) (by decide +kernel) (by decide +kernel) (by decide +kernel) (by decide +kernel) (by decide +kernel), nt, rn, pr, ws, n, lv, b7, sas, zs, q, rfl, R8.run, fun tz H9 s9 hz9 => ?_⟩
    refine ⟨tz, _, rfl, .inr (SqT.of hz9), ?_⟩
    rw [nats_len, R8.run.zl]
    simp only [L2.start, List.set_cons_succ, List.set_cons_zero, List.map_cons, List.map_nil, List.length_cons, List.length_nil, Nat.reduceAdd, Nat.reduceSub, List.replicate_succ, List.replicate_zero, List.cons_append, List.nil_append]
    have kp9 : Keep nt H8 H9 := .of_same s9
    have W9 := W8.moveN kp9 (W8.cal.nt.same s9)
    have R9 := R8.moveN W8 kp9 (.refl _)
    have hpa9 := hpa8.tk (Same.tk s9)
    have hwa9 := s9 _ _ hwa8
    have hsg9 := hsg.tk (Same.tk s9)
    have hgg9 := s9 _ _ hgg
    clear W8 R8 hpa8 hwa8 hsg hgg s9 kp9 hz9
    -- the second run
    refine ⟨_, rfl, _, rfl, _, rfl, rfl, fun sa2 H10 s10 hsa2 => ?_⟩
    have kp10 : Keep nt H9 H10 := .of_same s10
    have W10 := W9.moveN kp10 (W9.cal.nt.same s10)
    have R10 := R9.moveN W9 kp10 (.refl _)
    refine fun r dxr hr0 hdr hner => ?_
    have s11 : Same H10 (upd (upd H10 dxr (.own r)) r (.ins CR dxr [])) := Same.trans (same_new hdr) (same_new (by rw [upd_ne (Ne.symm hner)]; exact hr0))
    have W10m := W10.moveN (.of_same s11) (W10.cal.nt.same s11)
    have tk10 := Same.tk s10
    have tk11 := Same.tk s11
    refine ⟨nt, r, dxr, sga, gga, sa2, spr, sws, 4, b7, rfl, upd_same, (W10.cal.nt.nel hr0).1, W10m.cal, (hsg9.tk tk10).tk tk11, spo, tk11.tup (tk10.tup hgg9), swo, hsa2.tk tk11, by decide, by omega, fun H12 b12 rn2 sas2 zs2 q2 er fsl fnl RA12 kw12 n12 ext12 le12 => ⟨rfl, ?_⟩⟩
    have kp12 : Keep nt H10 H12 := keep_of_w ((Keep.w (S := []) (Keep.of_same s11)).fresh kw12 fun x hx => .inl (by rw [List.mem_singleton.mp hx]; exact hr0))
    have W12 := W10.moveN kp12 n12
    have R12 := R10.moveN W10 kp12 ext12
    have tk12 := kp12.tk W10.cal.nt
    have R2 : RunW CR bx nt rn2 spr sws 16 4 H12 b12 sas2 zs2 q2 := ⟨RA12, by rw [er]; exact W10.box.free hr0, W10m.box.free fsl, W10m.box.free fnl⟩
    have hpa12 := (hpa9.tk tk10).tk tk12
    have hwa12 : WdAt H12 wa ws := tk12.tup (tk10.tup hwa9)
    have hsg12 := (hsg9.tk tk10).tk tk12
    have hgg12 : WdAt H12 gga sws := tk12.tup (tk10.tup hgg9)
    subst er
    clear RA12 fsl fnl kw12 n12 kp12 tk12 W10 R10 W10m W9 R9 hpa9 hwa9 hsg9 hgg9 hsa2 tk10 tk11 s10 s11 kp10 hr0 hdr hner ext12
    simp only [L2.start, List.set_cons_succ, List.set_cons_zero, List.map_cons, List.map_nil, List.length_cons, List.length_nil, Nat.reduceAdd, Nat.reduceSub, List.replicate_succ, List.replicate_zero, List.cons_append, List.nil_append]
    -- the good papers
    have tok := fun i (hi : i ≤ 1000) => trc_ok po wo i hi
    have stok := fun i (hi : i ≤ 1000) => trc_ok spo swo i hi
    refine ⟨_, rfl, (n : Int), rfl, by omega, by omega, fun D hD => ?_⟩
    have nD := W12.cal.nt.nel hD
    refine lc_any (n := (n : Int).toNat) (fun i H => ∃ (gas : List Addr) (b' : Book), H D = some (.lst (gas.map V.ref)) ∧ gas.length = i ∧ GoodL H b' pr ws gas ∧ Keep nt H12 H ∧ NotAt CN nt H b' ∧ Ext b12 b' ∧ b'.length ≤ b12.length + 1000 * i)
      ⟨[], b12, upd_same, rfl, fun i a ha => (by simp at ha), (Keep.refl _ _).upd hD, W12.cal.nt.upd nD, .refl _, Nat.le_refl _⟩ (fun i H hi _ => hi) (fun H _ => Nat.le_refl _) ?_ ?_
    · rintro i H13 x H13' hi ⟨gas, b13, hL, hLl, G, kp13, n13, e13, le13⟩ ⟨rfl, rfl⟩
      rw [Int.toNat_natCast] at hi
      have W13 := W12.moveN kp13 n13
      have R13 := R12.moveN W12 kp13 e13
      have tk13 := kp13.tk W12.cal.nt
      obtain ⟨dx13, ob13⟩ := R13.run.rob
      obtain ⟨so, spos, swr⟩ := tok i (by omega)
      refine ⟨rfl, ?_⟩
      refine ⟨_, rfl, _, rfl, _, rfl, _, rfl, rn.r, dx13, _, rfl, ob13, rnfl_no _ _ (by decide +kernel) (by decide +kernel) (by decide +kernel) (by decide +kernel) (by decide +kernel) (by decide +kernel), _, rfl, nt, rn, pr, ws, n, lv, i, b13, sas, zs, q, by rw [show (0 : Int) + (i : Int) = (i : Int) by omega]; rfl, R13.run, by omega, fun sta hst => ?_⟩
      refine ⟨nt, pa, wa, sta, pr, ws, trc pr ws i, b13, rfl, W13.cal, hpa12.tk tk13, po, tk13.tup hwa12, wo, hst, so, spos, by omega, by omega, fun H14 b14 pp0 pp PB PO PA kp14 n14 e14 le14 => ?_⟩
      have hL14 := kp14.lst n13 hL nD.2.2
      refine ⟨_, hL14, by rw [List.length_map, hLl]; exact Nat.lt_of_lt_of_le hi (Nat.le_trans hn16 (by decide)), gas ++ [pp0], b14, by rw [upd_same, List.map_append]; rfl, by rw [List.length_append, hLl]; rfl, fun j a ha => ?_, (kp13.trans kp14).upd hD, n14.upd nD, e13.trans e14, by omega⟩
      have tkD : TK H14 (upd H14 D (.lst (gas.map V.ref ++ [V.ref pp0]))) := tk_upd_lst hL14
      by_cases hj : j < gas.length
      · rw [List.getElem?_append_left hj] at ha
        obtain ⟨pp', q1, q2, q3⟩ := G j a ha
        exact ⟨pp', (q1.tk (kp14.tk n13)).tk tkD, q2, q3.ext e14⟩
      · have e : j = gas.length := by
          have := (List.getElem?_eq_some_iff.mp ha).1
          rw [List.length_append] at this
          simp at this
          omega
        subst e
        rw [mid_at gas pp0 []] at ha
        cases ha
        rw [hLl]
        exact ⟨pp, PA.tk tkD, PO, PB⟩
    rintro H13 ⟨gas, b13, hL, hLl, G, kp13, n13, e13, le13⟩
    rw [Int.toNat_natCast] at hLl le13
    have tk13 := kp13.tk W12.cal.nt
    have oD := W12.box.free hD
    have A13 : AllS CN CR T bx nt rn rn2 pr spr ws sws n lv sas zs q sas2 zs2 q2 D pa wa sga gga gas H13 b13 := ⟨W12.moveN kp13 n13, R12.moveN W12 kp13 e13, R2.moveN W12 kp13 e13, G, hL, hpa12.tk tk13, tk13.tup hwa12, hsg12.tk tk13, tk13.tup hgg12, oD, nD.2.2⟩
    clear hL G kp13 n13 W12 R12 R2 hpa12 hwa12 hsg12 hgg12 hD nD oD tk13
    have lb : b13.length ≤ 60000 := by omega
    clear le13 le12 le7 e13
    simp only [L2.start, List.set_cons_succ, List.set_cons_zero, List.map_cons, List.map_nil, List.length_cons, List.length_nil, Nat.reduceAdd, Nat.reduceSub, List.replicate_succ, List.replicate_zero, List.cons_append, List.nil_append]
    -- the first walk
    obtain ⟨dx13, ob13⟩ := A13.R.run.rob
    refine ⟨_, rfl, rn.r, dx13, _, rfl, ob13, rnfl_no _ _ (by decide +kernel) (by decide +kernel) (by decide +kernel) (by decide +kernel) (by decide +kernel) (by decide +kernel), nt, rn, pr, ws, n, lv, b13, sas, zs, q, rfl, A13.R.run, ?_⟩
    have qok := A13.R.run.qb.ok po wo
    have zl := A13.R.run.zl
    simp only [L2.start, List.set_cons_succ, List.set_cons_zero, List.map_cons, List.map_nil, List.length_cons, List.length_nil, Nat.reduceAdd, Nat.reduceSub, List.replicate_succ, List.replicate_zero, List.cons_append, List.nil_append]
    -- what each check answers
    have own : ∀ (i : Nat) (hi : i < n) (b' : Book) (bef : Nat) (pp : Pap), QB b' pr ws st0 lv q → SealB b' (trc pr ws i) bef → SealB b' (trc pr ws (i + 1)) (zs[i]'(by rw [zl]; exact hi)) → PapB b' pr ws (trc pr ws i) pp → checkB b' q bef pp = zs[i]'(by rw [zl]; exact hi) := fun i hi b' bef pp qb hb hz PB => by
      obtain ⟨so, spos, swr⟩ := tok i (by omega)
      exact check_own po wo so spos (by omega) qb hb hz PB
    refine ⟨_, rfl, (n : Int), rfl, by omega, by omega, ?_⟩
    refine for_range (lo := 0) (n := (n : Int).toNat) (fun i σ H' => ∃ (bef : Nat) (v12 : Option V), σ = [some (.ref a), some (.ref bx.b), some (.ref nt.n), some (.ref pa), some (.ref wa), some (.ref rn.r), some (.ref sga), some (.ref gga), some (.int (n : Int)), some (.ref rn2.r), some (.ref D), some (.int (bef : Int)), v12, none, none, none] ∧
      AllS CN CR T bx nt rn rn2 pr spr ws sws n lv sas zs q sas2 zs2 q2 D pa wa sga gga gas H' b13 ∧ SealB b13 (trc pr ws i) bef ∧ i ≤ n) ⟨_, none, rfl, A13, A13.R.run.qb.start, Nat.zero_le _⟩ ?_ ?_
    · rintro i σ H14 hi ⟨bef, v12, rfl, A, hbef, hin⟩
      rw [Int.toNat_natCast] at hi
      have hil : i < zs.length := by rw [zl]; exact hi
      have hig : i < gas.length := by rw [hLl]; exact hi
      obtain ⟨pp, q1, q2', q3⟩ := A.G i _ (List.getElem?_eq_getElem hig)
      obtain ⟨dx, ob⟩ := A.R.run.rob
      refine ⟨_, rfl, _, rfl, rn.r, dx, _, rfl, ob, rnfl_no _ _ (by decide +kernel) (by decide +kernel) (by decide +kernel) (by decide +kernel) (by decide +kernel) (by decide +kernel), nt, rn, pr, ws, n, lv, b13, sas, zs, q, rfl, A.R.run, ?_⟩
      refine ⟨_, rfl, _, rfl, _, rfl, D, _, _, .ref gas[i], rfl, rfl, SqL.of A.fD, at_of (j := i) (by omega) (gas_at hig), ?_⟩
      refine ⟨nt, rn.ak, gas[i], q, bef, pp, b13, rfl, A.w.cal, A.R.run.ak, qok, q1, q2', by omega, fun H15 kp15 n15 => ?_⟩
      have hz := A.R.run.zz i _ (List.getElem?_eq_getElem hil)
      rw [own i hi b13 bef pp A.R.run.qb hbef hz q3]
      have A15 := A.moveN kp15 n15 (.refl _)
      simp only [L2.start, List.set_cons_succ, List.set_cons_zero, List.map_cons, List.map_nil, List.length_cons, List.length_nil, Nat.reduceAdd, Nat.reduceSub, List.replicate_succ, List.replicate_zero, List.cons_append, List.nil_append]
      obtain ⟨dx15, ob15⟩ := A15.R.run.rob
      refine ⟨_, rfl, _, rfl, rn.r, dx15, _, rfl, ob15, rnfl_no _ _ (by decide +kernel) (by decide +kernel) (by decide +kernel) (by decide +kernel) (by decide +kernel) (by decide +kernel), nt, rn, pr, ws, n, lv, b13, sas, zs, q, rfl, A15.R.run, fun tz H16 s16 hz16 => ?_⟩
      refine ⟨_, rfl, tz, _, _, .int (zs[i] : Int), rfl, rfl, SqT.of hz16, at_of (j := i) (by omega) (nats_at (List.getElem?_eq_getElem hil)), zs[i], zs[i], rfl, _, rfl, ?_⟩
      rw [decide_eq_true rfl]
      exact iteF ⟨_, _, rfl, A15.same s16, hz, hi⟩
    rintro σ H14 ⟨bef, v12, rfl, A14, _, _⟩
    -- the second walk
    obtain ⟨dx14, ob14⟩ := A14.R.run.rob
    refine ⟨_, rfl, rn.r, dx14, _, rfl, ob14, rnfl_no _ _ (by decide +kernel) (by decide +kernel) (by decide +kernel) (by decide +kernel) (by decide +kernel) (by decide +kernel), nt, rn, pr, ws, n, lv, b13, sas, zs, q, rfl, A14.R.run, ?_⟩
    simp only [L2.start, List.set_cons_succ, List.set_cons_zero, List.map_cons, List.map_nil, List.length_cons, List.length_nil, Nat.reduceAdd, Nat.reduceSub, List.replicate_succ, List.replicate_zero, List.cons_append, List.nil_append]
    refine ⟨_, rfl, (n : Int), rfl, by omega, by omega, ?_⟩
    refine for_range (lo := 0) (n := (n : Int).toNat) (fun i σ H' => ∃ (bef : Nat) (v12 v13 v14 v15 : Option V) (b' : Book), σ = [some (.ref a), some (.ref bx.b), some (.ref nt.n), some (.ref pa), some (.ref wa), some (.ref rn.r), some (.ref sga), some (.ref gga), some (.int (n : Int)), some (.ref rn2.r), some (.ref D), some (.int (bef : Int)), v12, v13, v14, v15] ∧
      AllS CN CR T bx nt rn rn2 pr spr ws sws n lv sas zs q sas2 zs2 q2 D pa wa sga gga gas H' b' ∧ SealB b' (trc pr ws i) bef ∧ i ≤ n ∧ b'.length ≤ 60000 + 1000 * i) ⟨_, v12, none, none, none, b13, rfl, A14, A14.R.run.qb.start, Nat.zero_le _, by omega⟩ ?_ ?_
    · rintro i σ H15 hi ⟨bef, v12, v13, v14, v15, b15, rfl, A, hbef, hin, hlb⟩
      rw [Int.toNat_natCast] at hi
      have hil : i < zs.length := by rw [zl]; exact hi
      have hig : i < gas.length := by rw [hLl]; exact hi
      obtain ⟨pp0, g1, g2, g3⟩ := A.G i _ (List.getElem?_eq_getElem hig)
      refine ⟨_, rfl, _, rfl, D, _, _, .ref gas[i], rfl, rfl, SqL.of A.fD, at_of (j := i) (by omega) (gas_at hig), ?_⟩
      refine ⟨_, rfl, bx, 4, rfl, A.w.box, by decide, by decide, fun H16 kd hkd hb16 k16 => ?_⟩
      simp only [L2.start, List.set_cons_succ, List.set_cons_zero, List.map_cons, List.map_nil, List.length_cons, List.length_nil, Nat.reduceAdd, Nat.reduceSub, List.replicate_succ, List.replicate_zero, List.cons_append, List.nil_append]
      have A16 := A.moveB k16 hb16
      have g16 := g1.tk (k16.tk A.w.box)
      -- which paper
      refine ⟨fun σ H' => ∃ (pa' : Addr) (pp : Pap) (b' : Book), σ = [some (.ref a), some (.ref bx.b), some (.ref nt.n), some (.ref pa), some (.ref wa), some (.ref rn.r), some (.ref sga), some (.ref gga), some (.int (n : Int)), some (.ref rn2.r), some (.ref D), some (.int (bef : Int)), some (.int (0 + (i : Int))), some (.ref pa'), some (.int (kd : Int)), v15] ∧
        AllS CN CR T bx nt rn rn2 pr spr ws sws n lv sas zs q sas2 zs2 q2 D pa wa sga gga gas H' b' ∧ PapAt H' pa' pp ∧ PapOk pp ∧ Ext b15 b' ∧ b'.length ≤ b15.length + 1000, ?_, ?_⟩
      · refine ⟨_, rfl, rfl, _, rfl, ?_⟩
        cases decide (V.int (kd : Int) = V.int 0) with
        | true =>
          refine iteT ⟨_, rfl, _, rfl, _, rfl, bx, n, rfl, A16.w.box, hn1, by omega, fun H17 d17 hd17 hb17 k17 => ?_⟩
          have A17 := A16.moveB k17 hb17
          have hdg : d17 < gas.length := by rw [hLl]; exact hd17
          obtain ⟨pp1, f1, f2, f3⟩ := A17.G d17 _ (List.getElem?_eq_getElem hdg)
          exact ⟨D, _, _, .ref gas[d17], rfl, rfl, SqL.of A17.fD, atI_nat (j := d17) (gas_at hdg), gas[d17], pp1, b15, rfl, A17, f1, f2, .refl _, by omega⟩
        | false =>
          refine iteF ⟨_, rfl, rfl, _, rfl, ?_⟩
          cases decide (V.int (kd : Int) = V.int 1) with
          | false => exact iteF ⟨gas[i], pp0, b15, rfl, A16, g16, g2, .refl _, by omega⟩
          | true =>
            obtain ⟨dx2, ob2⟩ := A16.R2.run.rob
            refine iteT ⟨_, rfl, _, rfl, _, rfl, _, rfl, rn2.r, dx2, _, rfl, ob2, rnfl_no _ _ (by decide +kernel) (by decide +kernel) (by decide +kernel) (by decide +kernel) (by decide +kernel) (by decide +kernel), _, rfl, bx, 16, rfl, A16.w.box, by decide, by decide, fun H17 d17 hd17 hb17 k17 => ?_⟩
            have A17 := A16.moveB k17 hb17
            obtain ⟨so2, spos2, swr2⟩ := stok d17 (by omega)
            refine ⟨nt, rn2, spr, sws, 16, 4, d17, b15, sas2, zs2, q2, rfl, A17.R2.run, by omega, fun sta hst => ?_⟩
            refine ⟨nt, sga, gga, sta, spr, sws, trc spr sws d17, b15, rfl, A17.w.cal, A17.fsg, spo, A17.fgg, swo, hst, so2, spos2, by omega, by omega, fun H18 b18 pa' pp PB PO PA kp18 n18 e18 le18 => ?_⟩
            exact ⟨pa', pp, b18, rfl, A17.moveN kp18 n18 e18, PA, PO, e18, le18⟩
      clear A16 g16 g1 g3 k16 hb16 A
      rintro σ H17 ⟨pa', pp, b17, rfl, A17, hpp, opp, e17, le17⟩
      have hbef17 := hbef.ext e17
      have hz := A17.R.run.zz i _ (List.getElem?_eq_getElem hil)
      obtain ⟨so, spos, swr⟩ := tok i (by omega)
      obtain ⟨dx17, ob17⟩ := A17.R.run.rob
      refine ⟨_, rfl, _, rfl, rn.r, dx17, _, rfl, ob17, rnfl_no _ _ (by decide +kernel) (by decide +kernel) (by decide +kernel) (by decide +kernel) (by decide +kernel) (by decide +kernel), nt, rn, pr, ws, n, lv, b17, sas, zs, q, rfl, A17.R.run, ?_⟩
      refine ⟨_, rfl, _, rfl, nt, rn.ak, pa', q, bef, pp, b17, rfl, A17.w.cal, A17.R.run.ak, qok, hpp, opp, by omega, fun H18 kp18 n18 => ?_⟩
      have A18 := A17.moveN kp18 n18 (.refl _)
      have snd : checkB b17 q bef pp = 0 ∨ checkB b17 q bef pp = zs[i] := check_sound po wo so spos (by omega) A17.R.run.qb hbef17 hz
      simp only [L2.start, List.set_cons_succ, List.set_cons_zero, List.map_cons, List.map_nil, List.length_cons, List.length_nil, Nat.reduceAdd, Nat.reduceSub, List.replicate_succ, List.replicate_zero, List.cons_append, List.nil_append]
      generalize checkB b17 q bef pp = told at snd
      refine ⟨fun σ H' => σ = [some (.ref a), some (.ref bx.b), some (.ref nt.n), some (.ref pa), some (.ref wa), some (.ref rn.r), some (.ref sga), some (.ref gga), some (.int (n : Int)), some (.ref rn2.r), some (.ref D), some (.int (bef : Int)), some (.int (0 + (i : Int))), some (.ref pa'), some (.int (kd : Int)), some (.int (zs[i] : Int))] ∧
        AllS CN CR T bx nt rn rn2 pr spr ws sws n lv sas zs q sas2 zs2 q2 D pa wa sga gga gas H' b17, ?_, ?_⟩
      · refine ⟨_, rfl, rfl, _, rfl, ?_⟩
        rw [dec_nat0]
        by_cases h0 : told = 0
        · rw [decide_eq_true h0]
          obtain ⟨pp1, f1, f2, f3⟩ := A18.G i _ (List.getElem?_eq_getElem hig)
          obtain ⟨dx18, ob18⟩ := A18.R.run.rob
          refine iteT ⟨_, rfl, _, rfl, rn.r, dx18, _, rfl, ob18, rnfl_no _ _ (by decide +kernel) (by decide +kernel) (by decide +kernel) (by decide +kernel) (by decide +kernel) (by decide +kernel), nt, rn, pr, ws, n, lv, b17, sas, zs, q, rfl, A18.R.run, ?_⟩
          refine ⟨_, rfl, _, rfl, _, rfl, D, _, _, .ref gas[i], rfl, rfl, SqL.of A18.fD, at_of (j := i) (by omega) (gas_at hig), ?_⟩
          refine ⟨nt, rn.ak, gas[i], q, bef, pp1, b17, rfl, A18.w.cal, A18.R.run.ak, qok, f1, f2, by omega, fun H19 kp19 n19 => ?_⟩
          rw [own i hi b17 bef pp1 A18.R.run.qb hbef17 hz f3]
          exact ⟨rfl, A18.moveN kp19 n19 (.refl _)⟩
        · rw [decide_eq_false h0]
          have et : told = zs[i] := snd.resolve_left h0
          subst et
          exact iteF ⟨rfl, A18⟩
      clear A18 kp18 n18 A17 hpp snd
      rintro σ H19 ⟨rfl, A19⟩
      obtain ⟨dx19, ob19⟩ := A19.R.run.rob
      refine ⟨_, rfl, _, rfl, rn.r, dx19, _, rfl, ob19, rnfl_no _ _ (by decide +kernel) (by decide +kernel) (by decide +kernel) (by decide +kernel) (by decide +kernel) (by decide +kernel), nt, rn, pr, ws, n, lv, b17, sas, zs, q, rfl, A19.R.run, fun tz H20 s20 hz20 => ?_⟩
      refine ⟨_, rfl, tz, _, _, .int (zs[i] : Int), rfl, rfl, SqT.of hz20, at_of (j := i) (by omega) (nats_at (List.getElem?_eq_getElem hil)), zs[i], zs[i], rfl, _, rfl, ?_⟩
      rw [decide_eq_true rfl]
      exact iteF ⟨_, rfl, zs[i], _, _, _, _, b17, rfl, A19.same s20, hz, hi, by omega⟩
    · rintro σ H15 ⟨bef, v12, v13, v14, v15, b15, rfl, A, _⟩
      exact k H15 A.w.cal.t
end
end K24
set_option Elab.async false
set_option autoImplicit false
set_option linter.all false
set_option maxRecDepth 100000
set_option maxHeartbeats 4000000
/-! All facts, and the law's promise from them. -/
namespace K24
open PySem PySem.Spec PyProof.Rows L2
/-- the code objects with a table -/
structure Cd where
  l : Addr
  p : Addr
  i : Addr
  g : Addr
  w : Addr
  f : Addr
  a : Addr
  r : Addr
def FnG0 (K : PySem.W.Frag) (mg : Str → Option Value) (x : Str) (st : Stmt) (c : Addr) : Prop := ∃ f fd, FunG K x st c f fd ∧ mg x = some (.ref f)
theorem FnG0.full {K : PySem.W.Frag} {mg : Str → Option Value} {base : Heap} {x : Str} {st : Stmt} {c t : Addr} (F : FnG0 K mg x st c) (T : TabC base mg c t) : FnG K mg base x st t := by
  obtain ⟨f, fd, h1, h2⟩ := F
  exact ⟨c, f, fd, h1, h2, T⟩
def tabsL (D : Cd) (T : Tb) : List (Addr × Addr) := [(D.l, T.l), (D.p, T.p), (D.i, T.i), (D.g, T.g), (D.w, T.w), (D.f, T.f), (D.a, T.a), (D.r, T.r)]
/-- what the head must show -/
structure Facts (K : PySem.W.Frag) (mg : Str → Option Value) (CN CT CR : Addr) (D : Cd) : Prop where
  cst : Cst K mg
  nc : NotC K CN
  wc : WTreeC K CT
  rc : RunC K CR
  m_init : FnI K mg "Notary" CN "Notary.__init__" s_Notary_init
  m_seal : FnM K CN "seal" "Notary.seal" s_Notary_seal
  m_find : FnM K CN "find" "Notary.find" s_Notary_find
  t_init : FnI K mg "WordTree" CT "WordTree.__init__" s_WordTree_init
  t_check : FnM K CT "check" "WordTree.check" s_WordTree_check
  t_set : FnM K CT "set_word" "WordTree.set_word" s_WordTree_set_word
  t_root : FnM K CT "root" "WordTree.root" s_WordTree_root
  r_init : FnI K mg "Run" CR "Run.__init__" s_Run_init
  r_follow : FnM K CR "follow" "Run.follow" s_Run_follow
  r_question : FnM K CR "question" "Run.question" s_Run_question
  r_start : FnM K CR "start" "Run.start" s_Run_start
  r_seals : FnM K CR "seals" "Run.seals" s_Run_seals
  r_state : FnM K CR "state_at" "Run.state_at" s_Run_state_at
  f_question : FnF K mg "question_states" "question" s_question
  f_is_number : FnF K mg "is_number" "is_number" s_is_number
  f_is_word : FnF K mg "is_word" "is_word" s_is_word
  f_is_label : FnG0 K mg "is_label" s_is_label D.l
  f_is_parts : FnG0 K mg "is_parts" s_is_parts D.p
  f_is_register : FnF K mg "is_register" "is_register" s_is_register
  f_is_place : FnF K mg "is_place" "is_place" s_is_place
  f_operand_kinds : FnF K mg "operand_kinds" "operand_kinds" s_operand_kinds
  f_is_operand : FnF K mg "is_operand" "is_operand" s_is_operand
  f_is_instruction : FnG0 K mg "is_instruction" s_is_instruction D.i
  f_is_program : FnG0 K mg "is_program" s_is_program D.g
  f_are_words : FnG0 K mg "are_words" s_are_words D.w
  f_is_input : FnF K mg "is_input" "is_input" s_is_input
  f_is_state : FnF K mg "is_state" "is_state" s_is_state
  f_first_state : FnF K mg "first_state" "first_state" s_first_state
  f_with_register : FnF K mg "with_register" "with_register" s_with_register
  f_with_place : FnF K mg "with_place" "with_place" s_with_place
  f_with_status : FnF K mg "with_status" "with_status" s_with_status
  f_computed : FnF K mg "computed" "computed" s_computed
  f_step_memory : FnF K mg "step_memory" "step_memory" s_step_memory
  f_step_input : FnF K mg "step_input" "step_input" s_step_input
  f_step_code : FnF K mg "step_code" "step_code" s_step_code
  f_step : FnF K mg "step" "step" s_step
  f_height_of : FnF K mg "height_of" "height_of" s_height_of
  f_leaf_count : FnF K mg "leaf_count" "leaf_count" s_leaf_count
  f_rows_of : FnF K mg "rows_of" "rows_of" s_rows_of
  f_path_in : FnF K mg "path_in" "path_in" s_path_in
  f_root_of : FnF K mg "root_of" "root_of" s_root_of
  f_path_of : FnF K mg "path_of" "path_of" s_path_of
  f_root_by : FnF K mg "root_by" "root_by" s_root_by
  f_word_leaves : FnF K mg "word_leaves" "word_leaves" s_word_leaves
  f_code_at : FnF K mg "code_at" "code_at" s_code_at
  f_code_leaves : FnF K mg "code_leaves" "code_leaves" s_code_leaves
  f_memory_root : FnF K mg "memory_root" "memory_root" s_memory_root
  f_written_chain : FnF K mg "written_chain" "written_chain" s_written_chain
  f_program_root : FnF K mg "program_root" "program_root" s_program_root
  f_input_root : FnF K mg "input_root" "input_root" s_input_root
  f_fields_of : FnF K mg "fields_of" "fields_of" s_fields_of
  f_state_seal : FnF K mg "state_seal" "state_seal" s_state_seal
  f_check_all : FnF K mg "check_all" "check_all" s_check_all
  f_code_path : FnF K mg "code_path" "code_path" s_code_path
  f_word_path : FnF K mg "word_path" "word_path" s_word_path
  f_make_paper : FnF K mg "make_paper" "make_paper" s_make_paper
  f_are_fields : FnG0 K mg "are_fields" s_are_fields D.f
  f_is_path : FnG0 K mg "is_path" s_is_path D.a
  f_is_state_row : FnG0 K mg "is_state_row" s_is_state_row D.r
  f_looked_at : FnF K mg "looked_at" "looked_at" s_looked_at
  f_has_form : FnF K mg "has_form" "has_form" s_has_form
  f_leads : FnF K mg "leads" "leads" s_leads
  f_shows_tree : FnF K mg "shows_tree" "shows_tree" s_shows_tree
  f_small_step : FnF K mg "small_step" "small_step" s_small_step
  f_fields_behind : FnF K mg "fields_behind" "fields_behind" s_fields_behind
  f_check_paper : FnF K mg "check_paper" "check_paper" s_check_paper
  f_law_same : FnF K mg "_law_same" "_law_same" s_law_same
  f_law_box : FnF K mg "_law_box" "_law_box" s_law_box
  f_law_load : FnF K mg "_law_load" "_law_load" s_law_load
  f_law_draw : FnF K mg "_law_draw" "_law_draw" s_law_draw
  f_law_word : FnF K mg "_law_word" "_law_word" s_law_word
  f_law_code : FnF K mg "_law_code" "_law_code" s_law_code
  f_law_program : FnF K mg "_law_program" "_law_program" s_law_program
  f_law_input : FnF K mg "_law_input" "_law_input" s_law_input
  f_law : FnF K mg "law" "law" s_law
section
variable {P : Program} {w : World} {K : PySem.W.Frag} {mg : Str → Option Value} {base : Heap}
theorem law_def {CN CT CR : Addr} {D : Cd} {T : Tb} (X : Facts K mg CN CT CR D) (B : ∀ p ∈ tabsL D T, TabC base mg p.1 p.2) : Def P w K mg base 14 "law" ["_law_script"] (spLaw (K := K) T) := by
  have bl : TabC base mg D.l T.l := B (D.l, T.l) (by simp [tabsL])
  have bp : TabC base mg D.p T.p := B (D.p, T.p) (by simp [tabsL])
  have bi : TabC base mg D.i T.i := B (D.i, T.i) (by simp [tabsL])
  have bg : TabC base mg D.g T.g := B (D.g, T.g) (by simp [tabsL])
  have bw : TabC base mg D.w T.w := B (D.w, T.w) (by simp [tabsL])
  have bf : TabC base mg D.f T.f := B (D.f, T.f) (by simp [tabsL])
  have ba : TabC base mg D.a T.a := B (D.a, T.a) (by simp [tabsL])
  have br : TabC base mg D.r T.r := B (D.r, T.r) (by simp [tabsL])
  have C := X.cst
  have d_is_number := ok_is_number (P := P) (w := w) (base := base) X.f_is_number C
  have d_is_word := ok_is_word X.f_is_word C d_is_number
  have d_is_label := ok_is_label (P := P) (w := w) (X.f_is_label.full bl) C
  have d_is_parts := ok_is_parts (X.f_is_parts.full bp) C d_is_number d_is_label
  have m_init := ok_Notary_init (P := P) (w := w) (base := base) X.m_init X.nc
  have m_seal := ok_Notary_seal X.m_seal X.nc C d_is_parts
  have m_find := ok_Notary_find X.m_find X.nc C d_is_parts
  have d_leaf := ok_leaf_count (P := P) (w := w) (base := base) X.f_leaf_count C
  have d_height := ok_height_of X.f_height_of C d_leaf
  have d_rows := ok_rows_of X.f_rows_of C X.nc d_height m_seal
  have d_path_in := ok_path_in (P := P) (w := w) (base := base) X.f_path_in C
  have d_root_of := ok_root_of X.f_root_of d_rows
  have d_path_of := ok_path_of X.f_path_of C d_height d_rows d_path_in
  have d_root_by := ok_root_by X.f_root_by X.nc m_find
  have t_init := ok_WordTree_init X.t_init C X.nc X.wc d_is_number d_leaf m_seal d_rows
  have t_check := ok_WordTree_check (P := P) (w := w) (mg := mg) (base := base) X.t_check C X.wc
  have t_root := ok_WordTree_root (P := P) (w := w) (mg := mg) (base := base) X.t_root X.wc
  have t_set := ok_WordTree_set_word X.t_set C X.nc X.wc t_check m_seal
  have d_reg := ok_is_register X.f_is_register d_is_number
  have d_place := ok_is_place X.f_is_place C d_is_number
  have d_kinds := ok_operand_kinds (P := P) (w := w) (base := base) X.f_operand_kinds C
  have d_operand := ok_is_operand X.f_is_operand d_reg d_is_word d_place
  have d_instr := ok_is_instruction (X.f_is_instruction.full bi) C d_kinds d_operand
  have d_program := ok_is_program (X.f_is_program.full bg) C d_instr
  have d_words := ok_are_words (X.f_are_words.full bw) C d_is_word
  have d_input := ok_is_input X.f_is_input C d_words
  have d_state := ok_is_state X.f_is_state C d_place d_words d_is_number
  have d_first := ok_first_state (P := P) (w := w) (base := base) X.f_first_state C
  have d_wr := ok_with_register (P := P) (w := w) (base := base) X.f_with_register
  have d_wp := ok_with_place (P := P) (w := w) (base := base) X.f_with_place
  have d_ws := ok_with_status (P := P) (w := w) (base := base) X.f_with_status
  have d_comp := ok_computed (P := P) (w := w) (base := base) X.f_computed C
  have d_mem := ok_step_memory X.f_step_memory C d_ws d_wr
  have d_inp := ok_step_input X.f_step_input C d_ws d_wr
  have d_code := ok_step_code X.f_step_code C d_ws d_wr d_wp d_mem d_inp d_comp
  have d_step := ok_step X.f_step C d_ws d_code
  have d_wl := ok_word_leaves X.f_word_leaves C X.nc m_seal
  have d_ca := ok_code_at (P := P) (w := w) (base := base) X.f_code_at C
  have d_cl := ok_code_leaves X.f_code_leaves C X.nc m_seal d_ca
  have d_mr := ok_memory_root X.f_memory_root d_wl d_root_of
  have d_ir := ok_input_root X.f_input_root d_wl d_root_of
  have d_pr := ok_program_root X.f_program_root d_cl d_root_of
  have d_wc := ok_written_chain X.f_written_chain X.nc m_seal
  have d_fo := ok_fields_of X.f_fields_of d_wc d_mr
  have d_ss := ok_state_seal X.f_state_seal C X.nc d_fo m_seal
  have d_all := ok_check_all X.f_check_all C d_program d_input d_state d_is_number
  have d_q := ok_question (x := "question_states") X.f_question C d_all d_pr d_ir d_ss
  have d_cp := ok_code_path X.f_code_path d_cl d_path_of
  have d_wpath := ok_word_path X.f_word_path d_wl d_path_of
  have r_follow := ok_Run_follow X.r_follow C X.nc X.wc X.rc t_init t_set t_root d_wc d_step m_seal
  have r_init := ok_Run_init X.r_init C X.rc d_all d_q d_leaf r_follow
  have r_q := ok_Run_question (P := P) (w := w) (mg := mg) (base := base) X.r_question X.rc
  have r_st := ok_Run_start (P := P) (w := w) (mg := mg) (base := base) X.r_start X.rc
  have r_se := ok_Run_seals (P := P) (w := w) (mg := mg) (base := base) X.r_seals C X.rc
  have r_sa := ok_Run_state_at X.r_state C X.rc d_is_number
  have d_mp := ok_make_paper X.f_make_paper C X.nc d_fo m_seal d_ss d_step d_ca d_cp d_wpath
  have d_af := ok_are_fields (X.f_are_fields.full bf) C d_is_number
  have d_ip := ok_is_path (X.f_is_path.full ba) C d_is_number
  have d_sr := ok_is_state_row (X.f_is_state_row.full br) C d_is_number d_is_word
  have d_la := ok_looked_at (P := P) (w := w) (base := base) X.f_looked_at C
  have d_hf := ok_has_form X.f_has_form C d_af d_sr d_is_word d_instr d_la d_ip
  have d_leads := ok_leads X.f_leads X.nc m_find d_root_by
  have d_shows := ok_shows_tree X.f_shows_tree d_leads
  have d_small := ok_small_step X.f_small_step C d_code
  have d_fb := ok_fields_behind X.f_fields_behind C X.nc d_small m_find d_root_by
  have d_check := ok_check_paper X.f_check_paper C X.nc d_hf m_find d_shows d_fb
  have l_same := ok_law_same (P := P) (w := w) (base := base) X.f_law_same C
  have l_box := ok_law_box (P := P) (w := w) (base := base) X.f_law_box C
  have l_load := ok_law_load (P := P) (w := w) (base := base) X.f_law_load C
  have l_draw := ok_law_draw X.f_law_draw C l_load
  have l_word := ok_law_word X.f_law_word l_draw
  have l_code := ok_law_code X.f_law_code l_draw l_word
  have l_prog := ok_law_program X.f_law_program C l_draw l_code
  have l_inp := ok_law_input X.f_law_input C l_draw l_word
  exact ok_law X.f_law C X.nc X.rc l_box m_init l_prog l_inp r_init d_first l_draw r_se d_mp r_sa r_st d_check r_q l_same
end
end K24
set_option Elab.async false
set_option autoImplicit false
set_option linter.all false
set_option maxRecDepth 100000
set_option maxHeartbeats 4000000
/-! The end: the law's promise is called once. The tables of the defs with generators are tracked by what is true of them (they grow), the script as it is. -/
namespace K24
open PySem PySem.Spec PyProof.Rows L2
abbrev tabAt (cs : List (Addr × Addr)) : List Addr := cs.map fun p => p.2
/-- tracked: the tables, and the script where it is not one of the top's own lists -/
def beginH (ts : List Addr) (sc : Addr → Option HO) : Hp := fun x => if x ∈ ts then some (.ext (TabF x)) else sc x
def scriptO (a : Addr) (u : HO) : Addr → Option HO := fun x => if x = a then some u else none
theorem beginH_tab {ts : List Addr} {sc : Addr → Option HO} {t : Addr} (h : t ∈ ts) : beginH ts sc t = some (.ext (TabF t)) := by
  unfold beginH
  rw [if_pos h]
theorem beginH_out {ts : List Addr} {sc : Addr → Option HO} {t : Addr} (h : t ∉ ts) : beginH ts sc t = sc t := by
  unfold beginH
  rw [if_neg h]
theorem scriptO_hit {a : Addr} {u : HO} : scriptO a u a = some u := if_pos rfl
theorem scriptO_of {a x : Addr} {u v : HO} (h : scriptO a u x = some v) : x = a ∧ v = u := by
  unfold scriptO at h
  split at h
  · rename_i e
    cases h
    exact ⟨e, rfl⟩
  · cases h
abbrev listO (vs : List Value) : Obj := { cls := .type "list", data := .seq vs.toArray }
abbrev tabO : Obj := { cls := .none, data := .fields #[] }
/-- how the call begins: what is tracked, and what of it the real heap holds -/
structure Begin (s : Shared) (cs : List (Addr × Addr)) (a : Addr) (vs : List Value) (H : Hp) : Prop where
  script : s.heap.get? a = some (listO vs)
  empty : ∀ t ∈ tabAt cs, s.heap.get? t = some tabO
  tabs : ∀ t ∈ tabAt cs, HTab H t
  rest : ∀ x u, H x = some u → x ∉ tabAt cs → x = a ∧ ∃ o ys, u = .frz o (.lst ys)
section
variable {P : Program} {w : World} {K : PySem.W.Frag} {mg mb : Str → Option Value} {s : Shared} {cs : List (Addr × Addr)} {a : Addr} {vs : List Value} {H : Hp}
/-- an object that is no list and no empty table is not tracked -/
theorem Begin.out (B : Begin s cs a vs H) {x : Addr} {o : Obj} (hx : s.heap.get? x = some o) (h1 : ∀ its k, o.data ≠ .seq its k) (h2 : o.data ≠ .fields #[]) : H x = none := by
  cases hH : H x with
  | none => rfl
  | some u =>
    exfalso
    by_cases ht : x ∈ tabAt cs
    · have e := B.empty x ht
      rw [hx] at e
      exact h2 (congrArg Obj.data (Option.some.inj e))
    · obtain ⟨rfl, _⟩ := B.rest x u hH ht
      have e := B.script
      rw [hx] at e
      exact h1 _ _ (congrArg Obj.data (Option.some.inj e))
theorem Begin.seen (B : Begin s cs a vs H) {x : Addr} {o : Obj} (hx : s.heap.get? x = some o) (h1 : ∀ its k, o.data ≠ .seq its k) (h2 : o.data ≠ .fields #[]) : (hidT s.heap H).get? x = some o := hidT_get hx (B.out hx h1 h2)
/-- a dict stands in the hidden heap as it stood -/
theorem Begin.ns (B : Begin s cs a vs H) {x : Addr} {m : Str → Option Value} (h : s.heap.Ns x m) : (hidT s.heap H).Ns x m := by
  obtain ⟨o, es, ep, hx, hd, hm⟩ := h
  refine ⟨o, es, ep, B.seen hx ?_ ?_, hd, hm⟩ <;> rw [hd]
  · exact fun _ _ z => nomatch z
  · exact fun z => nomatch z
theorem Begin.kin (B : Begin s cs a vs H) (X : K.In s.heap) (hK : ∀ x, H x ≠ none → K.lookup x = none) : K.In (hidT s.heap H) := by
  intro x o hx
  refine hidT_get (X x o hx) ?_
  cases hH : H x with
  | none => rfl
  | some u =>
    have e := hK x (by rw [hH]; exact fun z => nomatch z)
    rw [hx] at e
    cases e
/-- a def's code object and table, in the hidden heap -/
theorem Begin.tabC (B : Begin s cs a vs H) (hg : s.heap.Ns mainGlobals mg) (hbm : ∃ (bm : Addr) (ob : Obj), mg "__builtins__" = some (.ref bm) ∧ bm ≠ builtinsNs ∧ s.heap.get? bm = some ob ∧ ob.cls = .type "module" ∧ ob.dict = some builtinsNs ∧ ob.data = .plain)
    {c t : Addr} (ht : t ∈ tabAt cs) (C : PySem.W.CodeHd s.heap c t) : TabC (hidT s.heap H) mg c t := by
  have he := B.empty t ht
  have gt : mainGlobals ≠ t := fun z => by
    obtain ⟨o, es, ep, hx, hd, _⟩ := hg
    rw [z, he] at hx
    rw [← Option.some.inj hx] at hd
    cases hd
  refine ⟨?_, ?_, gt⟩
  · obtain ⟨o, us, file, tf, flags, tg, inF, text, tt, hx, c0, c1, c2, more⟩ := C
    refine ⟨o, us, file, tf, flags, tg, inF, text, tt, B.seen hx ?_ ?_, c0, c1, c2, more⟩
    · rw [c1]
      exact fun _ _ z => nomatch z
    · rw [c1]
      intro z
      have z := Data.fields.inj z
      rw [z] at c2
      simp at c2
  · obtain ⟨m, o, m1, m2, m3, m4, m5, m6⟩ := hbm
    refine ⟨m, o, m1, m2, fun z => ?_, fun z => ?_, B.seen m3 ?_ ?_, m4, m5, m6⟩
    · obtain ⟨o', es, ep, hx, hd, _⟩ := hg
      rw [← z, m3] at hx
      rw [← Option.some.inj hx, m6] at hd
      cases hd
    · rw [z, he] at m3
      rw [← Option.some.inj m3] at m6
      cases m6
    · rw [m6]
      exact fun _ _ z => nomatch z
    · rw [m6]
      exact fun z => nomatch z
/-- what the real heap holds of what is tracked -/
theorem Begin.held (B : Begin s cs a vs H) (hl : ∀ u, H a = some u → a ∉ tabAt cs → ObjOk P w H s.heap a u) : HOk P w H s.heap := by
  intro x u hx
  by_cases ht : x ∈ tabAt cs
  · have e := B.tabs x ht
    unfold HTab at e
    rw [hx] at e
    rw [Option.some.inj e]
    have f : TabF x s.heap := ⟨#[], B.empty x ht, trivial⟩
    exact ⟨f, f.ok.1, f.ok.2⟩
  · obtain ⟨rfl, _⟩ := B.rest x u hx ht
    exact hl u hx ht
/-- how the heap has changed, once the def has come back -/
theorem Begin.old (B : Begin s cs a vs H) (hC : ∀ p ∈ cs, PySem.W.CodeHd s.heap p.1 p.2) {H' : Hp} {h' : Heap} (un : Un [] [] H H' s.heap h') (ok : HOk P w H s.heap) (ok' : HOk P w H' h') (tabs' : ∀ p ∈ cs, HTab H' p.2) : OldK s.heap h' := by
  have stays : ∀ x o, x ∉ tabAt cs → s.heap.get? x = some o → h'.get? x = some o := fun x o ht hx => by
    cases hH : H x with
    | none => exact un.keep x o hx hH (List.not_mem_nil) (List.not_mem_nil)
    | some u =>
      obtain ⟨_, ob, ys, rfl⟩ := B.rest x u hH ht
      have now := (ok' x _ (un.frzs x ob _ hH)).1
      have was := (ok x _ hH).1
      rw [hx] at was
      rw [now, ← was]
  have grows : ∀ x ∈ tabAt cs, ∃ ps : Array Value, h'.get? x = some { cls := .none, data := .fields ps } := fun x hx => by
    obtain ⟨p, hp, rfl⟩ := List.mem_map.mp hx
    obtain ⟨⟨ps, hps, _⟩, _⟩ := ok' p.2 _ (tabs' p hp)
    exact ⟨ps, hps⟩
  refine ⟨fun x o hx => ?_, fun x o hx => ?_⟩
  · by_cases ht : x ∈ tabAt cs
    · have eo : o = tabO := Option.some.inj (hx.symm.trans (B.empty x ht))
      subst eo
      obtain ⟨ps, hps⟩ := grows x ht
      obtain ⟨p, hp, rfl⟩ := List.mem_map.mp ht
      exact .inr (.inl ⟨((hC p hp).tab (B.empty p.2 ht)).isCodeTable, rfl, #[], ps, rfl, by rw [Array.empty_append]; exact hps⟩)
    · exact .inl (stays x o ht hx)
  · by_cases ht : x ∈ tabAt cs
    · obtain ⟨ps, hps⟩ := grows x ht
      exact ⟨_, hps⟩
    · exact ⟨o, stays x o ht hx⟩
/-- the call, from any such beginning -/
theorem Begin.call {CX : CXT} {k : Nat} {fa : Addr} {x : Str} {sp : Sp} {ns : List Int} (B : Begin s cs a vs H) (X : K.In s.heap) (hK : ∀ x, H x ≠ none → K.lookup x = none) (ok : HOk P w H s.heap) (hS : SqL K H a (ns.map V.int)) (T : s.heap.Ns mainGlobals mg ∧ s.heap.Ns builtinsNs mb ∧ (∀ y : Str, y ≠ "__name__" → mb y = bootBuiltins y) ∧ s.heap.NoLimit)
    (hbm : ∃ (bm : Addr) (ob : Obj), mg "__builtins__" = some (.ref bm) ∧ bm ≠ builtinsNs ∧ s.heap.get? bm = some ob ∧ ob.cls = .type "module" ∧ ob.dict = some builtinsNs ∧ ob.data = .plain) (hC : ∀ p ∈ cs, PySem.W.CodeHd s.heap p.1 p.2) (hg : s.gens = #[]) (hr : Room k callerA)
    (F : ∀ base : Heap, K.In base → base.Ns mainGlobals mg → (∀ p ∈ cs, TabC base mg p.1 p.2) → ∃ fd : FuncData, (∀ (s : Shared) (u : Value), K.In s.heap → BindsTo s fd ⟨[u], []⟩ [(x, u)]) ∧ FnOk P w K mg base CX k fa fd [x] sp)
    (hsp : sp [.ref a] H (fun v H' => v = .bl true ∧ ∀ p ∈ cs, HTab H' p.2) fun _ _ _ => False) (hx : ∀ H e s', CX [] H s (fun _ _ _ => False) e s' → False) :
    codeAny (model P w) callerA (.call (.ref fa) ⟨[.ref a], []⟩) (fun r t => r = .ok (.ret (.bool true)) ∧ OldK s.heap t.heap ∧ t.os = s.os ∧ AllBare t.gens) s := by
  obtain ⟨Tg, Tb, Tn, lim, Tc, Tm⟩ := T
  have inK := B.kin X hK
  have mod : L2.Mod K mg (hidT s.heap H) := ⟨inK, B.ns Tg, ⟨mb, B.ns Tb, Tn⟩, lim, B.ns Tc, Tm⟩
  obtain ⟨fd, bind, FF⟩ := F _ inK (B.ns Tg) fun p hp => B.tabC Tg hbm (List.mem_map.mpr ⟨p, hp, rfl⟩) (hC p hp)
  have env : Env0 P w K mg (hidT s.heap H) callerA [] s H := ⟨rfl, mod, fun _ _ e => of_hidT e, Nat.le_of_eq (hidT_size _ _), trivial, fun _ z => (List.not_mem_nil z).elim, ok, .of_eq hg⟩
  refine codeAny_mono (FF.run callerA [] s H _ [.ref a] [.ref a] _ _ hr env (bind s (.ref a) X) (.cons rfl .nil) hsp) fun r t q => ?_
  match r, q with
  | .error e, q => exact (hx H e t q).elim
  | .ok .next, q => exact q.elim
  | .ok .brk, q => exact q.elim
  | .ok .cont, q => exact q.elim
  | .ok (.ret u), ⟨v, H', hos, hb, un, ok', hv, ev, tabs'⟩ =>
    subst ev
    have eu : u = Value.bool true := hv
    subst eu
    exact ⟨rfl, B.old hC un ok ok' tabs', hos, hb⟩
end
theorem call_end {P : Program} {w : World} {K : PySem.W.Frag} {mg mb : Str → Option Value} {CX : CXT} {k : Nat} {fa a : Addr} {cs : List (Addr × Addr)} {x : Str} {sp : Sp} {s : Shared} {vs : List Value} {ns : List Int} (X : K.In s.heap)
    (T : s.heap.Ns mainGlobals mg ∧ s.heap.Ns builtinsNs mb ∧ (∀ y : Str, y ≠ "__name__" → mb y = bootBuiltins y) ∧ s.heap.NoLimit)
    (hbm : ∃ (bm : Addr) (ob : Obj), mg "__builtins__" = some (.ref bm) ∧ bm ≠ builtinsNs ∧ s.heap.get? bm = some ob ∧ ob.cls = .type "module" ∧ ob.dict = some builtinsNs ∧ ob.data = .plain) (hg : s.gens = #[]) (hr : Room k callerA)
    (hT : ∀ p ∈ cs, s.heap.get? p.2 = some tabO) (nT : ∀ p ∈ cs, K.lookup p.2 = none) (hC : ∀ p ∈ cs, PySem.W.CodeHd s.heap p.1 p.2) (ha : s.heap.get? a = some (listO vs)) (hi : IntsAre vs ns) (hl : ns.length ≤ sizeLine)
    (F : ∀ base : Heap, K.In base → base.Ns mainGlobals mg → (∀ p ∈ cs, TabC base mg p.1 p.2) → ∃ fd : FuncData, (∀ (s : Shared) (u : Value), K.In s.heap → BindsTo s fd ⟨[u], []⟩ [(x, u)]) ∧ FnOk P w K mg base CX k fa fd [x] sp)
    (hsp : ∀ H : Hp, (∀ p ∈ cs, HTab H p.2) → SqL K H a (ns.map V.int) → sp [.ref a] H (fun v H' => v = .bl true ∧ ∀ p ∈ cs, HTab H' p.2) fun _ _ _ => False) (hx : ∀ H e s', CX [] H s (fun _ _ _ => False) e s' → False) :
    codeAny (model P w) callerA (.call (.ref fa) ⟨[.ref a], []⟩) (fun r t => r = .ok (.ret (.bool true)) ∧ OldK s.heap t.heap ∧ t.os = s.os ∧ AllBare t.gens) s := by
  have rel := vals_ints hi
  have len := hi.length
  have emp : ∀ t ∈ tabAt cs, s.heap.get? t = some tabO := fun t ht => by
    obtain ⟨p, hp, rfl⟩ := List.mem_map.mp ht
    exact hT p hp
  have out : ∀ t ∈ tabAt cs, K.lookup t = none := fun t ht => by
    obtain ⟨p, hp, rfl⟩ := List.mem_map.mp ht
    exact nT p hp
  have na : a ∉ tabAt cs := fun z => by
    have e := emp a z
    rw [ha] at e
    cases congrArg Obj.data (Option.some.inj e)
  have tabs : ∀ (sc : Addr → Option HO), ∀ p ∈ cs, HTab (beginH (tabAt cs) sc) p.2 := fun sc p hp => beginH_tab (List.mem_map.mpr ⟨p, hp, rfl⟩)
  by_cases hk : K.lookup a = none
  · -- the script is new: it is tracked, and stays as it is
    have hA : beginH (tabAt cs) (scriptO a (.frz (listO vs) (.lst (ns.map V.int)))) a = some (.frz (listO vs) (.lst (ns.map V.int))) := (beginH_out na).trans scriptO_hit
    have B : Begin s cs a vs (beginH (tabAt cs) (scriptO a (.frz (listO vs) (.lst (ns.map V.int))))) := ⟨ha, emp, fun t ht => beginH_tab ht, fun y u hy ht => by
      obtain ⟨e1, e2⟩ := scriptO_of ((beginH_out ht).symm.trans hy)
      exact ⟨e1, _, _, e2⟩⟩
    have ok : HOk P w (beginH (tabAt cs) (scriptO a (.frz (listO vs) (.lst (ns.map V.int))))) s.heap := B.held fun u hu _ => by
      rw [hA] at hu
      rw [← Option.some.inj hu]
      exact ⟨ha, by rw [List.length_map]; exact hl, vs, _, rel, ha⟩
    have hS : SqL K (beginH (tabAt cs) (scriptO a (.frz (listO vs) (.lst (ns.map V.int))))) a (ns.map V.int) := .inl (.inr ⟨_, hA⟩)
    refine B.call X (fun y hy => ?_) ok hS T hbm hC hg hr F (hsp _ (tabs _) hS) hx
    by_cases ht : y ∈ tabAt cs
    · exact out y ht
    · cases hH : beginH (tabAt cs) (scriptO a (.frz (listO vs) (.lst (ns.map V.int)))) y with
      | none => exact absurd hH hy
      | some u =>
        rw [(B.rest y u hH ht).1]
        exact hk
  · -- the top holds it
    obtain ⟨o, ho⟩ := Option.ne_none_iff_exists'.mp hk
    have eo : o = listO vs := Option.some.inj ((X a o ho).symm.trans ha)
    rw [eo] at ho
    have B : Begin s cs a vs (beginH (tabAt cs) fun _ => none) := ⟨ha, emp, fun t ht => beginH_tab ht, fun y u hy ht => by
      rw [beginH_out ht] at hy
      cases hy⟩
    have ok : HOk P w (beginH (tabAt cs) fun _ => none) s.heap := B.held fun u hu ht => by
      rw [beginH_out ht] at hu
      cases hu
    have hS : SqL K (beginH (tabAt cs) fun _ => none) a (ns.map V.int) := .inr ⟨_, vs.toArray, _, ho, rfl, rfl, rfl, by rw [List.size_toArray, len]; exact hl, by simpa using rel⟩
    refine B.call X (fun y hy => ?_) ok hS T hbm hC hg hr F (hsp _ (tabs _) hS) hx
    by_cases ht : y ∈ tabAt cs
    · exact out y ht
    · exact absurd (beginH_out ht) hy
/-- the law's promise at a heap behind the top, its tables empty and unknown to K -/
def LawAtC (l : PySem.W.OpenLaw) (w : World) (K : PySem.W.Frag) (CX : CXT) (k n : Nat) (x : Str) (mg : Str → Option Value) (fa : Addr) (h : Heap) : Prop :=
  ∃ (cs : List (Addr × Addr)) (sp : Sp), (∀ p ∈ cs, h.get? p.2 = some tabO) ∧ (∀ p ∈ cs, K.lookup p.2 = none) ∧ (∀ p ∈ cs, PySem.W.CodeHd h p.1 p.2) ∧
    (∀ (H : Hp) (a : Addr) (ns : List Int), ns.length ≤ n → (∀ p ∈ cs, HTab H p.2) → SqL K H a (ns.map V.int) → sp [.ref a] H (fun v H' => v = .bl true ∧ ∀ p ∈ cs, HTab H' p.2) fun _ _ _ => False) ∧
    ∀ base : Heap, K.In base → base.Ns mainGlobals mg → (∀ p ∈ cs, TabC base mg p.1 p.2) → ∃ fd : FuncData, (∀ (s : Shared) (u : Value), K.In s.heap → BindsTo s fd ⟨[u], []⟩ [(x, u)]) ∧ FnOk l.prog w K mg base CX k fa fd [x] sp
theorem walk_C {l : PySem.W.OpenLaw} {n k : Nat} {q : Program} {loose : List Str} {XP : (Str → Option Value) → Heap → Prop} {YP : World → Heap → Prop} {d : DefRec} {CX : World → CXT} {x : Str} (most : l.most = some n) (room : Room k callerA) (few : n ≤ sizeLine) (nodef : d.params.defaults = [])
    (F : ∀ (w : World) (mg : Str → Option Value) (fa : Addr) (h : Heap), YP w h → h.Ns mainGlobals mg → mg d.name = some (.ref fa) → ∃ K : PySem.W.Frag, K.In h ∧ LawAtC l w K (CX w) k n x mg fa h) (calm : ∀ (w : World) (H : Hp) (s : Shared) (e : Value) (t : Shared), CX w [] H s (fun _ _ _ => False) e t → False) :
    PySem.W.WalkO q loose XP YP l.row.toRowW d [] fun f vs => PySem.call f vs := by
  refine Att.attach_callB most nodef ?_
  intro w s0 s mg mb fa o pm cd doc a vs ns Gr Y _ _ _ named hscr hint few2 _ gens0
  obtain ⟨K, inK, cs, sp, hT, nT, hC, hsp, hF⟩ := F w mg fa _ Y Gr.T.g named
  exact call_end inK ⟨Gr.T.g, Gr.T.b, Gr.T.builtins, Gr.T.nolimit⟩ Gr.T.bmain gens0 room hT nT hC hscr hint (Nat.le_trans few2 few) hF (fun H h1 h2 => hsp H a ns few2 h1 h2) fun H e t => calm w H s e t
/-- the law from the facts -/
theorem lawAt_of {l : PySem.W.OpenLaw} {w : World} {K : PySem.W.Frag} {n : Nat} {mg : Str → Option Value} {fa : Addr} {h : Heap} {CN CT CR : Addr} {D : Cd} {T : Tb} (hn : n ≤ sizeLine) (hl : mg "law" = some (.ref fa)) (X : Facts K mg CN CT CR D)
    (hT : ∀ p ∈ tabsL D T, h.get? p.2 = some { cls := .none, data := .fields #[] }) (nT : ∀ p ∈ tabsL D T, K.lookup p.2 = none) (C : ∀ p ∈ tabsL D T, PySem.W.CodeHd h p.1 p.2) : LawAtC l w K CX0 14 n "_law_script" mg fa h := by
  have at_ : ∀ {H : Hp}, (∀ p ∈ tabsL D T, HTab H p.2) → AllT T H := fun {H} k => ⟨k (D.l, T.l) (by simp [tabsL]), k (D.p, T.p) (by simp [tabsL]), k (D.i, T.i) (by simp [tabsL]), k (D.g, T.g) (by simp [tabsL]), k (D.w, T.w) (by simp [tabsL]), k (D.f, T.f) (by simp [tabsL]), k (D.a, T.a) (by simp [tabsL]), k (D.r, T.r) (by simp [tabsL])⟩
  have of_ : ∀ {H : Hp}, AllT T H → ∀ p ∈ tabsL D T, HTab H p.2 := fun {H} k p hp => by
    unfold tabsL at hp
    simp only [List.mem_cons, List.not_mem_nil, or_false] at hp
    rcases hp with e | e | e | e | e | e | e | e <;> subst e
    · exact k.l
    · exact k.p
    · exact k.i
    · exact k.g
    · exact k.w
    · exact k.f
    · exact k.a
    · exact k.r
  refine ⟨tabsL D T, spLaw (K := K) T, hT, nT, C, fun H a ns hns hH hS => ⟨a, ns, rfl, hS, Nat.le_trans hns hn, at_ hH, fun H' t' => ⟨rfl, of_ t'⟩⟩, fun base kb nb tb => ?_⟩
  obtain ⟨f, fd, F, hm, kp, bd⟩ := (law_def (P := l.prog) (w := w) X tb).ex
  rw [hl] at hm
  cases hm
  exact ⟨fd, fun s u ks => bd s [u] ks rfl, F⟩
end K24
set_option Elab.async false
set_option autoImplicit false
set_option linter.all false
set_option maxRecDepth 100000
set_option maxHeartbeats 4000000
/-! The facts behind the top, from what the head's run tells. -/
namespace K24
open PySem PySem.Spec PyProof.Rows L2
section
variable {K : PySem.W.Frag} {h : Heap} {mg : Str → Option Value}
theorem fun_of {x q : Str} {st : Stmt} {f : Addr} (F : ∃ fd, FunD K x q (defArgs st) (defBody st) (defScope st) [] [] f fd) : ∃ fd, Fun K x q st f fd := by
  obtain ⟨fd, ⟨oc, od, dV, kV, doc, pm, an, cdv, ct, osl, e, lk, ci, dv, kw⟩, kp⟩ := F
  have ed : dV = .none := by
    rcases dv with ⟨_, z⟩ | ⟨z, _⟩
    · exact z
    · exact absurd rfl z
  subst ed
  exact ⟨fd, ⟨oc, od, kV, doc, pm, an, cdv, ct, osl, e, lk, ci⟩, kp⟩
theorem fnF_of {x n : Str} {st : Stmt} {f : Addr} (F : ∃ fd, FunD K n n (defArgs st) (defBody st) (defScope st) [] [] f fd) (hm : mg x = some (.ref f)) : FnF K mg x n st := by
  obtain ⟨fd, h⟩ := fun_of F
  exact ⟨f, fd, h, hm⟩
theorem fnM_of {C : Addr} {m q : Str} {st : Stmt} {f : Addr} (F : ∃ fd, FunD K m q (defArgs st) (defBody st) (defScope st) [] [] f fd) (hm : Meth K C m f) : FnM K C m q st := by
  obtain ⟨fd, h⟩ := fun_of F
  exact ⟨f, fd, h, hm⟩
theorem fnI_of {x : Str} {C : Addr} {q : Str} {st : Stmt} {f : Addr} (F : ∃ fd, FunD K "__init__" q (defArgs st) (defBody st) (defScope st) [] [] f fd) (hk : Mk K C f) (hm : mg x = some (.ref C)) : FnI K mg x C q st := by
  obtain ⟨fd, h⟩ := fun_of F
  exact ⟨f, fd, h, hk, hm⟩
theorem fnG_of {x : Str} {st : Stmt} {p : Str × Option Str} (F : ∃ fd, FunD K x x (defArgs st) (defBody st) (defScope st) [] [] (He.fAd K p) fd) (hm : mg x = some (.ref (He.fAd K p))) : FnG0 K mg x st (He.cT K p).1 := by
  obtain ⟨fd, ⟨oc, od, dV, kV, doc, pm, an, cdv, ct, osl, e, lk, ci, dv, kw⟩, kp⟩ := F
  have ed : dV = .none := by
    rcases dv with ⟨_, z⟩ | ⟨z, _⟩
    · exact z
    · exact absurd rfl z
  subst ed
  obtain ⟨c, ec⟩ := He.codeIn_ref ci
  subst ec
  have ecd : fd.code = .ref c := by rw [e]
  have e2 : (He.cT K p).1 = c := He.codeOf_eq lk ecd
  rw [e2]
  exact ⟨_, fd, ⟨⟨oc, od, kV, doc, pm, an, ct, osl, e, lk, ci⟩, kp⟩, hm⟩
theorem strs_of {x : Str} {vs : List Str} (h : tupl x vs K = true) (H : Hp) : SqT K H (He.ga K x) (vs.map V.str) := by
  have z := He.tupB_ok h H
  rw [List.map_map] at z
  exact z
def cdOf (K : PySem.W.Frag) : Cd := ⟨(He.cT K ("is_label", none)).1, (He.cT K ("is_parts", none)).1, (He.cT K ("is_instruction", none)).1, (He.cT K ("is_program", none)).1, (He.cT K ("are_words", none)).1, (He.cT K ("are_fields", none)).1, (He.cT K ("is_path", none)).1, (He.cT K ("is_state_row", none)).1⟩
def tbOf (K : PySem.W.Frag) : Tb := ⟨(He.cT K ("is_label", none)).2, (He.cT K ("is_parts", none)).2, (He.cT K ("is_instruction", none)).2, (He.cT K ("is_program", none)).2, (He.cT K ("are_words", none)).2, (He.cT K ("are_fields", none)).2, (He.cT K ("is_path", none)).2, (He.cT K ("is_state_row", none)).2⟩
theorem tabs_mem {p : Addr × Addr} (hp : p ∈ tabsL (cdOf K) (tbOf K)) : ∃ d ∈ tfl, p = He.cT K d := by
  unfold tabsL at hp
  simp only [List.mem_cons, List.not_mem_nil, or_false] at hp
  rcases hp with e | e | e | e | e | e | e | e
  · exact ⟨("is_label", none), by unfold tfl; simp, e⟩
  · exact ⟨("is_parts", none), by unfold tfl; simp, e⟩
  · exact ⟨("is_instruction", none), by unfold tfl; simp, e⟩
  · exact ⟨("is_program", none), by unfold tfl; simp, e⟩
  · exact ⟨("are_words", none), by unfold tfl; simp, e⟩
  · exact ⟨("are_fields", none), by unfold tfl; simp, e⟩
  · exact ⟨("is_path", none), by unfold tfl; simp, e⟩
  · exact ⟨("is_state_row", none), by unfold tfl; simp, e⟩
theorem facts_of {w : World} (X : K.In h) (G : h.Ns mainGlobals mg) (c : He.SaysX fal fnl [] tfl exl w h K) : Facts K mg (He.ga K "Notary") (He.ga K "WordTree") (He.ga K "Run") (cdOf K) := by
  have d := c.t.d
  have ex := c.more
  unfold exl at ex
  obtain ⟨x1, ex⟩ := He.ba ex
  obtain ⟨x2, ex⟩ := He.ba ex
  obtain ⟨x3, ex⟩ := He.ba ex
  obtain ⟨x4, x5⟩ := He.ba ex
  have C : Cst K mg := ⟨He.free_ok X G (d.fact 118 (f := .free "isinstance") rfl),
    He.free_ok X G (d.fact 119 (f := .free "len") rfl),
    He.free_ok X G (d.fact 120 (f := .free "all") rfl),
    He.free_ok X G (d.fact 121 (f := .free "range") rfl),
    He.free_ok X G (d.fact 122 (f := .free "int") rfl),
    He.free_ok X G (d.fact 123 (f := .free "str") rfl),
    He.free_ok X G (d.fact 124 (f := .free "tuple") rfl),
    He.free_ok X G (d.fact 125 (f := .free "list") rfl),
    He.free_ok X G (d.fact 126 (f := .free "bool") rfl),
    He.int_ok X G (d.fact 99 (f := .int "WORD" 4294967296) rfl),
    He.int_ok X G (d.fact 100 (f := .int "MAX_PART" 281474976710656) rfl),
    He.int_ok X G (d.fact 101 (f := .int "MAX_TEXT" 24) rfl),
    He.int_ok X G (d.fact 102 (f := .int "MOST_PARTS" 16) rfl),
    He.int_ok X G (d.fact 103 (f := .int "MEMORY" 64) rfl),
    He.int_ok X G (d.fact 104 (f := .int "MAX_PROGRAM" 64) rfl),
    He.int_ok X G (d.fact 105 (f := .int "MAX_INPUT" 64) rfl),
    He.int_ok X G (d.fact 106 (f := .int "MAX_WRITTEN" 2048) rfl),
    He.int_ok X G (d.fact 107 (f := .int "RUNS" 0) rfl),
    He.int_ok X G (d.fact 108 (f := .int "STOPPED" 1) rfl),
    He.int_ok X G (d.fact 109 (f := .int "FAULT" 2) rfl),
    He.int_ok X G (d.fact 110 (f := .int "MAX_HEIGHT" 10) rfl),
    He.int_ok X G (d.fact 111 (f := .int "TREE_HEIGHT" 6) rfl),
    He.int_ok X G (d.fact 112 (f := .int "MAX_LEVEL" 10) rfl),
    ⟨_, He.glo_ok X G (d.fact 113 (f := .glo "NAMES") rfl), strs_of x1⟩,
    ⟨_, He.glo_ok X G (d.fact 114 (f := .glo "THREE") rfl), strs_of x2⟩,
    ⟨_, He.glo_ok X G (d.fact 115 (f := .glo "TWO") rfl), strs_of x3⟩,
    ⟨_, He.glo_ok X G (d.fact 116 (f := .glo "ONE") rfl), strs_of x4⟩,
    ⟨_, He.glo_ok X G (d.fact 117 (f := .glo "STATE") rfl), strs_of x5⟩⟩
  have nc : NotC K (He.ga K "Notary") := ⟨He.cls_ok (d.fact 79 (f := .cls "Notary") rfl), He.noat_ok (d.fact 81 (f := .noat "Notary" "numbers") rfl), He.noat_ok (d.fact 82 (f := .noat "Notary" "tuples") rfl), He.noat_ok (d.fact 83 (f := .noat "Notary" "asked") rfl)⟩
  have wc : WTreeC K (He.ga K "WordTree") := ⟨He.cls_ok (d.fact 85 (f := .cls "WordTree") rfl), He.noat_ok (d.fact 87 (f := .noat "WordTree" "notary") rfl), He.noat_ok (d.fact 88 (f := .noat "WordTree" "words") rfl), He.noat_ok (d.fact 89 (f := .noat "WordTree" "rows") rfl)⟩
  have rc : RunC K (He.ga K "Run") := ⟨He.cls_ok (d.fact 91 (f := .cls "Run") rfl), He.noat_ok (d.fact 93 (f := .noat "Run" "notary") rfl), He.noat_ok (d.fact 94 (f := .noat "Run" "code") rfl), He.noat_ok (d.fact 95 (f := .noat "Run" "given") rfl), He.noat_ok (d.fact 96 (f := .noat "Run" "asked") rfl), He.noat_ok (d.fact 97 (f := .noat "Run" "states") rfl), He.noat_ok (d.fact 98 (f := .noat "Run" "named") rfl)⟩
  exact ⟨C,
    nc,
    wc,
    rc,
    fnI_of (d.def_ 4 (d := dd_Notary_init) rfl) (He.mkr_ok (d.fact 80 (f := .mkr "Notary") rfl)) (He.glo_ok X G (d.fact 78 (f := .glo "Notary") rfl)),
    fnM_of (d.def_ 5 (d := dd_Notary_seal) rfl) (He.meth_ok (d.fact 4 (f := .meth "Notary" "seal") rfl)),
    fnM_of (d.def_ 6 (d := dd_Notary_find) rfl) (He.meth_ok (d.fact 5 (f := .meth "Notary" "find") rfl)),
    fnI_of (d.def_ 32 (d := dd_WordTree_init) rfl) (He.mkr_ok (d.fact 86 (f := .mkr "WordTree") rfl)) (He.glo_ok X G (d.fact 84 (f := .glo "WordTree") rfl)),
    fnM_of (d.def_ 33 (d := dd_WordTree_check) rfl) (He.meth_ok (d.fact 31 (f := .meth "WordTree" "check") rfl)),
    fnM_of (d.def_ 34 (d := dd_WordTree_set_word) rfl) (He.meth_ok (d.fact 32 (f := .meth "WordTree" "set_word") rfl)),
    fnM_of (d.def_ 36 (d := dd_WordTree_root) rfl) (He.meth_ok (d.fact 34 (f := .meth "WordTree" "root") rfl)),
    fnI_of (d.def_ 49 (d := dd_Run_init) rfl) (He.mkr_ok (d.fact 92 (f := .mkr "Run") rfl)) (He.glo_ok X G (d.fact 90 (f := .glo "Run") rfl)),
    fnM_of (d.def_ 50 (d := dd_Run_follow) rfl) (He.meth_ok (d.fact 47 (f := .meth "Run" "follow") rfl)),
    fnM_of (d.def_ 51 (d := dd_Run_question) rfl) (He.meth_ok (d.fact 48 (f := .meth "Run" "question") rfl)),
    fnM_of (d.def_ 54 (d := dd_Run_start) rfl) (He.meth_ok (d.fact 51 (f := .meth "Run" "start") rfl)),
    fnM_of (d.def_ 55 (d := dd_Run_seals) rfl) (He.meth_ok (d.fact 52 (f := .meth "Run" "seals") rfl)),
    fnM_of (d.def_ 56 (d := dd_Run_state_at) rfl) (He.meth_ok (d.fact 53 (f := .meth "Run" "state_at") rfl)),
    fnF_of (d.def_ 80 (d := dd_question_states) rfl) (He.glo_ok X G (d.fact 77 (f := .glo "question_states") rfl)),
    fnF_of (d.def_ 0 (d := dd_is_number) rfl) (He.glo_ok X G (d.fact 0 (f := .glo "is_number") rfl)),
    fnF_of (d.def_ 1 (d := dd_is_word) rfl) (He.glo_ok X G (d.fact 1 (f := .glo "is_word") rfl)),
    fnG_of (p := ("is_label", none)) (d.def_ 2 (d := dd_is_label) rfl) (He.glo_ok X G (d.fact 2 (f := .glo "is_label") rfl)),
    fnG_of (p := ("is_parts", none)) (d.def_ 3 (d := dd_is_parts) rfl) (He.glo_ok X G (d.fact 3 (f := .glo "is_parts") rfl)),
    fnF_of (d.def_ 7 (d := dd_is_register) rfl) (He.glo_ok X G (d.fact 6 (f := .glo "is_register") rfl)),
    fnF_of (d.def_ 8 (d := dd_is_place) rfl) (He.glo_ok X G (d.fact 7 (f := .glo "is_place") rfl)),
    fnF_of (d.def_ 9 (d := dd_operand_kinds) rfl) (He.glo_ok X G (d.fact 8 (f := .glo "operand_kinds") rfl)),
    fnF_of (d.def_ 10 (d := dd_is_operand) rfl) (He.glo_ok X G (d.fact 9 (f := .glo "is_operand") rfl)),
    fnG_of (p := ("is_instruction", none)) (d.def_ 11 (d := dd_is_instruction) rfl) (He.glo_ok X G (d.fact 10 (f := .glo "is_instruction") rfl)),
    fnG_of (p := ("is_program", none)) (d.def_ 12 (d := dd_is_program) rfl) (He.glo_ok X G (d.fact 11 (f := .glo "is_program") rfl)),
    fnG_of (p := ("are_words", none)) (d.def_ 13 (d := dd_are_words) rfl) (He.glo_ok X G (d.fact 12 (f := .glo "are_words") rfl)),
    fnF_of (d.def_ 14 (d := dd_is_input) rfl) (He.glo_ok X G (d.fact 13 (f := .glo "is_input") rfl)),
    fnF_of (d.def_ 15 (d := dd_is_state) rfl) (He.glo_ok X G (d.fact 14 (f := .glo "is_state") rfl)),
    fnF_of (d.def_ 16 (d := dd_first_state) rfl) (He.glo_ok X G (d.fact 15 (f := .glo "first_state") rfl)),
    fnF_of (d.def_ 17 (d := dd_with_register) rfl) (He.glo_ok X G (d.fact 16 (f := .glo "with_register") rfl)),
    fnF_of (d.def_ 18 (d := dd_with_place) rfl) (He.glo_ok X G (d.fact 17 (f := .glo "with_place") rfl)),
    fnF_of (d.def_ 19 (d := dd_with_status) rfl) (He.glo_ok X G (d.fact 18 (f := .glo "with_status") rfl)),
    fnF_of (d.def_ 20 (d := dd_computed) rfl) (He.glo_ok X G (d.fact 19 (f := .glo "computed") rfl)),
    fnF_of (d.def_ 21 (d := dd_step_memory) rfl) (He.glo_ok X G (d.fact 20 (f := .glo "step_memory") rfl)),
    fnF_of (d.def_ 22 (d := dd_step_input) rfl) (He.glo_ok X G (d.fact 21 (f := .glo "step_input") rfl)),
    fnF_of (d.def_ 23 (d := dd_step_code) rfl) (He.glo_ok X G (d.fact 22 (f := .glo "step_code") rfl)),
    fnF_of (d.def_ 24 (d := dd_step) rfl) (He.glo_ok X G (d.fact 23 (f := .glo "step") rfl)),
    fnF_of (d.def_ 25 (d := dd_height_of) rfl) (He.glo_ok X G (d.fact 24 (f := .glo "height_of") rfl)),
    fnF_of (d.def_ 26 (d := dd_leaf_count) rfl) (He.glo_ok X G (d.fact 25 (f := .glo "leaf_count") rfl)),
    fnF_of (d.def_ 27 (d := dd_rows_of) rfl) (He.glo_ok X G (d.fact 26 (f := .glo "rows_of") rfl)),
    fnF_of (d.def_ 28 (d := dd_path_in) rfl) (He.glo_ok X G (d.fact 27 (f := .glo "path_in") rfl)),
    fnF_of (d.def_ 29 (d := dd_root_of) rfl) (He.glo_ok X G (d.fact 28 (f := .glo "root_of") rfl)),
    fnF_of (d.def_ 30 (d := dd_path_of) rfl) (He.glo_ok X G (d.fact 29 (f := .glo "path_of") rfl)),
    fnF_of (d.def_ 31 (d := dd_root_by) rfl) (He.glo_ok X G (d.fact 30 (f := .glo "root_by") rfl)),
    fnF_of (d.def_ 38 (d := dd_word_leaves) rfl) (He.glo_ok X G (d.fact 36 (f := .glo "word_leaves") rfl)),
    fnF_of (d.def_ 39 (d := dd_code_at) rfl) (He.glo_ok X G (d.fact 37 (f := .glo "code_at") rfl)),
    fnF_of (d.def_ 40 (d := dd_code_leaves) rfl) (He.glo_ok X G (d.fact 38 (f := .glo "code_leaves") rfl)),
    fnF_of (d.def_ 41 (d := dd_memory_root) rfl) (He.glo_ok X G (d.fact 39 (f := .glo "memory_root") rfl)),
    fnF_of (d.def_ 42 (d := dd_written_chain) rfl) (He.glo_ok X G (d.fact 40 (f := .glo "written_chain") rfl)),
    fnF_of (d.def_ 43 (d := dd_program_root) rfl) (He.glo_ok X G (d.fact 41 (f := .glo "program_root") rfl)),
    fnF_of (d.def_ 44 (d := dd_input_root) rfl) (He.glo_ok X G (d.fact 42 (f := .glo "input_root") rfl)),
    fnF_of (d.def_ 45 (d := dd_fields_of) rfl) (He.glo_ok X G (d.fact 43 (f := .glo "fields_of") rfl)),
    fnF_of (d.def_ 46 (d := dd_state_seal) rfl) (He.glo_ok X G (d.fact 44 (f := .glo "state_seal") rfl)),
    fnF_of (d.def_ 47 (d := dd_check_all) rfl) (He.glo_ok X G (d.fact 45 (f := .glo "check_all") rfl)),
    fnF_of (d.def_ 57 (d := dd_code_path) rfl) (He.glo_ok X G (d.fact 54 (f := .glo "code_path") rfl)),
    fnF_of (d.def_ 58 (d := dd_word_path) rfl) (He.glo_ok X G (d.fact 55 (f := .glo "word_path") rfl)),
    fnF_of (d.def_ 59 (d := dd_make_paper) rfl) (He.glo_ok X G (d.fact 56 (f := .glo "make_paper") rfl)),
    fnG_of (p := ("are_fields", none)) (d.def_ 60 (d := dd_are_fields) rfl) (He.glo_ok X G (d.fact 57 (f := .glo "are_fields") rfl)),
    fnG_of (p := ("is_path", none)) (d.def_ 61 (d := dd_is_path) rfl) (He.glo_ok X G (d.fact 58 (f := .glo "is_path") rfl)),
    fnG_of (p := ("is_state_row", none)) (d.def_ 62 (d := dd_is_state_row) rfl) (He.glo_ok X G (d.fact 59 (f := .glo "is_state_row") rfl)),
    fnF_of (d.def_ 63 (d := dd_looked_at) rfl) (He.glo_ok X G (d.fact 60 (f := .glo "looked_at") rfl)),
    fnF_of (d.def_ 64 (d := dd_has_form) rfl) (He.glo_ok X G (d.fact 61 (f := .glo "has_form") rfl)),
    fnF_of (d.def_ 65 (d := dd_leads) rfl) (He.glo_ok X G (d.fact 62 (f := .glo "leads") rfl)),
    fnF_of (d.def_ 66 (d := dd_shows_tree) rfl) (He.glo_ok X G (d.fact 63 (f := .glo "shows_tree") rfl)),
    fnF_of (d.def_ 67 (d := dd_small_step) rfl) (He.glo_ok X G (d.fact 64 (f := .glo "small_step") rfl)),
    fnF_of (d.def_ 68 (d := dd_fields_behind) rfl) (He.glo_ok X G (d.fact 65 (f := .glo "fields_behind") rfl)),
    fnF_of (d.def_ 69 (d := dd_check_paper) rfl) (He.glo_ok X G (d.fact 66 (f := .glo "check_paper") rfl)),
    fnF_of (d.def_ 70 (d := dd_law_same) rfl) (He.glo_ok X G (d.fact 67 (f := .glo "_law_same") rfl)),
    fnF_of (d.def_ 71 (d := dd_law_box) rfl) (He.glo_ok X G (d.fact 68 (f := .glo "_law_box") rfl)),
    fnF_of (d.def_ 72 (d := dd_law_load) rfl) (He.glo_ok X G (d.fact 69 (f := .glo "_law_load") rfl)),
    fnF_of (d.def_ 73 (d := dd_law_draw) rfl) (He.glo_ok X G (d.fact 70 (f := .glo "_law_draw") rfl)),
    fnF_of (d.def_ 74 (d := dd_law_word) rfl) (He.glo_ok X G (d.fact 71 (f := .glo "_law_word") rfl)),
    fnF_of (d.def_ 75 (d := dd_law_code) rfl) (He.glo_ok X G (d.fact 72 (f := .glo "_law_code") rfl)),
    fnF_of (d.def_ 76 (d := dd_law_program) rfl) (He.glo_ok X G (d.fact 73 (f := .glo "_law_program") rfl)),
    fnF_of (d.def_ 77 (d := dd_law_input) rfl) (He.glo_ok X G (d.fact 74 (f := .glo "_law_input") rfl)),
    fnF_of (d.def_ 79 (d := dd_law) rfl) (He.glo_ok X G (d.fact 76 (f := .glo "law") rfl))⟩
theorem law_at {l : PySem.W.OpenLaw} {w : World} {n : Nat} {fa : Addr} (hn : n ≤ sizeLine) (X : K.In h) (G : h.Ns mainGlobals mg) (hl : mg "law" = some (.ref fa)) (c : He.SaysX fal fnl [] tfl exl w h K) : LawAtC l w K CX0 14 n "_law_script" mg fa h := by
  refine lawAt_of (D := cdOf K) (T := tbOf K) hn hl (facts_of X G c) (fun p hp => ?_) (fun p hp => ?_) (fun p hp => ?_)
  · obtain ⟨d, hd, rfl⟩ := tabs_mem hp
    exact c.empty d hd
  · obtain ⟨d, hd, rfl⟩ := tabs_mem hp
    exact c.out d hd
  · obtain ⟨d, hd, rfl⟩ := tabs_mem hp
    exact PySem.W.codeHd_of_K X (c.hd d hd)
end
end K24
set_option Elab.async false
set_option autoImplicit false
set_option linter.all false
set_option maxRecDepth 100000
set_option maxHeartbeats 0
open PySem PySem.W PySem.Calls PyProof.Rows
theorem PySem.Challenge.cw_onewatcher_k24_whole_runs_by_papers_holds : PySem.Challenge.rw_onewatcher_k24_whole_runs_by_papers.Holds := by
  w_on; o_law
  refine HandSHeadRun.head_any (r := K24.rowR) (q := view K24.rowR.prog [97]) (H := K24.hkM) (ob := K24.obM) (M := 20000) (loose := K24.loose) (d := HandSHeadRun.topDef K24.rowR.prog 97) (kwd := []) K24.obM_eq
    (by kernel_rfl) (fun s => by kernel_rfl) K24.runM (by kernel_rfl) (by kernel_rfl) (by kernel_rfl) (by rfl) (by first | assumption | decide +kernel) (by decide +kernel) ⟨rfl, rfl, rfl, rfl, rfl, by decide +kernel⟩ ?hw ?hc
  case hw => w_witness2
  case hc =>
    refine K24.walk_C (l := PySem.Challenge.rw_onewatcher_k24_whole_runs_by_papers) (n := 63) (k := 14) (x := "_law_script") (CX := fun _ => L2.CX0) rfl ⟨rfl, by decide, by decide⟩ (by decide) (by kernel_rfl) ?F (fun _ _ _ _ _ z => z)
    intro w mg fa h Y G hmg0
    obtain ⟨K, KX, c⟩ := Y
    have hmg : mg ("law" : PySem.Str) = some (.ref fa) := by
      have e : (HandSHeadRun.topDef K24.rowR.prog 97).name = ("law" : PySem.Str) := by kernel_rfl
      rw [← e]
      exact hmg0
    exact ⟨K, KX, K24.law_at (by decide) KX G hmg c⟩
