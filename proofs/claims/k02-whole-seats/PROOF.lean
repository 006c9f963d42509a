import PyProof.Rows.All
import Wide.All
import OpenK.AllK
import Wide.FinOn
import HandS.ForMost
import HandS.GenList
import HandS.AnyAll
import HandS.Lambda
import HandS.ForSpec
import KE.KExcSuper
import HandS.EndTab
import KE.SortData
import HandS.Defaults
import HandS.TupAny
import HandS.TupMul
import HandS.Deep
import HandS.IsInst
import KE.KTupSum
import HandS.Zip
import HandS.Conv
import HandS.Style
import HandS.EndOwn
import PySem.Challenge.RW_mutualbox_k02_whole_seats
set_option Elab.async false
set_option linter.all false
section
set_option Elab.async false
set_option linter.all false
set_option maxRecDepth 100000
set_option maxHeartbeats 2000000
namespace Mx
open PySem PySem.Spec PyProof.Rows L2 GenW GxR

/-- the context of a generator expression's block: made at s, H; its frame at C; a: its own object -/
def genCx (X : Cx) (A : Around) (s : Shared) (H : Hp) (scope : Scope) (cl : List (Str × Addr)) (C : Addr) (code : Value) (bi : Addr) (fp : List Addr) (pn : List (Addr × Obj)) : Cx where
  prog := X.prog
  w := X.w
  K := X.K
  mg := X.mg
  base := X.base
  A := A.deeper (genEnv scope cl C code bi X.env)
  N := X.N
  s_0 := s
  H_0 := H
  env := genEnv scope cl C code bi X.env
  outer := X.stack
  stack := genEnv scope cl C code bi X.env :: X.stack
  ex := fp
  fn := fun _ => false
  calm := true
  pn := pn
  xe := fun _ _ => False

theorem over_genc {A : Around} {elt target iter : Expr} {ifs : List Expr} {scope : Scope} {pos : Pos} {it acc : Value} {env : Env} : A.over (.compLoop (.GeneratorExp elt [⟨target, iter, ifs, 0⟩] scope pos) 0 it acc env) [] = A.deeper env := by
  first
    | rfl
    | (obtain ⟨hd, d, fr, gs, u⟩ := A; simp [Around.over, Around.deeper, marksOver, frameCount, unitsOf, envsOf, guardsOf, pushEnvs, pushGuards, Code.envs, Code.env?, Code.isFrame, Code.guards, Code.isGuard, Code.weight, Code.frames, Code.isCreation, Code.isCaller, Code.cUnits])
theorem over_gens {A : Around} {elt target iter : Expr} {ifs : List Expr} {scope : Scope} {pos : Pos} {it acc : Value} {env : Env} : A.over (.compStart (.GeneratorExp elt [⟨target, iter, ifs, 0⟩] scope pos) 0 it acc env) [] = A.deeper env := by
  first
    | rfl
    | (obtain ⟨hd, d, fr, gs, u⟩ := A; simp [Around.over, Around.deeper, marksOver, frameCount, unitsOf, envsOf, guardsOf, pushEnvs, pushGuards, Code.envs, Code.env?, Code.isFrame, Code.guards, Code.isGuard, Code.weight, Code.frames, Code.isCreation, Code.isCaller, Code.cUnits])

/-- back in the caller's context, with the answer b -/
def Fin1 (P : Program) (w : World) (outer : List Env) (ex : List Addr) (H : Hp) (sc : Shared) (Q : Hp → Prop) (s : Shared) : Prop :=
  ∃ H', s.os = sc.os ∧ AllBare s.gens ∧ Un (frs outer) ex H H' sc.heap s.heap ∧ HOk P w H' s.heap ∧ Q H'
/-- it ends: True -/
def RA (P : Program) (w : World) (outer : List Env) (ex : List Addr) (H : Hp) (sc : Shared) (Q : Bool → Hp → Prop) : Nat → Shared → Shared → Prop := fun _ _ s1 => Fin1 P w outer ex H sc (Q true) s1
/-- an answer comes out -/
def YA (P : Program) (w : World) (outer : List Env) (ex : List Addr) (H : Hp) (sc : Shared) (Q : Bool → Hp → Prop) (a : Addr) (g : Nat) : Protocol := fun _ _ v s1 kap =>
  ∃ b : Bool, v = .bool b ∧ AllBare s1.gens ∧ s1.heap.NoLimit ∧ s1.heap.IsGen a g ∧
    (b = true → ∀ s', s'.os = s1.os → s'.heap = s1.heap → AllBare s'.gens → kap (.send .none) s') ∧ (b = false → Fin1 P w outer ex H sc (Q false) s1)

theorem fin1_gens {P : Program} {w : World} {outer : List Env} {ex : List Addr} {H : Hp} {sc : Shared} {Q : Hp → Prop} {s s' : Shared} (h : Fin1 P w outer ex H sc Q s) (ho : s'.os = s.os) (hb : AllBare s'.gens) (k : ∀ b o, s.heap.get? b = some o → s'.heap.get? b = some o) : Fin1 P w outer ex H sc Q s' := by
  obtain ⟨H', h1, h2, h3, h4, h5⟩ := h
  exact ⟨H', ho.trans h1, hb, h3.trans (Un.kept k), h4.kept k, h5⟩

theorem all_drain {P : Program} {w : World} {outer : List Env} {ex : List Addr} {H : Hp} {sc : Shared} {Q : Bool → Hp → Prop} {A : Around} {R : Result → Shared → Prop} {a : Addr} {g : Nat} (hh : A.handled = none) (hd : A.depth < recursionLimit)
    (hR : ∀ b s', Fin1 P w outer ex H sc (Q b) s' → R (.ok (.ret (.bool b))) s') :
    ∀ (m : Nat) (s : Shared), s.heap.IsGen a g → s.heap.NoLimit → AllBare s.gens →
      (∃ gs, s.gens[g]? = some gs ∧ gs.Goes (model P w) A.in1.in1 (fun n s₀ r s₁ => r = .ok .next ∧ RA P w outer ex H sc Q n s₀ s₁) (YA P w outer ex H sc Q a g) m (.send .none) (s.setGen g .running)) →
      codeAny (model P w) A (.builtin "all.loop" ⟨[.ref a], []⟩) R s := by
  intro m
  induction m with
  | zero =>
    intro s hg hl hba ⟨gs, hgs, hgo⟩
    refine codeAny_builtin F.entry_all_loop ?_
    rw [Around.under_plainId F.plain_all_loop _]
    show wpAny _ A.in1 (pyNext (.ref a) >>= _) _ _ s
    refine wpAny_bind (wpAny_pyNext_genexpQ (A := A.in1) hh hl hd hg hgs hgo (fun v s₁ gs' hbare hv => ?_) (fun s₁ hp h' hk => ?_))
    · obtain ⟨b, rfl, hb1, _, _, ht, hf⟩ := hv
      cases b with
      | true => exact (ht rfl s₁ rfl rfl hb1).elim
      | false =>
        refine wpAny_bind (wpAny_holding (wpAny_truthy_bool ?_))
        refine wpAny_bind (wpAny_letGo ?_)
        simp only [Bool.false_eq_true, if_false]
        refine wpAny_bind (wpAny_rule (wpAny_pure ?_))
        exact hR false _ (fin1_gens (hf rfl) rfl (allBare_setGen hb1 hbare) fun _ _ e => e)
    · refine wpAny_bind (wpAny_rule (wpAny_pure ?_))
      have hb1 : AllBare s₁.gens := hp.choose_spec.2.1
      exact hR true _ (fin1_gens (s := s₁) hp rfl (allBare_setGen hb1 rfl) hk)
  | succ m ih =>
    intro s hg hl hba ⟨gs, hgs, hgo⟩
    have hgl : g < s.gens.size := (Array.getElem?_eq_some_iff.mp hgs).1
    refine codeAny_builtin F.entry_all_loop ?_
    rw [Around.under_plainId F.plain_all_loop _]
    show wpAny _ A.in1 (pyNext (.ref a) >>= _) _ _ s
    refine wpAny_bind (wpAny_gsz (n := g + 1) hgl (wpAny_pyNext_genexpQ (A := A.in1) hh hl hd hg hgs hgo (fun v s₁ gs' hbare hv => ?_) (fun s₁ hp h' hk => ?_)))
    · intro hsz
      obtain ⟨b, rfl, hb1, hl1, hg1, ht, hf⟩ := hv
      cases b with
      | true =>
        refine wpAny_bind (wpAny_holding (wpAny_truthy_bool ?_))
        refine wpAny_bind (wpAny_letGo ?_)
        simp only [if_true]
        refine wpAny_pure ⟨plainId_quiet F.plain_all_loop _, ih _ hg1 hl1 (allBare_setGen hb1 hbare) ⟨gs', ?_, ?_⟩⟩
        · refine setGen_at ?_
          have q : (s₁.setGen g gs').gens.size = s₁.gens.size := setGen_size s₁ g gs'
          rw [q] at hsz
          exact hsz
        · exact ht rfl _ rfl rfl (allBare_setGen (allBare_setGen hb1 hbare) rfl)
      | false =>
        refine wpAny_bind (wpAny_holding (wpAny_truthy_bool ?_))
        refine wpAny_bind (wpAny_letGo ?_)
        simp only [Bool.false_eq_true, if_false]
        refine wpAny_bind (wpAny_rule (wpAny_pure ?_))
        exact hR false _ (fin1_gens (hf rfl) rfl (allBare_setGen hb1 hbare) fun _ _ e => e)
    · intro _
      refine wpAny_bind (wpAny_rule (wpAny_pure ?_))
      have hb1 : AllBare s₁.gens := hp.choose_spec.2.1
      exact hR true _ (fin1_gens (s := s₁) hp rfl (allBare_setGen hb1 rfl) hk)

section
variable {X : Cx} {pins : List (Addr × Obj)} {σ : L2.St} {H : Hp} {s s' : Shared}
theorem gen_start {A : Around} {scope : Scope} {own : List (Str × Nat)} {fp : List Addr} {code : Value} {it : Value} {h' : Heap} {gobj : Obj} {nm qn : Value} {g : Nat} (I : Inv X pins σ H s) (ok : BlkOk X.N X.env.scope scope own) (hcell : ∀ y ∈ scope.names, y.2 ≠ .cell) (hN : X.N.Nodup)
    (hA : A.handled = none) (hfrm : A.frames = some X.stack) (hfp : ∀ b ∈ fp, FpOk X pins H b ∧ b < s.heap.objs.size)
    (hn' : h'.Ns s.heap.objs.size (fun y => if y = ".0" then some it else none)) (hs' : Heap.SameBut s.heap.objs.size (s.heap.push { cls := .type "frame", data := .dict #[] }) h')
    (hgd : gobj.data = .fields #[.int g 0, nm, qn]) (hos : s'.os = s.os) (hba : AllBare s'.gens) (hheap : s'.heap = h'.push gobj) :
    Inv (genCx X A s H scope (cloFrom X.env.cells scope.names []) s.heap.objs.size code builtinsNs fp [(h'.objs.size, gobj)]) [] (wipe σ (own.map (·.2))) H s' := by
  have hfree : ∀ y ∈ scope.names, y.2 = .free → ∃ c, X.env.cells.lookup y.1 = some c := fun y hy e => by
    rcases ok.free y hy e with k | k
    · exact I.ok.has _ (.inl k)
    · exact I.ok.has _ (.inr k)
  have hsz : h'.objs.size = s.heap.objs.size + 1 := by rw [hs'.1, Heap.size_push]
  have keep' : ∀ b o, s.heap.get? b = some o → h'.get? b = some o := fun b o e => hs'.extBut b o (Nat.ne_of_lt (Heap.lt_size e)) (Heap.get?_push_of_some _ e)
  have kp : ∀ b o, s.heap.get? b = some o → s'.heap.get? b = some o := fun b o e => by rw [hheap]; exact Heap.get?_push_of_some _ (keep' b o e)
  have cm : ∀ {y c}, (cloFrom X.env.cells scope.names []).lookup y = some c → X.env.cells.lookup y = some c ∧ c < s.heap.objs.size := fun {y c} e => by
    rcases cloFrom_mem (PySem.mem_of_lookup e) with hm | ⟨h1, h2⟩
    · cases hm
    · obtain ⟨c1, hc⟩ := hfree _ h1 rfl
      have hc : X.env.cells.lookup y = some c1 := hc
      have e2 : c = c1 := by rw [h2, hc] <;> rfl
      rw [e2]
      obtain ⟨w, z⟩ := I.cell _ _ hc
      exact ⟨hc, z.lt⟩
  have look : ∀ {y}, scope.names.lookup y = some .free → ∃ c, (cloFrom X.env.cells scope.names []).lookup y = some c := fun {y} hl => by
    have hy : (y, NameKind.free) ∈ scope.names := PySem.mem_of_lookup hl
    exact mem_lookup (cloFrom_has (cells := X.env.cells) (acc := []) hy)
  refine ⟨⟨I.ok.mod, ok.kind, I.ok.glob, rfl, Nat.le_refl _, fun y z c e1 e2 => I.ok.inj y z c (cm e1).1 (cm e2).1, fun y hy => ?_, fun y c z _ => ?_, fun _ => hA, Around.frames_deeper hfrm, .inr ⟨rfl, rfl⟩,
      fun b hb => ⟨?_, fun y c e z => ?_⟩, I.bs, Nat.le_trans I.ok.bsz I.sz, fun b o e hb => ?_, fun b hb z => ?_, I.stack, I.stkFree⟩,
    hos, hba, Un.kept kp, ⟨_, (by rw [hheap]; exact hn'.push _), fun i y v e1 e2 e3 => ?_⟩, fun y c e => ?_, I.hok.fresh (Nat.le_refl _), fun y c e => ?_, fun p hp => ?_, I.hok.kept kp, by rw [wipe_length]; exact I.len⟩
  · have hy : scope.names.lookup y = some .cell ∨ scope.names.lookup y = some .free := hy
    rcases hy with hy | hy
    · exact absurd rfl (hcell _ (PySem.mem_of_lookup hy))
    · exact look hy
  · have z : false = true := z
    cases z
  · exact Nat.ne_of_lt (hfp b hb).2
  · exact (hfp b hb).1.2.2.2.2.1 y c (cm e).1 z
  · rcases (hfp b hb).1.2.2.2.1 with z | z
    · exact I.ok.noex b o e z
    · exact absurd (Nat.lt_of_lt_of_le (Heap.lt_size e) (Nat.le_trans I.ok.bsz z)) (Nat.lt_irrefl _)
  · rcases List.mem_cons.mp (I.stkSub b z) with z | z
    · exact (hfp b hb).1.2.1 z
    · exact (hfp b hb).1.2.2.1 z
  · obtain ⟨e2, hne⟩ := wipe_some e2
    have hfr : scope.names.lookup y = some .free := by
      have no : ∀ k, scope.names.lookup y = some k → ¬ (k = .local ∨ k = .cell) := fun k e hh => by
        rcases ok.own _ (PySem.mem_of_lookup e) hh with e' | e'
        · obtain ⟨p, hp, hpy⟩ := List.mem_map.mp e'
          have e3 := ok.ix p hp
          have : p.1 = y := hpy
          rw [this] at e3
          exact hne (List.mem_map.mpr ⟨p, hp, nodup_ix hN e3 e1⟩)
        · exact e' (List.mem_of_getElem? e1)
      have e3 : Vis scope y := e3
      rcases e3 with e3 | e3 | e3
      · exact absurd (.inl rfl) (no _ e3)
      · exact absurd (.inr rfl) (no _ e3)
      · exact e3
    obtain ⟨m, hn, hl⟩ := I.loc
    have hvis : Vis X.env.scope y := (ok.free _ (PySem.mem_of_lookup hfr) rfl).elim (fun k => .inr (.inl k)) (fun k => .inr (.inr k))
    obtain ⟨w, r, q⟩ := hl i y v e1 e2 hvis
    obtain ⟨c2, h2⟩ := look hfr
    refine ⟨w, r, .inr ⟨.inr hfr, c2, h2, ?_⟩⟩
    have c1 := (cm h2).1
    rcases q with ⟨k', _⟩ | ⟨_, c3, e', z⟩
    · have k' : X.env.scope.names.lookup y = some .local := k'
      rcases ok.free _ (PySem.mem_of_lookup hfr) rfl with k2 | k2 <;> rw [show X.env.scope.names.lookup y = _ from k2] at k' <;> cases k'
    · rw [c1] at e'
      cases e'
      exact z.keeps kp
  · obtain ⟨w, z⟩ := I.cell y c (cm e).1
    exact ⟨w, z.keeps kp⟩
  · exact I.freeC y c (cm e).1
  · have e : p = (h'.objs.size, gobj) := by simpa [genCx] using hp
    subst e
    refine ⟨by rw [hheap]; exact Heap.get?_push_size _ (Obj.isFreed_of_fields hgd), I.hok.fresh (by rw [hsz]; exact Nat.le_succ _), ?_, fun z => ?_, fun v q => by rw [hgd] at q; cases q⟩
    · show h'.objs.size ≠ s.heap.objs.size
      rw [hsz]; exact Nat.succ_ne_self _
    · rcases List.mem_cons.mp (I.stkSub _ z) with e | e
      · have h1 := I.lt
        rw [← e, hsz] at h1
        exact Nat.lt_irrefl _ (Nat.lt_of_succ_lt h1)
      · exact I.nofs (by rw [hsz]; exact Nat.le_succ _) e
end

/-- the turns of all(elt for target in iter) -/
def GTurn (J : It) (g : TG) (te : TE) (σ0 : L2.St) (vs : List Nat) (W : Nat → Nat → Hp → Prop) (Q : Bool → Hp → Prop) : Prop := ∀ i m H, W i m H →
  (J.stop i H ∧ Q true H) ∨ (J.go i H ∧ ∀ x H', J.yld i H x H' → g x σ0 H' fun σ2 H2 => wipe σ2 vs = σ0 ∧ te σ2 H2 fun y H3 => ∃ b : Bool, y = .bl b ∧ (b = true → ∃ m', m' < m ∧ W (i + 1) m' H3) ∧ (b = false → Q false H3))
section
variable {X : Cx}
theorem gen_loop {A : Around} {s1 : Shared} {H1 : Hp} {scope : Scope} {cl : List (Str × Addr)} {C : Addr} {code : Value} {fp : List Addr} {a : Addr} {gobj : Obj} {gi : Nat} {elt tg iter : Expr} {pos : Pos} {g : TG} {te : TE} {J : It} {it : Addr} {tn : Nat → Heap → Prop} {σ0 : L2.St} {vs : List Nat} {W : Nat → Nat → Hp → Prop} {Q : Bool → Hp → Prop}
    (hga : ∀ h : Heap, h.get? a = some gobj → h.IsGen a gi) (hco : scope.isCoroutine = false) (hl0 : σ0.length = X.N.length)
    (T : Turn X.prog X.w X.K tg J fp it tn)
    (pg : PG (genCx X A s1 H1 scope cl C code builtinsNs fp [(a, gobj)]) tg g) (pe : PE (genCx X A s1 H1 scope cl C code builtinsNs fp [(a, gobj)]) elt te)
    (hap : ∀ b ∈ fp, b ≠ a) (turn : GTurn J g te σ0 vs W Q) :
    ∀ (n m i : Nat) (s₀ s : Shared) (H : Hp), m < n → Inv (genCx X A s1 H1 scope cl C code builtinsNs fp [(a, gobj)]) [] σ0 H s → tn i s.heap → (∀ b ∈ fp, H b = none) → W i m H →
      Seg (model X.prog X.w) A (fun n s₀ r s₁ => r = .ok .next ∧ RA X.prog X.w X.stack fp H1 s1 Q n s₀ s₁) (YA X.prog X.w X.stack fp H1 s1 Q a gi) n s₀
        (.compLoop (.GeneratorExp elt [⟨tg, iter, [], 0⟩] scope pos) 0 (.ref it) .none (genEnv scope cl C code builtinsNs X.env))
        ((model X.prog X.w).den (.compLoop (.GeneratorExp elt [⟨tg, iter, [], 0⟩] scope pos) 0 (.ref it) .none (genEnv scope cl C code builtinsNs X.env))) [] s := by
  have stat : ∀ {σ' : L2.St} {H' : Hp} {s' : Shared}, Inv (genCx X A s1 H1 scope cl C code builtinsNs fp [(a, gobj)]) [] σ' H' s' → (∀ b ∈ fp, H' b = none) → ∀ b ∈ fp, FpOk (genCx X A s1 H1 scope cl C code builtinsNs fp [(a, gobj)]) [] H' b := fun {σ' H' s'} I' hn b hb =>
    ⟨hn b hb, (I'.ok.exf b hb).1, I'.ok.exfs b hb, .inl hb, fun x c e => (I'.ok.exf b hb).2 x c e, fun p hp => by
      have e : p = (a, gobj) := by simpa [genCx] using hp
      rw [e]
      exact (hap b hb).symm⟩
  have fin : ∀ {pins : List (Addr × Obj)} {σ' : L2.St} {H' : Hp} {s' : Shared} {b : Bool}, Inv (genCx X A s1 H1 scope cl C code builtinsNs fp [(a, gobj)]) pins σ' H' s' → Q b H' → Fin1 X.prog X.w X.stack fp H1 s1 (Q b) s' := fun {pins σ' H' s' b} I' q =>
    ⟨H', I'.os, I'.bare, I'.base, I'.hok, q⟩
  intro n
  induction n with
  | zero =>
    intro m i s₀ s H hm
    exact absurd hm (Nat.not_lt_zero _)
  | succ n ih =>
    intro m i s₀ s H hm I st nf w
    show Seg _ A _ _ _ s₀ _ ((compTurn (.GeneratorExp elt [⟨tg, iter, [], 0⟩] scope pos) 0 (.ref it) .none (genEnv scope cl C code builtinsNs X.env)).onRaise (leaving (genEnv scope cl C code builtinsNs X.env))) [] s
    rw [compTurn_gen, Sem.onRaise_eq_wrap]
    refine seg_bind_wrap (wpAny_standAt ?_)
    rcases turn i m H w with ⟨stop, qq⟩ | ⟨go, step⟩
    · have td := T.done (genCx X A s1 H1 scope cl C code builtinsNs fp [(a, gobj)]) rfl rfl rfl rfl i [] s σ0 H (fun _ _ => False) I (stat I nf) st stop
      rw [show (genCx X A s1 H1 scope cl C code builtinsNs fp [(a, gobj)]).A = A.over (.compLoop (.GeneratorExp elt [⟨tg, iter, [], 0⟩] scope pos) 0 (.ref it) .none (genEnv scope cl C code builtinsNs X.env)) [] from over_genc.symm] at td
      refine seg_bind_wrap (thnF td fun r s2 ⟨hr, I2⟩ => ?_)
      subst hr
      exact seg_end (.ok .next) ⟨rfl, fin I2 qq⟩
    · have ti := T.item (genCx X A s1 H1 scope cl C code builtinsNs fp [(a, gobj)]) rfl rfl rfl rfl i [] s σ0 H (fun _ _ => False) I (stat I nf) st go
      have eA : (genCx X A s1 H1 scope cl C code builtinsNs fp [(a, gobj)]).A = A.over (.compLoop (.GeneratorExp elt [⟨tg, iter, [], 0⟩] scope pos) 0 (.ref it) .none (genEnv scope cl C code builtinsNs X.env)) [] := over_genc.symm
      rw [eA] at ti
      refine seg_bind_wrap (thnF ti fun r s2 ⟨u, hr, h2⟩ => ?_)
      subst hr
      refine seg_bind_wrap (thnF h2 fun _ s3 ⟨x, H3, I3, r3, y3, st3, n3⟩ => ?_)
      have I3' := I3.pinned (stat I3 n3) (T.obj _ _ st3)
      have tg3 := pg.run _ s3 _ H3 x u _ I3' r3 (step x H3 y3)
      rw [eA] at tg3
      refine seg_bind_wrap (thnF tg3 fun _ s4 ⟨σ4, H4, I4, hw4, q4⟩ => ?_)
      simp only [List.forIn_nil]
      refine seg_bind_wrap (wpAny_pure ?_)
      simp only [if_true]
      have hy : ∀ v, yieldOut (genEnv scope cl C code builtinsNs X.env) v = yieldValue v := fun v => by simp only [yieldOut, genEnv, hco, Bool.false_eq_true, if_false]
      simp only [hy]
      rw [Sem.bind_eq_wrap', Sem.bind_eq_wrap', Sem.wrap_wrap, Sem.wrap_wrap]
      have te4 := pe.run _ s4 σ4 H4 _ I4 q4
      rw [eA] at te4
      refine seg_wrap (thnF te4 fun v s5 ⟨yv, H5, I5, r5, b, eb, ht, hf⟩ => ?_)
      subst eb
      obtain rfl : v = .bool b := r5
      have pinA : ∀ {pins : List (Addr × Obj)} {σ' : L2.St} {H' : Hp} {s' : Shared}, Inv (genCx X A s1 H1 scope cl C code builtinsNs fp [(a, gobj)]) pins σ' H' s' → s'.heap.IsGen a gi := fun {pins σ' H' s'} I' => hga _ (I'.pin (a, gobj) (List.mem_append_left _ (List.mem_singleton.mpr rfl))).1
      refine seg_at (seg_yield rfl rfl rfl ⟨b, rfl, I5.bare, I5.nolimit, pinA I5, fun hb s' ho hh hba => ?_, fun hb => fin I5 (hf hb)⟩)
      obtain ⟨m', hm', w'⟩ := ht hb
      have pin' : ∀ b ∈ fp, ∀ o, s3.heap.get? b = some o → s5.heap.get? b = some o ∧ H5 b = none := fun b hb o e =>
        let z := I5.pin (b, o) (List.mem_append_right _ (List.mem_append_right _ (mem_pinsAt hb e)))
        ⟨z.1, z.2.1⟩
      have I6 : Inv (genCx X A s1 H1 scope cl C code builtinsNs fp [(a, gobj)]) [] σ4 H5 s' := (I5.unpinned (pins := [])).call' (ch := []) ho (by rw [hh]; exact Un.refl) (by rw [hh]; exact I5.hok) hba fun b z => by simp at z
      have hl : σ0.length = σ4.length := by rw [← hw4, wipe_length]
      have I7 : Inv (genCx X A s1 H1 scope cl C code builtinsNs fp [(a, gobj)]) [] σ0 H5 s' := I6.weak hl fun j v e => by
        rw [← hw4] at e
        exact (wipe_some e).1
      refine seg_again rfl (ih m' (i + 1) s' s' H5 (by omega) I7 ?_ (fun b hb => ?_) w')
      · rw [hh]
        exact T.keep _ _ _ st3 fun b hb o e => (pin' b hb o e).1
      · obtain ⟨o, e, _⟩ := T.obj _ _ st3 b hb
        exact (pin' b hb o e).2
end

theorem tab_none {H : Hp} {P c : Addr} {ps qs : Array Value} {o : HO} (hP : H P = some (.tbl ps)) : ∀ a, upd (upd H P (.tbl qs)) c o a = none → H a = none := fun a e => by
  by_cases h1 : a = c
  · rw [h1, upd_same] at e; cases e
  · rw [upd_ne h1] at e
    by_cases h2 : a = P
    · rw [h2, upd_same] at e; cases e
    · rw [upd_ne h2] at e; exact e
/-- all(elt for target in iter): behind the iterator the def's table may have grown -/
def tAllG (T : List (Addr × Str)) (wi : TI) (g : TG) (te : TE) (vs : List Nat) : TE := fun σ H Q => wi σ H fun J H1 => LamX.Tabs T H1 ∧ ∀ H2, LamX.ExtN H1 H2 → (∀ a, H2 a = none → H1 a = none) → LamX.Tabs T H2 → ∃ W : Nat → Nat → Hp → Prop, (∃ m, W 0 m H2) ∧ GTurn J g te (wipe σ vs) vs W fun b H3 => Q (.bl b) H3
section
variable {X : Cx}
theorem pe_allG {T : List (Addr × Str)} {c P : Addr} {elt tg iter : Expr} {scope : Scope} {own : List (Str × Nat)} {p pos gpos : Pos} {wi : TI} {g : TG} {te : TE} {k : Nat}
    (hc : X.calm = true) (hN : X.N.Nodup) (hr : Room k X.A) (hg : Gl X "all") (hm : X.mg "all" = none) (TB : LamX.TabB X.base X.mg c P) (hcode : X.env.code = .ref c) (hmT : (P, X.env.qual ++ "<genexpr>") ∈ T) (hu : ∀ p ∈ T, p.1 = P → p.2 = X.env.qual ++ "<genexpr>") (hi : PI X tg iter wi)
    (ok : BlkOk X.N X.env.scope scope own) (hcell : ∀ y ∈ scope.names, y.2 ≠ .cell) (hco : scope.isCoroutine = false) (h0 : scope.names.lookup (".0" : Str) = some NameKind.local)
    (hgt : ∀ (A : Around) (s : Shared) (H : Hp) (cl : List (Str × Addr)) (C : Addr) (code : Value) (fp : List Addr) (pn : List (Addr × Obj)), PG (genCx X A s H scope cl C code builtinsNs fp pn) tg g)
    (hel : ∀ (A : Around) (s : Shared) (H : Hp) (cl : List (Str × Addr)) (C : Addr) (code : Value) (fp : List Addr) (pn : List (Addr × Obj)), A.depth = X.A.depth → A.units = X.A.units + 2 → A.handled = none → PE (genCx X A s H scope cl C code builtinsNs fp pn) elt te)
    (hs : ∀ v, genFold iter X.env v = pure v)
    (he : starEach [.GeneratorExp elt [⟨tg, iter, [], 0⟩] scope gpos] X.env = (false, eval (.GeneratorExp elt [⟨tg, iter, [], 0⟩] scope gpos) X.env) :: starEach [] X.env := by rfl) :
    PE X (.Call (.Name "all" p) [.GeneratorExp elt [⟨tg, iter, [], 0⟩] scope gpos] [] pos) (tAllG T wi g te (own.map (·.2))) := by
  refine ⟨fun pins s σ H Q I h => ?_⟩
  refine wpAny_Call_Name_kw (ld_blt I hg hm (show bootBuiltins "all" = some (.builtin "all") by decide +kernel) ?_)
  refine PyProof.Rows.callWith_builtin1 ?_ he (by rfl)
  rw [he]
  show wpAny _ _ (spliced ((false, eval (.GeneratorExp elt [⟨tg, iter, [], 0⟩] scope gpos) X.env) :: backTo pos (starEach [] X.env))) _ _ s
  refine Calls.spliced_cons ?_
  have hfree : ∀ y ∈ scope.names, y.2 = .free → ∃ c, X.env.cells.lookup y.1 = some c := fun y hy e => by
    rcases ok.free y hy e with k | k
    · exact I.ok.has _ (.inl k)
    · exact I.ok.has _ (.inr k)
  refine wpAny_GeneratorExp_make hco (closure_ok hfree) hcell h0 ok.kind (by have := hr.dp; omega) (thn (hi.run pins s σ H _ I h) fun v s1 h1 => thn h1 fun itv s2 h2 => ?_) hs
  obtain ⟨it, fp, tn, J, H1, e, I2, T', st2, f2, hT, q⟩ := h2
  obtain ⟨ps, hP, htr, hac⟩ := hT _ hmT
  subst e
  have hPs : s2.heap.get? P = some { cls := .none, data := .fields ps } := I2.hok P _ hP
  have cd : PySem.W.CodeHd s2.heap c P := TB.code.keeps fun b u e => I2.bk b u e
  refine ⟨I2.nolimit, ?_⟩
  have sz' : ∀ b ∈ fp, b < s2.heap.objs.size := fun b hb => by
    obtain ⟨o, e, _⟩ := T'.obj _ _ st2 b hb
    exact Heap.lt_size e
  have cont : ∀ (code : Value) (h3 : Heap) (tk : Nat) (H3 : Hp), Heap.ExtBut P s2.heap h3 → s2.heap.objs.size ≤ h3.objs.size → Inv X pins σ H3 { s2 with heap := h3, gens := s2.gens, drawn := s2.drawn, toks := tk } → LamX.ExtN H1 H3 → (∀ a, H3 a = none → H1 a = none) → LamX.Tabs T H3 → (∀ b ∈ fp, H3 b = none) →
      wpAny (model X.prog X.w) X.A (builtinsFor X.env.globals X.env.builtins) (fun bi s₄ => ∀ h', h'.Ns s₄.heap.objs.size (fun y => if y = ".0" then some (.ref it) else none) → Heap.SameBut s₄.heap.objs.size (s₄.heap.push { cls := .type "frame", data := .dict #[] }) h' →
          wpAny (model X.prog X.w) X.A (spliced (backTo pos (starEach [] X.env))) (fun vs s' => wpAny (model X.prog X.w) X.A (call (.builtin "all") (.ref h'.objs.size :: vs)) (EP X pins σ Q) X.xe s') X.xe { s₄ with
            gens := s₄.gens.push (.fresh (.compStart (.GeneratorExp elt [⟨tg, iter, [], 0⟩] scope gpos) 0 (.ref it) .none (genEnv scope (cloFrom X.env.cells scope.names []) s₄.heap.objs.size code bi X.env))),
            toks := s₄.toks + 1 + 1 + 1,
            heap := h'.push { cls := .type "generator", data := .fields #[.int s₄.gens.size 0, .str "<genexpr>" (s₄.toks + 1), .str (X.env.qual ++ "<genexpr>") (s₄.toks + 1 + 1)] } }) X.xe { s2 with heap := h3, toks := tk } := by
    intro code h3 tk H3 hx hsz J3 eN dN tT nfp
    obtain ⟨bm, ob, e1, e2, e3, e4, e5, e6, e7, e8⟩ := TB.bm
    have keep3 : ∀ b u, b ≠ P → s2.heap.get? b = some u → h3.get? b = some u := fun b u hb e => hx b u hb e
    refine wpAny_builtinsFor (m := X.mg) (by rw [I2.ok.glob]; exact (I2.mod.glob.keeps I2.bk).extBut hx TB.gP) e1 e2 (keep3 _ _ e4 (I2.bk _ _ e5)) e6 e7 e8 ?_
    intro h' hn' hs'
    refine Calls.spliced_nil ?_
    -- the state behind the table
    obtain ⟨W, ⟨m0, w0⟩, turn⟩ := q _ eN dN tT
    have sz : ∀ b ∈ fp, b < s2.heap.objs.size := fun b hb => by
      obtain ⟨o, e, _⟩ := T'.obj _ _ st2 b hb
      exact Heap.lt_size e
    have nP : ∀ b ∈ fp, b ≠ P := fun b hb z => by
      have := (f2 b hb).1
      rw [z, hP] at this
      cases this
    have f3 : ∀ b ∈ fp, FpOk X pins H3 b ∧ b < h3.objs.size := fun b hb => by
      exact ⟨⟨nfp b hb, (f2 b hb).2⟩, Nat.lt_of_lt_of_le (sz b hb) hsz⟩
    have st3 : tn 0 h3 := T'.keep _ _ _ st2 fun b hb o e => keep3 b o (nP b hb) e
    -- all
    refine call_function_tree F.kind_all F.plain_all F.entry_all (F.args_all1 _) ?_
    unfold Builtin.«all»
    refine wpAny_bind (m := oneArg "all" _) (wpAny_pure ?_)
    have hsz' : h'.objs.size = h3.objs.size + 1 := by rw [hs'.1, Heap.size_push]
    have keep4 : ∀ b o, h3.get? b = some o → h'.get? b = some o := fun b o e => hs'.extBut b o (Nat.ne_of_lt (Heap.lt_size e)) (Heap.get?_push_of_some _ e)
    have hgen : (h'.push { cls := .type "generator", data := .fields #[.int s2.gens.size 0, .str "<genexpr>" (tk + 1), .str (X.env.qual ++ "<genexpr>") (tk + 1 + 1)] }).IsGen h'.objs.size s2.gens.size :=
      ⟨_, _, _, Heap.get?_push_size _ rfl, rfl, rfl, rfl⟩
    refine wpAny_bind (wpAny_pyIter_gen hgen ?_)
    refine wpAny_pure ⟨plainId_quiet F.plain_all_loop _, ?_⟩
    have hba0 : AllBare (s2.gens.push (.fresh (.compStart (.GeneratorExp elt [⟨tg, iter, [], 0⟩] scope gpos) 0 (.ref it) .none (genEnv scope (cloFrom X.env.cells scope.names []) h3.objs.size code builtinsNs X.env)))) := AllBare.push I2.bare rfl
    have lim5 : (h'.push { cls := .type "generator", data := .fields #[.int s2.gens.size 0, .str "<genexpr>" (tk + 1), .str (X.env.qual ++ "<genexpr>") (tk + 1 + 1)] } : Heap).NoLimit := J3.nolimit.keeps fun b o e => Heap.get?_push_of_some _ (keep4 b o e)
    refine all_drain (P := X.prog) (w := X.w) (outer := X.stack) (ex := fp) (H := H3) (sc := { s2 with heap := h3, gens := s2.gens, drawn := s2.drawn, toks := tk }) (Q := fun b H3 => Q (.bl b) H3) (g := s2.gens.size) (A := X.A) hr.hd (by have := hr.dp; omega) (fun b s' hF => ?_) (m0 + 1) ({ s2 with heap := h'.push { cls := .type "generator", data := .fields #[.int s2.gens.size 0, .str "<genexpr>" (tk + 1), .str (X.env.qual ++ "<genexpr>") (tk + 1 + 1)] }, gens := s2.gens.push (.fresh (.compStart (.GeneratorExp elt [⟨tg, iter, [], 0⟩] scope gpos) 0 (.ref it) .none (genEnv scope (cloFrom X.env.cells scope.names []) h3.objs.size code builtinsNs X.env))), toks := tk + 1 + 1 + 1 } : Shared) hgen lim5 hba0 ⟨.fresh (.compStart (.GeneratorExp elt [⟨tg, iter, [], 0⟩] scope gpos) 0 (.ref it) .none (genEnv scope (cloFrom X.env.cells scope.names []) h3.objs.size code builtinsNs X.env)), ?_, ?_⟩
    · obtain ⟨H', o1, b1, u1, k1, q1⟩ := hF
      refine ⟨.bl b, H', J3.call' (ch := fp) o1 u1 k1 b1 fun b hb => ?_, rfl, q1⟩
      exact ⟨(f3 b hb).1.2.2.2.1, (f3 b hb).1.2.1, (f3 b hb).1.2.2.2.2.1, (f3 b hb).1.2.2.2.2.2⟩
    · exact Array.getElem?_push_size ..
    · refine ⟨rfl, ?_⟩
      have hA0 : (X.A.in1.in1).handled = none := hr.hd
      have I5 : Inv (genCx X X.A.in1.in1 { s2 with heap := h3, gens := s2.gens, drawn := s2.drawn, toks := tk } H3 scope (cloFrom X.env.cells scope.names []) h3.objs.size code builtinsNs fp [(h'.objs.size, { cls := .type "generator", data := .fields #[.int s2.gens.size 0, .str "<genexpr>" (tk + 1), .str (X.env.qual ++ "<genexpr>") (tk + 1 + 1)] })]) [] (wipe σ (own.map (·.2))) H3
          (({ s2 with heap := h'.push { cls := .type "generator", data := .fields #[.int s2.gens.size 0, .str "<genexpr>" (tk + 1), .str (X.env.qual ++ "<genexpr>") (tk + 1 + 1)] }, gens := s2.gens.push (.fresh (.compStart (.GeneratorExp elt [⟨tg, iter, [], 0⟩] scope gpos) 0 (.ref it) .none (genEnv scope (cloFrom X.env.cells scope.names []) h3.objs.size code builtinsNs X.env))), toks := tk + 1 + 1 + 1 } : Shared).setGen s2.gens.size .running) :=
        gen_start (s := { s2 with heap := h3, gens := s2.gens, drawn := s2.drawn, toks := tk }) (h' := h') J3 ok hcell hN hA0 I2.ok.frames f3 hn' hs' rfl rfl (allBare_setGen hba0 rfl) rfl
      have hap : ∀ b ∈ fp, b ≠ h'.objs.size := fun b hb z => by
        have z1 := (f3 b hb).2
        rw [z, hsz'] at z1
        exact Nat.lt_irrefl _ (Nat.lt_of_succ_lt z1)
      have st5 : tn 0 (h'.push { cls := .type "generator", data := .fields #[.int s2.gens.size 0, .str "<genexpr>" (tk + 1), .str (X.env.qual ++ "<genexpr>") (tk + 1 + 1)] } : Heap) := T'.keep _ _ _ st3 fun b _ o e => Heap.get?_push_of_some _ (keep4 b o e)
      have loop := fun s₀ => gen_loop (iter := iter) (pos := gpos) (a := h'.objs.size) (gi := s2.gens.size) (fun h e => ⟨_, _, _, e, rfl, rfl, rfl⟩) hco (by rw [wipe_length]; exact J3.len) T' (hgt _ _ _ _ _ _ _ _) (hel X.A.in1.in1 _ _ _ _ _ _ _ rfl rfl hr.hd) hap turn (m0 + 1) m0 0 s₀ _ _ (Nat.lt_succ_self _) I5 st5 (fun b hb => (f3 b hb).1.1) w0
      show Seg _ _ _ _ _ _ _ ((compStart (.GeneratorExp elt [⟨tg, iter, [], 0⟩] scope gpos) 0 (.ref it) .none (genEnv scope (cloFrom X.env.cells scope.names []) h3.objs.size code builtinsNs X.env)).onRaise (leaving (genEnv scope (cloFrom X.env.cells scope.names []) h3.objs.size code builtinsNs X.env))) [] _
      unfold compStart
      rw [Sem.onRaise_eq_wrap]
      show Seg _ _ _ _ _ _ _ ((ask >>= _).wrap _ _ _ _) [] _
      refine seg_bind_wrap (wpAny_askSetting ?_)
      split
      · exact seg_again rfl (loop _)
      · first
          | exact seg_bind_wrap (wpAny_rule (seg_bind_wrap (wpAny_standAt (seg_bind_wrap (T'.self _ 0 _ _ _ st5 (seg_again rfl (loop _)))))))
          | (refine seg_bind_wrap (wpAny_rule ?_); show Seg _ _ _ _ _ _ _ ((standAt iter.pos >>= _).wrap _ _ _ _) [] _; exact seg_bind_wrap (wpAny_standAt (seg_bind_wrap (T'.self _ 0 _ _ _ st5 (seg_again rfl (loop _))))))
  cases hf : codeAmong gpos ps.toList with
  | none =>
    refine wpAny_genexprCodeX hcode (cd.code hPs htr) (cd.tab hPs) hf fun c' h' tk hx hge hlt _ hrec htab' _ => ?_
    obtain ⟨c2, oc, us, t2, e2, hoc, hd, hv⟩ := hrec
    cases e2
    have nC : H1 c' = none := I2.hok.fresh hge
    have J := LamX.inv_table (more := #[rawInt gpos.line, rawInt gpos.col, .ref c']) (h' := h') (t' := tk) (q := X.env.qual ++ "<genexpr>") I2 hP (fun b u hb e => hx b u hb e) htab'.2 hge ⟨oc, us, t2, hoc, hd, hv⟩
    have hE : LamX.ExtN H1 (upd (upd H1 P (.tbl (ps ++ #[rawInt gpos.line, rawInt gpos.col, .ref c']))) c' (LamX.CodeO c' (X.env.qual ++ "<genexpr>"))) := fun x u e n => by
      have x1 : x ≠ c' := ne_of_none e nC
      have x2 : x ≠ P := fun z => n ps (by rw [z, hP] at e; exact (Option.some.inj e).symm)
      rw [upd_ne x1, upd_ne x2, e]
    refine cont _ h' tk _ hx (Nat.le_trans hge (Nat.le_of_lt hlt)) J hE (fun a e => tab_none hP a e) (fun z hz => ?_) (fun z hz => ?_)
    · by_cases hb : z.1 = P
      · have eL : (ps ++ #[rawInt gpos.line, rawInt gpos.col, .ref c']).toList = ps.toList ++ [rawInt gpos.line, rawInt gpos.col, .ref c'] := by simp
        rw [hu z hz hb, hb]
        refine ⟨_, (upd_ne (ne_of_none hP nC)).trans upd_same, by rw [eL]; exact PySem.TriplesOk_snoc _ _ _ _ htr, fun pq cv w => ?_⟩
        rw [eL] at w
        rcases LamX.among_app _ htr w with y | y
        · obtain ⟨c0, y1, y2⟩ := hac pq cv y
          exact ⟨c0, y1, hE c0 _ y2 LamX.codeO_ne⟩
        · exact ⟨c', y, upd_same⟩
      · obtain ⟨pt, y1, y2, y3⟩ := hT z hz
        refine ⟨pt, (upd_ne (ne_of_none y1 nC)).trans ((upd_ne hb).trans y1), y2, fun pq cv w => ?_⟩
        obtain ⟨c0, y4, y5⟩ := y3 pq cv w
        exact ⟨c0, y4, hE c0 _ y5 LamX.codeO_ne⟩
    · have y := (f2 z hz).1
      have n1 : z ≠ c' := fun w => by
        have := sz' z hz
        rw [w] at this
        exact Nat.lt_irrefl _ (Nat.lt_of_lt_of_le this hge)
      have n2 : z ≠ P := fun w => by rw [w, hP] at y; cases y
      rw [upd_ne n1, upd_ne n2]
      exact y
  | some cv =>
    refine wpAny_genexprCode_hit hcode (cd.code hPs htr) hf ?_
    exact cont cv s2.heap s2.toks H1 (Heap.ExtBut.refl _ _) (Nat.le_refl _) I2 (LamX.ExtN.refl _) (fun _ e => e) hT fun b hb => (f2 b hb).1
end
end Mx
end

section
set_option Elab.async false
set_option linter.all false
set_option maxRecDepth 100000
set_option maxHeartbeats 2000000
/-! an own error over ValueError whose __init__ says super().__init__("bad argument: " + name); self.name = name -/
namespace PySem
namespace BadX
open PySem.W PySem.Calls PyProof.Rows PySem.HandSPX
def iA (p1 p2 : Pos) : Arguments := { posonlyargs := [], args := [{ arg := "self", annotation := none, pos := p1 }, { arg := "name", annotation := none, pos := p2 }], vararg := none, kwonlyargs := [], kw_defaults := [], kwarg := none, defaults := [] }
def iB (a1 a2 a3 a4 a5 a6 a7 a8 b1 b2 b3 b4 : Pos) : List Stmt := [.Expr (.Call (.Attribute (.Call (.Name "super" a1) [] [] a2) "__init__" a3) [.BinOp (.Constant (.str "bad argument: ") 0 a4) .Add (.Name "name" a5) a6] [] a7) a8,
  .Assign [.Attribute (.Name "self" b1) "name" b2] (.Name "name" b3) b4]
def iS : Scope := { kind := .function, names := [(PySem.Str.ofString "self", .local), (PySem.Str.ofString "name", .local), (PySem.Str.ofString "__class__", .free), (PySem.Str.ofString "super", .globalImplicit)], isGenerator := false, isCoroutine := false, more := [] }
theorem mc_line {o : PySem.Expr} {name : Str} {apos pos : Pos} {args : List PySem.Expr} {env : Env} (hl : (apos.endLine == pos.line) = true) (hf : methodCallForm (args.length + 0) (backTo pos (starEach args env)) (backToKw pos (keywordEach [] env)) = true) :
    eval (.Call (.Attribute o name apos) args [] pos) env = (do
      let ov ← attributeBase o name env (eval o env)
      standAt apos.atName
      let (f, first) ← holding [ov] (getMethod ov name (do return (← importBound o env).getD true))
      callWith pos f first (backTo pos (starEach args env)) []) := by
  rw [arm_eval_Call]
  have e0 : backToKw pos (keywordEach [] env) = [] := rfl
  rw [e0] at hf ⊢
  simp only [methodCall, calleeOf, methodCallPos, List.length_nil, hf, hl, if_true, Bool.or_true, pure_bind]
/-- what the written part says of BadArgument, at C, and of its __init__, at fI -/
structure BadTxt (prog : Program) (K : Frag) (mg : Str → Option Value) (C fI : Addr) : Prop where
  gC : mg "BadArgument" = some (.ref C)
  cls : ∃ nm q N bs bm sn sub ab col dd k0 k1 k2 k3 k5, K.lookup C = some (excClassObj nm q C N bs bm true sn sub ab col dd k0 k1 k2 k3 k5 "ValueError.__new__") ∧ refsVE bm = true
  sa : findIn K (.ref C) "__setattr__" = some (some (.builtin "object.__setattr__"))
  ga : findIn K (.ref C) "__getattribute__" = some (some (.builtin "BaseException.__getattribute__"))
  gg : findIn K (.ref C) "__getattr__" = some none
  noN : findIn K (.ref C) "name" = some none
  iC : findIn K (.ref C) "__init__" = some (some (.ref fI))
  tC : typeIn K (.ref fI) = some (.type "function")
  kC : keepIn K (.ref C) = true
  exC : subIn K (.ref C) (.type "BaseException") = some true
  tyC : typeIn K (.ref C) = some (.type "type")
  hdC : hasDictIn K C = true
  te : exmOne K (.ref C) (.ref C) = some true
  gS : mg "super" = none
  fn : ∃ (oc : Value) (od : Option Addr) (doc pm : Value) (an : Option Addr) (cda cc : Addr) (ct : Value) (osl : Array (Option Value)) (p1 p2 a1 a2 a3 a4 a5 a6 a7 a8 b1 b2 b3 b4 : Pos) (ccl : Value) (cdd : Option Addr) (vs : Array Value) (ccs : Array (Option Value)) (file : Str) (tf : Tok) (cl : Value) (cld : Option Addr) (csl : Array (Option Value)),
    K.lookup fI = some ⟨oc, od, .func (ksFn "__init__" "BadArgument.__init__" (iA p1 p2) (iB a1 a2 a3 a4 a5 a6 a7 a8 b1 b2 b3 b4) iS .none .none doc pm an (.ref cda) ct cc), osl⟩ ∧ codeIn K (.ref cda) "BadArgument.__init__" = true ∧
    K.lookup cda = some ⟨ccl, cdd, .fields vs, ccs⟩ ∧ vs[2]? = some (.str file tf) ∧ ((prog.main.file : Str) == file) = true ∧ (a3.endLine == a7.line) = true ∧ K.lookup cc = some ⟨cl, cld, .cell (some (.ref C)), csl⟩
  subC : mroIn K C (.ref C) = some true
  subB : subIn K (.ref C) (.type "ValueError") = some true
  sup : ks_superIn K C C "__init__" = some (some (.builtin "ValueError.__init__"))
  op : nsIn K cStatics "thirdparty.any" = some none
  top : (prog.main.scope.names.lookup ("super" : Str)).isSome = false
theorem one_size (v : Value) : [v].length ≤ sizeLine := by
  rw [sizeLine_eq]
  exact (by decide : 1 ≤ 16777216)
structure InitEnd (h h' : Heap) (x C dx t1 : Addr) (v : Value) : Prop where
  keep : ∀ b o, b ≠ x → h.get? b = some o → h'.get? b = some o
  obj : h'.get? x = some { cls := .ref C, dict := some dx, data := .fields #[.ref t1, .none, .none, .none, .bool false, .none] }
  dbig : h.objs.size ≤ dx
  dne : dx ≠ x
  ns : h'.Ns1 dx (fun y => if y = "name" then some v else none)
structure OwnMade (h h' : Heap) (e C d : Addr) (v : Value) : Prop where
  keep : ∀ b o, h.get? b = some o → h'.get? b = some o
  new : h.objs.size ≤ e
  obj : ∃ oe vs, h'.get? e = some oe ∧ oe.cls = .ref C ∧ oe.dict = some d ∧ oe.data = .fields vs ∧ vs[1]? = some .none
  dbig : h.objs.size ≤ d
  dne : d ≠ e
  ns : h'.Ns1 d (fun y => if y = "name" then some v else none)
section
variable {prog : Program} {w : World} {A : Around} {E : Value → Shared → Prop} {R : Result → Shared → Prop} {s : Shared} {K : Frag} {mg : Str → Option Value} {C fI : Addr}
theorem call_mw {h : Heap} {g : Array GenState} {d : Drawn} {t : Nat} {os : OsState} {nm q : Str} {N : Addr} {bs bm : List Value} {hdct : Bool} {sn : List Str} {sub : List Value} {ab : Bool} {col : Option Bool} {dd : Option Addr} {k0 k1 k2 k3 k5 : Option Value} {u e t0 : Addr} {rest : List Value} {Q : Value → Shared → Prop}
    (hC : h.get? C = some (excClassObj nm q C N bs bm hdct sn sub ab col dd k0 k1 k2 k3 k5 "ValueError.__new__")) (he : h.get? e = some (excO C t0)) (hu : h.get? u = some (kxs_mw "ValueError.__init__" e)) (hrest : rest.length ≤ sizeLine)
    (hq : ∀ h' t1, (∀ b o, b ≠ e → h.get? b = some o → h'.get? b = some o) → h'.get? e = some (excO C t1) → Q .none ⟨h', g, d, t, os⟩) :
    wpAny (model prog w) A (call (.ref u) rest) Q E ⟨h, g, d, t, os⟩ := by
  refine wpAny_call (codeAny_of_tree ?_)
  show wpAny _ A.in1 (callAny (.ref u) ⟨rest, []⟩) _ _ _
  simp only [callAny]
  refine wpAny_bind (wpAny_load hu ?_)
  simp only [kxs_mw, show (Value.type "method-wrapper" == Value.type "method" || Value.type "method-wrapper" == Value.type "builtin_function_or_method" || Value.type "method-wrapper" == Value.type "method-wrapper") = true by decide, if_true]
  refine KFB.if_so (by decide) ?_
  refine wpAny_bind (check_bound_init F.excBase_ValueError.toExcCallFacts hC he rfl ?_)
  refine wpAny_bind (wpAny_pure (wpAny_pure ?_))
  refine ⟨plainId_quiet F.excBase_ValueError.init.plain _, codeAny_builtin F.excBase_ValueError.initEntry ?_⟩
  exact exc_init_tree (cls := .ref C) (t0 := t0) (dv := none) (c2 := .none) (c3 := .none) (b4 := .bool false) he hrest fun h' k e' _ => hq h' _ k e'
theorem bad_init (T : BadTxt prog K mg C fI) {x t0 : Addr} {z : Str} {tz : Tok} (X : K.In s.heap) (G : s.heap.Ns mainGlobals mg) (B : ∃ mb, s.heap.Ns builtinsNs mb ∧ ∀ x : Str, x ≠ "__name__" → mb x = bootBuiltins x) (hlim : s.heap.NoLimit)
    (hx : s.heap.get? x = some (excO C t0)) (hnx : K.lookup x = none) (hroom : A.depth < recursionLimit) (hz : z.length ≤ 1000)
    (hq : ∀ h' tk dx t1, InitEnd s.heap h' x C dx t1 (.str z tz) → R (.ok (.ret .none)) { s with heap := h', toks := tk }) :
    codeAny (model prog w) A (.call (.ref fI) ⟨[.ref x, .str z tz], []⟩) R s := by
  obtain ⟨oc, od, doc, pm, an, cda, cc, ct, osl, p1, p2, a1, a2, a3, a4, a5, a6, a7, a8, b1, b2, b3, b4, ccl, cdd, vs, ccs, file, tf, cl, cld, csl, ho, hcd, hcode, hvs, hfile, hline, hcell⟩ := T.fn
  obtain ⟨nm, q, N, bs, bm, sn, sub, ab, col, dd, k0, k1, k2, k3, k5, hC, hbm⟩ := T.cls
  have hcl : clsIn K C = some { name := nm, bases := bs, mro := .ref C :: bm, ns := N, qualname := q, hasDict := true, slotNames := sn, subclasses := sub, abstract := ab, collection := col, hasDel := false } := by unfold clsIn; rw [hC] <;> rfl
  refine ks_codeAny_call_defAt (fd := ksFn "__init__" "BadArgument.__init__" (iA p1 p2) (iB a1 a2 a3 a4 a5 a6 a7 a8 b1 b2 b3 b4) iS .none .none doc pm an (.ref cda) ct cc) (body := iB a1 a2 a3 a4 a5 a6 a7 a8 b1 b2 b3 b4) (binds := [("self", .ref x), ("name", .str z tz)])
    hroom (X _ _ ho) rfl hlim (codeRec_of X hcd) rfl (BindsTo.of_eq (by first | rfl | with_unfolding_all rfl)) (show ∀ x ∈ iS.names, x.2 ≠ .cell by decide) (fun y hy => by
      show iS.names.lookup y.1 = some .local
      rcases List.mem_cons.mp hy with rfl | hy
      · exact (show iS.names.lookup (PySem.Str.ofString "self") = some NameKind.local by decide)
      · rcases List.mem_cons.mp hy with rfl | hy
        · exact (show iS.names.lookup (PySem.Str.ofString "name") = some NameKind.local by decide)
        · cases hy) (fun h₁ hns hk₁ => ?_) rfl rfl rfl
  obtain ⟨hp, g, d, t, os⟩ := s
  have X₁ : K.In h₁ := X.keeps hk₁
  have G₁ : h₁.Ns mainGlobals mg := G.keeps hk₁
  obtain ⟨mb, hb1, hb2⟩ := B
  have B₁ := hb1.keeps hk₁
  have hx₁ := hk₁ _ _ hx
  have Ix : ∀ h, h.get? x = some (excO C t0) → InstAt h x (excO C t0) C none := fun h e => ⟨e, rfl, rfl, trivial⟩
  obtain ⟨oD, hD1, hD2⟩ : ∃ oD, K.lookup C = some oD ∧ ∃ cdD, oD.data = .cls cdD := ⟨_, hC, _, rfl⟩
  obtain ⟨cdD, hD2⟩ := hD2
  have hxC : x ≠ C := fun e => by
    rw [e, hC] at hnx
    cases hnx
  show wpAt _ _ _ (execs _ _) _ _ _
  refine ks_wpAt_execs_cons (ks_wpAt_Expr_any (ks_wpAt_MethodCall ?_ (mc_line hline (by rfl))))
  refine ks_wpAt_super_base (env := ksEnv "BadArgument.__init__" iS hp.objs.size fI (.ref cda) cc) (by first | rfl | decide) (by first | rfl | decide) (by decide) rfl (X₁ _ _ ho) rfl (by rfl) rfl (X₁ _ _ hcode) rfl hvs hfile T.top ?_
  refine ks_loadName_global (by rfl) (by first | rfl | decide) (loadGlobal_builtin (env := ksEnv "BadArgument.__init__" iS hp.objs.size fI (.ref cda) cc) G₁ T.gS B₁ ((hb2 _ (by decide +kernel)).trans (show bootBuiltins "super" = some (.type "super") by decide +kernel)) ⟨rfl, ?_⟩)
  refine wpAny_loadName_free (by rfl) (by first | rfl | decide) (by first | rfl | decide) ⟨_, X₁ _ _ hcell, rfl⟩ ?_
  refine wpAny_loadName_local (by rfl) (by first | rfl | decide) hns (by first | rfl | decide | with_unfolding_all rfl) ?_
  refine ks_wpAny_isType_cls (X₁ _ _ hD1) hD2 ⟨rfl, ?_⟩
  refine ks_wpAny_call_super (X₁ _ _ hD1) hD2 hx₁ rfl (fun c e => by cases e) (looks_mroIn X₁ T.subC) (fun h₂ e₂ kk₂ => ?_)
  have X₂ : K.In h₂ := X₁.keeps kk₂
  have hx₂ := kk₂ _ _ hx₁
  have hn₂ := hns.keeps kk₂
  have hsup : alongIn K "__init__" (((.ref C :: bm : List Value).dropWhile (· != .ref C)).drop 1) = some (some (.builtin "ValueError.__init__")) := by
    have := T.sup
    unfold ks_superIn at this
    rw [hcl] at this
    exact this
  refine kxs_getMethod kxs_ValueError e₂ (looks_opaque X₂ T.op) (l₀ := .ref C :: bm) ?_ rfl X₂ hsup ((Ix _ hx₂).type.andThen (looks_subIn X₂ T.subB)) hxC (by decide) ?_
  · exact fun A Q E s k q => wpAny_bind ((looks_clsIn X₂ hcl) A _ E s k (wpAny_pure q))
  have kk₃ : ∀ b o, h₂.get? b = some o → (h₂.push (kxs_mw "ValueError.__init__" x)).get? b = some o := fun b o e => Heap.get?_push_of_some _ e
  have hn₃ := hn₂.keeps kk₃
  have hu₃ : (h₂.push (kxs_mw "ValueError.__init__" x)).get? h₂.objs.size = some (kxs_mw "ValueError.__init__" x) := Heap.get?_push_size _ rfl
  have he1 : starEach [PySem.Expr.BinOp (.Constant (.str "bad argument: ") 0 a4) .Add (.Name "name" a5) a6] (ksEnv "BadArgument.__init__" iS hp.objs.size fI (.ref cda) cc) = (false, eval (PySem.Expr.BinOp (.Constant (.str "bad argument: ") 0 a4) .Add (.Name "name" a5) a6) (ksEnv "BadArgument.__init__" iS hp.objs.size fI (.ref cda) cc)) :: starEach [] (ksEnv "BadArgument.__init__" iS hp.objs.size fI (.ref cda) cc) := rfl
  show wpAny _ _ (callWith a7 (.ref h₂.objs.size) [] (backTo a7 (starEach [PySem.Expr.BinOp (.Constant (.str "bad argument: ") 0 a4) .Add (.Name "name" a5) a6] (ksEnv "BadArgument.__init__" iS hp.objs.size fI (.ref cda) cc))) []) _ _ _
  rw [he1]
  refine kxs_callWith (i := "ValueError.__init__") (x := x) (by rfl) (evalArgs_plain ?_)
  show wpAny _ _ (spliced ((false, eval (PySem.Expr.BinOp (.Constant (.str "bad argument: ") 0 a4) .Add (.Name "name" a5) a6) (ksEnv "BadArgument.__init__" iS hp.objs.size fI (.ref cda) cc)) :: backTo a7 (starEach [] (ksEnv "BadArgument.__init__" iS hp.objs.size fI (.ref cda) cc)))) _ _ _
  refine Calls.spliced_cons (wpAny_BinOp (Calls.Constant_str (wpAny_Name (wpAny_loadName_local (by rfl) (by first | rfl | decide) hn₃ (show _ = some (Value.str z tz) by first | rfl | decide | with_unfolding_all rfl) ?_) (by decide))))
  refine PyProof.Rows.add_str (fun t' tk => ?_) ?_
  · refine Calls.spliced_nil ⟨hu₃, ?_⟩
    show wpAny _ _ (call (.ref h₂.objs.size) [.str _ t']) _ _ _
    refine call_mw (X₂.keeps kk₃ _ _ hC) (kk₃ _ _ hx₂) hu₃ (one_size _) (fun h₄ t1 k₄ e₄ => ?_)
    show wpAt _ _ _ (execs _ _) _ _ _
    refine wpAt_of_wpAny ?_
    have hxL : x ≠ hp.objs.size := Nat.ne_of_lt (Heap.lt_size hx)
    obtain ⟨oL, es, ep, hoL, hrL⟩ := hn₃
    have hn₄ : h₄.Ns hp.objs.size (fun y => ([("self", .ref x), ("name", .str z tz)] : List (Str × Value)).reverse.lookup y) := ⟨oL, es, ep, k₄ _ _ hxL.symm hoL, hrL⟩
    have X₄ : K.In h₄ := fun b o e => k₄ b o (fun q => by rw [q, hnx] at e; cases e) (X₂.keeps kk₃ b o e)
    refine wpAny_execs_cons (plainObj_wpAny_Assign_Attribute ?_)
    refine wpAny_Name (wpAny_loadName_local (by rfl) (by first | rfl | decide) hn₄ (show _ = some (Value.str z tz) by first | rfl | decide | with_unfolding_all rfl) ?_) (by decide)
    refine wpAny_Name (wpAny_loadName_local (by rfl) (by first | rfl | decide) hn₄ (show _ = some (Value.ref x) by first | rfl | decide | with_unfolding_all rfl) ?_) (by decide)
    refine set_plain X₄ (ox := excO C t1) (od := none) ⟨e₄, rfl, rfl, trivial⟩ T.sa ?_
    refine exc_osa X₄ e₄ hcl (show refsVE (.ref C :: bm) = true from hbm) rfl T.noN (fun h₅ tk₅ dx k₅ dn dne hx₅ hn₅ => ?_)
    have old : ∀ b o, b ≠ x → hp.get? b = some o → h₅.get? b = some o := fun b o hb e => k₅ b o hb (k₄ b o hb (kk₃ _ _ (kk₂ _ _ (hk₁ b o e))))
    have z4 : hp.objs.size < h₄.objs.size := by
      obtain ⟨_, _, _, q, _⟩ := hn₄
      exact Heap.lt_size q
    refine wpAny_execs_nil ?_
    exact hq h₅ tk₅ dx t1 ⟨old, hx₅, Nat.le_of_lt (Nat.lt_of_lt_of_le z4 dn), dne, hn₅⟩
  · have e : ("bad argument: " : Str).length = 14 := by decide +kernel
    rw [e, sizeLine_eq]
    omega
theorem bad_made (T : BadTxt prog K mg C fI) {z : Str} {tz : Tok} (X : K.In s.heap) (G : s.heap.Ns mainGlobals mg) (B : ∃ mb, s.heap.Ns builtinsNs mb ∧ ∀ x : Str, x ≠ "__name__" → mb x = bootBuiltins x) (hlim : s.heap.NoLimit) (hroom : A.depth + 1 < recursionLimit) (hz : z.length ≤ 1000)
    (hq : ∀ h' tk e d, OwnMade s.heap h' e C d (.str z tz) → R (.ok (.ret (.ref e))) { s with heap := h', toks := tk }) :
    codeAny (model prog w) A (.call (.ref C) ⟨[.str z tz], []⟩) R s := by
  obtain ⟨nm, q, N, bs, bm, sn, sub, ab, col, dd, k0, k1, k2, k3, k5, hC, hbm⟩ := T.cls
  obtain ⟨hp, g, dr, tk, os⟩ := s
  have k : ∀ b o, hp.get? b = some o → ((hp.push (kdv_tup [.str z tz])).push (excO C hp.objs.size)).get? b = some o := fun b o e => Heap.get?_push_of_some _ (Heap.get?_push_of_some _ e)
  have hget : ((hp.push (kdv_tup [.str z tz])).push (excO C hp.objs.size)).get? (hp.objs.size + 1) = some (excO C hp.objs.size) := by heap_get
  have hnx : K.lookup (hp.objs.size + 1) = none := by
    cases e : K.lookup (hp.objs.size + 1) with
    | none => rfl
    | some o =>
      have z : hp.get? (hp.objs.size + 1) = some o := X _ _ e
      exact absurd (Nat.lt_of_succ_lt (Heap.lt_size z)) (Nat.lt_irrefl _)
  obtain ⟨mb, hb1, hb2⟩ := B
  refine call_own F.excBase_ValueError (fun X => refsVE_contains X bm hbm) (X _ _ hC) (looks_findIn X T.iC) (fun self => bind_fn X self T.tC) (one_size (.str z tz)) ?_
  refine bad_init (s := ⟨(hp.push (kdv_tup [.str z tz])).push (excO C hp.objs.size), g, dr, tk, os⟩) T (X.keeps k) (G.keeps k) ⟨mb, hb1.keeps k, hb2⟩ (hlim.keeps k) hget hnx ?_ hz fun h' tk' dx t1 ⟨k', hx, dn, dne, hns⟩ => ?_
  · show A.depth + 1 < recursionLimit
    exact hroom
  · have old : ∀ b o, hp.get? b = some o → h'.get? b = some o := fun b o e => k' b o (Nat.ne_of_lt (Nat.lt_succ_of_lt (Heap.lt_size e))) (k b o e)
    have z : hp.objs.size + 1 + 1 ≤ dx := by
      first
        | (simpa only [Heap.size_push] using dn)
        | exact dn
        | (have q := dn; rw [Heap.size_push, Heap.size_push] at q; exact q)
    exact ⟨rfl, hq h' tk' (hp.objs.size + 1) dx ⟨old, Nat.le_succ _, ⟨_, _, hx, rfl, rfl, rfl, rfl⟩, Nat.le_trans (Nat.le_trans (Nat.le_succ _) (Nat.le_succ _)) z, dne, hns⟩⟩
end
end BadX
end PySem
namespace L2
open PySem PySem.Spec PyProof.Rows
theorem relO_bad {v : V} {v' : Value} (r : RelV v v') (f : Str) : RelO (List.lookup f [(("name" : Str), v)]) (if f = "name" then some v' else none) := by
  by_cases hw : f = "name"
  · subst hw
    rw [if_pos rfl]
    have q : List.lookup ("name" : Str) [(("name" : Str), v)] = some v := by simp [List.lookup]
    rw [q]
    exact r
  · rw [if_neg hw]
    have qw : (f == ("name" : Str)) = false := by simpa using hw
    have q2 : List.lookup f [(("name" : Str), v)] = none := by simp [List.lookup, qw]
    rw [q2]
    trivial
section
variable {X : Cx} {C fI : Addr}
/-- BadArgument(e), e a text -/
def tMkBad (C : Addr) (ta : TA) : St → Hp → XK → Prop := fun σ H Q => ta σ H fun vs H1 => ∃ z : Str, vs = [.str z] ∧ z.length ≤ 1000 ∧ ∀ d, H1 d = none → Q (.ref C) (some d) (upd H1 d (.xd [(("name" : Str), .str z)]))
theorem pmk_bad {a : Expr} {ta : TA} {p pos : Pos} {k : Nat} (T : PySem.BadX.BadTxt X.prog X.K X.mg C fI) (hr : Room k X.A) (ha : PA X [a] ta) (hg : Gl X "BadArgument")
    (he : starEach (a :: []) X.env = (false, eval a X.env) :: starEach [] X.env := by rfl) (hpl : (backTo pos (starEach [] X.env)).any (·.1) = false := by rfl) :
    PMk X (.Call (.Name "BadArgument" p) [a] [] pos) (tMkBad C ta) := by
  intro pins s σ H Q I h
  refine wpAny_Call_Name_kw (ld_glob I hg T.gC ?_)
  refine PySem.W.callWith_K (h₀ := X.base) I.ok.mod.kin T.kC (thn (ha.run pos pins s σ H _ I h) fun us s1 hh => ?_) he hpl
  obtain ⟨vs, H1, I1, r1, z, ev, hz, q1⟩ := hh
  subst ev
  refine ⟨I1.kIn, ?_⟩
  cases r1 with
  | cons rv rn =>
    rename_i v' us'
    cases rn
    obtain ⟨tz, rfl⟩ := rv
    show wpAny _ _ (call (.ref C) [.str z tz]) _ _ _
    have hlim := I1.nolimit
    have G1 := I1.mod.glob.keeps I1.bk
    obtain ⟨mb, hb1, hb2⟩ := I1.mod.blt
    have B1 := hb1.keeps I1.bk
    have K1 := I1.kIn
    obtain ⟨hp, g, dr, tk, os⟩ := s1
    refine wpAny_call (PySem.BadX.bad_made T K1 G1 ⟨mb, B1, hb2⟩ hlim (by have := hr.dp; omega) hz fun h' tk' e d M => ?_)
    show MkP X pins σ Q (.ref e) ⟨h', g, dr, tk', os⟩
    obtain ⟨oe, fv, hoe, hc, hd, hdat, h1⟩ := M.obj
    have hns := M.ns
    obtain ⟨G', g1, g2⟩ := restrict h' fun b => decide (b ≠ e)
    have gk : ∀ b, b ≠ e → G'.get? b = h'.get? b := fun b hb => g1 b (decide_eq_true hb)
    have ge : G'.get? e = none := g2 e (by simp)
    have old : ∀ b o, hp.get? b = some o → G'.get? b = some o := fun b o q => (gk b (Nat.ne_of_lt (Nat.lt_of_lt_of_le (Heap.lt_size q) M.new))).trans (M.keep b o q)
    have ob : ObjOk X.prog X.w (upd H1 d (.xd [(("name" : Str), .str z)])) G' d (.xd [(("name" : Str), .str z)]) :=
      ⟨_, hns.at (fun o q => (gk d M.dne).trans q), fun f => relO_bad (v := .str z) (v' := .str z tz) ⟨tz, rfl⟩ f⟩
    have J : Inv X pins σ (upd H1 d (.xd [(("name" : Str), .str z)])) ⟨G', g, dr, tk', os⟩ := I1.laid (t' := tk') old M.dbig ob
    refine ⟨e, oe, fv, ⟨G', g, dr, tk', os⟩, _, .ref C, some d, rfl, J, fun b o q => ?_, ge, hoe, ⟨hc, hd⟩, hdat, h1, ?_, rfl, I1.bare, raises_own T.exC T.tyC, q1 d (I1.hok.fresh M.dbig)⟩
    · by_cases hb : b = e
      · have q' : G'.get? b = some o := q
        rw [hb, ge] at q'; cases q'
      · exact (gk b hb).symm.trans q
    · rw [upd_ne (Ne.symm M.dne)]
      exact I1.hok.fresh M.new
/-- e.name, e the exception that the suite holds (at a; its class cls, its dict d) -/
def tByBad (C : Addr) (a : Addr) (cls : Value) (d : Option Addr) (te : TE) : TE := fun σ H Q => te σ H fun x H1 => x = .ref a ∧ cls = .ref C ∧ ∃ (dd : Addr) (v : V), d = some dd ∧ H1 dd = some (.xd [(("name" : Str), v)]) ∧ Q v H1
theorem pe_byBad {a : Addr} {oe : Obj} {cls : Value} {d : Option Addr} {pn : List (Addr × Obj)} {e : Expr} {te : TE} {pos : Pos} (T : PySem.BadX.BadTxt X.prog X.K X.mg C fI) (hz : Zc cls d oe) (hf : ∃ vs, oe.data = .fields vs) (he : PE (X.suite a ((a, oe) :: pn)) e te)
    (hb : attributeBase e "name" X.env (eval e X.env) = eval e X.env := by rfl) :
    PE (X.suite a ((a, oe) :: pn)) (.Attribute e "name" pos) (tByBad C a cls d te) := by
  refine ⟨fun pins s σ H Q I h => ?_⟩
  refine attr_of hb (thn (he.run pins s σ H _ I h) fun u s1 hh => ?_)
  obtain ⟨x, H1, I1, rx, ex, ec, dd, v, ed, ea, q⟩ := hh
  subst ex
  obtain rfl : u = Value.ref a := rx
  subst ec
  subst ed
  obtain ⟨ha, _⟩ := I1.pin (a, oe) (List.mem_append_left _ List.mem_cons_self)
  obtain ⟨vs, hd⟩ := hf
  have hx : ObjOk X.prog X.w H1 s1.heap dd (.xd [(("name" : Str), v)]) := I1.hok dd _ ea
  obtain ⟨mA, hns, hr⟩ := hx
  obtain ⟨od, ho, hl⟩ := lookIn_ns hns
  have l : List.lookup ("name" : Str) [(("name" : Str), v)] = some v := by simp [List.lookup]
  obtain ⟨u, hu, ru⟩ := RelO.some_of (v := v) (o := mA "name") (by rw [← l]; exact hr "name")
  have J : PySem.W.InstAt s1.heap a oe C (some od) := ⟨ha, hz.1, by unfold PySem.W.notCls; rw [hd] <;> rfl, by rw [hz.2]; exact ho⟩
  exact HandSPX.exc_get I1.kIn J T.ga T.gg T.exC (PySem.W.findObj_own T.hdC T.noN rfl (by rw [hl, hu])) (handed_of ru) ⟨v, H1, I1.tok _, ru, q⟩
end
end L2
end

section
set_option Elab.async false
set_option linter.all false
set_option maxRecDepth 100000
set_option maxHeartbeats 2000000
namespace Mx
open PySem PySem.Spec PyProof.Rows L2 LamX
/-- a name, the slots being as many as the names -/
def tVarL (i : Nat) : TE := fun σ H Q => i < σ.length → tVar i σ H Q
theorem pe_varL {X : Cx} {i : Nat} {x : Str} {pos : Pos} (hN : X.N[i]? = some x) (hv : Vis X.env.scope x) (hd : (x == ("__debug__" : Str)) = false) (hcd : (x == ("__classdict__" : Str)) = false) : PE X (.Name x pos) (tVarL i) :=
  ⟨fun pins s σ H Q I h => (pe_var hN hv hd hcd).run pins s σ H Q I (h (by rw [I.len]; exact (List.getElem?_eq_some_iff.mp hN).1))⟩
/-- the heap behind the making of a code object -/
structure GrowT (T : List (Addr × Str)) (H H1 : Hp) : Prop where
  ext : ExtN H H1
  dom : ∀ a, H1 a = none → H a = none
  tabs : Tabs T H1
theorem GrowT.refl {T : List (Addr × Str)} {H : Hp} (h : Tabs T H) : GrowT T H H := ⟨.refl H, fun _ e => e, h⟩
/-- one more code object of the name q, told by the table at P -/
theorem GrowT.one {T : List (Addr × Str)} {H : Hp} {P c1 : Addr} {q : Str} {ps : Array Value} {x y : Value} {pos : Pos} (hT : Tabs T H) (hP : H P = some (.tbl ps)) (t3 : TriplesOk ps.toList)
    (am : ∀ (pq : Pos) (cv : Value), codeAmong pq ps.toList = some cv → ∃ c0, cv = .ref c0 ∧ H c0 = some (CodeO c0 q)) (uq : ∀ z ∈ T, z.1 = P → z.2 = q) (nc : H c1 = none) :
    GrowT T H (upd (upd H P (.tbl (ps ++ #[rawInt pos.line, rawInt pos.col, .ref c1]))) c1 (CodeO c1 q)) := by
  have up : ExtN H (upd (upd H P (.tbl (ps ++ #[rawInt pos.line, rawInt pos.col, .ref c1]))) c1 (CodeO c1 q)) := fun a u e nt => by
    have n1 : a ≠ c1 := ne_of_none e nc
    have n2 : a ≠ P := fun z => nt ps (by rw [z, hP] at e; exact (Option.some.inj e).symm)
    rw [upd_ne n1, upd_ne n2]
    exact e
  refine ⟨up, fun a e => ?_, fun z hz => ?_⟩
  · by_cases n1 : a = c1
    · rw [n1]; exact nc
    · rw [upd_ne n1] at e
      by_cases n2 : a = P
      · rw [n2, upd_same] at e; cases e
      · rw [upd_ne n2] at e; exact e
  · by_cases hb : z.1 = P
    · have eL : (ps ++ #[rawInt pos.line, rawInt pos.col, .ref c1]).toList = ps.toList ++ [rawInt pos.line, rawInt pos.col, .ref c1] := by simp
      rw [uq z hz hb, hb]
      refine ⟨_, (upd_ne (ne_of_none hP nc)).trans upd_same, by rw [eL]; exact PySem.TriplesOk_snoc _ _ _ _ t3, fun pq cv w => ?_⟩
      rw [eL] at w
      rcases among_app _ t3 w with y | y
      · obtain ⟨c0, y1, y2⟩ := am pq cv y
        exact ⟨c0, y1, up c0 _ y2 codeO_ne⟩
      · exact ⟨c1, y, upd_same⟩
    · obtain ⟨pt, y1, y2, y3⟩ := hT z hz
      refine ⟨pt, (upd_ne (ne_of_none y1 nc)).trans ((upd_ne hb).trans y1), y2, fun pq cv w => ?_⟩
      obtain ⟨c0, y4, y5⟩ := y3 pq cv w
      exact ⟨c0, y4, up c0 _ y5 codeO_ne⟩
def tLam2 (T : List (Addr × Str)) (TT : (XK → Hp → VK → Prop) → Hp → VK → Prop) (t : XK → TE) : TE := fun σ H Q => Tabs T H ∧ ∀ H1, GrowT T H H1 → TT (fun E H' Q' => t E σ H' Q') H1 Q
section
variable {X : Cx}
/-- making a lambda, with all that is known of the heap behind it -/
theorem lam_make3 {pins : List (Addr × Obj)} {σ : L2.St} {H : Hp} {s : Shared} {T : List (Addr × Str)} {c P : Addr} {params : Arguments} {body : Expr} {scope : Scope} {pos : Pos} {E : Value → Shared → Prop} {Q : Value → Shared → Prop} (I : Inv X pins σ H s) (tb : LamX.TabB X.base X.mg c P) (cd : X.env.code = .ref c)
    (mT : (P, X.env.qual ++ "<lambda>") ∈ T) (uq : ∀ p ∈ T, p.1 = P → p.2 = X.env.qual ++ "<lambda>") (hT : Tabs T H) (df : defaultsOf params X.env = ([], [])) (fr : ∀ y ∈ scope.names, y.2 = .free → ∃ c, X.env.cells.lookup y.1 = some c)
    (h : ∀ (f c1 : Addr) (pm ctv : Value) (H1 : Hp) (s' : Shared), Inv X pins σ H1 s' → GrowT T H H1 →
      s'.heap.get? f = some (PySem.W.kla_obj "<lambda>" (X.env.qual ++ "<lambda>") params body scope (cloFrom X.env.cells scope.names []) pm c1 ctv) → H1 f = none → f ∉ frs X.stack → H1 c1 = some (CodeO c1 (X.env.qual ++ "<lambda>")) → Q (.ref f) s') :
    wpAny (model X.prog X.w) X.A (eval (.Lambda params body scope pos) X.env) Q E s := by
  obtain ⟨ps, oP, t3, am⟩ := hT _ mT
  refine PySem.W.kla_eval df ?_
  have oP' : s.heap.get? P = some { cls := .none, data := .fields ps } := I.hok P _ oP
  have off : ∀ a, s.heap.objs.size ≤ a → a ∉ frs X.stack := fun a ha z => by
    rcases List.mem_cons.mp (I.stkSub _ z) with e | e
    · have l := I.lt
      rw [← e] at l
      exact Nat.lt_irrefl _ (Nat.lt_of_lt_of_le l ha)
    · exact I.nofs ha e
  cases hc : codeAmong pos ps.toList with
  | some cv =>
    obtain ⟨c1, rfl, oc⟩ := am pos cv hc
    refine PySem.W.kla_makeFunctionHit (mg := X.mg) (c := c) (P := P) (ps := ps) (closure_ok fr) I.ok.glob (I.mod.glob.keeps I.bk) cd (tb.code.keeps I.bk) oP' t3 hc (tb.bm.keeps I.bk) fun ctv g tk up sz => ?_
    exact h g.objs.size c1 _ ctv H _ (I.kept fun b o e => Heap.get?_push_of_some _ (up b o e)) (.refl hT) (Heap.get?_push_size _ rfl) (I.hok.fresh sz) (off _ sz) oc
  | none =>
    refine PySem.W.kla_makeFunction (mg := X.mg) (c := c) (P := P) (ps := ps) (closure_ok fr) I.ok.glob (I.mod.glob.keeps I.bk) cd (tb.code.keeps I.bk) oP' t3 hc tb.gP (tb.bm.keeps I.bk) fun c1 ctv g tk up ge lt rec tab => ?_
    obtain ⟨c2, oc, vs, t, e2, o1, o2, o3⟩ := rec
    cases e2
    have nc : H c1 = none := I.hok.fresh ge
    have sz : s.heap.objs.size ≤ g.objs.size := Nat.le_trans ge (Nat.le_of_lt lt)
    have gw := GrowT.one (x := .none) (y := .none) (pos := pos) hT oP t3 am uq nc
    have J := inv_table (t' := tk) (more := #[rawInt pos.line, rawInt pos.col, .ref c1]) (h' := g.push (PySem.W.kla_obj "<lambda>" (X.env.qual ++ "<lambda>") params body scope (cloFrom X.env.cells scope.names []) ((X.mg "__name__").getD .none) c1 ctv)) I oP
      (fun b o nb e => Heap.get?_push_of_some _ (up b o nb e)) (Heap.get?_push_of_some _ tab) ge ⟨oc, vs, t, Heap.get?_push_of_some _ o1, o2, o3⟩
    have n1 : g.objs.size ≠ c1 := Nat.ne_of_gt lt
    have n2 : g.objs.size ≠ P := Nat.ne_of_gt (Nat.lt_of_lt_of_le (Heap.lt_size oP') sz)
    exact h g.objs.size c1 _ ctv _ _ J gw (Heap.get?_push_size _ rfl) (by rw [upd_ne n1, upd_ne n2]; exact I.hok.fresh sz) (off _ sz) upd_same
/-- x(lambda: body) -/
theorem pe_lamcall2 {T : List (Addr × Str)} {TT : (XK → Hp → VK → Prop) → Hp → VK → Prop} {x a : Str} {g c P : Addr} {k : Nat} {pg : Arguments} {bg : List Stmt} {sg : Scope} {dV kV doc pm cdv ct oc : Value} {an od : Option Addr} {osl : Array (Option Value)} {Ng : List Str}
    {params : Arguments} {body : Expr} {scope : Scope} {t : XK → TE} {p lpos pos : Pos} (gl : Gl X x) (mx : X.mg x = some (.ref g)) (kp : PySem.W.keepIn X.K (.ref g) = true)
    (lk : X.K.lookup g = some ⟨oc, od, .func (PySem.W.fnOf x x pg bg sg dV kV doc pm an cdv ct), osl⟩) (cg : PySem.W.codeIn X.K cdv x = true) (bd : L2.Binds X.K (PySem.W.fnOf x x pg bg sg dV kV doc pm an cdv ct) [a] []) (Sg : FnScope Ng [a] sg) (n0 : Ng[0]? = some a) (va : Vis sg a)
    (gv : LamX.GivesTo X Ng x sg g cdv bg a (X.env.qual ++ "<lambda>") TT)
    (tb : LamX.TabB X.base X.mg c P) (cd : X.env.code = .ref c) (mT : (P, X.env.qual ++ "<lambda>") ∈ T) (uq : ∀ p ∈ T, p.1 = P → p.2 = X.env.qual ++ "<lambda>") (rm : Room (k + 2) X.A) (L : LamS X.env.scope scope) (df : defaultsOf params X.env = ([], []))
    (bi : ∀ (q : Str) (cl : List (Str × Addr)) (pm cv ctv : Value), bindArgs (PySem.W.kla_fn "<lambda>" q params body scope cl pm cv ctv) ⟨[], []⟩ = pure [])
    (bo : ∀ (A : Around) (outer : List Env) (s : Shared) (H : Hp) (E : XK) (f c1 : Addr), Room k (A.deeper (lamEnv X scope s.heap.objs.size f c1)) → PE (LamX.lamCx X A outer s H E scope f c1) body (t E))
    (d1 : (x == ("__debug__" : Str)) = false) (d2 : (a == ("__debug__" : Str)) = false) (d3 : (a == ("__classdict__" : Str)) = false) :
    PE X (.Call (.Name x p) [.Lambda params body scope lpos] [] pos) (tLam2 T TT t) := by
  refine ⟨fun pins s σ H Q I ⟨hT, h⟩ => ?_⟩
  refine wpAny_Call_Name_kw (ld_glob I gl mx ?_ d1)
  refine PySem.W.callWith_K (h₀ := X.base) I.ok.mod.kin kp ?_ (by rfl) (by rfl)
  refine Calls.spliced_cons (lam_make3 I tb cd mT uq hT df (L.has I.ok) fun f c1 pm1 ctv H1 s1 I1 gw hf hfn hfr hco => Calls.spliced_nil ⟨I1.kIn, ?_⟩)
  have key : codeAny (model X.prog X.w) X.A (.call (.ref g) ⟨[.ref f], []⟩) (CR C8.CX0 X.stack X.prog X.w H1 s1 Q C8.E0) s1 := by
    refine run_ofS (N := Ng) (ps := [a]) (us := [.ref f]) (vs := [.ref f]) lk cg Sg rm I1.env0 (bd s1 [.ref f] I1.kIn rfl) (.cons rfl .nil) rfl fun rm1 => ?_
    obtain ⟨t1, p1, q1⟩ := gv f c1 s1 H1 Q (fun E H' Q' => t E σ H' Q') (fun W pn xe E p1 p2 tk hW => pe_act (i := 0) I1 L hf hfn hfr (bi _ _ _ _ _) tk hW rm1 (fun A outer s H r2 => bo A outer s H E f c1 r2) n0 va d2 d3) hco (h H1 gw)
    exact ⟨t1, p1.nox, q1⟩
  refine wpAny_call (codeAny_mono key fun r s2 hq => ?_)
  cases r with
  | error e => exact False.elim hq
  | ok fl =>
    cases fl with
    | ret u => exact I1.after hq
    | next => exact False.elim hq
    | brk => exact False.elim hq
    | cont => exact False.elim hq
end
/-- told: try: a() / except BadArgument as n: return n.name / return ret -/
def TRef (CS : Addr) (ret : Str) : (XK → Hp → VK → Prop) → Hp → VK → Prop := fun tl H Q =>
  tl (fun cls d H' => cls = .ref CS ∧ ∃ (dd : Addr) (z : Str), d = some dd ∧ H' dd = some (.xd [(("name" : Str), .str z)]) ∧ Q (.str z) H') H (fun _ H' => Q (.str ret) H')
theorem refused_gives {X : Cx} {Ng : List Str} {x a n q ret : Str} {sg : Scope} {g CS fI : Addr} {cdg : Value} {i j : Nat} {p1 p2 p3 p4 p5 p6 p7 p8 p9 p10 p11 : Pos} (T : PySem.BadX.BadTxt X.prog X.K X.mg CS fI) (hge : sg.names.lookup ("BadArgument" : Str) = some .globalImplicit)
    (hN : Ng.Nodup) (hi : Ng[i]? = some n) (hi0 : i ≠ 0) (hln : sg.names.lookup n = some .local) (hdn : (n == ("__debug__" : Str)) = false) (hcn : (n == ("__classdict__" : Str)) = false) (h0 : ∀ f : Addr, (L2.start Ng [V.ref f])[0]? = some (some (V.ref f))) (hlen : i < Ng.length) :
    GivesTo X Ng x sg g cdg [.Try [.Expr (.Call (.Name a p1) [] [] p2) p3] [.ExceptHandler (some (.Name "BadArgument" p4)) (some n) [.Return (some (.Attribute (.Name n p5) "name" p6)) p7] p8] [] [] p9, .Return (some (.Constant (.str ret) j p10)) p11] a q (TRef CS ret) := by
  intro f c' s H Q tl act hc h
  have hgl : Gl (cxOf C8.CX0 X.prog X.w X.K X.mg X.base Ng x sg g cdg X.A X.stack s H C8.E0).nox "BadArgument" := hge
  refine ⟨_, pss_cons (ps_try_as (X := (cxOf C8.CX0 X.prog X.w X.K X.mg X.base Ng x sg g cdg X.A X.stack s H C8.E0).nox) (i := i) (c := .ref CS)
      (tb := fun W D σ H => ∃ Ech : XK, (∀ cls d σ' H', Ech cls d H' → W cls d σ' H') ∧ σ[0]? = some (some (.ref f)) ∧ H c' = some (CodeO c' q) ∧ tl Ech H (fun _ H1 => D.nx σ H1))
      (ts := fun a cls d => tRet (tByBad CS a cls d (tVarL i)))
      rfl rfl hN hi hln ⟨hgl, by decide, .inl T.gC⟩ L2.takes0 (fun W pn xe tk _ => ?_) (fun a oe cls d pn hz hf => pss_one (ps_ret ?_))) (pss_one (ps_ret pe_str)), ?_⟩
  · refine ⟨fun pins s' σ H' D I h' => ?_⟩
    obtain ⟨Ech, hW, h1, h2, h3⟩ := h'
    have hp := act W pn xe Ech p1 p2 tk hW
    have hq := pss_one (ps_expr (pos := p3) hp)
    exact hq.run pins s' σ H' D I ⟨h1, h2, h3⟩
  · exact pe_byBad (X := (cxOf C8.CX0 X.prog X.w X.K X.mg X.base Ng x sg g cdg X.A X.stack s H C8.E0).nox) T hz hf (pe_varL (i := i) hi (.inl hln) hdn hcn)
  · refine ⟨fun cls d H' => cls = .ref CS ∧ ∃ (dd : Addr) (z : Str), d = some dd ∧ H' dd = some (.xd [(("name" : Str), .str z)]) ∧ Q (.str z) H', fun cls d σ' H' ⟨e1, dd, z, e2, e3, e4⟩ => ?_, h0 f, hc, h⟩
    subst e1
    refine ⟨true, T.te, fun _ a ha => ?_, fun z => Bool.noConfusion z⟩
    intro hl
    exact ⟨.ref a, by rw [List.getElem?_set_self (by rw [List.length_set] at hl; exact hl)], rfl, rfl, dd, _, e2, e3, e4⟩
end Mx
end

section
set_option Elab.async false
set_option linter.all false
set_option maxRecDepth 100000
/-! The evaluator: codes of expressions and statements over pure data. -/
namespace Mx
open PySem
abbrev D := PyData
/-- what a slot is: nothing; a value that is never changed; a list or dict of the frame's own; one lent by the caller; one that is only looked at -/
inductive Md where
  | fz | ow | le | bo
  deriving DecidableEq, Repr
inductive Slot where
  | no
  | s (m : Md) (d : D)
abbrev Rho : Type := List Slot
inductive Exn where
  | bad (z : Str)
  deriving DecidableEq
inductive Res where
  | ok (fr : Bool) (d : D) (ρ : Rho)
  | exc (x : Exn)
  | stuck
abbrev CRes := Res
inductive SRes where
  | nx (ρ : Rho)
  | rt (fr : Bool) (d : D) (ρ : Rho)
  | brk (ρ : Rho)
  | cnt (ρ : Rho)
  | exc (x : Exn)
  | stuck
inductive Ty where
  | int | bool | tuple | str | list
  deriving DecidableEq
inductive Op where
  | add | sub | mul | fdv | mod | pow | neg
  | eq | ne | lt | le | gt | ge | isN | notN | inn | nin
  | idx | slTo | slFrom | slFT | slRev
  | len | sum | min2 | max2 | minL | maxL | abs | int | tup | list | lrng | sorted | isi (t : Ty) | allL | anyL
  | index | count
  deriving DecidableEq
inductive Tg where
  | one (i : Nat)
  | tup (is : List Nat)
/-- expressions; lists of them are nil, cons -/
inductive Ex where
  | var (i : Nat)
  | bor (i : Nat)
  | len (i : Nat)
  | frs (a : Ex)
  | cst (d : D)
  | glb (x : Str) (d : D)
  | op (o : Op) (as : Ex)
  | chn (o o' : Op) (a b c : Ex)
  | and (a b : Ex)
  | or (a b : Ex)
  | not (a : Ex)
  | ife (c a b : Ex)
  | tup (as : Ex)
  | lst (as : Ex)
  | rep (a n : Ex)
  | call (f : Nat) (nk : Nat) (as : Ex)
  | comp (elt : Ex) (tg : Tg) (own : List Nat) (it : Ex) (cond : Ex)
  | allg (elt : Ex) (tg : Tg) (own : List Nat) (it : Ex)
  | refd (b : Ex)
  | nil
  | cons (a as : Ex)
  | iseq (a : Ex)
  | irng (a : Ex)
  | irng2 (a b : Ex)
  | izip (a b : Ex)

/-! ### operators on data -/
def line : Nat := sizeLine
def intOf : D → Option Int
  | .int i => some i
  | _ => none
def intsOf : List D → Option (List Int)
  | [] => some []
  | .int i :: r => (intsOf r).map (i :: ·)
  | _ => none
def boolsOf : List D → Option (List Bool)
  | [] => some []
  | .bool i :: r => (boolsOf r).map (i :: ·)
  | _ => none
def seqOf : D → Option (List D)
  | .list xs => some xs
  | .tuple xs => some xs
  | _ => none
def zipOf : D → D → Option (List D)
  | .list xs, .list ys => some ((xs.zip ys).map fun p => .tuple [p.1, p.2])
  | .tuple xs, .tuple ys => some ((xs.zip ys).map fun p => .tuple [p.1, p.2])
  | _, _ => none
def mulOk (i j : Int) : Bool := decide (i.natAbs < 2 ^ 63 ∨ j.natAbs < 2 ^ 63)
def old (d : D) : Option (Bool × D) := some (false, d)
def new (d : D) : Option (Bool × D) := some (true, d)
def addD : D → D → Option (Bool × D)
  | .int i, .int j => old (.int (i + j))
  | .str x, .str y => if x.length + y.length ≤ line then old (.str (x ++ y)) else none
  | .list xs, .list ys => if xs.length + ys.length ≤ line then new (.list (xs ++ ys)) else none
  | .tuple xs, .tuple ys => if xs.length + ys.length ≤ line then old (.tuple (xs ++ ys)) else none
  | _, _ => none
def repD (xs : List D) (k : Int) : List D := (List.replicate k.toNat xs).flatten
def mulD : D → D → Option (Bool × D)
  | .int i, .int j => if mulOk i j then old (.int (i * j)) else none
  | .tuple xs, .int k => if xs ≠ [] ∧ 2 ≤ k ∧ k ≤ 1000 ∧ xs.length ≤ 1000 then old (.tuple (repD xs k)) else none
  | _, _ => none
def eqD : D → D → Option Bool
  | .int i, .int j => some (decide (i = j))
  | .str x, .str y => some (decide (x = y))
  | x, y => if SeqAt.shaped x && SeqAt.shaped y then some (PyData.eqv x y) else none
def ltD : D → D → Option Bool
  | .int i, .int j => some (decide (i < j))
  | .tuple xs, .tuple ys => match intsOf xs, intsOf ys with
    | some ns, some ms => some (HT.lexLt ns ms)
    | _, _ => none
  | _, _ => none
def intCmp (p : Int → Int → Bool) : D → D → Option (Bool × D)
  | .int i, .int j => old (.bool (p i j))
  | _, _ => none
/-- is there an item equal to x: for flat things -/
def flatD : D → Bool
  | .none => true
  | .bool _ => true
  | .int _ => true
  | .str _ => true
  | _ => false
def eqF : D → D → Bool
  | .none, .none => true
  | .bool a, .bool b => a == b
  | .bool a, .int b => (if a = true then 1 else 0) == b
  | .int a, .bool b => a == if b = true then 1 else 0
  | .int a, .int b => a == b
  | .str a, .str b => a == b
  | _, _ => false
def inD (x : D) (ys : List D) : Option Bool :=
  if flatD x && ys.all flatD then some (ys.any fun y => eqF y x) else none
def ixN (n : Nat) (i : Int) : Option Nat :=
  if 0 ≤ i then (if i < n then some i.toNat else none) else (if -(n : Int) ≤ i then some (i + n).toNat else none)
def idxD (xs : List D) (i : Int) : Option D := (ixN xs.length i).bind fun k => xs[k]?
/-- where a slice begins or ends -/
def sIx (n : Nat) (i : Int) : Nat := if 0 ≤ i then min i.toNat n else (i + n).toNat
def cutD (xs : List D) (lo hi : Nat) : List D := (xs.drop lo).take (hi - lo)
def isNoD : D → Bool
  | .none => true
  | _ => false
def isiD : Ty → D → Bool
  | .int, .int _ => true
  | .int, .bool _ => true
  | .bool, .bool _ => true
  | .tuple, .tuple _ => true
  | .str, .str _ => true
  | .list, .list _ => true
  | _, _ => false
def sortOk (xs : List D) : Bool := (xs.all fun x => (xs.all fun y => W.alike x y) && x.canLay0 && decide (x.depth ≤ 60)) && (xs.all (fun x => match x with | .tuple (_ :: _) => true | _ => false) || xs.all (fun x => match x with | .int _ => true | .str _ => true | _ => false))
def sortD (xs : List D) : Option (List D) := if sortOk xs then some (xs.mergeSort (W.dataLe false id)) else none
def minI : List Int → Option Int
  | [] => none
  | x :: r => some (r.foldl (fun m y => if y < m then y else m) x)
def maxI : List Int → Option Int
  | [] => none
  | x :: r => some (r.foldl (fun m y => if y > m then y else m) x)
def indexD (ys : List D) (x : D) : Option Nat := if flatD x && ys.all flatD then ys.findIdx? (fun y => eqF y x) else none
def slD (mk : List D → Option (Bool × D)) (xs : List D) (lo hi : Nat) : Option (Bool × D) := mk (cutD xs lo hi)
def cmpOpt (o : Option Bool) : Option (Bool × D) := o.bind fun b => old (.bool b)
def opD : Op → List D → Option (Bool × D)
  | .add, [x, y] => addD x y
  | .sub, [.int i, .int j] => old (.int (i - j))
  | .mul, [x, y] => mulD x y
  | .fdv, [.int i, .int j] => if 0 < j ∧ j < 1073741824 then old (.int (i / j)) else none
  | .mod, [.int i, .int j] => if 0 < j then old (.int (i % j)) else none
  | .pow, [.int i, .int j] => if 0 ≤ j ∧ j ≤ 1000 ∧ i.natAbs < 2 ^ 63 then old (.int (i ^ j.toNat)) else none
  | .neg, [.int i] => old (.int (-i))
  | .eq, [x, y] => cmpOpt (eqD x y)
  | .ne, [x, y] => cmpOpt ((eqD x y).map (!·))
  | .lt, [x, y] => cmpOpt (ltD x y)
  | .le, [x, y] => intCmp (fun i j => decide (i ≤ j)) x y
  | .gt, [x, y] => intCmp (fun i j => decide (j < i)) x y
  | .ge, [x, y] => intCmp (fun i j => decide (j ≤ i)) x y
  | .isN, [x] => old (.bool (isNoD x))
  | .notN, [x] => old (.bool (!isNoD x))
  | .inn, [x, .list ys] => cmpOpt (inD x ys)
  | .inn, [x, .tuple ys] => cmpOpt (inD x ys)
  | .nin, [x, .list ys] => cmpOpt ((inD x ys).map (!·))
  | .nin, [x, .tuple ys] => cmpOpt ((inD x ys).map (!·))
  | .idx, [.list xs, .int i] => (idxD xs i).bind old
  | .idx, [.tuple xs, .int i] => (idxD xs i).bind old
  | .slTo, [.list xs, .int j] => new (.list (cutD xs 0 (sIx xs.length j)))
  | .slFrom, [.list xs, .int i] => new (.list (cutD xs (sIx xs.length i) xs.length))
  | .slFT, [.list xs, .int i, .int j] => new (.list (cutD xs (sIx xs.length i) (sIx xs.length j)))
  | .slTo, [.tuple xs, .int j] => old (.tuple (cutD xs 0 (sIx xs.length j)))
  | .slFrom, [.tuple xs, .int i] => old (.tuple (cutD xs (sIx xs.length i) xs.length))
  | .slFT, [.tuple xs, .int i, .int j] => old (.tuple (cutD xs (sIx xs.length i) (sIx xs.length j)))
  | .len, [.list xs] => old (.int xs.length)
  | .len, [.tuple xs] => old (.int xs.length)
  | .sum, [.list xs] => (intsOf xs).bind fun ns => old (.int ns.sum)
  | .sum, [.tuple xs] => (intsOf xs).bind fun ns => old (.int ns.sum)
  | .min2, [.int i, .int j] => old (.int (if j < i then j else i))
  | .max2, [.int i, .int j] => old (.int (if j > i then j else i))
  | .minL, [.list xs] => ((intsOf xs).bind minI).bind fun m => old (.int m)
  | .maxL, [.list xs] => ((intsOf xs).bind maxI).bind fun m => old (.int m)
  | .abs, [.int i] => old (.int (if i < 0 then -i else i))
  | .int, [.int i] => old (.int i)
  | .tup, [.list xs] => old (.tuple xs)
  | .tup, [.tuple xs] => old (.tuple xs)
  | .list, [.list xs] => new (.list xs)
  | .list, [.tuple xs] => new (.list xs)
  | .lrng, [.int n] => if 0 ≤ n ∧ n ≤ line then new (.list ((List.range n.toNat).map fun k : Nat => .int (k : Int))) else none
  | .sorted, [.list xs] => (sortD xs).bind fun ys => new (.list ys)
  | .isi t, [x] => old (.bool (isiD t x))
  | .allL, [.list xs] => (boolsOf xs).bind fun bs => old (.bool (bs.all id))
  | .anyL, [.list xs] => (boolsOf xs).bind fun bs => old (.bool (bs.any id))
  | .index, [.list ys, x] => (indexD ys x).bind fun k => old (.int k)
  | .index, [.tuple ys, x] => (indexD ys x).bind fun k => old (.int k)
  | _, _ => none

/-! ### slots -/
def bindT : Tg → D → Rho → Option Rho
  | .one i, d, ρ => some (ρ.set i (.s .fz d))
  | .tup is, .tuple ds, ρ => if ds.length = is.length then some ((is.zip ds).foldl (fun ρ p => ρ.set p.1 (.s .fz p.2)) ρ) else none
  | _, _, _ => none
def wipeR (ρ : Rho) : List Nat → Rho
  | [] => ρ
  | i :: is => (wipeR ρ is).set i .no
/-- the block's own slots as they were -/
def backR (ρ ρ0 : Rho) : List Nat → Rho
  | [] => ρ
  | i :: is => (backR ρ ρ0 is).set i (ρ0.getD i .no)
/-- the own slots hold nothing that can be changed -/
def ownOk (ρ : Rho) (own : List Nat) : Bool := own.all fun i => match ρ[i]? with
  | some .no => true
  | some (.s .fz _) => true
  | _ => false
/-- a list that is walked is only looked at meanwhile -/
def lockR (it : Ex) (ρ : Rho) : Rho := match it with
  | .iseq (.bor i) => match ρ[i]? with
    | some (.s .ow d) => ρ.set i (.s .bo d)
    | some (.s .le d) => ρ.set i (.s .bo d)
    | _ => ρ
  | _ => ρ
def unlockR (it : Ex) (ρ0 ρ : Rho) : Option Rho := match it with
  | .iseq (.bor i) => match ρ0[i]? with
    | some (.s .ow _) => match ρ[i]? with
      | some (.s .bo d) => some (ρ.set i (.s .ow d))
      | _ => none
    | some (.s .le _) => match ρ[i]? with
      | some (.s .bo d) => some (ρ.set i (.s .le d))
      | _ => none
    | _ => some ρ
  | _ => some ρ
def compL (clr : Rho → Rho) (bind : D → Rho → Option Rho) (cond elt : Rho → Res) : List D → Rho → Res
  | [], ρ => .ok true (.list []) ρ
  | d :: ds, ρ => match bind d (clr ρ) with
    | none => .stuck
    | some ρ1 => match cond ρ1 with
      | .ok _ (.bool true) ρ2 => match elt ρ2 with
        | .ok _ y ρ3 => match compL clr bind cond elt ds ρ3 with
          | .ok _ (.list ys) ρ4 => .ok true (.list (y :: ys)) ρ4
          | _ => .stuck
        | _ => .stuck
      | .ok _ (.bool false) ρ2 => compL clr bind cond elt ds ρ2
      | _ => .stuck
def allGL (clr : Rho → Rho) (bind : D → Rho → Option Rho) (elt : Rho → Res) : List D → Rho → Res
  | [], ρ => .ok false (.bool true) ρ
  | d :: ds, ρ => match bind d (clr ρ) with
    | none => .stuck
    | some ρ1 => match elt ρ1 with
      | .ok _ (.bool true) ρ2 => allGL clr bind elt ds ρ2
      | .ok _ (.bool false) ρ2 => .ok false (.bool false) ρ2
      | _ => .stuck
def forL (bind : D → Rho → Option Rho) (body : Rho → SRes) : List D → Rho → SRes
  | [], ρ => .nx ρ
  | d :: ds, ρ => match bind d ρ with
    | none => .stuck
    | some ρ1 => match body ρ1 with
      | .nx ρ2 => forL bind body ds ρ2
      | .cnt ρ2 => forL bind body ds ρ2
      | .brk ρ2 => .nx ρ2
      | r => r
def whlL (c : Rho → Res) (body : Rho → SRes) : Nat → Rho → SRes
  | 0, _ => .stuck
  | n + 1, ρ => match c ρ with
    | .ok _ (.bool true) ρ1 => match body ρ1 with
      | .nx ρ2 => whlL c body n ρ2
      | .cnt ρ2 => whlL c body n ρ2
      | .brk ρ2 => .nx ρ2
      | r => r
    | .ok _ (.bool false) ρ1 => .nx ρ1
    | .exc x => .exc x
    | _ => .stuck
/-- what an argument is -/
inductive AK where
  | bor (i : Nat)
  | len (i : Nat)
  | frs
  | val
def argK : Ex → AK
  | .bor i => .bor i
  | .len i => .len i
  | .frs _ => .frs
  | _ => .val
/-- what the caller's slots are behind a call: what was lent has been given back -/
def giveBack : Ex → Rho → Rho → Option Rho
  | .cons a as, outs, ρ => match outs with
    | [] => none
    | s :: outs => match argK a with
      | .len i => match s with
        | .s .le d => match giveBack as outs ρ with
          | some ρ' => match ρ'[i]? with
            | some (.s .ow _) => some (ρ'.set i (.s .ow d))
            | some (.s .le _) => some (ρ'.set i (.s .le d))
            | _ => none
          | none => none
        | _ => none
      | _ => giveBack as outs ρ
  | .nil, outs, ρ => if outs.isEmpty then some ρ else none
  | _, _, _ => none
/-- the slots that are lent -/
def lent : Ex → List Nat
  | .cons a as => match argK a with
    | .len i => i :: lent as
    | _ => lent as
  | _ => []

def isNil : Ex → Bool
  | .nil => true
  | _ => false
/-! ### expressions -/
abbrev FnSem := Nat → Rho → CRes
inductive ARes where
  | ok (ss : Rho) (ρ : Rho)
  | exc (x : Exn)
  | stuck
section
variable (F : FnSem)
mutual
def ev : Ex → Rho → Res
  | .var i, ρ => match ρ[i]? with
    | some (.s .fz d) => .ok false d ρ
    | some (.s .ow d) => .ok false d (ρ.set i (.s .fz d))
    | _ => .stuck
  | .bor _, _ => .stuck
  | .len _, _ => .stuck
  | .frs a, ρ => ev a ρ
  | .cst d, ρ => .ok false d ρ
  | .glb _ d, ρ => .ok false d ρ
  | .op o as, ρ => match ev as ρ with
    | .ok _ (.list ds) ρ' => match opD o ds with
      | some (fr, d) => .ok fr d ρ'
      | none => .stuck
    | .ok _ _ _ => .stuck
    | .exc x => .exc x
    | .stuck => .stuck
  | .chn o o' a b c, ρ => match ev a ρ with
    | .ok _ x ρ1 => match ev b ρ1 with
      | .ok _ y ρ2 => match opD o [x, y] with
        | some (_, .bool true) => match ev c ρ2 with
          | .ok _ z ρ3 => match opD o' [y, z] with
            | some (fr, d) => .ok fr d ρ3
            | none => .stuck
          | .exc x => .exc x
          | .stuck => .stuck
        | some (_, .bool false) => .ok false (.bool false) ρ2
        | _ => .stuck
      | .exc x => .exc x
      | .stuck => .stuck
    | .exc x => .exc x
    | .stuck => .stuck
  | .and a b, ρ => match ev a ρ with
    | .ok _ (.bool true) ρ1 => ev b ρ1
    | .ok _ (.bool false) ρ1 => .ok false (.bool false) ρ1
    | .exc x => .exc x
    | _ => .stuck
  | .or a b, ρ => match ev a ρ with
    | .ok _ (.bool true) ρ1 => .ok false (.bool true) ρ1
    | .ok _ (.bool false) ρ1 => ev b ρ1
    | .exc x => .exc x
    | _ => .stuck
  | .not a, ρ => match ev a ρ with
    | .ok _ (.bool b) ρ1 => .ok false (.bool (!b)) ρ1
    | .exc x => .exc x
    | _ => .stuck
  | .ife c a b, ρ => match ev c ρ with
    | .ok _ (.bool true) ρ1 => ev a ρ1
    | .ok _ (.bool false) ρ1 => ev b ρ1
    | .exc x => .exc x
    | _ => .stuck
  | .tup as, ρ => match ev as ρ with
    | .ok _ (.list ds) ρ' => .ok false (.tuple ds) ρ'
    | .ok _ _ _ => .stuck
    | .exc x => .exc x
    | .stuck => .stuck
  | .lst as, ρ => match ev as ρ with
    | .ok _ (.list ds) ρ' => .ok true (.list ds) ρ'
    | .ok _ _ _ => .stuck
    | .exc x => .exc x
    | .stuck => .stuck
  | .rep a n, ρ => match ev a ρ with
    | .ok true (.list ds) ρ1 => match ev n ρ1 with
      | .ok _ (.int k) ρ2 => if -(2 ^ 62) ≤ k ∧ k < 2 ^ 62 ∧ ds.length * k.toNat ≤ line then .ok true (.list (repD ds k)) ρ2 else .stuck
      | .exc x => .exc x
      | _ => .stuck
    | .exc x => .exc x
    | _ => .stuck
  | .call f _ as, ρ => match evA as ρ with
    | .ok ss ρ' => match F f ss with
      | .ok fr d outs => match giveBack as outs ρ' with
        | some ρ2 => .ok fr d ρ2
        | none => .stuck
      | .exc x => .exc x
      | .stuck => .stuck
    | .exc x => .exc x
    | .stuck => .stuck
  | .comp elt tg own it cond, ρ => match ev it ρ with
    | .ok _ (.list ds) ρ1 => if ownOk ρ1 own && decide (ds.length ≤ line) then match compL (wipeR · own) (bindT tg) (fun ρ => if isNil cond then .ok false (.bool true) ρ else ev cond ρ) (ev elt) ds (lockR it ρ1) with
        | .ok _ (.list ys) ρ2 => match unlockR it ρ1 (wipeR ρ2 own) with
          | some ρ3 => .ok true (.list ys) (backR ρ3 ρ1 own)
          | none => .stuck
        | _ => .stuck
      else .stuck
    | .exc x => .exc x
    | _ => .stuck
  | .allg elt tg own it, ρ => match ev it ρ with
    | .ok _ (.list ds) ρ1 => if ownOk ρ1 own then match allGL (wipeR · own) (bindT tg) (ev elt) ds (lockR it ρ1) with
        | .ok _ (.bool b) ρ2 => match unlockR it ρ1 (wipeR ρ2 own) with
          | some ρ3 => .ok false (.bool b) (backR ρ3 ρ1 own)
          | none => .stuck
        | _ => .stuck
      else .stuck
    | .exc x => .exc x
    | _ => .stuck
  | .refd b, ρ => match ev b ρ with
    | .ok _ _ ρ' => .ok false (.str "") ρ'
    | .exc (.bad z) => .ok false (.str z) ρ
    | .stuck => .stuck
  | .nil, ρ => .ok false (.list []) ρ
  | .cons a as, ρ => match argK a with
    | .bor i => match ρ[i]? with
      | some (.s _ _) => match ev as ρ with
        | .ok _ (.list ds) ρ' => match ρ'[i]? with
          | some (.s _ d) => .ok false (.list (d :: ds)) ρ'
          | _ => .stuck
        | .ok _ _ _ => .stuck
        | .exc x => .exc x
        | .stuck => .stuck
      | _ => .stuck
    | .val => match ev a ρ with
      | .ok _ d ρ1 => match ev as ρ1 with
        | .ok _ (.list ds) ρ2 => .ok false (.list (d :: ds)) ρ2
        | .ok _ _ _ => .stuck
        | .exc x => .exc x
        | .stuck => .stuck
      | .exc x => .exc x
      | .stuck => .stuck
    | _ => .stuck
  | .iseq a, ρ => match argK a with
    | .bor i => match ρ[i]? with
      | some (.s _ d) => match seqOf d with
        | some ds => .ok false (.list ds) ρ
        | none => .stuck
      | _ => .stuck
    | .val => match ev a ρ with
      | .ok _ d ρ1 => match seqOf d with
        | some ds => .ok false (.list ds) ρ1
        | none => .stuck
      | .exc x => .exc x
      | .stuck => .stuck
    | _ => .stuck
  | .irng a, ρ => match ev a ρ with
    | .ok _ (.int n) ρ1 => if -(2 ^ 60) ≤ n ∧ n ≤ line then .ok false (.list ((List.range n.toNat).map fun k : Nat => .int (k : Int))) ρ1 else .stuck
    | .exc x => .exc x
    | _ => .stuck
  | .irng2 a b, ρ => match ev a ρ with
    | .ok _ (.int lo) ρ1 => match ev b ρ1 with
      | .ok _ (.int hi) ρ2 => if -(2 ^ 60) ≤ lo ∧ lo ≤ 2 ^ 60 ∧ -(2 ^ 60) ≤ hi ∧ hi ≤ line then .ok false (.list ((List.range (hi - lo).toNat).map fun k : Nat => .int (lo + (k : Int)))) ρ2 else .stuck
      | .exc x => .exc x
      | _ => .stuck
    | .exc x => .exc x
    | _ => .stuck
  | .izip a b, ρ => match ev a ρ with
    | .ok _ x ρ1 => match ev b ρ1 with
      | .ok _ y ρ2 => match zipOf x y with
        | some ds => .ok false (.list ds) ρ2
        | none => .stuck
      | .exc x => .exc x
      | .stuck => .stuck
    | .exc x => .exc x
    | .stuck => .stuck
def evA : Ex → Rho → ARes
  | .nil, ρ => .ok [] ρ
  | .cons a as, ρ => match argK a with
    | .bor i => match ρ[i]? with
      | some (.s _ _) => match evA as ρ with
        | .ok ss ρ' => match ρ'[i]? with
          | some (.s .fz d) => .ok (.s .fz d :: ss) ρ'
          | some (.s _ d) => .ok (.s .bo d :: ss) ρ'
          | _ => .stuck
        | r => r
      | _ => .stuck
    | .len i => match ρ[i]? with
      | some (.s _ _) => match evA as ρ with
        | .ok ss ρ' => match ρ'[i]? with
          | some (.s .ow d) => .ok (.s .le d :: ss) ρ'
          | some (.s .le d) => .ok (.s .le d :: ss) ρ'
          | _ => .stuck
        | r => r
      | _ => .stuck
    | .frs => match ev a ρ with
      | .ok true d ρ1 => if isNil as then .ok [.s .le d] ρ1 else .stuck
      | .exc x => .exc x
      | _ => .stuck
    | .val => match ev a ρ with
      | .ok _ d ρ1 => match evA as ρ1 with
        | .ok ss ρ2 => .ok (.s .fz d :: ss) ρ2
        | r => r
      | .exc x => .exc x
      | .stuck => .stuck
  | _, _ => .stuck
end
end

/-! ### statements -/
inductive Sc where
  | skip
  | seq (a b : Sc)
  | ex (e : Ex)
  | set (i : Nat) (e : Ex)
  | par (i j : Nat) (as : Ex)
  | unp (is : List Nat) (e : Ex)
  | aug (i : Nat) (o : Op) (e : Ex)
  | sti (i : Nat) (ix e : Ex)
  | agi (i : Nat) (ix : Ex) (o : Op) (e : Ex)
  | app (i : Nat) (e : Ex)
  | ret (e : Ex)
  | retN
  | rown (i : Nat)
  | ifs (c : Ex) (a b : Sc)
  | whl (c : Ex) (b : Sc)
  | for1 (tg : Tg) (it : Ex) (b : Sc)
  | brk
  | cnt
  | rais (e : Ex)
  | par3 (i j l : Nat) (as : Ex)
def fuel : Nat := 2 ^ 40
/-- a new value goes to a slot -/
def putS (ρ : Rho) (i : Nat) (fr : Bool) (d : D) : Rho := ρ.set i (.s (if fr then .ow else .fz) d)
/-- the slot is the frame's own, or lent, and holds d -/
def mutS (ρ : Rho) (i : Nat) : Option (Md × D) := match ρ[i]? with
  | some (.s .ow d) => some (.ow, d)
  | some (.s .le d) => some (.le, d)
  | _ => none
def setD (d : D) (ix v : D) : Option D := match d, ix with
  | .list xs, .int i => (ixN xs.length i).map fun k => .list (xs.set k v)
  | _, _ => none
/-- a list as a slot holds it has no own name elsewhere -/
def safeIt (ρ : Rho) (it : Ex) : Bool := true
section
variable (F : FnSem)
def evS : Sc → Rho → SRes
  | .skip, ρ => .nx ρ
  | .seq a b, ρ => match evS a ρ with
    | .nx ρ' => evS b ρ'
    | r => r
  | .ex e, ρ => match ev F e ρ with
    | .ok _ _ ρ' => .nx ρ'
    | .exc x => .exc x
    | .stuck => .stuck
  | .set i e, ρ => match ev F e ρ with
    | .ok fr d ρ' => .nx (putS ρ' i fr d)
    | .exc x => .exc x
    | .stuck => .stuck
  | .par i j as, ρ => match ev F as ρ with
    | .ok _ (.list [x, y]) ρ' => .nx (putS (putS ρ' i false x) j false y)
    | .exc x => .exc x
    | _ => .stuck
  | .unp is e, ρ => match ev F e ρ with
    | .ok _ d ρ' => match bindT (.tup is) d ρ' with
      | some ρ2 => .nx ρ2
      | none => .stuck
    | .exc x => .exc x
    | .stuck => .stuck
  | .aug i o e, ρ => match ρ[i]? with
    | some (.s .fz (.int x)) => match ev F e ρ with
      | .ok _ (.int y) ρ' => match opD o [.int x, .int y] with
        | some (_, d) => .nx (putS ρ' i false d)
        | none => .stuck
      | .exc x => .exc x
      | _ => .stuck
    | _ => .stuck
  | .sti i ix e, ρ => match ev F e ρ with
    | .ok _ v ρ1 => match ρ1[i]? with
      | some (.s _ _) => match ev F ix ρ1 with
        | .ok _ k ρ2 => match mutS ρ2 i with
          | some (m, d) => match setD d k v with
            | some d' => .nx (ρ2.set i (.s m d'))
            | none => .stuck
          | none => .stuck
        | .exc x => .exc x
        | .stuck => .stuck
      | _ => .stuck
    | .exc x => .exc x
    | .stuck => .stuck
  | .agi i ix o e, ρ => match ρ[i]? with
    | some (.s _ _) => match ev F ix ρ with
      | .ok _ (.int k) ρ1 => match mutS ρ1 i with
        | some (_, .list xs) => match idxD xs k with
          | some (.int x) => match ev F e ρ1 with
            | .ok _ (.int y) ρ2 => match opD o [.int x, .int y] with
              | some (_, z) => match mutS ρ2 i with
                | some (m, d) => match setD d (.int k) z with
                  | some d' => .nx (ρ2.set i (.s m d'))
                  | none => .stuck
                | none => .stuck
              | none => .stuck
            | .exc x => .exc x
            | _ => .stuck
          | _ => .stuck
        | _ => .stuck
      | .exc x => .exc x
      | _ => .stuck
    | _ => .stuck
  | .app i e, ρ => match mutS ρ i with
    | some (_, .list _) => match ev F e ρ with
      | .ok _ v ρ' => match mutS ρ' i with
        | some (m, .list xs) => if xs.length < line then .nx (ρ'.set i (.s m (.list (xs ++ [v])))) else .stuck
        | _ => .stuck
      | .exc x => .exc x
      | .stuck => .stuck
    | _ => .stuck
  | .ret e, ρ => match ev F e ρ with
    | .ok fr d ρ' => .rt fr d ρ'
    | .exc x => .exc x
    | .stuck => .stuck
  | .retN, ρ => .rt false .none ρ
  | .rown i, ρ => match ρ[i]? with
    | some (.s .ow d) => .rt true d (ρ.set i .no)
    | some (.s .fz d) => .rt false d ρ
    | _ => .stuck
  | .ifs c a b, ρ => match ev F c ρ with
    | .ok _ (.bool true) ρ' => evS a ρ'
    | .ok _ (.bool false) ρ' => evS b ρ'
    | .exc x => .exc x
    | _ => .stuck
  | .whl c b, ρ => whlL (ev F c) (evS b) fuel ρ
  | .for1 tg it b, ρ => match ev F it ρ with
    | .ok _ (.list ds) ρ1 => match forL (bindT tg) (evS b) ds (lockR it ρ1) with
      | .nx ρ2 => match unlockR it ρ1 ρ2 with
        | some ρ3 => .nx ρ3
        | none => .stuck
      | .rt fr d ρ2 => match unlockR it ρ1 ρ2 with
        | some ρ3 => .rt false d ρ3
        | none => .stuck
      | .exc x => .exc x
      | _ => .stuck
    | .exc x => .exc x
    | _ => .stuck
  | .brk, ρ => .brk ρ
  | .cnt, ρ => .cnt ρ
  | .rais e, ρ => match ev F e ρ with
    | .ok _ (.str z) _ => if z.length ≤ 1000 then .exc (.bad z) else .stuck
    | .exc x => .exc x
    | _ => .stuck
  | .par3 i j l as, ρ => match ev F as ρ with
    | .ok _ (.list [x, y, z]) ρ' => .nx (putS (putS (putS ρ' i false x) j false y) l false z)
    | .exc x => .exc x
    | _ => .stuck
end
/-- a def: its number of parameters, of slots, its body -/
structure Fn where
  np : Nat
  ns : Nat
  body : Sc
/-- what was lent is still there -/
def outsOf : Rho → Rho → Option Rho
  | [], _ => some []
  | a :: as, ρ => match ρ with
    | [] => none
    | r :: ρ => match outsOf as ρ with
      | none => none
      | some o => match a with
        | .s .le _ => match r with
          | .s .le d => some (.s .le d :: o)
          | _ => none
        | _ => some (a :: o)
def runFn (F : FnSem) (f : Fn) (args : Rho) : CRes :=
  if args.length = f.np then match evS F f.body (args ++ List.replicate (f.ns - f.np) .no) with
    | .nx ρ => match outsOf args ρ with
      | some o => .ok false .none o
      | none => .stuck
    | .rt fr d ρ => match outsOf args ρ with
      | some o => .ok fr d o
      | none => .stuck
    | .exc x => .exc x
    | _ => .stuck
  else .stuck
/-- the program's meaning, n calls deep -/
def sem (fs : List Fn) : Nat → FnSem
  | 0, _, _ => .stuck
  | n + 1, f, args => match fs[f]? with
    | some fn => runFn (sem fs n) fn args
    | none => .stuck
end Mx
end

section
set_option Elab.async false
set_option linter.all false
set_option maxRecDepth 100000
set_option maxHeartbeats 2000000
/-! How data stand in the abstract heap. -/
namespace Mx
open PySem PySem.Spec PyProof.Rows L2

/-- a list of the written part -/
def KL (K : PySem.W.Frag) (a : Addr) (xs : List V) : Prop := ∃ (o : Obj) (its : Array Value) (n : Nat), K.lookup a = some o ∧ o.cls = .type "list" ∧ o.dict = none ∧ o.data = .seq its n ∧ its.size ≤ sizeLine ∧ Vals xs its.toList
def keyOf : Key → D
  | .inl i => .int i
  | .inr x => .str x
section
variable (K : PySem.W.Frag) (H : Hp) (O : Addr → Prop)
mutual
/-- v stands for d; no list or dict of it is at an address of O -/
inductive Rp : V → D → Prop
  | non : Rp .non .none
  | bl (b : Bool) : Rp (.bl b) (.bool b)
  | int (i : Int) : Rp (.int i) (.int i)
  | str (x : Str) : Rp (.str x) (.str x)
  | lst {a : Addr} {vs : List V} {ds : List D} : ((Rd H a (.lst vs) ∧ ¬ O a) ∨ KL K a vs) → RpL vs ds → Rp (.ref a) (.list ds)
  | tup {a : Addr} {vs : List V} {ds : List D} : SqT K H a vs → RpL vs ds → Rp (.ref a) (.tuple ds)
  | dct {a : Addr} {ks : List (Key × V)} {ds : List (D × D)} : (Rd H a (.dK ks) ∧ ¬ O a) → RpK ks ds → Rp (.ref a) (.dict ds)
inductive RpL : List V → List D → Prop
  | nil : RpL [] []
  | cons {v : V} {d : D} {vs : List V} {ds : List D} : Rp v d → RpL vs ds → RpL (v :: vs) (d :: ds)
inductive RpK : List (Key × V) → List (D × D) → Prop
  | nil : RpK [] []
  | cons {k : Key} {v : V} {d : D} {ks : List (Key × V)} {ds : List (D × D)} : Rp v d → RpK ks ds → RpK ((k, v) :: ks) ((keyOf k, d) :: ds)
end
end

/-- objects that are never changed -/
def Still (o : HO) : Prop := (∃ xs, o = .tup xs) ∨ (∃ ob u, o = .frz ob u)
/-- all but what stands at O, and tables, is as it was -/
def Ext (O : Addr → Prop) (H H' : Hp) : Prop := ∀ a o, H a = some o → (¬ O a ∨ Still o) → (∀ ps, o ≠ .tbl ps) → H' a = some o
theorem Ext.refl {O : Addr → Prop} {H : Hp} : Ext O H H := fun _ _ h _ _ => h
theorem Ext.mono {O O' : Addr → Prop} {H H' : Hp} (h : Ext O H H') (hs : ∀ a, O a → O' a) : Ext O' H H' := fun a o e n t => h a o e (n.imp (fun z q => z (hs a q)) id) t
theorem Ext.trans {O O' : Addr → Prop} {H H1 H2 : Hp} (a : Ext O H H1) (b : Ext O' H1 H2) (ho : ∀ a, O' a → O a ∨ H a = none) : Ext O H H2 := fun c o e n t => by
  have h1 := a c o e n t
  refine b c o h1 ?_ t
  rcases n with n | n
  · refine .inl fun z => ?_
    rcases ho c z with q | q
    · exact n q
    · rw [e] at q; cases q
  · exact .inr n
theorem Ext.alloc {O : Addr → Prop} {H : Hp} {p : Addr} {o : HO} (h : H p = none) : Ext O H (upd H p o) := fun b u e _ _ => by
  rw [upd_ne (ne_of_none e h)]; exact e
section
variable {K : PySem.W.Frag} {H H' : Hp} {O O' : Addr → Prop}
theorem still_tup {xs : List V} : Still (.tup xs) := .inl ⟨xs, rfl⟩
theorem still_frz {ob : Obj} {u : HO} : Still (.frz ob u) := .inr ⟨ob, u, rfl⟩
theorem Rd.ext {a : Addr} {u : HO} (hx : Ext O H H') (h : Rd H a u) (n : ¬ O a ∨ Still u) (t : ∀ ps, u ≠ .tbl ps) : Rd H' a u := by
  rcases h with h | ⟨ob, h⟩
  · exact .inl (hx a u h n t)
  · exact .inr ⟨ob, hx a _ h (.inr still_frz) (fun ps z => by cases z)⟩
theorem Rd.none {a : Addr} {u : HO} (h : Rd H a u) : H a ≠ none := by
  rcases h with h | ⟨ob, h⟩ <;> rw [h] <;> simp
theorem SqT.ext {a : Addr} {xs : List V} (hx : Ext O H H') (h : SqT K H a xs) : SqT K H' a xs := by
  rcases h with h | h
  · exact .inl (Rd.ext hx h (.inr still_tup) fun ps z => by cases z)
  · exact .inr h
mutual
theorem Rp.mono (hx : Ext O H H') (ho : ∀ a, O' a → O a ∨ H a = none) : ∀ {v : V} {d : D}, Rp K H O v d → Rp K H' O' v d
  | _, _, .non => .non
  | _, _, .bl b => .bl b
  | _, _, .int i => .int i
  | _, _, .str x => .str x
  | _, _, .lst (.inl ⟨h, n⟩) r => .lst (.inl ⟨Rd.ext hx h (.inl n) (fun ps z => by cases z), fun z => (ho _ z).elim n (Rd.none h)⟩) (RpL.mono hx ho r)
  | _, _, .lst (.inr h) r => .lst (.inr h) (RpL.mono hx ho r)
  | _, _, .tup h r => .tup (SqT.ext hx h) (RpL.mono hx ho r)
  | _, _, .dct ⟨h, n⟩ r => .dct ⟨Rd.ext hx h (.inl n) (fun ps z => by cases z), fun z => (ho _ z).elim n (Rd.none h)⟩ (RpK.mono hx ho r)
theorem RpL.mono (hx : Ext O H H') (ho : ∀ a, O' a → O a ∨ H a = none) : ∀ {vs : List V} {ds : List D}, RpL K H O vs ds → RpL K H' O' vs ds
  | _, _, .nil => .nil
  | _, _, .cons h r => .cons (Rp.mono hx ho h) (RpL.mono hx ho r)
theorem RpK.mono (hx : Ext O H H') (ho : ∀ a, O' a → O a ∨ H a = none) : ∀ {vs : List (Key × V)} {ds : List (D × D)}, RpK K H O vs ds → RpK K H' O' vs ds
  | _, _, .nil => .nil
  | _, _, .cons h r => .cons (Rp.mono hx ho h) (RpK.mono hx ho r)
end
theorem RpL.length : ∀ {vs : List V} {ds : List D}, RpL K H O vs ds → vs.length = ds.length
  | _, _, .nil => rfl
  | _, _, .cons _ r => by simp [RpL.length r]
theorem RpL.get : ∀ {vs : List V} {ds : List D} {i : Nat} {d : D}, RpL K H O vs ds → ds[i]? = some d → ∃ v, vs[i]? = some v ∧ Rp K H O v d
  | _, _, _, _, .nil, h => by simp at h
  | _, _, 0, _, .cons h r, e => by simp at e; subst e; exact ⟨_, rfl, h⟩
  | _, _, i + 1, _, .cons h r, e => by
    obtain ⟨v, e1, e2⟩ := RpL.get (i := i) r (by simpa using e)
    exact ⟨v, by simpa using e1, e2⟩
theorem RpL.getV : ∀ {vs : List V} {ds : List D} {i : Nat} {v : V}, RpL K H O vs ds → vs[i]? = some v → ∃ d, ds[i]? = some d ∧ Rp K H O v d
  | _, _, _, _, .nil, h => by simp at h
  | _, _, 0, _, .cons h r, e => by simp at e; subst e; exact ⟨_, rfl, h⟩
  | _, _, i + 1, _, .cons h r, e => by
    obtain ⟨v, e1, e2⟩ := RpL.getV (i := i) r (by simpa using e)
    exact ⟨v, by simpa using e1, e2⟩
theorem RpL.append : ∀ {vs : List V} {ds : List D} {ws : List V} {es : List D}, RpL K H O vs ds → RpL K H O ws es → RpL K H O (vs ++ ws) (ds ++ es)
  | _, _, _, _, .nil, s => s
  | _, _, _, _, .cons h r, s => .cons h (RpL.append r s)
theorem RpL.rep {vs : List V} {ds : List D} (h : RpL K H O vs ds) : ∀ n : Nat, RpL K H O (List.replicate n vs).flatten (List.replicate n ds).flatten
  | 0 => .nil
  | n + 1 => by
    rw [List.replicate_succ, List.replicate_succ, List.flatten_cons, List.flatten_cons]
    exact h.append (RpL.rep h n)
theorem RpL.set {w : V} {e : D} (hw : Rp K H O w e) : ∀ {vs : List V} {ds : List D} (i : Nat), RpL K H O vs ds → RpL K H O (vs.set i w) (ds.set i e)
  | _, _, _, .nil => .nil
  | _, _, 0, .cons _ r => .cons hw r
  | _, _, i + 1, .cons h r => .cons h (RpL.set hw i r)
theorem RpL.take : ∀ {vs : List V} {ds : List D} (i : Nat), RpL K H O vs ds → RpL K H O (vs.take i) (ds.take i)
  | _, _, 0, _ => by simpa using RpL.nil
  | _, _, i + 1, .nil => .nil
  | _, _, i + 1, .cons h r => .cons h (RpL.take i r)
theorem RpL.drop : ∀ {vs : List V} {ds : List D} (i : Nat), RpL K H O vs ds → RpL K H O (vs.drop i) (ds.drop i)
  | _, _, 0, r => r
  | _, _, i + 1, .nil => .nil
  | _, _, i + 1, .cons h r => RpL.drop i r
theorem RpL.ints {ns : List Int} : RpL K H O (ns.map V.int) (ns.map PyData.int) := by
  induction ns with
  | nil => exact .nil
  | cons n r ih => exact .cons (.int n) ih
/-- a value that is whole numbers -/
theorem RpL.intsOf : ∀ {vs : List V} {ds : List D} {ns : List Int}, RpL K H O vs ds → intsOf ds = some ns → vs = ns.map V.int ∧ ds = ns.map PyData.int
  | _, _, ns, .nil, e => by
    have : ns = [] := by simpa [Mx.intsOf] using e.symm
    subst this; exact ⟨rfl, rfl⟩
  | _, _, ns, .cons (d := d) (ds := ds) h r, e => by
    cases d <;> simp only [Mx.intsOf, Option.map_eq_some_iff] at e <;> try (cases e)
    rename_i i ms hm
    cases h
    obtain ⟨e1, e2⟩ := RpL.intsOf r hm.1
    obtain ⟨_, rfl⟩ := hm
    subst e1; subst e2
    exact ⟨rfl, rfl⟩
theorem RpL.boolsOf : ∀ {vs : List V} {ds : List D} {ns : List Bool}, RpL K H O vs ds → boolsOf ds = some ns → vs = ns.map V.bl ∧ ds = ns.map PyData.bool
  | _, _, ns, .nil, e => by
    have : ns = [] := by simpa [Mx.boolsOf] using e.symm
    subst this; exact ⟨rfl, rfl⟩
  | _, _, ns, .cons (d := d) (ds := ds) h r, e => by
    cases d <;> simp only [Mx.boolsOf, Option.map_eq_some_iff] at e <;> try (cases e)
    rename_i i ms hm
    cases h
    obtain ⟨e1, e2⟩ := RpL.boolsOf r hm.1
    obtain ⟨_, rfl⟩ := hm
    subst e1; subst e2
    exact ⟨rfl, rfl⟩
end

/-- what can be read at v: the top may be the frame's own -/
def RpTop (K : PySem.W.Frag) (H : Hp) (O : Addr → Prop) (v : V) (d : D) : Prop := match d with
  | .list ds => ∃ a vs, v = .ref a ∧ SqL K H a vs ∧ RpL K H O vs ds
  | .tuple ds => ∃ a vs, v = .ref a ∧ SqT K H a vs ∧ RpL K H O vs ds
  | .dict ds => ∃ a ks, v = .ref a ∧ Rd H a (.dK ks) ∧ RpK K H O ks ds
  | d => Rp K H O v d
theorem Rp.top {K : PySem.W.Frag} {H : Hp} {O : Addr → Prop} {v : V} {d : D} (h : Rp K H O v d) : RpTop K H O v d := by
  cases h with
  | non => exact .non
  | bl b => exact .bl b
  | int i => exact .int i
  | str x => exact .str x
  | lst h r =>
    refine ⟨_, _, rfl, ?_, r⟩
    rcases h with h | h
    · exact .inl h.1
    · exact .inr h
  | tup h r => exact ⟨_, _, rfl, h, r⟩
  | dct h r => exact ⟨_, _, rfl, h.1, r⟩

/-! ### slots -/
def Own (ρ : Rho) (σ : L2.St) (i : Nat) (a : Addr) : Prop := (∃ (m : Md) (d : D), ρ[i]? = some (Slot.s m d) ∧ (m = .ow ∨ m = .le)) ∧ σ[i]? = some (some (V.ref a))
def Ot (Fb : Addr → Prop) (ρ : Rho) (σ : L2.St) (a : Addr) : Prop := Fb a ∨ ∃ i, Own ρ σ i a
def Om (ρ : Rho) (σ : L2.St) (a : Addr) : Prop := ∃ i, Own ρ σ i a
/-- the object holds the data; its items stay clear of O -/
def Cont (K : PySem.W.Frag) (H : Hp) (O : Addr → Prop) (o : HO) (d : D) : Prop :=
  (∃ vs ds, o = .lst vs ∧ d = .list ds ∧ RpL K H O vs ds) ∨ (∃ ks ds, o = .dK ks ∧ d = .dict ds ∧ RpK K H O ks ds)
theorem Cont.mono {K : PySem.W.Frag} {H H' : Hp} {O O' : Addr → Prop} {o : HO} {d : D} (hx : Ext O H H') (ho : ∀ a, O' a → O a ∨ H a = none) (h : Cont K H O o d) : Cont K H' O' o d := by
  rcases h with ⟨vs, ds, rfl, rfl, r⟩ | ⟨ks, ds, rfl, rfl, r⟩
  · exact .inl ⟨vs, ds, rfl, rfl, r.mono hx ho⟩
  · exact .inr ⟨ks, ds, rfl, rfl, r.mono hx ho⟩
theorem Cont.ntbl {K : PySem.W.Frag} {H : Hp} {O : Addr → Prop} {o : HO} {d : D} (h : Cont K H O o d) : ∀ ps, o ≠ .tbl ps := by
  rcases h with ⟨vs, ds, rfl, rfl, r⟩ | ⟨ks, ds, rfl, rfl, r⟩ <;> intro ps z <;> cases z
theorem Cont.nstill {K : PySem.W.Frag} {H : Hp} {O : Addr → Prop} {o : HO} {d : D} (h : Cont K H O o d) : ¬ Still o := by
  rcases h with ⟨vs, ds, rfl, rfl, r⟩ | ⟨ks, ds, rfl, rfl, r⟩ <;> rintro (⟨xs, z⟩ | ⟨ob, u, z⟩) <;> cases z
theorem Cont.next {K : PySem.W.Frag} {H : Hp} {O : Addr → Prop} {o : HO} {d : D} (h : Cont K H O o d) : ∀ φ, o ≠ .ext φ := by
  rcases h with ⟨vs, ds, rfl, rfl, r⟩ | ⟨ks, ds, rfl, rfl, r⟩ <;> intro ps z <;> cases z
theorem Cont.rpTop {K : PySem.W.Frag} {H : Hp} {O : Addr → Prop} {o : HO} {d : D} {a : Addr} (h : Cont K H O o d) (e : H a = some o) : RpTop K H O (.ref a) d := by
  rcases h with ⟨vs, ds, rfl, rfl, r⟩ | ⟨ks, ds, rfl, rfl, r⟩
  · exact ⟨a, vs, rfl, .inl (.inl e), r⟩
  · exact ⟨a, ks, rfl, .inl e, r⟩
theorem Cont.rp {K : PySem.W.Frag} {H : Hp} {O : Addr → Prop} {o : HO} {d : D} {a : Addr} (h : Cont K H O o d) (e : H a = some o) (n : ¬ O a) : Rp K H O (.ref a) d := by
  rcases h with ⟨vs, ds, rfl, rfl, r⟩ | ⟨ks, ds, rfl, rfl, r⟩
  · exact .lst (.inl ⟨.inl e, n⟩) r
  · exact .dct ⟨.inl e, n⟩ r
/-- what stands in a slot -/
def SlotR (K : PySem.W.Frag) (H : Hp) (Fb : Addr → Prop) (O : Addr → Prop) (m : Md) (v : V) (d : D) : Prop := match m with
  | .fz => Rp K H O v d
  | .bo => ∃ a o, v = .ref a ∧ Fb a ∧ H a = some o ∧ Cont K H O o d
  | _ => ∃ a o, v = .ref a ∧ H a = some o ∧ Cont K H O o d
theorem SlotR.top {K : PySem.W.Frag} {H : Hp} {Fb O : Addr → Prop} {m : Md} {v : V} {d : D} (h : SlotR K H Fb O m v d) : RpTop K H O v d := by
  cases m with
  | fz => exact Rp.top h
  | bo => obtain ⟨a, o, rfl, _, e, c⟩ := h; exact c.rpTop e
  | ow => obtain ⟨a, o, rfl, e, c⟩ := h; exact c.rpTop e
  | le => obtain ⟨a, o, rfl, e, c⟩ := h; exact c.rpTop e
/-- a frame: what is written, the tables, the heap at its beginning, what was lent to it -/
structure Fr where
  K : PySem.W.Frag
  T : List (Addr × Str)
  H0 : Hp
  Lb : Nat → Addr → Prop
  Bb : Nat → Addr → Prop
structure EnvR (g : Fr) (Fb : Addr → Prop) (ρ : Rho) (σ : L2.St) (H : Hp) : Prop where
  len : ρ.length = σ.length
  slot : ∀ (i : Nat) (m : Md) (d : D), ρ[i]? = some (Slot.s m d) → ∃ v, σ[i]? = some (some v) ∧ SlotR g.K H Fb (Ot Fb ρ σ) m v d
  dis : ∀ i j a, Own ρ σ i a → Own ρ σ j a → i = j
  nfb : ∀ i a, Own ρ σ i a → ¬ Fb a
  nw : ∀ (i : Nat) (a : Addr) (d : D), ρ[i]? = some (Slot.s .ow d) → σ[i]? = some (some (V.ref a)) → g.H0 a = none
  lb : ∀ (i : Nat) (a : Addr) (d : D), ρ[i]? = some (Slot.s .le d) → σ[i]? = some (some (V.ref a)) → g.Lb i a
  bb : ∀ (i : Nat) (a : Addr) (d : D), ρ[i]? = some (Slot.s .bo d) → σ[i]? = some (some (V.ref a)) → g.Bb i a
  bfb : ∀ i a, g.Bb i a → Fb a
  fb : ∀ a, Fb a → ∃ o, H a = some o ∧ ∀ ps, o ≠ .tbl ps
  dom : ∀ a, H a = none → g.H0 a = none
  ext : Ext (fun a => ∃ i, g.Lb i a) g.H0 H
  tabs : LamX.Tabs g.T H
section
variable {g : Fr} {Fb Fb' : Addr → Prop} {ρ ρ' ρ1 ρ2 : Rho} {σ σ' : L2.St} {H H' H1 H2 : Hp}
theorem SlotR.mono {K : PySem.W.Frag} {O O' : Addr → Prop} {m : Md} {v : V} {d : D} (hx : Ext (fun _ => False) H H') (ho : ∀ a, O' a → O a ∨ H a = none) (hf : ∀ a, Fb a → Fb' a) (h : SlotR K H Fb O m v d) : SlotR K H' Fb' O' m v d := by
  have hx' : Ext O H H' := hx.mono fun _ z => z.elim
  cases m with
  | fz => exact Rp.mono hx' ho h
  | bo =>
    obtain ⟨a, o, e1, e2, e3, e4⟩ := h
    exact ⟨a, o, e1, hf a e2, hx a o e3 (.inl id) e4.ntbl, e4.mono hx' ho⟩
  | ow =>
    obtain ⟨a, o, e1, e3, e4⟩ := h
    exact ⟨a, o, e1, hx a o e3 (.inl id) e4.ntbl, e4.mono hx' ho⟩
  | le =>
    obtain ⟨a, o, e1, e3, e4⟩ := h
    exact ⟨a, o, e1, hx a o e3 (.inl id) e4.ntbl, e4.mono hx' ho⟩
/-- nothing that stood has changed; some more may be kept clear of -/
theorem EnvR.more (E : EnvR g Fb ρ σ H) (hx : Ext (fun _ => False) H H') (hd : ∀ a, H' a = none → H a = none) (ht : LamX.Tabs g.T H') (hf : ∀ a, Fb a → Fb' a) (hn : ∀ a, Fb' a → Fb a ∨ (H a = none ∧ ∃ o, H' a = some o ∧ ∀ ps, o ≠ .tbl ps)) : EnvR g Fb' ρ σ H' := by
  have some_ : ∀ {i a}, Own ρ σ i a → H a ≠ none := fun {i a} ⟨⟨m, d, e, hm⟩, hs⟩ => by
    obtain ⟨v, e1, e2⟩ := E.slot i m d e
    rw [hs] at e1
    obtain rfl : V.ref a = v := Option.some.inj (Option.some.inj e1)
    rcases hm with rfl | rfl <;> obtain ⟨b, o, e3, e4, e5⟩ := e2 <;> cases e3 <;> rw [e4] <;> simp
  refine ⟨E.len, fun i m d e => ?_, E.dis, fun i a h z => ?_, E.nw, E.lb, E.bb, fun i a h => hf a (E.bfb i a h), fun a h => ?_, fun a h => E.dom a (hd a h), ?_, ht⟩
  · obtain ⟨v, e1, e2⟩ := E.slot i m d e
    refine ⟨v, e1, e2.mono hx (fun a z => ?_) hf⟩
    rcases z with z | z
    · rcases hn a z with q | q
      · exact .inl (.inl q)
      · exact .inr q.1
    · exact .inl (.inr z)
  · rcases hn a z with q | q
    · exact E.nfb i a h q
    · exact some_ h q.1
  · rcases hn a h with q | q
    · obtain ⟨o, e1, e3⟩ := E.fb a q
      exact ⟨o, hx a o e1 (.inl id) e3, e3⟩
    · exact q.2
  · exact E.ext.trans hx fun a z => z.elim
theorem EnvR.grow (E : EnvR g Fb ρ σ H) (hx : Ext (fun _ => False) H H') (hd : ∀ a, H' a = none → H a = none) (ht : LamX.Tabs g.T H') : EnvR g Fb ρ σ H' := E.more hx hd ht (fun _ z => z) fun _ z => .inl z
theorem EnvR.tracked (E : EnvR g Fb ρ σ H) {i : Nat} {a : Addr} (h : Own ρ σ i a) : ∃ o d m, ρ[i]? = some (Slot.s m d) ∧ H a = some o ∧ Cont g.K H (Ot Fb ρ σ) o d := by
  obtain ⟨⟨m, d, e, hm⟩, hs⟩ := h
  obtain ⟨v, e1, e2⟩ := E.slot i m d e
  rw [hs] at e1
  obtain rfl : V.ref a = v := Option.some.inj (Option.some.inj e1)
  rcases hm with rfl | rfl
  · obtain ⟨b, o, e3, e4, e5⟩ := e2
    cases e3
    exact ⟨o, d, _, e, e4, e5⟩
  · obtain ⟨b, o, e3, e4, e5⟩ := e2
    cases e3
    exact ⟨o, d, _, e, e4, e5⟩
theorem EnvR.ot_some (E : EnvR g Fb ρ σ H) {a : Addr} (h : Ot Fb ρ σ a) : H a ≠ none := by
  rcases h with h | ⟨i, h⟩
  · obtain ⟨o, e, _⟩ := E.fb a h
    rw [e]; simp
  · obtain ⟨o, d, m, _, e, _⟩ := E.tracked h
    rw [e]; simp
/-- fewer things are kept clear of; fewer are own -/
theorem EnvR.less (E : EnvR g Fb ρ σ H) (hf : ∀ a, Fb' a → Fb a) (hbf : ∀ i a, g.Bb i a → Fb' a) (hl : ρ'.length = σ'.length)
    (hs : ∀ (i : Nat) (m : Md) (d : D), ρ'[i]? = some (Slot.s m d) → (ρ[i]? = some (Slot.s m d) ∧ σ'[i]? = σ[i]? ∧ True) ∨ (m = .fz ∧ ∃ v, σ'[i]? = some (some v) ∧ Rp g.K H (Ot Fb' ρ' σ') v d)) : EnvR g Fb' ρ' σ' H := by
  have own : ∀ i a, Own ρ' σ' i a → Own ρ σ i a := fun i a ⟨⟨m, d, e, hm⟩, h2⟩ => by
    rcases hs i m d e with ⟨e1, e2, _⟩ | ⟨e1, _⟩
    · exact ⟨⟨m, d, e1, hm⟩, by rw [← e2]; exact h2⟩
    · rw [e1] at hm
      rcases hm with z | z <;> cases z
  have sub : ∀ a, Ot Fb' ρ' σ' a → Ot Fb ρ σ a ∨ H a = none := fun a z => by
    rcases z with z | ⟨i, z⟩
    · exact .inl (.inl (hf a z))
    · exact .inl (.inr ⟨i, own i a z⟩)
  refine ⟨hl, fun i m d e => ?_, fun i j a h1 h2 => E.dis i j a (own i a h1) (own j a h2), fun i a h z => E.nfb i a (own i a h) (hf a z), fun i a d e h => ?_, fun i a d e h => ?_, fun i a d e h => ?_, hbf, fun a h => E.fb a (hf a h), E.dom, E.ext, E.tabs⟩
  · rcases hs i m d e with ⟨e1, e2, e3⟩ | ⟨rfl, v, e1, e2⟩
    · obtain ⟨v, h1, h2⟩ := E.slot i m d e1
      refine ⟨v, by rw [e2]; exact h1, ?_⟩
      cases m with
      | fz => exact Rp.mono Ext.refl sub h2
      | bo =>
        obtain ⟨a, o, q1, q2, q3, q4⟩ := h2
        exact ⟨a, o, q1, hbf i a (E.bb i a d e1 (by rw [h1, q1])), q3, q4.mono Ext.refl sub⟩
      | ow =>
        obtain ⟨a, o, q1, q3, q4⟩ := h2
        exact ⟨a, o, q1, q3, q4.mono Ext.refl sub⟩
      | le =>
        obtain ⟨a, o, q1, q3, q4⟩ := h2
        exact ⟨a, o, q1, q3, q4.mono Ext.refl sub⟩
    · exact ⟨v, e1, e2⟩
  · rcases hs i _ d e with ⟨e1, e2, _⟩ | ⟨z, _⟩
    · exact E.nw i a d e1 (by rw [← e2]; exact h)
    · cases z
  · rcases hs i _ d e with ⟨e1, e2, _⟩ | ⟨z, _⟩
    · exact E.lb i a d e1 (by rw [← e2]; exact h)
    · cases z
  · rcases hs i _ d e with ⟨e1, e2, _⟩ | ⟨z, _⟩
    · exact E.bb i a d e1 (by rw [← e2]; exact h)
    · cases z
end
/-! ### a list that is walked is locked -/
def Fr.lock (g : Fr) (i : Nat) (a : Addr) : Fr := { g with Bb := fun j b => if j = i then b = a else g.Bb j b }
section
variable {g : Fr} {Fb : Addr → Prop} {ρ ρ2 : Rho} {σ σ2 : L2.St} {H H2 : Hp} {i : Nat} {a : Addr} {m : Md} {d d2 : D}
theorem at_set {s : Slot} {j : Nat} (h : j ≠ i) : (ρ.set i s)[j]? = ρ[j]? := List.getElem?_set_ne (Ne.symm h)
theorem at_set_i {s t : Slot} (h : ρ[i]? = some t) : (ρ.set i s)[i]? = some s := List.getElem?_set_self (List.getElem?_eq_some_iff.mp h).1
theorem own_set {s : Slot} {t : Slot} (h : ρ[i]? = some t) (hs : ∀ m d, s = Slot.s m d → m ≠ .ow ∧ m ≠ .le) : ∀ j b, Own (ρ.set i s) σ j b → Own ρ σ j b ∧ j ≠ i := fun j b ⟨⟨m, d', q, hm⟩, hq⟩ => by
  by_cases z : j = i
  · subst z
    rw [at_set_i h] at q
    have w := hs m d' (Option.some.inj q)
    rcases hm with z | z
    · exact absurd z w.1
    · exact absurd z w.2
  · rw [at_set z] at q
    exact ⟨⟨⟨m, d', q, hm⟩, hq⟩, z⟩
theorem EnvR.lock (E : EnvR g Fb ρ σ H) (h : ρ[i]? = some (Slot.s m d)) (hm : m = .ow ∨ m = .le) (hs : σ[i]? = some (some (V.ref a))) : EnvR (g.lock i a) (fun b => b = a ∨ Fb b) (ρ.set i (Slot.s .bo d)) σ H := by
  have own : Own ρ σ i a := ⟨⟨m, d, h, hm⟩, hs⟩
  have sub := own_set (σ := σ) (s := Slot.s .bo d) h (fun m d e => by cases e; exact ⟨by decide, by decide⟩)
  have subO : ∀ b, Ot (fun b => b = a ∨ Fb b) (ρ.set i (Slot.s .bo d)) σ b → Ot Fb ρ σ b ∨ H b = none := fun b z => by
    rcases z with (z | z) | ⟨j, z⟩
    · exact .inl (.inr ⟨i, by rw [z]; exact own⟩)
    · exact .inl (.inl z)
    · exact .inl (.inr ⟨j, (sub j b z).1⟩)
  obtain ⟨o, d0, m0, e0, e1, e2⟩ := E.tracked own
  rw [h] at e0
  cases e0
  refine ⟨by rw [List.length_set]; exact E.len, fun j m' d' e => ?_, fun j k b h1 h2 => E.dis j k b (sub j b h1).1 (sub k b h2).1, fun j b h z => ?_, fun j b d' e h' => ?_, fun j b d' e h' => ?_, fun j b d' e h' => ?_, fun j b h' => ?_, fun b h' => ?_, E.dom, E.ext, E.tabs⟩
  · by_cases z : j = i
    · subst z
      rw [at_set_i h] at e
      cases e
      exact ⟨_, hs, a, o, rfl, .inl rfl, e1, e2.mono Ext.refl subO⟩
    · rw [at_set z] at e
      obtain ⟨v, w1, w2⟩ := E.slot j m' d' e
      exact ⟨v, w1, w2.mono Ext.refl subO fun _ q => .inr q⟩
  · obtain ⟨h1, h2⟩ := sub j b h
    rcases z with z | z
    · subst z
      exact h2 (E.dis j i b h1 own)
    · exact E.nfb j b h1 z
  · have z : j ≠ i := fun z => by
      subst z
      rw [at_set_i h] at e
      cases e
    rw [at_set z] at e
    exact E.nw j b d' e h'
  · have z : j ≠ i := fun z => by
      subst z
      rw [at_set_i h] at e
      cases e
    rw [at_set z] at e
    exact E.lb j b d' e h'
  · by_cases z : j = i
    · subst z
      rw [hs] at h'
      cases h'
      show if j = j then a = a else g.Bb j a
      rw [if_pos rfl]
    · rw [at_set z] at e
      show if j = i then b = a else g.Bb j b
      rw [if_neg z]
      exact E.bb j b d' e h'
  · have h' : if j = i then b = a else g.Bb j b := h'
    split at h'
    · exact .inl h'
    · exact .inr (E.bfb j b h')
  · rcases h' with z | z
    · subst z
      exact ⟨o, e1, e2.ntbl⟩
    · exact E.fb b z
theorem EnvR.unlock (E : EnvR (g.lock i a) (fun b => b = a ∨ Fb b) ρ2 σ2 H2) (h : ρ2[i]? = some (Slot.s .bo d2)) (hm : m = .ow ∨ m = .le) (hnw : m = .ow → g.H0 a = none) (hlb : m = .le → g.Lb i a) (hf : ¬ Fb a) (hbf : ∀ i a, g.Bb i a → Fb a) :
    EnvR g Fb (ρ2.set i (Slot.s m d2)) σ2 H2 ∧ σ2[i]? = some (some (V.ref a)) := by
  obtain ⟨v, e1, b, o, rfl, e3, e4, e5⟩ := E.slot i _ d2 h
  have eb : if i = i then b = a else g.Bb i b := E.bb i b d2 h e1
  rw [if_pos rfl] at eb
  subst eb
  have sub : ∀ j c, Own (ρ2.set i (Slot.s m d2)) σ2 j c → (j = i ∧ c = b) ∨ (Own ρ2 σ2 j c ∧ j ≠ i) := fun j c ⟨⟨m', d', q, hm'⟩, hq⟩ => by
    by_cases z : j = i
    · subst z
      rw [e1] at hq
      cases hq
      exact .inl ⟨rfl, rfl⟩
    · rw [at_set z] at q
      exact .inr ⟨⟨⟨m', d', q, hm'⟩, hq⟩, z⟩
  have subO : ∀ c, Ot Fb (ρ2.set i (Slot.s m d2)) σ2 c → Ot (fun c => c = b ∨ Fb c) ρ2 σ2 c ∨ H2 c = none := fun c z => by
    rcases z with z | ⟨j, z⟩
    · exact .inl (.inl (.inr z))
    · rcases sub j c z with ⟨_, z⟩ | ⟨z, _⟩
      · exact .inl (.inl (.inl z))
      · exact .inl (.inr ⟨j, z⟩)
  refine ⟨⟨by rw [List.length_set]; exact E.len, fun j m' d' e => ?_, fun j k c h1 h2 => ?_, fun j c h z => ?_, fun j c d' e h' => ?_, fun j c d' e h' => ?_, fun j c d' e h' => ?_, hbf, fun c h' => E.fb c (.inr h'), E.dom, E.ext, E.tabs⟩, e1⟩
  · by_cases z : j = i
    · subst z
      rw [at_set_i h] at e
      cases e
      refine ⟨_, e1, ?_⟩
      rcases hm with rfl | rfl
      · exact ⟨b, o, rfl, e4, e5.mono Ext.refl subO⟩
      · exact ⟨b, o, rfl, e4, e5.mono Ext.refl subO⟩
    · rw [at_set z] at e
      obtain ⟨v, w1, w2⟩ := E.slot j m' d' e
      refine ⟨v, w1, ?_⟩
      cases m' with
      | fz => exact Rp.mono Ext.refl subO w2
      | bo =>
        obtain ⟨c, o', q1, q2, q3, q4⟩ := w2
        have hb : if j = i then c = b else g.Bb j c := E.bb j c d' e (by rw [w1, q1])
        rw [if_neg z] at hb
        exact ⟨c, o', q1, hbf j c hb, q3, q4.mono Ext.refl subO⟩
      | ow =>
        obtain ⟨c, o', q1, q3, q4⟩ := w2
        exact ⟨c, o', q1, q3, q4.mono Ext.refl subO⟩
      | le =>
        obtain ⟨c, o', q1, q3, q4⟩ := w2
        exact ⟨c, o', q1, q3, q4.mono Ext.refl subO⟩
  · rcases sub j c h1 with ⟨z1, z2⟩ | ⟨z1, z2⟩ <;> rcases sub k c h2 with ⟨y1, y2⟩ | ⟨y1, y2⟩
    · rw [z1, y1]
    · exact (E.nfb k c y1 (.inl z2)).elim
    · exact (E.nfb j c z1 (.inl y2)).elim
    · exact E.dis j k c z1 y1
  · rcases sub j c h with ⟨z1, z2⟩ | ⟨z1, z2⟩
    · rw [z2] at z; exact hf z
    · exact E.nfb j c z1 (.inr z)
  · by_cases z : j = i
    · subst z
      rw [at_set_i h] at e
      cases e
      rw [e1] at h'
      cases h'
      exact hnw rfl
    · rw [at_set z] at e
      exact E.nw j c d' e h'
  · by_cases z : j = i
    · subst z
      rw [at_set_i h] at e
      cases e
      rw [e1] at h'
      cases h'
      exact hlb rfl
    · rw [at_set z] at e
      exact E.lb j c d' e h'
  · by_cases z : j = i
    · subst z
      rw [at_set_i h] at e
      cases e
      rcases hm with z | z <;> cases z
    · rw [at_set z] at e
      have hb : if j = i then c = b else g.Bb j c := E.bb j c d' e h'
      rw [if_neg z] at hb
      exact hb
end
/-! ### what an expression leaves -/
/-- what an operator leaves: a value that stood, or a new object -/
inductive PV (K : PySem.W.Frag) (O : Addr → Prop) (H : Hp) : Bool → D → V → Hp → Prop
  | old {v : V} {d : D} : Rp K H O v d → PV K O H false d v H
  | lst {p : Addr} {vs : List V} {ds : List D} : H p = none → RpL K H O vs ds → PV K O H true (.list ds) (.ref p) (upd H p (.lst vs))
  | dct {p : Addr} {ks : List (Key × V)} {ds : List (D × D)} : H p = none → RpK K H O ks ds → PV K O H true (.dict ds) (.ref p) (upd H p (.dK ks))
  | tup {p : Addr} {vs : List V} {ds : List D} : H p = none → RpL K H O vs ds → PV K O H false (.tuple ds) (.ref p) (upd H p (.tup vs))
/-- v is a new object -/
def Fresh (g : Fr) (Fb : Addr → Prop) (ρ : Rho) (σ : L2.St) (H : Hp) (v : V) (d : D) : Prop :=
  ∃ p o, v = .ref p ∧ g.H0 p = none ∧ ¬ Fb p ∧ H p = some o ∧ Cont g.K H (fun a => a = p ∨ Ot Fb ρ σ a) o d ∧ EnvR g (fun a => a = p ∨ Fb a) ρ σ H
/-- behind an expression; lo: it may have changed what is own -/
structure PostE (g : Fr) (Fb : Addr → Prop) (lo : Bool) (ρ : Rho) (σ : L2.St) (H : Hp) (fr : Bool) (d : D) (ρ' : Rho) (v : V) (H' : Hp) : Prop where
  env : EnvR g Fb ρ' σ H'
  ext : Ext (fun a => lo = true ∧ Om ρ σ a) H H'
  own : ∀ i a, Own ρ' σ i a → Own ρ σ i a
  dom : ∀ a, H' a = none → H a = none
  val : Rp g.K H' (Ot Fb ρ' σ) v d
  fresh : fr = true → Fresh g Fb ρ' σ H' v d ∧ ∀ p, v = .ref p → H p = none
structure PostX (g : Fr) (lo : Bool) (ρ : Rho) (σ : L2.St) (H H' : Hp) : Prop where
  ext : Ext (fun a => lo = true ∧ Om ρ σ a) H H'
  dom : ∀ a, H' a = none → H a = none
  tabs : LamX.Tabs g.T H'
section
variable {g : Fr} {Fb : Addr → Prop} {lo lo2 : Bool} {ρ ρ1 ρ2 : Rho} {σ : L2.St} {H H1 H2 : Hp} {fr : Bool} {d : D} {v : V}
theorem tabs_alloc {T : List (Addr × Str)} (h : LamX.Tabs T H) {p : Addr} {o : HO} (hp : H p = none) : LamX.Tabs T (upd H p o) := h.ext fun a u e => by rw [upd_ne (ne_of_none e hp)]; exact e
theorem dom_upd {p : Addr} {o : HO} : ∀ a, upd H p o a = none → H a = none := fun a e => by
  by_cases q : a = p
  · rw [q, upd_same] at e; cases e
  · rw [upd_ne q] at e; exact e
theorem EnvR.alloc (E : EnvR g Fb ρ σ H) {p : Addr} {o : HO} (hp : H p = none) : EnvR g Fb ρ σ (upd H p o) := E.grow (Ext.alloc hp) dom_upd (tabs_alloc E.tabs hp)
theorem fresh_new (E : EnvR g Fb ρ σ H) {p : Addr} {o : HO} (hp : H p = none) (hc : Cont g.K H (Ot Fb ρ σ) o d) : Fresh g Fb ρ σ (upd H p o) (.ref p) d := by
  have np : ¬ Ot Fb ρ σ p := fun z => E.ot_some z hp
  refine ⟨p, o, rfl, E.dom p hp, fun z => np (.inl z), upd_same, hc.mono (Ext.alloc hp) (fun a z => ?_), E.more (Ext.alloc hp) dom_upd (tabs_alloc E.tabs hp) (fun a z => .inr z) fun a z => ?_⟩
  · rcases z with z | z
    · exact .inr (by rw [z]; exact hp)
    · exact .inl z
  · rcases z with z | z
    · exact .inr ⟨by rw [z]; exact hp, o, by rw [z]; exact upd_same, hc.ntbl⟩
    · exact .inl z
/-- a new thing can be looked at as an old one -/
theorem Fresh.rp (f : Fresh g Fb ρ σ H v d) : Rp g.K H (Ot Fb ρ σ) v d := by
  obtain ⟨p, o, rfl, e1, e2, e3, e4, e5⟩ := f
  refine (e4.mono Ext.refl fun a z => .inl (.inr z)).rp e3 fun z => ?_
  rcases z with z | ⟨i, z⟩
  · exact e2 z
  · exact e5.nfb i p z (.inl rfl)
theorem PostE.pure (E : EnvR g Fb ρ σ H) (h : PV g.K (Ot Fb ρ σ) H fr d v H1) : PostE g Fb lo ρ σ H fr d ρ v H1 := by
  cases h with
  | old r => exact ⟨E, Ext.refl, fun _ _ z => z, fun _ z => z, r, fun z => by cases z⟩
  | @lst p vs ds hp r =>
    have f := fresh_new E hp (d := .list ds) (.inl ⟨vs, ds, rfl, rfl, r⟩)
    exact ⟨E.alloc hp, Ext.alloc hp, fun _ _ z => z, dom_upd, f.rp, fun _ => ⟨f, fun q e => by cases e; exact hp⟩⟩
  | @dct p vs ds hp r =>
    have f := fresh_new E hp (d := .dict ds) (.inr ⟨vs, ds, rfl, rfl, r⟩)
    exact ⟨E.alloc hp, Ext.alloc hp, fun _ _ z => z, dom_upd, f.rp, fun _ => ⟨f, fun q e => by cases e; exact hp⟩⟩
  | @tup p vs ds hp r => exact ⟨E.alloc hp, Ext.alloc hp, fun _ _ z => z, dom_upd, .tup (.inl (.inl upd_same)) (r.mono (Ext.alloc hp) fun a z => .inl z), fun z => by cases z⟩
/-- two in a row: the heap -/
theorem ext_two (a : Ext (fun a => lo = true ∧ Om ρ σ a) H H1) (o : ∀ i a, Own ρ1 σ i a → Own ρ σ i a) (b : Ext (fun a => lo2 = true ∧ Om ρ1 σ a) H1 H2) : Ext (fun a => (lo || lo2) = true ∧ Om ρ σ a) H H2 :=
  (a.mono fun x ⟨z1, z2⟩ => ⟨by rw [z1]; rfl, z2⟩).trans (b.mono (O' := fun a => (lo || lo2) = true ∧ Om ρ σ a) fun x ⟨z1, i, z2⟩ => ⟨by rw [z1, Bool.or_true], i, o i x z2⟩) fun x z => .inl z
/-- a value stays good behind what comes later -/
theorem rp_keep (h : Rp g.K H1 (Ot Fb ρ1 σ) v d) (o : ∀ i a, Own ρ2 σ i a → Own ρ1 σ i a) (b : Ext (fun a => lo2 = true ∧ Om ρ1 σ a) H1 H2) : Rp g.K H2 (Ot Fb ρ2 σ) v d := by
  refine h.mono (b.mono fun x ⟨_, i, z⟩ => .inr ⟨i, z⟩) fun x z => ?_
  rcases z with z | ⟨i, z⟩
  · exact .inl (.inl z)
  · exact .inl (.inr ⟨i, o i x z⟩)
theorem PostE.keep {fr2 : Bool} {d2 : D} {v2 : V} (a : PostE g Fb lo ρ σ H fr d ρ1 v H1) (b : PostE g Fb lo2 ρ1 σ H1 fr2 d2 ρ2 v2 H2) : Rp g.K H2 (Ot Fb ρ2 σ) v d := rp_keep a.val b.own b.ext
theorem PostE.trans {fr2 : Bool} {d2 : D} {v2 : V} (a : PostE g Fb lo ρ σ H fr d ρ1 v H1) (b : PostE g Fb lo2 ρ1 σ H1 fr2 d2 ρ2 v2 H2) : PostE g Fb (lo || lo2) ρ σ H fr2 d2 ρ2 v2 H2 :=
  ⟨b.env, ext_two a.ext a.own b.ext, fun i x h => a.own i x (b.own i x h), fun x h => a.dom x (b.dom x h), b.val, fun z => ⟨(b.fresh z).1, fun p e => a.dom p ((b.fresh z).2 p e)⟩⟩
theorem PostX.after {H' : Hp} (e : Ext (fun a => lo = true ∧ Om ρ σ a) H H1) (o : ∀ i a, Own ρ1 σ i a → Own ρ σ i a) (d : ∀ a, H1 a = none → H a = none) (b : PostX g lo2 ρ1 σ H1 H') : PostX g (lo || lo2) ρ σ H H' := ⟨ext_two e o b.ext, fun a z => d a (b.dom a z), b.tabs⟩
theorem PostE.lo_mono (h : PostE g Fb lo ρ σ H fr d ρ1 v H1) (hl : lo = true → lo2 = true) : PostE g Fb lo2 ρ σ H fr d ρ1 v H1 := ⟨h.env, h.ext.mono fun x ⟨z1, z2⟩ => ⟨hl z1, z2⟩, h.own, h.dom, h.val, h.fresh⟩
theorem PostX.lo_mono {H' : Hp} (h : PostX g lo ρ σ H H') (hl : lo = true → lo2 = true) : PostX g lo2 ρ σ H H' := ⟨h.ext.mono fun x ⟨z1, z2⟩ => ⟨hl z1, z2⟩, h.dom, h.tabs⟩
end
end Mx
end

section
set_option Elab.async false
set_option linter.all false
set_option maxRecDepth 100000
set_option maxHeartbeats 2000000
/-! The operators on data are those of the language. -/
namespace Mx
open PySem PySem.Spec PyProof.Rows L2
inductive RpTL (K : PySem.W.Frag) (H : Hp) (O : Addr → Prop) : List V → List D → Prop
  | nil : RpTL K H O [] []
  | cons {v : V} {d : D} {vs : List V} {ds : List D} : RpTop K H O v d → RpTL K H O vs ds → RpTL K H O (v :: vs) (d :: ds)
theorem RpTL.one {K : PySem.W.Frag} {H : Hp} {O : Addr → Prop} {x : V} {ds : List D} (h : RpTL K H O [x] ds) : ∃ d, ds = [d] ∧ RpTop K H O x d := by
  cases h with | cons a r => cases r with | nil => exact ⟨_, rfl, a⟩
theorem RpTL.two {K : PySem.W.Frag} {H : Hp} {O : Addr → Prop} {x y : V} {ds : List D} (h : RpTL K H O [x, y] ds) : ∃ d e, ds = [d, e] ∧ RpTop K H O x d ∧ RpTop K H O y e := by
  cases h with | cons a r => cases r with | cons b r => cases r with | nil => exact ⟨_, _, rfl, a, b⟩
theorem RpTL.three {K : PySem.W.Frag} {H : Hp} {O : Addr → Prop} {x y z : V} {ds : List D} (h : RpTL K H O [x, y, z] ds) : ∃ d e f, ds = [d, e, f] ∧ RpTop K H O x d ∧ RpTop K H O y e ∧ RpTop K H O z f := by
  cases h with | cons a r => cases r with | cons b r => cases r with | cons c r => cases r with | nil => exact ⟨_, _, _, rfl, a, b, c⟩
def OpRd (K : PySem.W.Frag) (o : Op) (vs : List V) (H : Hp) (Q : VK) : Prop :=
  ∃ (O : Addr → Prop) (ds : List D) (fr : Bool) (d : D), RpTL K H O vs ds ∧ opD o ds = some (fr, d) ∧ ∀ v H1, PV K O H fr d v H1 → Q v H1
section
variable {K : PySem.W.Frag} {H : Hp} {O : Addr → Prop} {x : V}
theorem top_int {i : Int} (h : RpTop K H O x (.int i)) : x = .int i := by cases h; rfl
theorem top_bool {i : Bool} (h : RpTop K H O x (.bool i)) : x = .bl i := by cases h; rfl
theorem top_str {i : Str} (h : RpTop K H O x (.str i)) : x = .str i := by cases h; rfl
theorem top_none (h : RpTop K H O x .none) : x = .non := by cases h; rfl
theorem top_rp {d : D} (h : RpTop K H O x d) (n : ∀ ds, d ≠ .list ds) (n2 : ∀ ds, d ≠ .dict ds) : Rp K H O x d := by
  cases d with
  | list ds => exact absurd rfl (n ds)
  | dict ds => exact absurd rfl (n2 ds)
  | tuple ds => obtain ⟨a, vs, rfl, h1, h2⟩ := h; exact .tup h1 h2
  | none => exact h
  | bool b => exact h
  | int i => exact h
  | str z => exact h
theorem pv_int {i : Int} : PV K O H false (.int i) (.int i) H := .old (.int i)
theorem pv_bl {i : Bool} : PV K O H false (.bool i) (.bl i) H := .old (.bl i)
theorem pv_str {i : Str} : PV K O H false (.str i) (.str i) H := .old (.str i)
mutual
theorem Rp.dp : ∀ {v : V} {d : D}, d.canLay0 = true → Rp K H O v d → Dp K H v d
  | _, _, _, .non => .non
  | _, _, _, .bl b => .bl b
  | _, _, _, .int i => .int i
  | _, _, _, .str z => .str z
  | _, _, c, .lst (.inl ⟨h, _⟩) r => .lst (.inl h) (RpL.dp (by simpa [PyData.canLay0] using c) r)
  | _, _, c, .lst (.inr h) r => .lst (.inr h) (RpL.dp (by simpa [PyData.canLay0] using c) r)
  | _, _, c, .tup h r => .tup h (RpL.dp (by simpa [PyData.canLay0] using c) r)
  | _, _, c, .dct h r => by simp [PyData.canLay0] at c
theorem RpL.dp : ∀ {vs : List V} {ds : List D}, PyData.canLayAll0 ds = true → RpL K H O vs ds → DpAll K H vs ds
  | _, _, _, .nil => .nil
  | _, _, c, .cons h r => .cons (Rp.dp (by simp [PyData.canLayAll0] at c; exact c.1) h) (RpL.dp (by simp [PyData.canLayAll0] at c; exact c.2) r)
end
theorem RpTop.dp {v : V} {d : D} (c : d.canLay0 = true) (h : RpTop K H O v d) : Dp K H v d := by
  cases d with
  | list ds => obtain ⟨a, vs, rfl, h1, h2⟩ := h; exact .lst h1 (RpL.dp (by simpa [PyData.canLay0] using c) h2)
  | dict ds => simp [PyData.canLay0] at c
  | tuple ds => obtain ⟨a, vs, rfl, h1, h2⟩ := h; exact .tup h1 (RpL.dp (by simpa [PyData.canLay0] using c) h2)
  | none => exact Rp.dp c h
  | bool b => exact Rp.dp c h
  | int i => exact Rp.dp c h
  | str z => exact Rp.dp c h
end
section
variable {X : Cx}
/-- list + list, whatever lists they are -/
theorem op_catS : OpR X (binaryOp .Add) (fun x y H Q => ∃ l b xs zs, x = .ref l ∧ y = .ref b ∧ SqL X.K H l xs ∧ SqL X.K H b zs ∧ xs.length + zs.length ≤ sizeLine ∧ ∀ p, H p = none → Q (.ref p) (upd H p (.lst (xs ++ zs)))) := by
  intro pins s σ H x y v u Q I rx ry ⟨l, b, xs, zs, ex, ey, h1, h2, hz, q⟩
  subst ex ey
  cases rx
  cases ry
  obtain ⟨i1, r1, p1, z1⟩ := I.list h1
  obtain ⟨i2, r2, p2, z2⟩ := I.list h2
  obtain ⟨⟨c1, dd1, da1, sl1⟩, n1, o1, k1, m1, w1⟩ := p1
  obtain ⟨⟨c2, dd2, da2, sl2⟩, n2, o2, k2, m2, w2⟩ := p2
  simp only at k1 m1 w1 k2 m2 w2
  subst k1 m1 w1 k2 m2 w2
  have lz : i1.toArray.size + i2.toArray.size ≤ sizeLine := by rw [List.size_toArray, List.size_toArray, ← r1.length, ← r2.length]; exact hz
  refine concat_meets ⟨_, o1, rfl⟩ ⟨_, o2, rfl⟩ noFill_list_add seq_list_add PySem.F.slot_list_add PySem.F.entry_list_add (PySem.F.args_list_add_2 _ _) (list_addW l b i1.toArray i2.toArray n1 n2 none none sl1 sl2 lz) ⟨o1, o2, ?_⟩
  have ea : i1.toArray ++ i2.toArray = (i1 ++ i2).toArray := by simp
  rw [ea]
  exact ⟨.ref _, _, I.lnew (t' := s.toks) (r1.append r2) (by rw [List.length_append]; exact hz), rfl, q _ I.fresh⟩
theorem opr_add : OpR X (binaryOp .Add) (fun x y H Q => OpRd X.K .add [x, y] H Q) := by
  intro pins s σ H x y v u Q I rx ry ⟨O, ds, fr, d, hr, e, q⟩
  obtain ⟨a, b, rfl, ha, hb⟩ := hr.two
  have e : addD a b = some (fr, d) := e
  cases a <;> cases b <;> simp only [addD] at e <;> try (cases e; done)
  · obtain ⟨rfl, rfl⟩ := Prod.mk.inj (Option.some.inj e)
    rw [top_int ha] at rx
    rw [top_int hb] at ry
    exact op_add pins s σ H _ _ v u Q I rx ry ⟨_, _, rfl, rfl, q _ _ pv_int⟩
  · split at e
    · rename_i hl
      obtain ⟨rfl, rfl⟩ := Prod.mk.inj (Option.some.inj e)
      rw [top_str ha] at rx
      rw [top_str hb] at ry
      exact op_add_str pins s σ H _ _ v u Q I rx ry ⟨_, _, rfl, rfl, hl, q _ _ pv_str⟩
    · cases e
  · split at e
    · rename_i hl
      obtain ⟨rfl, rfl⟩ := Prod.mk.inj (Option.some.inj e)
      obtain ⟨a1, v1, e1, s1, r1⟩ := ha
      obtain ⟨a2, v2, e2, s2, r2⟩ := hb
      exact op_catS pins s σ H _ _ v u Q I rx ry ⟨a1, a2, v1, v2, e1, e2, s1, s2, by rw [r1.length, r2.length]; exact hl, fun p hp => q _ _ (.lst hp (r1.append r2))⟩
    · cases e
  · split at e
    · rename_i hl
      obtain ⟨rfl, rfl⟩ := Prod.mk.inj (Option.some.inj e)
      obtain ⟨a1, v1, e1, s1, r1⟩ := ha
      obtain ⟨a2, v2, e2, s2, r2⟩ := hb
      refine op_catA pins s σ H _ _ v u Q I rx ry ⟨a1, a2, v1, v2, e1, e2, s1, s2, by rw [r1.length, r2.length]; exact hl, fun z => ?_, fun _ z => ?_, fun _ _ p hp => q _ _ (.tup hp (r1.append r2))⟩
      · subst z
        have r := r1.append r2
        exact q _ _ (.old (.tup s2 r))
      · subst z
        have r := r1.append r2
        rw [List.append_nil] at r
        exact q _ _ (.old (.tup s1 r))
    · cases e
theorem opr_sub : OpR X (binaryOp .Sub) (fun x y H Q => OpRd X.K .sub [x, y] H Q) := by
  intro pins s σ H x y v u Q I rx ry ⟨O, ds, fr, d, hr, e, q⟩
  obtain ⟨a, b, rfl, ha, hb⟩ := hr.two
  cases a <;> cases b <;> simp only [opD] at e <;> try (cases e; done)
  obtain ⟨rfl, rfl⟩ := Prod.mk.inj (Option.some.inj e)
  rw [top_int ha] at rx
  rw [top_int hb] at ry
  exact op_sub pins s σ H _ _ v u Q I rx ry ⟨_, _, rfl, rfl, q _ _ pv_int⟩
theorem cmul_of {i j : Int} (h : mulOk i j = true) : CMul i j := by
  have h := of_decide_eq_true h
  unfold CMul
  have e : (2 : Nat) ^ 63 = 9223372036854775808 := by decide
  have e2 : (2 : Int) ^ 64 = 18446744073709551616 := by decide
  rw [e] at h
  rw [e2]
  rcases h with h | h <;> omega
theorem opr_mul : OpR X (binaryOp .Mult) (fun x y H Q => OpRd X.K .mul [x, y] H Q) := by
  intro pins s σ H x y v u Q I rx ry ⟨O, ds, fr, d, hr, e, q⟩
  obtain ⟨a, b, rfl, ha, hb⟩ := hr.two
  have e : mulD a b = some (fr, d) := e
  cases a <;> cases b <;> simp only [mulD] at e <;> try (cases e; done)
  · split at e
    · rename_i hl
      obtain ⟨rfl, rfl⟩ := Prod.mk.inj (Option.some.inj e)
      rw [top_int ha] at rx
      rw [top_int hb] at ry
      exact op_mul pins s σ H _ _ v u Q I rx ry ⟨_, _, rfl, rfl, cmul_of hl, q _ _ pv_int⟩
    · cases e
  · split at e
    · rename_i hl
      obtain ⟨rfl, rfl⟩ := Prod.mk.inj (Option.some.inj e)
      obtain ⟨a1, v1, e1, s1, r1⟩ := ha
      rw [top_int hb] at ry
      obtain ⟨l1, l2, l3, l4⟩ := hl
      refine op_repT pins s σ H _ _ v u Q I rx ry ⟨a1, _, v1, e1, rfl, s1, fun z => ?_, l2, l3, by rw [r1.length]; exact l4, fun p hp => q _ _ (.tup hp (RpL.rep r1 _))⟩
      subst z
      have := r1.length
      simp at this
      exact l1 (List.eq_nil_of_length_eq_zero this.symm)
    · cases e
theorem opr_fdv : OpR X (binaryOp .FloorDiv) (fun x y H Q => OpRd X.K .fdv [x, y] H Q) := by
  intro pins s σ H x y v u Q I rx ry ⟨O, ds, fr, d, hr, e, q⟩
  obtain ⟨a, b, rfl, ha, hb⟩ := hr.two
  cases a <;> cases b <;> simp only [opD] at e <;> try (cases e; done)
  split at e
  · rename_i hl
    obtain ⟨rfl, rfl⟩ := Prod.mk.inj (Option.some.inj e)
    rw [top_int ha] at rx
    rw [top_int hb] at ry
    exact op_fdiv pins s σ H _ _ v u Q I rx ry ⟨_, _, rfl, rfl, hl, q _ _ pv_int⟩
  · cases e
theorem opr_mod : OpR X (binaryOp .Mod) (fun x y H Q => OpRd X.K .mod [x, y] H Q) := by
  intro pins s σ H x y v u Q I rx ry ⟨O, ds, fr, d, hr, e, q⟩
  obtain ⟨a, b, rfl, ha, hb⟩ := hr.two
  cases a <;> cases b <;> simp only [opD] at e <;> try (cases e; done)
  split at e
  · rename_i hl
    obtain ⟨rfl, rfl⟩ := Prod.mk.inj (Option.some.inj e)
    rw [top_int ha] at rx
    rw [top_int hb] at ry
    exact op_mod pins s σ H _ _ v u Q I rx ry ⟨_, _, rfl, rfl, hl, q _ _ pv_int⟩
  · cases e
theorem opr_pow : OpR X (binaryOp .Pow) (fun x y H Q => OpRd X.K .pow [x, y] H Q) := by
  intro pins s σ H x y v u Q I rx ry ⟨O, ds, fr, d, hr, e, q⟩
  obtain ⟨a, b, rfl, ha, hb⟩ := hr.two
  cases a <;> cases b <;> simp only [opD] at e <;> try (cases e; done)
  split at e
  · rename_i hl
    obtain ⟨rfl, rfl⟩ := Prod.mk.inj (Option.some.inj e)
    rw [top_int ha] at rx
    rw [top_int hb] at ry
    refine op_pow pins s σ H _ _ v u Q I rx ry ⟨_, _, rfl, rfl, ⟨hl.1, by have := hl.2.1; omega, ?_⟩, q _ _ pv_int⟩
    have := hl.2.2
    have e : (2 : Nat) ^ 63 = 9223372036854775808 := by decide
    have e2 : (2 : Nat) ^ 64 = 18446744073709551616 := by decide
    omega
  · cases e
theorem opr_neg {pins : List (Addr × Obj)} {s : Shared} : UnR X (unaryOp .USub) (fun x H Q => OpRd X.K .neg [x] H Q) := by
  intro pins s σ H x v Q I rx ⟨O, ds, fr, d, hr, e, q⟩
  obtain ⟨a, rfl, ha⟩ := hr.one
  cases a <;> simp only [opD] at e <;> try (cases e; done)
  obtain ⟨rfl, rfl⟩ := Prod.mk.inj (Option.some.inj e)
  rw [top_int ha] at rx
  exact un_neg pins s σ H _ v Q I rx ⟨_, rfl, q _ _ pv_int⟩
theorem opr_cmp {op : CmpOp} {o : Op} {p : Int → Int → Bool} (ho : ∀ a b, opD o [a, b] = intCmp p a b) (rule : OpR X (compareOp op) (rI0 fun i j => .bl (p i j))) : OpR X (compareOp op) (fun x y H Q => OpRd X.K o [x, y] H Q) := by
  intro pins s σ H x y v u Q I rx ry ⟨O, ds, fr, d, hr, e, q⟩
  obtain ⟨a, b, rfl, ha, hb⟩ := hr.two
  rw [ho] at e
  cases a <;> cases b <;> simp only [intCmp] at e <;> try (cases e; done)
  obtain ⟨rfl, rfl⟩ := Prod.mk.inj (Option.some.inj e)
  rw [top_int ha] at rx
  rw [top_int hb] at ry
  exact rule pins s σ H _ _ v u Q I rx ry ⟨_, _, rfl, rfl, q _ _ pv_bl⟩
theorem opr_le : OpR X (compareOp .LtE) (fun x y H Q => OpRd X.K .le [x, y] H Q) := opr_cmp (fun _ _ => rfl) op_le
theorem opr_gt : OpR X (compareOp .Gt) (fun x y H Q => OpRd X.K .gt [x, y] H Q) := opr_cmp (fun _ _ => rfl) op_gt
theorem opr_ge : OpR X (compareOp .GtE) (fun x y H Q => OpRd X.K .ge [x, y] H Q) := opr_cmp (fun _ _ => rfl) op_ge
theorem eqD_int {a b : D} {r : Bool} (h : eqD a b = some r) : (∃ i j, a = .int i ∧ b = .int j ∧ r = decide (i = j)) ∨ (∃ i j, a = .str i ∧ b = .str j ∧ r = decide (i = j)) ∨ (SeqAt.shaped a = true ∧ SeqAt.shaped b = true ∧ r = PyData.eqv a b) := by
  unfold eqD at h
  split at h
  · exact .inl ⟨_, _, rfl, rfl, (Option.some.inj h).symm⟩
  · exact .inr (.inl ⟨_, _, rfl, rfl, (Option.some.inj h).symm⟩)
  · split at h
    · rename_i z
      rw [Bool.and_eq_true] at z
      exact .inr (.inr ⟨z.1, z.2, (Option.some.inj h).symm⟩)
    · cases h
theorem shaped_lay {d : D} (h : SeqAt.shaped d = true) : d.canLay0 = true := by
  unfold SeqAt.shaped at h
  rw [Bool.and_eq_true] at h
  exact h.1
theorem opr_eq (hu : X.A.units + 64 < cLine) : OpR X (compareOp .Eq) (fun x y H Q => OpRd X.K .eq [x, y] H Q) := by
  intro pins s σ H x y v u Q I rx ry ⟨O, ds, fr, d, hr, e, q⟩
  obtain ⟨a, b, rfl, ha, hb⟩ := hr.two
  have e : cmpOpt (eqD a b) = some (fr, d) := e
  unfold cmpOpt at e
  cases h : eqD a b with
  | none => rw [h] at e; cases e
  | some r =>
    rw [h] at e
    obtain ⟨rfl, rfl⟩ := Prod.mk.inj (Option.some.inj e)
    rcases eqD_int h with ⟨i, j, rfl, rfl, rfl⟩ | ⟨i, j, rfl, rfl, rfl⟩ | ⟨s1, s2, rfl⟩
    · rw [top_int ha] at rx
      rw [top_int hb] at ry
      refine op_eq pins s σ H _ _ v u Q I rx ry ⟨rfl, ?_⟩
      have := q (.bl (decide (i = j))) H pv_bl
      simpa using this
    · rw [top_str ha] at rx
      rw [top_str hb] at ry
      refine op_eq pins s σ H _ _ v u Q I rx ry ⟨rfl, ?_⟩
      have := q (.bl (decide (i = j))) H pv_bl
      simpa using this
    · exact op_eqD hu pins s σ H _ _ v u Q I rx ry ⟨a, b, ha.dp (shaped_lay s1), hb.dp (shaped_lay s2), s1, s2, q _ _ pv_bl⟩
theorem opr_ne (hu : X.A.units + 64 < cLine) : OpR X (compareOp .NotEq) (fun x y H Q => OpRd X.K .ne [x, y] H Q) := by
  intro pins s σ H x y v u Q I rx ry ⟨O, ds, fr, d, hr, e, q⟩
  obtain ⟨a, b, rfl, ha, hb⟩ := hr.two
  have e : cmpOpt ((eqD a b).map (!·)) = some (fr, d) := e
  unfold cmpOpt at e
  cases h : eqD a b with
  | none => rw [h] at e; cases e
  | some r =>
    rw [h] at e
    obtain ⟨rfl, rfl⟩ := Prod.mk.inj (Option.some.inj e)
    rcases eqD_int h with ⟨i, j, rfl, rfl, rfl⟩ | ⟨i, j, rfl, rfl, rfl⟩ | ⟨s1, s2, rfl⟩
    · rw [top_int ha] at rx
      rw [top_int hb] at ry
      refine op_ne pins s σ H _ _ v u Q I rx ry ⟨rfl, ?_⟩
      have := q (.bl (!decide (i = j))) H pv_bl
      simpa using this
    · rw [top_str ha] at rx
      rw [top_str hb] at ry
      refine op_ne pins s σ H _ _ v u Q I rx ry ⟨rfl, ?_⟩
      have := q (.bl (!decide (i = j))) H pv_bl
      simpa using this
    · exact op_neD hu pins s σ H _ _ v u Q I rx ry ⟨a, b, ha.dp (shaped_lay s1), hb.dp (shaped_lay s2), s1, s2, q _ _ pv_bl⟩
theorem opr_lt (hu : X.A.units < cLine) : OpR X (compareOp .Lt) (fun x y H Q => OpRd X.K .lt [x, y] H Q) := by
  intro pins s σ H x y v u Q I rx ry ⟨O, ds, fr, d, hr, e, q⟩
  obtain ⟨a, b, rfl, ha, hb⟩ := hr.two
  have e : cmpOpt (ltD a b) = some (fr, d) := e
  cases a <;> cases b <;> simp only [ltD, cmpOpt] at e <;> try (cases e; done)
  · obtain ⟨rfl, rfl⟩ := Prod.mk.inj (Option.some.inj e)
    rw [top_int ha] at rx
    rw [top_int hb] at ry
    exact op_lt pins s σ H _ _ v u Q I rx ry ⟨_, _, rfl, rfl, q _ _ pv_bl⟩
  · split at e
    · rename_i ns ms h1 h2
      obtain ⟨rfl, rfl⟩ := Prod.mk.inj (Option.some.inj e)
      obtain ⟨a1, v1, e1, s1, r1⟩ := ha
      obtain ⟨a2, v2, e2, s2, r2⟩ := hb
      rw [(r1.intsOf h1).1] at s1
      rw [(r2.intsOf h2).1] at s2
      exact op_ltT hu pins s σ H _ _ v u Q I rx ry ⟨a1, a2, ns, ms, e1, e2, s1, s2, q _ _ pv_bl⟩
    · cases e
theorem idxD_get {K : PySem.W.Frag} {H : Hp} {O : Addr → Prop} {vs : List V} {ds : List D} {i : Int} {d : D} (r : RpL K H O vs ds) (h : idxD ds i = some d) : ∃ v, L2.atI vs i = some v ∧ Rp K H O v d := by
  unfold idxD at h
  unfold L2.atI
  rw [r.length]
  cases hx : ixN ds.length i with
  | none => rw [hx] at h; cases h
  | some k =>
    rw [hx] at h
    rw [show L2.ixN ds.length i = some k from hx]
    obtain ⟨v, h1, h2⟩ := r.get (i := k) h
    exact ⟨v, h1, h2⟩
theorem opr_idx : IxR X (fun x y H Q => OpRd X.K .idx [x, y] H Q) := by
  intro value slice pins s σ H x y v u Q I rx ry ⟨O, ds, fr, d, hr, e, q⟩
  obtain ⟨a, b, rfl, ha, hb⟩ := hr.two
  cases a <;> cases b <;> simp only [opD] at e <;> try (cases e; done)
  · rename_i xs i
    cases h : idxD xs i with
    | none => rw [h] at e; cases e
    | some z =>
      rw [h] at e
      obtain ⟨rfl, rfl⟩ := Prod.mk.inj (Option.some.inj e)
      obtain ⟨a1, v1, e1, s1, r1⟩ := ha
      rw [top_int hb] at ry
      obtain ⟨w, h1, h2⟩ := idxD_get r1 h
      exact ix_list value slice pins s σ H _ _ v u Q I rx ry ⟨a1, v1, i, w, e1, rfl, s1, h1, q _ _ (.old h2)⟩
  · rename_i xs i
    cases h : idxD xs i with
    | none => rw [h] at e; cases e
    | some z =>
      rw [h] at e
      obtain ⟨rfl, rfl⟩ := Prod.mk.inj (Option.some.inj e)
      obtain ⟨a1, v1, e1, s1, r1⟩ := ha
      rw [top_int hb] at ry
      obtain ⟨w, h1, h2⟩ := idxD_get r1 h
      exact ix_tup value slice pins s σ H _ _ v u Q I rx ry ⟨a1, v1, i, w, e1, rfl, s1, h1, q _ _ (.old h2)⟩
theorem sIx_eq (n dn : Nat) (i : Int) : HT.sIx n dn (some i) = sIx n i := by
  unfold HT.sIx sIx
  by_cases h : 0 ≤ i
  · rw [if_pos h]; show (if i < 0 then _ else _) = _; rw [if_neg (by omega)]
  · rw [if_neg h]; show (if i < 0 then _ else _) = _; rw [if_pos (by omega)]
theorem cut_rp {K : PySem.W.Frag} {H : Hp} {O : Addr → Prop} {vs : List V} {ds : List D} (r : RpL K H O vs ds) {lo hi : Option Int} {a b : Nat} (h1 : HT.sIx ds.length 0 lo = a) (h2 : HT.sIx ds.length ds.length hi = b) : RpL K H O (cutV vs lo hi) (cutD ds a b) := by
  unfold cutV cutD
  rw [r.length, h1, h2]
  exact (r.drop a).take _
/-- a slice -/
theorem opr_sl {lo hi : Option Int} {a b : List D → Nat} (h1 : ∀ ds, HT.sIx ds.length 0 lo = a ds) (h2 : ∀ ds, HT.sIx ds.length ds.length hi = b ds) : SlR X (fun x lo' hi' H Q => lo' = lo ∧ hi' = hi ∧ ∃ (O : Addr → Prop) (d : D), RpTop X.K H O x d ∧
    ((∃ ds, d = .list ds ∧ ∀ v H1, PV X.K O H true (.list (cutD ds (a ds) (b ds))) v H1 → Q v H1) ∨ (∃ ds, d = .tuple ds ∧ ∀ v H1, PV X.K O H false (.tuple (cutD ds (a ds) (b ds))) v H1 → Q v H1))) := by
  intro pins s σ H x v vl vu lo' hi' sl Q0 I rx hsl p1 p2 ⟨e1, e2, O, d, hx, h⟩
  subst e1 e2
  rcases h with ⟨ds, rfl, q⟩ | ⟨ds, rfl, q⟩
  · obtain ⟨a1, v1, e1, s1, r1⟩ := hx
    exact sl_list pins s σ H x v vl vu _ _ sl Q0 I rx hsl p1 p2 ⟨a1, v1, e1, s1, fun p hp => q _ _ (.lst hp (cut_rp r1 (h1 ds) (h2 ds)))⟩
  · obtain ⟨a1, v1, e1, s1, r1⟩ := hx
    refine sl_tupA pins s σ H x v vl vu _ _ sl Q0 I rx hsl p1 p2 ⟨a1, v1, e1, s1, fun z => ?_, fun _ p hp => q _ _ (.tup hp (cut_rp r1 (h1 ds) (h2 ds)))⟩
    have c := cut_rp r1 (h1 ds) (h2 ds)
    rw [r1.length, h1, h2] at z
    have w : cutD ds (a ds) (b ds) = ds := by
      unfold cutD
      rw [z.1, z.2]
      simp
    rw [w] at q
    exact q _ _ (.old (.tup s1 r1))
theorem opr_len : CallR X (.builtin "len") (fun vs H Q => OpRd X.K .len vs H Q) := by
  intro pins s σ H xs us Q I r ⟨O, ds, fr, d, hr, e, q⟩
  cases hr with
  | nil => cases e
  | cons ha hr =>
    rename_i a _ _
    cases hr with
    | cons _ _ => cases a <;> cases e
    | nil =>
      cases a <;> simp only [opD] at e <;> try (cases e; done)
      · obtain ⟨rfl, rfl⟩ := Prod.mk.inj (Option.some.inj e)
        obtain ⟨a1, v1, rfl, s1, r1⟩ := ha
        refine call_len_seq pins s σ H _ us Q I r ⟨a1, v1, rfl, .inl s1, ?_⟩
        rw [r1.length]
        exact q _ _ pv_int
      · obtain ⟨rfl, rfl⟩ := Prod.mk.inj (Option.some.inj e)
        obtain ⟨a1, v1, rfl, s1, r1⟩ := ha
        refine call_len_seq pins s σ H _ us Q I r ⟨a1, v1, rfl, .inr s1, ?_⟩
        rw [r1.length]
        exact q _ _ pv_int
/-- one operand -/
theorem OpRd.one {K : PySem.W.Frag} {o : Op} {x : V} {H : Hp} {Q : VK} (h : OpRd K o [x] H Q) : ∃ (O : Addr → Prop) (a : D) (fr : Bool) (d : D), RpTop K H O x a ∧ opD o [a] = some (fr, d) ∧ ∀ v H1, PV K O H fr d v H1 → Q v H1 := by
  obtain ⟨O, ds, fr, d, hr, e, q⟩ := h
  obtain ⟨a, rfl, ha⟩ := hr.one
  exact ⟨O, a, fr, d, ha, e, q⟩
theorem OpRd.two {K : PySem.W.Frag} {o : Op} {x y : V} {H : Hp} {Q : VK} (h : OpRd K o [x, y] H Q) : ∃ (O : Addr → Prop) (a b : D) (fr : Bool) (d : D), RpTop K H O x a ∧ RpTop K H O y b ∧ opD o [a, b] = some (fr, d) ∧ ∀ v H1, PV K O H fr d v H1 → Q v H1 := by
  obtain ⟨O, ds, fr, d, hr, e, q⟩ := h
  obtain ⟨a, b, rfl, ha, hb⟩ := hr.two
  exact ⟨O, a, b, fr, d, ha, hb, e, q⟩
theorem opr_sum (hc : X.calm = true) : CallR X (.builtin "sum") (fun vs H Q => ∃ x, vs = [x] ∧ OpRd X.K .sum [x] H Q) := by
  intro pins s σ H xs us Q I r ⟨x, e0, h⟩
  subst e0
  obtain ⟨O, a, fr, d, ha, e, q⟩ := h.one
  cases a <;> simp only [opD] at e <;> try (cases e; done)
  · rename_i a
    obtain ⟨a1, v1, rfl, s1, r1⟩ := ha
    cases h : intsOf a with
    | none => rw [h] at e; cases e
    | some ns =>
      rw [h] at e
      obtain ⟨rfl, rfl⟩ := Prod.mk.inj (Option.some.inj e)
      rw [(r1.intsOf h).1] at s1
      exact cr_sum hc pins s σ H _ us Q I r ⟨a1, ns, rfl, s1, q _ _ pv_int⟩
  · rename_i a
    obtain ⟨a1, v1, rfl, s1, r1⟩ := ha
    cases h : intsOf a with
    | none => rw [h] at e; cases e
    | some ns =>
      rw [h] at e
      obtain ⟨rfl, rfl⟩ := Prod.mk.inj (Option.some.inj e)
      rw [(r1.intsOf h).1] at s1
      obtain ⟨its, rv, hl, _⟩ := I.tuple s1
      rw [Vals.ref1 r]
      have hi := rv.ints
      obtain ⟨ys, ey⟩ := hi.allInts.items
      have en : numsOf (intItems ys).toList = ns := by rw [← ey]; exact hi.numsOf
      rw [nums_intItems] at en
      have hl : s.heap.IsTuple a1 its.toArray := hl
      rw [ey] at hl
      refine PySem.W.ktm_sumG (I.ok.hd hc) hl fun h' tk t' hk => ?_
      rw [preSum_eq, List.take_of_length_le (by simp), en]
      exact ⟨.int _, H, I.kept hk, ⟨_, rfl⟩, q _ _ pv_int⟩
theorem minI_spec : ∀ {ns : List Int} {m : Int}, minI ns = some m → ns ≠ [] ∧ m ∈ ns ∧ ∀ y ∈ ns, m ≤ y := by
  intro ns
  cases ns with
  | nil => intro m h; cases h
  | cons x r =>
    intro m h
    obtain rfl := Option.some.inj h
    refine ⟨by simp, ?_⟩
    induction r generalizing x with
    | nil => simp
    | cons y r ih =>
      simp only [List.foldl_cons]
      by_cases hy : y < x
      · rw [if_pos hy]
        obtain ⟨h1, h2⟩ := ih y rfl
        refine ⟨List.mem_cons_of_mem _ h1, fun z hz => ?_⟩
        rcases List.mem_cons.mp hz with e | hz
        · have := h2 y (List.mem_cons_self ..)
          omega
        · exact h2 z hz
      · rw [if_neg hy]
        obtain ⟨h1, h2⟩ := ih x rfl
        refine ⟨?_, fun z hz => ?_⟩
        · rcases List.mem_cons.mp h1 with e | h1
          · rw [e]; exact List.mem_cons_self ..
          · exact List.mem_cons_of_mem _ (List.mem_cons_of_mem _ h1)
        · rcases List.mem_cons.mp hz with e | hz
          · rw [e]; exact h2 x (List.mem_cons_self ..)
          · rcases List.mem_cons.mp hz with e | hz
            · have := h2 x (List.mem_cons_self ..)
              omega
            · exact h2 z (List.mem_cons_of_mem _ hz)
theorem maxI_spec : ∀ {ns : List Int} {m : Int}, maxI ns = some m → ns ≠ [] ∧ m ∈ ns ∧ ∀ y ∈ ns, y ≤ m := by
  intro ns
  cases ns with
  | nil => intro m h; cases h
  | cons x r =>
    intro m h
    obtain rfl := Option.some.inj h
    refine ⟨by simp, ?_⟩
    induction r generalizing x with
    | nil => simp
    | cons y r ih =>
      simp only [List.foldl_cons]
      by_cases hy : y > x
      · rw [if_pos hy]
        obtain ⟨h1, h2⟩ := ih y rfl
        refine ⟨List.mem_cons_of_mem _ h1, fun z hz => ?_⟩
        rcases List.mem_cons.mp hz with e | hz
        · have := h2 y (List.mem_cons_self ..)
          omega
        · exact h2 z hz
      · rw [if_neg hy]
        obtain ⟨h1, h2⟩ := ih x rfl
        refine ⟨?_, fun z hz => ?_⟩
        · rcases List.mem_cons.mp h1 with e | h1
          · rw [e]; exact List.mem_cons_self ..
          · exact List.mem_cons_of_mem _ (List.mem_cons_of_mem _ h1)
        · rcases List.mem_cons.mp hz with e | hz
          · rw [e]; exact h2 x (List.mem_cons_self ..)
          · rcases List.mem_cons.mp hz with e | hz
            · have := h2 x (List.mem_cons_self ..)
              omega
            · exact h2 z (List.mem_cons_of_mem _ hz)
theorem opr_minL (hc : X.calm = true) : CallR X (.builtin "min") (fun vs H Q => ∃ x, vs = [x] ∧ OpRd X.K .minL [x] H Q) := by
  intro pins s σ H xs us Q I r ⟨x, e0, h⟩
  subst e0
  obtain ⟨O, a, fr, d, ha, e, q⟩ := h.one
  cases a <;> simp only [opD] at e <;> try (cases e; done)
  rename_i a
  obtain ⟨a1, v1, rfl, s1, r1⟩ := ha
  cases h : intsOf a with
  | none => rw [h] at e; cases e
  | some ns =>
    rw [h] at e
    cases hm : minI ns with
    | none => rw [show (some ns).bind minI = minI ns from rfl, hm] at e; cases e
    | some m =>
      rw [show (some ns).bind minI = minI ns from rfl, hm] at e
      obtain ⟨rfl, rfl⟩ := Prod.mk.inj (Option.some.inj e)
      rw [(r1.intsOf h).1] at s1
      obtain ⟨z1, z2, z3⟩ := minI_spec hm
      refine cr_min hc pins s σ H _ us Q I r ⟨a1, ns, rfl, s1, List.length_pos_iff.mpr z1, fun m' h1 h2 => ?_⟩
      have : m' = m := by
        have a1 := z3 m' h1
        have a2 := h2 m z2
        omega
      rw [this]
      exact q _ _ pv_int
theorem opr_maxL (hc : X.calm = true) : CallR X (.builtin "max") (fun vs H Q => ∃ x, vs = [x] ∧ OpRd X.K .maxL [x] H Q) := by
  intro pins s σ H xs us Q I r ⟨x, e0, h⟩
  subst e0
  obtain ⟨O, a, fr, d, ha, e, q⟩ := h.one
  cases a <;> simp only [opD] at e <;> try (cases e; done)
  rename_i a
  obtain ⟨a1, v1, rfl, s1, r1⟩ := ha
  cases h : intsOf a with
  | none => rw [h] at e; cases e
  | some ns =>
    rw [h] at e
    cases hm : maxI ns with
    | none => rw [show (some ns).bind maxI = maxI ns from rfl, hm] at e; cases e
    | some m =>
      rw [show (some ns).bind maxI = maxI ns from rfl, hm] at e
      obtain ⟨rfl, rfl⟩ := Prod.mk.inj (Option.some.inj e)
      rw [(r1.intsOf h).1] at s1
      obtain ⟨z1, z2, z3⟩ := maxI_spec hm
      refine cr_max hc pins s σ H _ us Q I r ⟨a1, ns, rfl, s1, List.length_pos_iff.mpr z1, fun m' h1 h2 => ?_⟩
      have : m' = m := by
        have a1 := z3 m' h1
        have a2 := h2 m z2
        omega
      rw [this]
      exact q _ _ pv_int
theorem opr_min2 (hc : X.calm = true) : CallR X (.builtin "min") (fun vs H Q => ∃ x y, vs = [x, y] ∧ OpRd X.K .min2 [x, y] H Q) := by
  intro pins s σ H xs us Q I r ⟨x, y, e0, h⟩
  subst e0
  obtain ⟨O, a, b, fr, d, ha, hb, e, q⟩ := h.two
  cases a <;> cases b <;> simp only [opD] at e <;> try (cases e; done)
  obtain ⟨rfl, rfl⟩ := Prod.mk.inj (Option.some.inj e)
  rw [top_int ha, top_int hb] at r
  exact call_min2 hc pins s σ H _ us Q I r ⟨_, _, rfl, q _ _ pv_int⟩
theorem opr_max2 (hc : X.calm = true) : CallR X (.builtin "max") (fun vs H Q => ∃ x y, vs = [x, y] ∧ OpRd X.K .max2 [x, y] H Q) := by
  intro pins s σ H xs us Q I r ⟨x, y, e0, h⟩
  subst e0
  obtain ⟨O, a, b, fr, d, ha, hb, e, q⟩ := h.two
  cases a <;> cases b <;> simp only [opD] at e <;> try (cases e; done)
  obtain ⟨rfl, rfl⟩ := Prod.mk.inj (Option.some.inj e)
  rw [top_int ha, top_int hb] at r
  exact call_max2 hc pins s σ H _ us Q I r ⟨_, _, rfl, q _ _ pv_int⟩
theorem opr_abs : CallR X (.builtin "abs") (fun vs H Q => ∃ x, vs = [x] ∧ OpRd X.K .abs [x] H Q) := by
  intro pins s σ H xs us Q I r ⟨x, e0, h⟩
  subst e0
  obtain ⟨O, a, fr, d, ha, e, q⟩ := h.one
  cases a <;> simp only [opD] at e <;> try (cases e; done)
  obtain ⟨rfl, rfl⟩ := Prod.mk.inj (Option.some.inj e)
  rw [top_int ha] at r
  exact call_abs pins s σ H _ us Q I r ⟨_, rfl, q _ _ pv_int⟩
theorem opr_int : CallR X (.type "int") (fun vs H Q => ∃ x, vs = [x] ∧ OpRd X.K .int [x] H Q) := by
  intro pins s σ H xs us Q I r ⟨x, e0, h⟩
  subst e0
  obtain ⟨O, a, fr, d, ha, e, q⟩ := h.one
  cases a <;> simp only [opD] at e <;> try (cases e; done)
  obtain ⟨rfl, rfl⟩ := Prod.mk.inj (Option.some.inj e)
  rw [top_int ha] at r
  exact call_int1 pins s σ H _ us Q I r (.inl ⟨_, rfl, q _ _ pv_int⟩)
theorem opr_tup : CallR X (.type "tuple") (fun vs H Q => ∃ x, vs = [x] ∧ OpRd X.K .tup [x] H Q) := by
  intro pins s σ H xs us Q I r ⟨x, e0, h⟩
  subst e0
  obtain ⟨O, a, fr, d, ha, e, q⟩ := h.one
  cases a <;> simp only [opD] at e <;> try (cases e; done)
  · obtain ⟨rfl, rfl⟩ := Prod.mk.inj (Option.some.inj e)
    obtain ⟨a1, v1, rfl, s1, r1⟩ := ha
    exact call_tuple_of pins s σ H _ us Q I r ⟨a1, v1, rfl, .inl ⟨s1, fun p hp => q _ _ (.tup hp r1)⟩⟩
  · obtain ⟨rfl, rfl⟩ := Prod.mk.inj (Option.some.inj e)
    obtain ⟨a1, v1, rfl, s1, r1⟩ := ha
    exact call_tuple_of pins s σ H _ us Q I r ⟨a1, v1, rfl, .inr ⟨s1, q _ _ (.old (.tup s1 r1))⟩⟩
theorem opr_list : CallR X (.type "list") (fun vs H Q => ∃ x, vs = [x] ∧ OpRd X.K .list [x] H Q) := by
  intro pins s σ H xs us Q I r ⟨x, e0, h⟩
  subst e0
  obtain ⟨O, a, fr, d, ha, e, q⟩ := h.one
  cases a <;> simp only [opD] at e <;> try (cases e; done)
  · obtain ⟨rfl, rfl⟩ := Prod.mk.inj (Option.some.inj e)
    obtain ⟨a1, v1, rfl, s1, r1⟩ := ha
    exact call_list_of pins s σ H _ us Q I r ⟨a1, v1, rfl, .inl s1, fun p hp => q _ _ (.lst hp r1)⟩
  · obtain ⟨rfl, rfl⟩ := Prod.mk.inj (Option.some.inj e)
    obtain ⟨a1, v1, rfl, s1, r1⟩ := ha
    exact call_list_of pins s σ H _ us Q I r ⟨a1, v1, rfl, .inr s1, fun p hp => q _ _ (.lst hp r1)⟩
theorem opr_any (hc : X.calm = true) : CallR X (.builtin "any") (fun vs H Q => ∃ x, vs = [x] ∧ OpRd X.K .anyL [x] H Q) := by
  intro pins s σ H xs us Q I r ⟨x, e0, h⟩
  subst e0
  obtain ⟨O, a, fr, d, ha, e, q⟩ := h.one
  cases a <;> simp only [opD] at e <;> try (cases e; done)
  rename_i a
  obtain ⟨a1, v1, rfl, s1, r1⟩ := ha
  cases h : boolsOf a with
  | none => rw [h] at e; cases e
  | some ns =>
    rw [h] at e
    obtain ⟨rfl, rfl⟩ := Prod.mk.inj (Option.some.inj e)
    rw [(r1.boolsOf h).1] at s1
    exact cr_any hc pins s σ H _ us Q I r ⟨a1, ns, rfl, s1, q _ _ pv_bl⟩
theorem opr_all (hc : X.calm = true) : CallR X (.builtin "all") (fun vs H Q => ∃ x, vs = [x] ∧ OpRd X.K .allL [x] H Q) := by
  intro pins s σ H xs us Q I r ⟨x, e0, h⟩
  subst e0
  obtain ⟨O, a, fr, d, ha, e, q⟩ := h.one
  cases a <;> simp only [opD] at e <;> try (cases e; done)
  rename_i a
  obtain ⟨a1, v1, rfl, s1, r1⟩ := ha
  cases h : boolsOf a with
  | none => rw [h] at e; cases e
  | some ns =>
    rw [h] at e
    obtain ⟨rfl, rfl⟩ := Prod.mk.inj (Option.some.inj e)
    rw [(r1.boolsOf h).1] at s1
    exact cr_all hc pins s σ H _ us Q I r ⟨a1, ns, rfl, s1, q _ _ pv_bl⟩
theorem flat_rp {K : PySem.W.Frag} {H : Hp} {O : Addr → Prop} {v : V} {d : D} (h : Rp K H O v d) (f : flatD d = true) : L2.flatV v = true := by
  cases h <;> first | rfl | (cases f)
theorem eq_rp {K : PySem.W.Frag} {H : Hp} {O O' : Addr → Prop} {v w : V} {d e : D} (h : Rp K H O v d) (f : flatD d = true) (h' : Rp K H O' w e) (f' : flatD e = true) : L2.eqV v w = eqF d e := by
  cases h <;> cases h' <;> first | rfl | (cases f; done) | (cases f'; done)
theorem flat_all {K : PySem.W.Frag} {H : Hp} {O : Addr → Prop} : ∀ {vs : List V} {ds : List D}, RpL K H O vs ds → ds.all flatD = true → vs.all L2.flatV = true
  | _, _, .nil, _ => rfl
  | _, _, .cons h r, f => by
    rw [List.all_cons, Bool.and_eq_true] at f ⊢
    exact ⟨flat_rp h f.1, flat_all r f.2⟩
theorem any_eq {K : PySem.W.Frag} {H : Hp} {O O' : Addr → Prop} {x : V} {d : D} (hx : Rp K H O' x d) (f : flatD d = true) : ∀ {vs : List V} {ds : List D}, RpL K H O vs ds → ds.all flatD = true → L2.inV x vs = ds.any fun y => eqF y d
  | _, _, .nil, _ => rfl
  | _, _, .cons h r, g => by
    rw [List.all_cons, Bool.and_eq_true] at g
    have := any_eq hx f r g.2
    unfold L2.inV at this ⊢
    rw [List.any_cons, List.any_cons, eq_rp h g.1 hx f, this]
theorem top_flat {K : PySem.W.Frag} {H : Hp} {O : Addr → Prop} {x : V} {d : D} (h : RpTop K H O x d) (f : flatD d = true) : Rp K H O x d := by
  cases d <;> first | exact h | (cases f)
theorem opr_in : OpR X (compareOp .In) (fun x y H Q => OpRd X.K .inn [x, y] H Q) := by
  intro pins s σ H x y v u Q I rx ry h
  obtain ⟨O, a, b, fr, d, ha, hb, e, q⟩ := h.two
  cases b <;> simp only [opD] at e <;> try (cases e; done)
  · rename_i b
    unfold inD cmpOpt at e
    split at e
    · rename_i f
      rw [Bool.and_eq_true] at f
      obtain ⟨rfl, rfl⟩ := Prod.mk.inj (Option.some.inj e)
      obtain ⟨a1, v1, rfl, s1, r1⟩ := hb
      have hx := top_flat ha f.1
      refine op_in_seq pins s σ H _ _ v u Q I rx ry ⟨a1, v1, rfl, .inl s1, flat_rp hx f.1, flat_all r1 f.2, ?_⟩
      rw [if_neg Bool.false_ne_true, any_eq hx f.1 r1 f.2]
      exact q _ _ pv_bl
    · cases e
  · rename_i b
    unfold inD cmpOpt at e
    split at e
    · rename_i f
      rw [Bool.and_eq_true] at f
      obtain ⟨rfl, rfl⟩ := Prod.mk.inj (Option.some.inj e)
      obtain ⟨a1, v1, rfl, s1, r1⟩ := hb
      have hx := top_flat ha f.1
      refine op_in_seq pins s σ H _ _ v u Q I rx ry ⟨a1, v1, rfl, .inr s1, flat_rp hx f.1, flat_all r1 f.2, ?_⟩
      rw [if_neg Bool.false_ne_true, any_eq hx f.1 r1 f.2]
      exact q _ _ pv_bl
    · cases e
theorem opr_nin : OpR X (compareOp .NotIn) (fun x y H Q => OpRd X.K .nin [x, y] H Q) := by
  intro pins s σ H x y v u Q I rx ry h
  obtain ⟨O, a, b, fr, d, ha, hb, e, q⟩ := h.two
  cases b <;> simp only [opD] at e <;> try (cases e; done)
  · rename_i b
    unfold inD cmpOpt at e
    split at e
    · rename_i f
      rw [Bool.and_eq_true] at f
      obtain ⟨rfl, rfl⟩ := Prod.mk.inj (Option.some.inj e)
      obtain ⟨a1, v1, rfl, s1, r1⟩ := hb
      have hx := top_flat ha f.1
      refine op_notIn_seq pins s σ H _ _ v u Q I rx ry ⟨a1, v1, rfl, .inl s1, flat_rp hx f.1, flat_all r1 f.2, ?_⟩
      rw [if_pos rfl, any_eq hx f.1 r1 f.2]
      exact q _ _ pv_bl
    · cases e
  · rename_i b
    unfold inD cmpOpt at e
    split at e
    · rename_i f
      rw [Bool.and_eq_true] at f
      obtain ⟨rfl, rfl⟩ := Prod.mk.inj (Option.some.inj e)
      obtain ⟨a1, v1, rfl, s1, r1⟩ := hb
      have hx := top_flat ha f.1
      refine op_notIn_seq pins s σ H _ _ v u Q I rx ry ⟨a1, v1, rfl, .inr s1, flat_rp hx f.1, flat_all r1 f.2, ?_⟩
      rw [if_pos rfl, any_eq hx f.1 r1 f.2]
      exact q _ _ pv_bl
    · cases e
def tyStr : Ty → String
  | .int => "int"
  | .bool => "bool"
  | .tuple => "tuple"
  | .str => "str"
  | .list => "list"
def kindStr : D → String
  | .none => "NoneType"
  | .bool _ => "bool"
  | .int _ => "int"
  | .str _ => "str"
  | .list _ => "list"
  | .tuple _ => "tuple"
  | .dict _ => "dict"
theorem top_ty {K : PySem.W.Frag} {H : Hp} {O : Addr → Prop} {x : V} {d : D} (h : RpTop K H O x d) : TyX K H x (.type (kindStr d)) := by
  cases d with
  | none => cases h; exact .base .non
  | bool b => cases h; exact .base (.bl b)
  | int b => cases h; exact .base (.int b)
  | str b => cases h; exact .base (.str b)
  | list ds =>
    obtain ⟨a, vs, rfl, h1, _⟩ := h
    rcases h1 with (h1 | ⟨o, h1⟩) | ⟨o, its, n, h1, h2, _⟩
    · exact .base (.lst h1)
    · exact .base (.frz h1)
    · exact .kList h1 h2
  | tuple ds =>
    obtain ⟨a, vs, rfl, h1, _⟩ := h
    rcases h1 with (h1 | ⟨o, h1⟩) | ⟨o, its, n, h1, h2, _⟩
    · exact .base (.tup h1)
    · exact .fTuple h1
    · exact .kTuple h1 h2
  | dict ds =>
    obtain ⟨a, vs, rfl, h1, _⟩ := h
    rcases h1 with h1 | ⟨o, h1⟩
    · exact .base (.dK h1)
    · exact .fDict h1
theorem kit_isi {K : PySem.W.Frag} (d : D) (t : Ty) : PySem.W.kitOne K (.type (kindStr d)) (.type (tyStr t)) = some (isiD t d) := by
  cases d <;> cases t <;> (simp only [kindStr, tyStr, isiD]; exact kit_ty (by decide +kernel))
theorem opr_isi (t : Ty) : CallR X (.builtin "isinstance") (fun vs H Q => ∃ x, vs = [x, .ty (tyStr t)] ∧ OpRd X.K (.isi t) [x] H Q) := by
  intro pins s σ H xs us Q I r ⟨x, e0, h⟩
  subst e0
  obtain ⟨O, a, fr, d, ha, e, q⟩ := h.one
  have e : old (.bool (isiD t a)) = some (fr, d) := e
  obtain ⟨rfl, rfl⟩ := Prod.mk.inj (Option.some.inj e)
  exact call_isi pins s σ H _ us Q I r ⟨x, .ty (tyStr t), _, _, _, rfl, .ty _, top_ty ha, kit_isi a t, q _ _ pv_bl⟩
/-- sorted -/
def SrR (K : PySem.W.Frag) (H : Hp) (O : Addr → Prop) (u : Value) (d : D) : Prop := ∃ w : V, RelV w u ∧ Rp K H O w d
theorem each_of {K : PySem.W.Frag} {H : Hp} {O : Addr → Prop} : ∀ {vs : List V} {ds : List D} {us : List Value}, RpL K H O vs ds → Vals vs us → PySem.W.EachIs (SrR K H O) us ds
  | _, _, _, .nil, .nil => .nil
  | _, _, _, .cons h r, .cons g q => .cons ⟨_, g, h⟩ (each_of r q)
theorem of_each {K : PySem.W.Frag} {H : Hp} {O : Addr → Prop} : ∀ {us : List Value} {ds : List D}, PySem.W.EachIs (SrR K H O) us ds → ∃ vs, Vals vs us ∧ RpL K H O vs ds
  | _, _, .nil => ⟨[], .nil, .nil⟩
  | _, _, .cons ⟨w, g, h⟩ r => by
    obtain ⟨vs, h1, h2⟩ := of_each r
    exact ⟨w :: vs, .cons g h1, .cons h h2⟩
theorem each_reads {O : Addr → Prop} {pins : List (Addr × Obj)} {s : Shared} {σ : L2.St} {H : Hp} (I : Inv X pins σ H s) : ∀ {us : List Value} {ds : List D}, PySem.W.EachIs (SrR X.K H O) us ds → (∀ d ∈ ds, d.canLay0 = true) → PySem.W.EachIs (fun v b => ∃ as, Reads s.heap v (id b) as) us ds
  | _, _, .nil, _ => .nil
  | _, _, .cons ⟨w, g, h⟩ r, c => .cons (Dp.reads I _ _ _ (h.dp (c _ (List.mem_cons_self ..))) g) (each_reads I r fun d hd => c d (List.mem_cons_of_mem _ hd))
theorem sortOk_spec {ds : List D} (h : sortOk ds = true) : (∀ x ∈ ds, ∀ y ∈ ds, W.alike x y = true) ∧ (∀ x ∈ ds, x.canLay0 = true ∧ x.depth ≤ 60) ∧ ((∀ d ∈ ds, ∃ x r, d = PyData.tuple (x :: r)) ∨ ∀ d ∈ ds, d ≠ PyData.none ∧ ∀ xs, d ≠ PyData.tuple xs) := by
  unfold sortOk at h
  rw [Bool.and_eq_true, List.all_eq_true, Bool.or_eq_true, List.all_eq_true, List.all_eq_true] at h
  obtain ⟨h1, h2⟩ := h
  refine ⟨fun x hx y hy => ?_, fun x hx => ?_, ?_⟩
  · have := h1 x hx
    rw [Bool.and_eq_true, Bool.and_eq_true, List.all_eq_true] at this
    exact this.1.1 y hy
  · have := h1 x hx
    rw [Bool.and_eq_true, Bool.and_eq_true] at this
    exact ⟨this.1.2, of_decide_eq_true this.2⟩
  · rcases h2 with h2 | h2
    · refine .inl fun d hd => ?_
      have := h2 d hd
      split at this
      · exact ⟨_, _, rfl⟩
      · cases this
    · refine .inr fun d hd => ?_
      have := h2 d hd
      split at this
      · exact ⟨by simp, by simp⟩
      · exact ⟨by simp, by simp⟩
      · cases this
theorem opr_sorted (hu : X.A.units + 64 < cLine) : CallR X (.builtin "sorted") (fun vs H Q => ∃ x O ds, vs = [x] ∧ RpTop X.K H O x (.list ds) ∧ ∃ ys, sortD ds = some ys ∧ ∀ v H1, PV X.K O H true (.list ys) v H1 → Q v H1) := by
  intro pins s σ H xs us Q I r ⟨x, O, ds, e0, ha, ys, e, q⟩
  subst e0
  obtain ⟨a1, v1, rfl, s1, r1⟩ := ha
  unfold sortD at e
  split at e
  · rename_i ok
    obtain rfl := Option.some.inj e
    obtain ⟨k1, k2, k3⟩ := sortOk_spec ok
    obtain ⟨its, rv, pl, hz⟩ := I.list s1
    cases r with
    | cons g gg =>
      cases gg
      cases g
      have ea := each_of r1 rv
      have hl : ds.length ≤ sizeLine := by rw [← r1.length]; exact hz
      refine PySem.W.sorted_data (bs := ds) (enc := id) (R := SrR X.K H O) pl.isList ea (each_reads I ea fun d hd => (k2 d hd).1) ?_ ?_ hl (fun b hb => ?_) fun out h1 h2 => ?_
      · intro d hd d' hd'
        rw [List.map_id] at hd hd'
        exact k1 d hd d' hd'
      · unfold PySem.W.Sortable
        rw [List.map_id]
        exact k3
      · have := (k2 b hb).2
        show X.A.units + 2 + (id b).depth < cLine
        simp only [id]
        omega
      · obtain ⟨ws, w1, w2⟩ := of_each h2
        obtain ⟨c, hc⟩ := sortedAll_at s.heap its out.toArray
        have fr : H (s.heap.objs.size + 1) = none := I.hok.fresh (Nat.le_succ _)
        refine ⟨.ref (s.heap.objs.size + 1), upd H (s.heap.objs.size + 1) (.lst ws), I.laid (t' := s.toks) (fun b o hb => sortedAll_old hb) (Nat.le_succ _) ⟨?_, out, c, w1, hc⟩, rfl, q _ _ (.lst fr w2)⟩
        rw [w2.length, List.length_mergeSort]
        exact hl
  · cases e
end
end Mx
end

section
set_option Elab.async false
set_option linter.all false
set_option maxRecDepth 100000
set_option maxHeartbeats 2000000
/-! Does a code tell of this text? -/
namespace Mx
open PySem PySem.Spec PyProof.Rows L2
structure Ck where
  N : List Str
  fns : List (Str × List Str)
  glb : List (Str × D)
  rfn : Str
mutual
def deq : D → D → Bool
  | .none, .none => true
  | .bool a, .bool b => a == b
  | .int a, .int b => a == b
  | .str a, .str b => a == b
  | .list a, .list b => deqs a b
  | .tuple a, .tuple b => deqs a b
  | _, _ => false
def deqs : List D → List D → Bool
  | [], [] => true
  | a :: r, b :: s => deq a b && deqs r s
  | _, _ => false
end
mutual
theorem deq_eq : ∀ {a b : D}, deq a b = true → a = b
  | .none, .none, _ => rfl
  | .bool a, .bool b, h => by simp [deq] at h; rw [h]
  | .int a, .int b, h => by simp [deq] at h; rw [h]
  | .str a, .str b, h => by simp [deq] at h; rw [h]
  | .list a, .list b, h => by simp only [deq] at h; rw [deqs_eq h]
  | .tuple a, .tuple b, h => by simp only [deq] at h; rw [deqs_eq h]
  | .none, .bool _, h => by simp [deq] at h
  | .none, .int _, h => by simp [deq] at h
  | .none, .str _, h => by simp [deq] at h
  | .none, .list _, h => by simp [deq] at h
  | .none, .tuple _, h => by simp [deq] at h
  | .none, .dict _, h => by simp [deq] at h
  | .bool _, .none, h => by simp [deq] at h
  | .bool _, .int _, h => by simp [deq] at h
  | .bool _, .str _, h => by simp [deq] at h
  | .bool _, .list _, h => by simp [deq] at h
  | .bool _, .tuple _, h => by simp [deq] at h
  | .bool _, .dict _, h => by simp [deq] at h
  | .int _, .none, h => by simp [deq] at h
  | .int _, .bool _, h => by simp [deq] at h
  | .int _, .str _, h => by simp [deq] at h
  | .int _, .list _, h => by simp [deq] at h
  | .int _, .tuple _, h => by simp [deq] at h
  | .int _, .dict _, h => by simp [deq] at h
  | .str _, .none, h => by simp [deq] at h
  | .str _, .bool _, h => by simp [deq] at h
  | .str _, .int _, h => by simp [deq] at h
  | .str _, .list _, h => by simp [deq] at h
  | .str _, .tuple _, h => by simp [deq] at h
  | .str _, .dict _, h => by simp [deq] at h
  | .list _, .none, h => by simp [deq] at h
  | .list _, .bool _, h => by simp [deq] at h
  | .list _, .int _, h => by simp [deq] at h
  | .list _, .str _, h => by simp [deq] at h
  | .list _, .tuple _, h => by simp [deq] at h
  | .list _, .dict _, h => by simp [deq] at h
  | .tuple _, .none, h => by simp [deq] at h
  | .tuple _, .bool _, h => by simp [deq] at h
  | .tuple _, .int _, h => by simp [deq] at h
  | .tuple _, .str _, h => by simp [deq] at h
  | .tuple _, .list _, h => by simp [deq] at h
  | .tuple _, .dict _, h => by simp [deq] at h
  | .dict _, b, h => by cases b <;> simp [deq] at h
theorem deqs_eq : ∀ {a b : List D}, deqs a b = true → a = b
  | [], [], _ => rfl
  | a :: r, b :: s, h => by
    simp only [deqs, Bool.and_eq_true] at h
    rw [deq_eq h.1, deqs_eq h.2]
  | [], _ :: _, h => by simp [deqs] at h
  | _ :: _, [], h => by simp [deqs] at h
end
def glB (sc : Scope) (x : Str) : Bool := sc.names.lookup x == some .globalImplicit
def visB (sc : Scope) (x : Str) : Bool := sc.names.lookup x == some .local || sc.names.lookup x == some .cell || sc.names.lookup x == some .free
def nm (c : Ck) (sc : Scope) (i : Nat) (x : Str) : Bool := c.N[i]? == some x && visB sc x && !(x == ("__debug__" : Str)) && !(x == ("__classdict__" : Str))
/-- a name that may be stored to: fr: in a def's own block -/
def stB (c : Ck) (sc : Scope) (fr : Bool) (i : Nat) (x : Str) : Bool := c.N[i]? == some x && (sc.names.lookup x == some .local || (fr && sc.names.lookup x == some .cell))
def bltB (sc : Scope) (x y : Str) : Bool := x == y && glB sc y
def notStar : Expr → Bool
  | .Starred _ _ => false
  | _ => true
def notSet : Expr → Bool
  | .Set _ _ _ => false
  | _ => true
def notSL : Expr → Bool
  | .Set _ _ _ => false
  | .List _ _ => false
  | _ => true
def notIf : Expr → Bool
  | .IfExp _ _ _ _ => false
  | _ => true
def isNone : Expr → Bool
  | .Constant .none _ _ => true
  | _ => false
/-- plain for a subscript -/
def plIx : Expr → Bool
  | .Name _ _ => true
  | .Constant (.int _) _ _ => true
  | .BinOp _ _ _ _ => true
  | .UnaryOp _ _ _ => true
  | .Subscript _ _ _ => true
  | .Call _ _ _ _ => true
  | _ => false
/-- the operands of an operator, as the text tells them -/
def vBin (op : Operator) : Expr → Option (List Expr)
  | .BinOp a op' b _ => if op' = op then some [a, b] else none
  | _ => none
def vNeg : Expr → Option (List Expr)
  | .UnaryOp .USub a _ => some [a]
  | _ => none
def vCmp (op : CmpOp) : Expr → Option (List Expr)
  | .Compare a [op'] [b] _ => if op' = op ∧ notSet b = true then some [a, b] else none
  | _ => none
def vNon (op : CmpOp) : Expr → Option (List Expr)
  | .Compare a [op'] [b] _ => if op' = op ∧ isNone b = true then some [a] else none
  | _ => none
def vIx : Expr → Option (List Expr)
  | .Subscript a b _ => if plIx b = true then some [a, b] else none
  | _ => none
def vSlTo : Expr → Option (List Expr)
  | .Subscript e (.Slice none (some j) none _) _ => some [e, j]
  | _ => none
def vSlFrom : Expr → Option (List Expr)
  | .Subscript e (.Slice (some i) none none _) _ => some [e, i]
  | _ => none
def vSlFT : Expr → Option (List Expr)
  | .Subscript e (.Slice (some i) (some j) none _) _ => some [e, i, j]
  | _ => none
def vCall (sc : Scope) (s : String) (n : Nat) : Expr → Option (List Expr)
  | .Call (.Name x _) es [] _ => if bltB sc x (Str.ofString s) = true ∧ es.length = n then some es else none
  | _ => none
def vIsi (sc : Scope) (t : Ty) : Expr → Option (List Expr)
  | .Call (.Name x _) [a, .Name y _] [] _ => if bltB sc x "isinstance" = true ∧ bltB sc y (Str.ofString (tyStr t)) = true then some [a] else none
  | _ => none
def vLrng (sc : Scope) : Expr → Option (List Expr)
  | .Call (.Name x _) [.Call (.Name y _) [a] [] _] [] _ => if bltB sc x "list" = true ∧ bltB sc y "range" = true then some [a] else none
  | _ => none
def vw (sc : Scope) (o : Op) (e : Expr) : Option (List Expr) := match o with
  | .add => vBin .Add e
  | .sub => vBin .Sub e
  | .mul => vBin .Mult e
  | .fdv => vBin .FloorDiv e
  | .mod => vBin .Mod e
  | .pow => vBin .Pow e
  | .neg => vNeg e
  | .eq => vCmp .Eq e
  | .ne => vCmp .NotEq e
  | .lt => vCmp .Lt e
  | .le => vCmp .LtE e
  | .gt => vCmp .Gt e
  | .ge => vCmp .GtE e
  | .isN => vNon .Is e
  | .notN => vNon .IsNot e
  | .inn => vCmp .In e
  | .nin => vCmp .NotIn e
  | .idx => vIx e
  | .slTo => vSlTo e
  | .slFrom => vSlFrom e
  | .len => vCall sc "len" 1 e
  | .sum => vCall sc "sum" 1 e
  | .minL => vCall sc "min" 1 e
  | .maxL => vCall sc "max" 1 e
  | .min2 => vCall sc "min" 2 e
  | .max2 => vCall sc "max" 2 e
  | .abs => vCall sc "abs" 1 e
  | .int => vCall sc "int" 1 e
  | .tup => vCall sc "tuple" 1 e
  | .list => vCall sc "list" 1 e
  | .sorted => vCall sc "sorted" 1 e
  | .allL => vCall sc "all" 1 e
  | .anyL => vCall sc "any" 1 e
  | .isi t => vIsi sc t e
  | .lrng => vLrng sc e
  | _ => none
theorem vBin_some {op : Operator} {e : Expr} {es : List Expr} (h : vBin op e = some es) : ∃ a b pos, e = .BinOp a op b pos ∧ es = [a, b] := by
  cases e <;> simp only [vBin] at h <;> try (cases h; done)
  split at h
  · rename_i q
    subst q
    exact ⟨_, _, _, rfl, (Option.some.inj h).symm⟩
  · cases h
theorem vNeg_some {e : Expr} {es : List Expr} (h : vNeg e = some es) : ∃ a pos, e = .UnaryOp .USub a pos ∧ es = [a] := by
  unfold vNeg at h
  split at h
  · exact ⟨_, _, rfl, (Option.some.inj h).symm⟩
  · cases h
theorem vCmp_some {op : CmpOp} {e : Expr} {es : List Expr} (h : vCmp op e = some es) : ∃ a b pos, e = .Compare a [op] [b] pos ∧ es = [a, b] ∧ notSet b = true := by
  unfold vCmp at h
  split at h
  · split at h
    · rename_i q
      obtain ⟨rfl, q⟩ := q
      exact ⟨_, _, _, rfl, (Option.some.inj h).symm, q⟩
    · cases h
  · cases h
theorem vNon_some {op : CmpOp} {e : Expr} {es : List Expr} (h : vNon op e = some es) : ∃ a j p pos, e = .Compare a [op] [.Constant .none j p] pos ∧ es = [a] := by
  unfold vNon at h
  split at h
  · split at h
    · rename_i q
      obtain ⟨rfl, q⟩ := q
      unfold isNone at q
      split at q
      · exact ⟨_, _, _, _, rfl, (Option.some.inj h).symm⟩
      · cases q
    · cases h
  · cases h
theorem vIx_some {e : Expr} {es : List Expr} (h : vIx e = some es) : ∃ a b pos, e = .Subscript a b pos ∧ es = [a, b] ∧ plIx b = true := by
  unfold vIx at h
  split at h
  · split at h
    · rename_i q
      exact ⟨_, _, _, rfl, (Option.some.inj h).symm, q⟩
    · cases h
  · cases h
theorem vSlTo_some {e : Expr} {es : List Expr} (h : vSlTo e = some es) : ∃ a j p pos, e = .Subscript a (.Slice none (some j) none p) pos ∧ es = [a, j] := by
  unfold vSlTo at h
  split at h
  · exact ⟨_, _, _, _, rfl, (Option.some.inj h).symm⟩
  · cases h
theorem vSlFrom_some {e : Expr} {es : List Expr} (h : vSlFrom e = some es) : ∃ a j p pos, e = .Subscript a (.Slice (some j) none none p) pos ∧ es = [a, j] := by
  unfold vSlFrom at h
  split at h
  · exact ⟨_, _, _, _, rfl, (Option.some.inj h).symm⟩
  · cases h
theorem vSlFT_some {e : Expr} {es : List Expr} (h : vSlFT e = some es) : ∃ a i j p pos, e = .Subscript a (.Slice (some i) (some j) none p) pos ∧ es = [a, i, j] := by
  unfold vSlFT at h
  split at h
  · exact ⟨_, _, _, _, _, rfl, (Option.some.inj h).symm⟩
  · cases h
theorem blt_eq {sc : Scope} {x y : Str} (h : bltB sc x y = true) : x = y ∧ glB sc y = true := by
  unfold bltB at h
  rw [Bool.and_eq_true] at h
  exact ⟨eq_of_beq h.1, h.2⟩
theorem vCall_some {sc : Scope} {s : String} {n : Nat} {e : Expr} {es : List Expr} (h : vCall sc s n e = some es) : ∃ p pos, e = .Call (.Name (Str.ofString s) p) es [] pos ∧ es.length = n ∧ glB sc (Str.ofString s) = true := by
  unfold vCall at h
  split at h
  · split at h
    · rename_i q
      obtain ⟨q1, q2⟩ := q
      obtain ⟨rfl, q3⟩ := blt_eq q1
      obtain rfl := Option.some.inj h
      exact ⟨_, _, rfl, q2, q3⟩
    · cases h
  · cases h
theorem vIsi_some {sc : Scope} {t : Ty} {e : Expr} {es : List Expr} (h : vIsi sc t e = some es) : ∃ a p p2 pos, e = .Call (.Name "isinstance" p) [a, .Name (Str.ofString (tyStr t)) p2] [] pos ∧ es = [a] ∧ glB sc "isinstance" = true ∧ glB sc (Str.ofString (tyStr t)) = true := by
  unfold vIsi at h
  split at h
  · split at h
    · rename_i q
      obtain ⟨q1, q2⟩ := q
      obtain ⟨rfl, q3⟩ := blt_eq q1
      obtain ⟨rfl, q4⟩ := blt_eq q2
      exact ⟨_, _, _, _, rfl, (Option.some.inj h).symm, q3, q4⟩
    · cases h
  · cases h
theorem vLrng_some {sc : Scope} {e : Expr} {es : List Expr} (h : vLrng sc e = some es) : ∃ a p p2 pos pos2, e = .Call (.Name "list" p) [.Call (.Name "range" p2) [a] [] pos2] [] pos ∧ es = [a] ∧ glB sc "list" = true ∧ glB sc "range" = true := by
  unfold vLrng at h
  split at h
  · split at h
    · rename_i q
      obtain ⟨q1, q2⟩ := q
      obtain ⟨rfl, q3⟩ := blt_eq q1
      obtain ⟨rfl, q4⟩ := blt_eq q2
      exact ⟨_, _, _, _, _, rfl, (Option.some.inj h).symm, q3, q4⟩
    · cases h
  · cases h
/-- the names in a chain -/
def cmpB : Op → CmpOp → Bool
  | .lt, .Lt => true
  | .le, .LtE => true
  | .gt, .Gt => true
  | .ge, .GtE => true
  | _, _ => false
def isVal (a : Ex) : Bool := match argK a with
  | .val => true
  | _ => false
def allVal : Ex → Bool
  | .nil => true
  | .cons a as => isVal a && allVal as
  | _ => false
/-- what is lent is told once, and nothing else of it is told -/
def borIx : Ex → List Nat
  | .cons a as => match argK a with
    | .bor i => i :: borIx as
    | _ => borIx as
  | _ => []
def hasFrs : Ex → Bool
  | .cons (.frs _) _ => true
  | .cons _ as => hasFrs as
  | _ => false
def lentOk (as : Ex) : Bool := decide (lent as).Nodup && (lent as).all fun i => !(borIx as).contains i
def lends : Ex → Bool
  | .len _ => true
  | .frs a => lends a
  | .op _ as => lends as
  | .chn _ _ a b c => lends a || lends b || lends c
  | .and a b => lends a || lends b
  | .or a b => lends a || lends b
  | .not a => lends a
  | .ife c a b => lends c || lends a || lends b
  | .tup as => lends as
  | .lst as => lends as
  | .rep a n => lends a || lends n
  | .call _ _ as => lends as
  | .comp elt _ _ it cond => lends it || lends elt || lends cond
  | .allg elt _ _ it => lends it || lends elt
  | .refd b => lends b
  | .cons a as => lends a || lends as
  | .iseq a => lends a
  | .irng a => lends a
  | .irng2 a b => lends a || lends b
  | .izip a b => lends a || lends b
  | _ => false
def relab (scope sc : Scope) : Scope := relabel scope { scope := sc, locals := 0, globals := 0, cells := [] }
theorem relab_eq (scope : Scope) (env : Env) : relabel scope env = relab scope env.scope := rfl
/-- the target's text -/
def chkT (c : Ck) (sc : Scope) (fr : Bool) : Tg → Expr → Bool
  | .one i, .Name x _ => stB c sc fr i x
  | .tup is, .Tuple es _ _ => chkTs is es
  | _, _ => false
where chkTs : List Nat → List Expr → Bool
  | [], [] => true
  | i :: is, .Name x _ :: es => stB c sc fr i x && chkTs is es
  | _, _ => false
/-- zip's items go to a row of names -/
def zipOk : Ex → Expr → Bool
  | .izip _ _, .Tuple _ _ _ => true
  | .izip _ _, _ => false
  | _, _ => true
def tgIx : Tg → List Nat
  | .one i => [i]
  | .tup is => is
def ownP (c : Ck) (own : List Nat) : List (Str × Nat) := own.map fun i => (c.N.getD i Str.empty, i)
def noArgs (a : Arguments) : Bool := a.posonlyargs.isEmpty && a.args.isEmpty && a.vararg.isNone && a.kwonlyargs.isEmpty && a.kwarg.isNone && a.defaults.isEmpty && a.kw_defaults.isEmpty
def lamB (sc scope : Scope) : Bool := scope.kind == .function && !scope.isCoroutine && !scope.isGenerator && scope.names.all fun y => !(y.2 == .local) && !(y.2 == .cell) && (!(y.2 == .free) || sc.names.lookup y.1 == some .cell || sc.names.lookup y.1 == some .free)
mutual
/-- kd: what the block may make: generator expressions, lambdas -/
def chkE (c : Ck) (sc : Scope) (kd : Option String) (e : Expr) : Ex → Bool
  | .var i => match e with
    | .Name x _ => nm c sc i x
    | _ => false
  | .bor i => match e with
    | .Name x _ => nm c sc i x
    | _ => false
  | .len i => match e with
    | .Name x _ => nm c sc i x
    | _ => false
  | .frs a => chkE c sc kd e a && isVal a
  | .cst d => match e, d with
    | .Constant (.int i) _ _, .int j => i == j
    | .Constant (.bool i) _ _, .bool j => i == j
    | .Constant (.str i) _ _, .str j => i == j
    | .Constant .none _ _, .none => true
    | _, _ => false
  | .glb x d => match e with
    | .Name y _ => y == x && glB sc x && !(x == ("__debug__" : Str)) && match c.glb.lookup x with
      | some d' => deq d' d
      | none => false
    | _ => false
  | .op o as => match vw sc o e with
    | some es => chkL c sc kd es as
    | none => false
  | .chn o o' a b d => match e with
    | .Compare ea [p, p'] [eb, ed] _ => cmpB o p && cmpB o' p' && notSet ed && chkE c sc kd ea a && chkE c sc kd eb b && chkE c sc kd ed d && isVal a && isVal b && isVal d
    | _ => false
  | .and a b => match e with
    | .BoolOp .And (ea :: eb :: rest) pos => notIf ea && chkE c sc kd ea a && (match rest with
      | [] => notIf eb && chkE c sc kd eb b
      | _ :: _ => chkE c sc kd (.BoolOp .And (eb :: rest) pos) b) && isVal a && isVal b
    | _ => false
  | .or a b => match e with
    | .BoolOp .Or (ea :: eb :: rest) pos => notIf ea && chkE c sc kd ea a && (match rest with
      | [] => notIf eb && chkE c sc kd eb b
      | _ :: _ => chkE c sc kd (.BoolOp .Or (eb :: rest) pos) b) && isVal a && isVal b
    | _ => false
  | .not a => match e with
    | .UnaryOp .Not ea _ => notIf ea && chkE c sc kd ea a && isVal a
    | _ => false
  | .ife t a b => match e with
    | .IfExp et ea eb _ => notIf et && chkE c sc kd et t && chkE c sc kd ea a && chkE c sc kd eb b && isVal t && isVal a && isVal b
    | _ => false
  | .tup as => match e with
    | .Tuple es _ _ => chkL c sc kd es as && allVal as && decide (es.length ≤ 1000)
    | _ => false
  | .lst as => match e with
    | .List es _ => chkL c sc kd es as && allVal as && decide (es.length ≤ 1000)
    | _ => false
  | .rep a n => match e with
    | .BinOp (.List es p) .Mult en _ => (match a with
      | .lst _ => true
      | _ => false) && chkE c sc kd (.List es p) a && chkE c sc kd en n && isVal n
    | _ => false
  | .call f nk as => match e with
    | .Call (.Name x _) es kws _ => (match c.fns[f]? with
      | some (y, ps) => y == x && glB sc x && !(x == ("__debug__" : Str)) && es.length + kws.length == ps.length && kws.length == nk && kws.map (·.arg) == (ps.drop es.length).map some && chkL c sc kd (es ++ kws.map (·.value)) as && lentOk as && !(es.isEmpty && kws.isEmpty)
      | none => false)
    | _ => false
  | .comp elt tg own it cond => match e with
    | .ListComp ee [⟨te, ie, ifs, 0⟩] scope _ => blkC c.N sc scope (ownP c own) && notSet ie && chkT c (relab scope sc) false tg te && (tgIx tg).all (own.contains ·) && (zipOk it te && chkI c sc kd ie it) && chkE c (relab scope sc) kd ee elt && isVal elt && (match ifs with
      | [] => isNil cond
      | [t] => notIf t && chkE c (relab scope sc) kd t cond && isVal cond && !isNil cond
      | _ => false)
    | _ => false
  | .allg elt tg own it => match e with
    | .Call (.Name x _) [.GeneratorExp ee [⟨te, ie, [], 0⟩] scope _] [] _ => bltB sc x "all" && kd == some "<genexpr>" && blkC c.N sc scope (ownP c own) && notSL ie && scope.names.all (fun y => !(y.2 == .cell)) && !scope.isCoroutine && scope.names.lookup (".0" : Str) == some NameKind.local &&
      chkT c scope false tg te && (tgIx tg).all (own.contains ·) && (zipOk it te && chkI c sc kd ie it) && chkE c scope none ee elt && isVal elt
    | _ => false
  | .refd b => match e with
    | .Call (.Name x _) [.Lambda params body scope _] [] _ => bltB sc x c.rfn && kd == some "<lambda>" && noArgs params && lamB sc scope && chkE c scope none body b && isVal b && !lends b
    | _ => false
  | _ => false
def chkL (c : Ck) (sc : Scope) (kd : Option String) (es : List Expr) : Ex → Bool
  | .nil => es.isEmpty
  | .cons a as => match es with
    | e :: es => notStar e && chkE c sc kd e a && chkL c sc kd es as
    | [] => false
  | _ => false
def chkI (c : Ck) (sc : Scope) (kd : Option String) (e : Expr) : Ex → Bool
  | .iseq a => chkE c sc kd e a && (match argK a with
    | .val => true
    | .bor _ => true
    | _ => false)
  | .irng a => match e with
    | .Call (.Name x _) [ea] [] _ => bltB sc x "range" && notStar ea && chkE c sc kd ea a && isVal a
    | _ => false
  | .irng2 a b => match e with
    | .Call (.Name x _) [ea, eb] [] _ => bltB sc x "range" && notStar ea && notStar eb && chkE c sc kd ea a && chkE c sc kd eb b && isVal a && isVal b
    | _ => false
  | .izip a b => match e with
    | .Call (.Name x _) [ea, eb] [] _ => bltB sc x "zip" && notStar ea && notStar eb && chkE c sc kd ea a && chkE c sc kd eb b && isVal a && isVal b
    | _ => false
  | _ => false
end
end Mx
end

section
set_option Elab.async false
set_option linter.all false
set_option maxRecDepth 100000
set_option maxHeartbeats 2000000
/-! What a code computes is what its text does: expressions. -/
namespace Mx
open PySem PySem.Spec PyProof.Rows L2
structure Pg where
  P : Program
  w : World
  K : PySem.W.Frag
  mg : Str → Option Value
  base : Heap
  T : List (Addr × Str)
  C : Addr
  fI : Addr
@[reducible] def Pg.fr (g : Pg) (H0 : Hp) (Lb Bb : Nat → Addr → Prop) : Fr := ⟨g.K, g.T, H0, Lb, Bb⟩
def tRes (g : Pg) (G : Fr) (Fb : Addr → Prop) (lo : Bool) (ρ : Rho) (σ : L2.St) (H : Hp) (E : XK) (r : Res) (Q : VK) : Prop := match r with
  | .ok fr d ρ' => ∀ v H', PostE G Fb lo ρ σ H fr d ρ' v H' → Q v H'
  | .exc (.bad z) => ∀ dd H', PostX G lo ρ σ H H' → H' dd = some (.xd [(("name" : Str), V.str z)]) → E (.ref g.C) (some dd) H'
  | .stuck => False
section
variable (g : Pg) (F : FnSem) (E : XK)
def tEv (x : Ex) : TE := fun σ H Q => ∃ H0 Lb Bb Fb ρ, EnvR (g.fr H0 Lb Bb) Fb ρ σ H ∧ tRes g (g.fr H0 Lb Bb) Fb (lends x) ρ σ H E (ev F x ρ) Q
/-- an operand -/
def tOpd (a : Ex) : TE := match argK a with
  | .bor i => tVar i
  | .len i => tVar i
  | _ => tEv g F E a
def tSeq : Ex → TA
  | .nil => tNil
  | .cons a as => tCons (tOpd g F E a) (tSeq as)
  | _ => fun _ _ _ => False
/-- what a def promises -/
def spF (f : Nat) : Sp := fun vs H Q E' => ∃ (Lb Bb : Nat → Addr → Prop) (Fb : Addr → Prop) (args : Rho), EnvR (g.fr H Lb Bb) Fb args (vs.map some) H ∧ (∀ (i : Nat) (a : Addr), Lb i a ↔ (∃ d : D, args[i]? = some (Slot.s .le d)) ∧ vs[i]? = some (V.ref a)) ∧ (∀ (i : Nat) (d : D), args[i]? ≠ some (Slot.s .ow d)) ∧ args.length = vs.length ∧
  tRes g (g.fr H Lb Bb) Fb true args (vs.map some) H E' (F f args) Q
end
def blts : List String := ["len", "sum", "min", "max", "abs", "int", "tuple", "list", "sorted", "all", "any", "isinstance", "bool", "str", "range", "zip", "set", "dict"]
/-- the law's helper that calls what may be refused -/
def RefOk (g : Pg) (x : Str) : Prop := ∀ (X : Cx) (k : Nat) (c P : Addr) (params : Arguments) (body : Expr) (scope : Scope) (t : XK → TE) (p lpos pos : Pos), X.prog = g.P → X.w = g.w → X.K = g.K → X.mg = g.mg → Gl X x → LamX.TabB X.base X.mg c P → X.env.code = .ref c →
  (P, X.env.qual ++ "<lambda>") ∈ g.T → (∀ p ∈ g.T, p.1 = P → p.2 = X.env.qual ++ "<lambda>") → Room (k + 3) X.A → LamX.LamS X.env.scope scope → defaultsOf params X.env = ([], []) →
  (∀ (q : Str) (cl : List (Str × Addr)) (pm cv ctv : Value), bindArgs (PySem.W.kla_fn "<lambda>" q params body scope cl pm cv ctv) ⟨[], []⟩ = pure []) →
  (∀ (A : Around) (outer : List Env) (s : Shared) (H : Hp) (E : XK) (f c' : Addr), Room k (A.deeper (LamX.lamEnv X scope s.heap.objs.size f c')) → PE (LamX.lamCx X A outer s H E scope f c') body (t E)) →
  PE X (.Call (.Name x p) [.Lambda params body scope lpos] [] pos) (tLam2 g.T (TRef g.C "") t)
structure Facts (g : Pg) (c : Ck) (L : Nat) (F : FnSem) : Prop where
  blt : ∀ x ∈ blts, g.mg (Str.ofString x) = none
  glb : ∀ x d, c.glb.lookup x = some d → ∃ u v, g.mg x = some u ∧ RelV v u ∧ ∀ H O, Rp g.K H O v d
  fns : ∀ (f : Nat) (x : Str) (ps : List Str), c.fns[f]? = some (x, ps) → ∃ a fd, g.mg x = some (.ref a) ∧ PySem.W.keepIn g.K (.ref a) = true ∧ FnOk g.P g.w g.K g.mg g.base (CX g.P g.w) L a fd ps (spF g F f) ∧
    (∀ (n : Nat) (us ws : List Value), n ≤ ps.length → us.length = n → ws.length = ps.length - n → bindArgs fd ⟨us, (ps.drop n).zip ws⟩ = pure (ps.zip (us ++ ws))) ∧ ∃ oc od osl, g.K.lookup a = some ⟨oc, od, .func fd, osl⟩
  ref : RefOk g c.rfn
  bad : PySem.BadX.BadTxt g.P g.K g.mg g.C g.fI
structure Good (g : Pg) (c : Ck) (L : Nat) (sc : Scope) (kd : Option String) (fr : Bool) (E : XK) (X : Cx) : Prop where
  P : X.prog = g.P
  w : X.w = g.w
  K : X.K = g.K
  mg : X.mg = g.mg
  base : X.base = g.base
  N : X.N = c.N
  nd : X.N.Nodup
  sc : X.env.scope = sc
  calm : X.calm = true
  room : Room (if kd.isSome then L + 3 else L) X.A
  tk : Takes X (fun cls d _ H => E cls d H)
  fn : fr = true → ∀ x, X.fn x = true
  code : ∀ s, kd = some s → ∃ cc P, X.env.code = .ref cc ∧ LamX.TabB X.base X.mg cc P ∧ (P, X.env.qual ++ Str.ofString s) ∈ g.T ∧ ∀ p ∈ g.T, p.1 = P → p.2 = X.env.qual ++ Str.ofString s
theorem PE.imp {X : Cx} {e : Expr} {t t' : TE} (h : PE X e t) (i : ∀ σ H Q, t' σ H Q → t σ H Q) : PE X e t' := ⟨fun pins s σ H Q I q => h.run pins s σ H Q I (i σ H Q q)⟩
theorem PT.imp {X : Cx} {e : Expr} {t t' : TT} (h : PT X e t) (i : ∀ σ H Q, t' σ H Q → t σ H Q) : PT X e t' := ⟨fun pins s σ H Q I q => h.run pins s σ H Q I (i σ H Q q)⟩
section
variable {g : Pg} {c : Ck} {L : Nat} {F : FnSem} {sc : Scope} {kd : Option String} {fr : Bool} {E : XK} {X : Cx}
theorem Good.units (G : Good g c L sc kd fr E X) : X.A.units + 65 < cLine := by
  have := G.room.un
  omega
theorem Good.roomL (G : Good g c L sc kd fr E X) : Room L X.A := by
  have := G.room
  split at this
  · exact this.mono (by omega)
  · exact this
theorem Good.gl (G : Good g c L sc kd fr E X) {x : Str} (h : glB sc x = true) : Gl X x := by
  show X.env.scope.names.lookup x = _
  rw [G.sc]
  exact eq_of_beq h
theorem Good.vis (G : Good g c L sc kd fr E X) {i : Nat} {x : Str} (h : nm c sc i x = true) : X.N[i]? = some x ∧ Vis X.env.scope x ∧ (x == ("__debug__" : Str)) = false ∧ (x == ("__classdict__" : Str)) = false := by
  unfold nm visB at h
  simp only [Bool.and_eq_true, Bool.or_eq_true, Bool.not_eq_true'] at h
  obtain ⟨⟨⟨h1, h2⟩, h3⟩, h4⟩ := h
  refine ⟨by rw [G.N]; exact eq_of_beq h1, ?_, h3, h4⟩
  rw [G.sc]
  rcases h2 with (h2 | h2) | h2
  · exact .inl (eq_of_beq h2)
  · exact .inr (.inl (eq_of_beq h2))
  · exact .inr (.inr (eq_of_beq h2))
theorem Good.pv (G : Good g c L sc kd fr E X) {i : Nat} {x : Str} {pos : Pos} (h : nm c sc i x = true) : PE X (.Name x pos) (tVar i) := by
  obtain ⟨h1, h2, h3, h4⟩ := G.vis h
  exact pe_var h1 h2 h3 h4
/-- reading a slot -/
theorem ev_var {i : Nat} : ∀ σ H Q, tEv g F E (.var i) σ H Q → tVar i σ H Q := by
  intro σ H Q ⟨H0, Lb, Bb, Fb, ρ, En, h⟩
  unfold ev at h
  split at h
  · rename_i d e
    obtain ⟨v, e1, e2⟩ := En.slot i _ d e
    exact ⟨v, e1, h v H (PostE.pure En (.old e2))⟩
  · rename_i d e
    obtain ⟨v, e1, a, o, rfl, e3, e4⟩ := En.slot i _ d e
    refine ⟨_, e1, h _ H ?_⟩
    have own : Own ρ σ i a := ⟨⟨_, _, e, .inl rfl⟩, e1⟩
    have hi : i < ρ.length := by
      rw [List.getElem?_eq_some_iff] at e
      exact e.1
    have at_ : ∀ j : Nat, j ≠ i → (ρ.set i (Slot.s .fz d))[j]? = ρ[j]? := fun j hj => List.getElem?_set_ne (Ne.symm hj)
    have atI : (ρ.set i (Slot.s .fz d))[i]? = some (Slot.s .fz d) := List.getElem?_set_self hi
    have sub : ∀ j b, Own (ρ.set i (Slot.s .fz d)) σ j b → Own ρ σ j b ∧ j ≠ i := fun j b ⟨⟨m, d', q, hm⟩, hs⟩ => by
      by_cases z : j = i
      · subst z
        rw [atI] at q
        cases q
        rcases hm with z | z <;> cases z
      · rw [at_ j z] at q
        exact ⟨⟨⟨m, d', q, hm⟩, hs⟩, z⟩
    have nO : ¬ Ot Fb (ρ.set i (Slot.s .fz d)) σ a := fun z => by
      rcases z with z | ⟨j, z⟩
      · exact En.nfb i a own z
      · exact (sub j a z).2 (En.dis j i a (sub j a z).1 own)
    have subO : ∀ b, Ot Fb (ρ.set i (Slot.s .fz d)) σ b → Ot Fb ρ σ b ∨ H b = none := fun b z => .inl (z.imp id fun ⟨j, z⟩ => ⟨j, (sub j b z).1⟩)
    have val : Rp g.K H (Ot Fb (ρ.set i (Slot.s .fz d)) σ) (.ref a) d := (e4.mono Ext.refl subO).rp e3 nO
    refine ⟨En.less (fun _ z => z) En.bfb (by rw [List.length_set]; exact En.len) (fun j m d' q => ?_), Ext.refl, fun j b z => (sub j b z).1, fun _ z => z, val, fun z => by cases z⟩
    by_cases z : j = i
    · subst z
      rw [atI] at q
      cases q
      exact .inr ⟨rfl, _, e1, val⟩
    · rw [at_ j z] at q
      exact .inl ⟨q, rfl, trivial⟩
  · exact h.elim
end
/-- what the items of a list of operands stand for -/
def ItI (K : PySem.W.Frag) (H : Hp) (O : Addr → Prop) (a : Ex) (v : V) (d : D) : Prop := match argK a with
  | .val => Rp K H O v d
  | _ => RpTop K H O v d
inductive ItR (K : PySem.W.Frag) (H : Hp) (O : Addr → Prop) : Ex → List V → List D → Prop
  | nil : ItR K H O .nil [] []
  | cons {a as : Ex} {v : V} {d : D} {vs : List V} {ds : List D} : ItI K H O a v d → ItR K H O as vs ds → ItR K H O (.cons a as) (v :: vs) (d :: ds)
structure PostL (g : Fr) (Fb : Addr → Prop) (lo : Bool) (ρ : Rho) (σ : L2.St) (H : Hp) (as : Ex) (ds : List D) (ρ' : Rho) (vs : List V) (H' : Hp) : Prop where
  env : EnvR g Fb ρ' σ H'
  ext : Ext (fun a => lo = true ∧ Om ρ σ a) H H'
  own : ∀ i a, Own ρ' σ i a → Own ρ σ i a
  dom : ∀ a, H' a = none → H a = none
  items : ItR g.K H' (Ot Fb ρ' σ) as vs ds
def lRes (g : Pg) (G : Fr) (Fb : Addr → Prop) (lo : Bool) (ρ : Rho) (σ : L2.St) (H : Hp) (E : XK) (as : Ex) (r : Res) (Q : List V → Hp → Prop) : Prop := match r with
  | .ok _ (.list ds) ρ' => ∀ vs H', PostL G Fb lo ρ σ H as ds ρ' vs H' → Q vs H'
  | .exc (.bad z) => ∀ dd H', PostX G lo ρ σ H H' → H' dd = some (.xd [(("name" : Str), V.str z)]) → E (.ref g.C) (some dd) H'
  | _ => False
def exLen : Ex → Nat
  | .cons _ as => exLen as + 1
  | _ => 0
def isLs : Ex → Bool
  | .nil => true
  | .cons _ as => isLs as
  | _ => false
section
variable {g : Pg} {c : Ck} {L : Nat} {F : FnSem} {sc : Scope} {kd : Option String} {fr : Bool} {E : XK} {X : Cx}
theorem itI_top {K : PySem.W.Frag} {H : Hp} {O : Addr → Prop} {a : Ex} {v : V} {d : D} (h : ItI K H O a v d) : RpTop K H O v d := by
  unfold ItI at h
  cases hk : argK a <;> rw [hk] at h
  · exact h
  · exact h
  · exact h
  · exact Rp.top h
theorem itR_top {K : PySem.W.Frag} {H : Hp} {O : Addr → Prop} {as : Ex} {vs : List V} {ds : List D} (h : ItR K H O as vs ds) : RpTL K H O vs ds := by
  induction h with
  | nil => exact .nil
  | cons h _ ih => exact .cons (itI_top h) ih
theorem itR_len {K : PySem.W.Frag} {H : Hp} {O : Addr → Prop} {as : Ex} {vs : List V} {ds : List D} (h : ItR K H O as vs ds) : vs.length = exLen as := by
  induction h with
  | nil => rfl
  | cons _ _ ih => exact congrArg Nat.succ ih
theorem itR_val {K : PySem.W.Frag} {H : Hp} {O : Addr → Prop} {as : Ex} {vs : List V} {ds : List D} (h : ItR K H O as vs ds) : allVal as = true → RpL K H O vs ds := by
  induction h with
  | nil => exact fun _ => .nil
  | @cons a as v d vs ds h _ ih =>
    intro c
    have c : (isVal a && allVal as) = true := c
    rw [Bool.and_eq_true] at c
    refine .cons ?_ (ih c.2)
    have c1 := c.1
    unfold isVal at c1
    unfold ItI at h
    cases hk : argK a <;> rw [hk] at h c1
    · cases c1
    · cases c1
    · cases c1
    · exact h
theorem seq_ev {H0 : Hp} {Lb Bb : Nat → Addr → Prop} {Fb : Addr → Prop} : ∀ (as : Ex), isLs as = true → ∀ (σ : L2.St) (H : Hp) (Q : List V → Hp → Prop) (ρ : Rho), EnvR (g.fr H0 Lb Bb) Fb ρ σ H → lRes g (g.fr H0 Lb Bb) Fb (lends as) ρ σ H E as (ev F as ρ) Q → tSeq g F E as σ H Q := by
  intro as
  induction as with
  | nil =>
    intro _ σ H Q ρ En h
    unfold ev at h
    exact h [] H ⟨En, Ext.refl, fun _ _ z => z, fun _ z => z, .nil⟩
  | cons a as iha ih =>
    intro ia σ H Q ρ En h
    unfold ev at h
    show tOpd g F E a σ H _
    unfold tOpd
    cases hk : argK a with
    | bor i =>
      rw [hk] at h
      simp only at h ⊢
      cases hr : ρ[i]? with
      | none => rw [hr] at h; exact h.elim
      | some s =>
        cases s with
        | no => rw [hr] at h; exact h.elim
        | s m d0 =>
          rw [hr] at h
          simp only at h
          obtain ⟨v, e1, _⟩ := En.slot i m d0 hr
          refine ⟨v, e1, ih ia σ H _ ρ En ?_⟩
          cases he : ev F as ρ with
          | stuck => rw [he] at h; exact h.elim
          | exc x =>
            rw [he] at h
            cases x
            exact fun dd H' px hx => h dd H' (px.lo_mono fun z => by show (lends a || lends as) = true; rw [z, Bool.or_true]) hx
          | ok f2 d ρ' =>
            rw [he] at h
            cases d <;> try exact h.elim
            rename_i ds
            simp only at h
            intro vs H' po
            cases hr' : ρ'[i]? with
            | none => rw [hr'] at h; exact h.elim
            | some s' =>
              cases s' with
              | no => rw [hr'] at h; exact h.elim
              | s m' d' =>
                rw [hr'] at h
                simp only at h
                refine h (v :: vs) H' ⟨po.env, po.ext.mono fun x ⟨z1, z2⟩ => ⟨by show (lends a || lends as) = true; rw [z1, Bool.or_true], z2⟩, po.own, po.dom, .cons ?_ po.items⟩
                unfold ItI
                rw [hk]
                obtain ⟨v', e2, e3⟩ := po.env.slot i m' d' hr'
                rw [e1] at e2
                cases e2
                exact e3.top
    | len i => rw [hk] at h; exact h.elim
    | frs => rw [hk] at h; exact h.elim
    | val =>
      rw [hk] at h
      simp only at h ⊢
      refine ⟨H0, Lb, Bb, Fb, ρ, En, ?_⟩
      cases he : ev F a ρ with
      | stuck => rw [he] at h; exact h.elim
      | exc x =>
        rw [he] at h
        cases x
        exact fun dd H' px hx => h dd H' (px.lo_mono fun z => by show (lends a || lends as) = true; rw [z]; rfl) hx
      | ok f1 d ρ1 =>
        rw [he] at h
        simp only at h
        intro v H1 po
        refine ih ia σ H1 _ ρ1 po.env ?_
        cases he2 : ev F as ρ1 with
        | stuck => rw [he2] at h; exact h.elim
        | exc x =>
          rw [he2] at h
          cases x
          exact fun dd H' px hx => h dd H' (PostX.after po.ext po.own po.dom px) hx
        | ok f2 d2 ρ2 =>
          rw [he2] at h
          cases d2 <;> try exact h.elim
          rename_i ds
          simp only at h
          intro vs H2 pl
          refine h (v :: vs) H2 ⟨pl.env, ext_two po.ext po.own pl.ext, fun i x z => po.own i x (pl.own i x z), fun x z => po.dom x (pl.dom x z), .cons ?_ pl.items⟩
          unfold ItI
          rw [hk]
          exact rp_keep po.val pl.own pl.ext
  | _ => intro ia; cases ia
/-- an operator's value -/
theorem op_ev {o : Op} {as : Ex} (ha : isLs as = true) (σ : L2.St) (H : Hp) (Q : VK) (R : List V → Hp → Prop) (hR : ∀ vs H', vs.length = exLen as → OpRd g.K o vs H' Q → R vs H') (h : tEv g F E (.op o as) σ H Q) : tSeq g F E as σ H R := by
  obtain ⟨H0, Lb, Bb, Fb, ρ, En, h⟩ := h
  refine seq_ev as ha σ H _ ρ En ?_
  unfold ev at h
  cases he : ev F as ρ with
  | stuck => rw [he] at h; exact h.elim
  | exc x => rw [he] at h; cases x; exact h
  | ok f1 d ρ1 =>
    rw [he] at h
    cases d <;> try exact h.elim
    rename_i ds
    simp only at h
    intro vs H1 pl
    cases ho : opD o ds with
    | none => rw [ho] at h; exact h.elim
    | some q =>
      obtain ⟨f, d⟩ := q
      rw [ho] at h
      refine hR _ _ (itR_len pl.items) ⟨_, ds, f, d, itR_top pl.items, ho, fun v H2 pv => h v H2 ?_⟩
      have z := PostE.pure (lo := false) pl.env pv
      exact ⟨z.env, (ext_two (lo2 := false) pl.ext pl.own z.ext).mono fun x ⟨y1, y2⟩ => ⟨by rw [Bool.or_false] at y1; exact y1, y2⟩, fun i x y => pl.own i x (z.own i x y), fun x y => pl.dom x (z.dom x y), z.val, fun y => ⟨(z.fresh y).1, fun p e => pl.dom p ((z.fresh y).2 p e)⟩⟩
end
end Mx
end

section
set_option Elab.async false
set_option linter.all false
set_option maxRecDepth 100000
set_option maxHeartbeats 2000000
namespace Mx
open PySem PySem.Spec PyProof.Rows L2
section
variable {g : Pg} {c : Ck} {L : Nat} {F : FnSem} {sc : Scope} {kd : Option String} {fr : Bool} {E : XK} {X : Cx}
variable (g F E X) in
inductive PEs : List Expr → Ex → Prop
  | nil : PEs [] .nil
  | cons {e : Expr} {es : List Expr} {a as : Ex} : notStar e = true → PE X e (tOpd g F E a) → PEs es as → PEs (e :: es) (.cons a as)
theorem star_cons {e : Expr} {es : List Expr} {env : Env} (h : notStar e = true) : starEach (e :: es) env = (false, eval e env) :: starEach es env := by
  cases e <;> first | rfl | (cases h)
theorem star_fst {env : Env} {pos : Pos} {es : List Expr} : (es.all notStar) = true → (backTo pos (starEach es env)).any (·.1) = false := by
  induction es with
  | nil => exact fun _ => rfl
  | cons e es ih =>
    intro h
    rw [List.all_cons, Bool.and_eq_true] at h
    rw [star_cons h.1]
    show (false || (backTo pos (starEach es env)).any (·.1)) = false
    rw [ih h.2]
    rfl
theorem PEs.stars {es : List Expr} {as : Ex} (h : PEs g F E X es as) : es.all notStar = true := by
  induction h with
  | nil => rfl
  | cons h1 _ _ ih =>
    rw [List.all_cons, Bool.and_eq_true]
    exact ⟨h1, ih⟩
theorem PEs.ls {es : List Expr} {as : Ex} (h : PEs g F E X es as) : isLs as = true := by
  induction h with
  | nil => rfl
  | cons _ _ _ ih => exact ih
theorem PEs.pa {es : List Expr} {as : Ex} (h : PEs g F E X es as) : PA X es (tSeq g F E as) := by
  induction h with
  | nil => exact pa_nil
  | cons h1 h2 _ ih => exact pa_cons h2 ih (star_cons h1)
theorem PEs.two {a b : Expr} {as : Ex} (h : PEs g F E X [a, b] as) : ∃ a' b', as = .cons a' (.cons b' .nil) ∧ PE X a (tOpd g F E a') ∧ PE X b (tOpd g F E b') ∧ notStar a = true ∧ notStar b = true := by
  cases h with
  | cons h1 h2 h =>
    cases h with
    | cons h3 h4 h =>
      cases h with
      | nil => exact ⟨_, _, rfl, h2, h4, h1, h3⟩
theorem PEs.one {a : Expr} {as : Ex} (h : PEs g F E X [a] as) : ∃ a', as = .cons a' .nil ∧ PE X a (tOpd g F E a') ∧ notStar a = true := by
  cases h with
  | cons h1 h2 h =>
    cases h with
    | nil => exact ⟨_, rfl, h2, h1⟩
theorem PEs.three {a b d : Expr} {as : Ex} (h : PEs g F E X [a, b, d] as) : ∃ a' b' d', as = .cons a' (.cons b' (.cons d' .nil)) ∧ PE X a (tOpd g F E a') ∧ PE X b (tOpd g F E b') ∧ PE X d (tOpd g F E d') := by
  cases h with
  | cons h1 h2 h =>
    obtain ⟨b', d', rfl, h3, h4, _⟩ := h.two
    exact ⟨_, b', d', rfl, h2, h3, h4⟩
variable (g F E X) in
/-- both readings of a text -/
def Bth (e : Expr) (x : Ex) : Prop := PE X e (tEv g F E x) ∧ PT X e (tB (tEv g F E x))
theorem bin_ev {o : Op} {a b : Ex} {K : PySem.W.Frag} (hK : K = g.K) (σ : L2.St) (H : Hp) (Q : VK) (h : tEv g F E (.op o (.cons a (.cons b .nil))) σ H Q) : tOp (fun x y H Q => OpRd K o [x, y] H Q) (tOpd g F E a) (tOpd g F E b) σ H Q := by
  subst hK
  exact op_ev (as := .cons a (.cons b .nil)) rfl σ H Q (fun vs H' => OpRd g.K o vs H' Q) (fun _ _ _ z => z) h
theorem sn_bin {o : Op} {op : Operator} {a b : Expr} {pos : Pos} {as : Ex} (G : Good g c L sc kd fr E X) (r : OpR X (binaryOp op) (fun x y H Q => OpRd X.K o [x, y] H Q)) (h : PEs g F E X [a, b] as) : Bth g F E X (.BinOp a op b pos) (.op o as) := by
  obtain ⟨a', b', rfl, ha, hb, _⟩ := h.two
  have p : PE X (.BinOp a op b pos) (tEv g F E (.op o (.cons a' (.cons b' .nil)))) := PE.imp (pe_op r ha hb) fun σ H Q q => bin_ev G.K σ H Q q
  exact ⟨p, pt_val p⟩
theorem sn_cmp {o : Op} {op : CmpOp} {a b : Expr} {pos : Pos} {as : Ex} (G : Good g c L sc kd fr E X) (r : OpR X (compareOp op) (fun x y H Q => OpRd X.K o [x, y] H Q)) (hm : behindInMarks op b = false) (h : PEs g F E X [a, b] as) : Bth g F E X (.Compare a [op] [b] pos) (.op o as) := by
  obtain ⟨a', b', rfl, ha, hb, _⟩ := h.two
  exact ⟨PE.imp (pe_cmpR r ha hb hm) fun σ H Q q => bin_ev G.K σ H Q q, PT.imp (pt_cmpR r ha hb hm) fun σ H Q q => bin_ev G.K σ H _ q⟩
/-- a call of a builtin with one value -/
theorem Good.mgB (G : Good g c L sc kd fr E X) (Fa : Facts g c L F) {s : String} (h : s ∈ blts) : X.mg (Str.ofString s) = none := by
  rw [G.mg]
  exact Fa.blt s h
/-- a builtin of some values -/
theorem PEs.len {es : List Expr} {as : Ex} (h : PEs g F E X es as) : exLen as = es.length := by
  induction h with
  | nil => rfl
  | cons _ _ _ ih => exact congrArg Nat.succ ih
theorem call_ev {o : Op} {es : List Expr} {as : Ex} {r : List V → Hp → VK → Prop} (h : PEs g F E X es as) (hr : ∀ vs H Q, vs.length = es.length → OpRd g.K o vs H Q → r vs H Q) (σ : L2.St) (H : Hp) (Q : VK) (q : tEv g F E (.op o as) σ H Q) : tCB r (tSeq g F E as) σ H Q :=
  op_ev h.ls σ H Q (fun vs H1 => r vs H1 Q) (fun vs H1 hl => hr vs H1 Q (by rw [hl, h.len])) q
theorem sn_callB {o : Op} {s : String} {id : String} {es : List Expr} {as : Ex} {p pos : Pos} {r : List V → Hp → VK → Prop} (hes : es ≠ []) (G : Good g c L sc kd fr E X) (Fa : Facts g c L F) (hs : s ∈ blts) (hg : glB sc (Str.ofString s) = true) (hv : bootBuiltins (Str.ofString s) = some (.builtin id))
    (hn : Str.ofString s ≠ ("__name__" : Str)) (hd : (Str.ofString s == ("__debug__" : Str)) = false) (hc : CallR X (.builtin id) r) (h : PEs g F E X es as) (hr : ∀ vs H Q, vs.length = es.length → OpRd g.K o vs H Q → r vs H Q) :
    Bth g F E X (.Call (.Name (Str.ofString s) p) es [] pos) (.op o as) := by
  cases es with
  | nil => exact absurd rfl hes
  | cons e es =>
    have st := h.stars
    rw [List.all_cons, Bool.and_eq_true] at st
    have pe : PE X (.Call (.Name (Str.ofString s) p) (e :: es) [] pos) (tEv g F E (.op o as)) := PE.imp (pe_callB hc (G.gl hg) (G.mgB Fa hs) hv h.pa hn hd (star_cons st.1) (star_fst st.2)) (call_ev h hr)
    exact ⟨pe, pt_val pe⟩
theorem sn_callT {o : Op} {s : String} {id : String} {es : List Expr} {as : Ex} {p pos : Pos} {r : List V → Hp → VK → Prop} (hes : es ≠ []) (G : Good g c L sc kd fr E X) (Fa : Facts g c L F) (hs : s ∈ blts) (hg : glB sc (Str.ofString s) = true) (hv : bootBuiltins (Str.ofString s) = some (.type id))
    (hn : Str.ofString s ≠ ("__name__" : Str)) (hd : (Str.ofString s == ("__debug__" : Str)) = false) (hc : CallR X (.type id) r) (h : PEs g F E X es as) (hr : ∀ vs H Q, vs.length = es.length → OpRd g.K o vs H Q → r vs H Q) :
    Bth g F E X (.Call (.Name (Str.ofString s) p) es [] pos) (.op o as) := by
  cases es with
  | nil => exact absurd rfl hes
  | cons e es =>
    have st := h.stars
    rw [List.all_cons, Bool.and_eq_true] at st
    have pe : PE X (.Call (.Name (Str.ofString s) p) (e :: es) [] pos) (tEv g F E (.op o as)) := PE.imp (pe_callTy hc (G.gl hg) (G.mgB Fa hs) hv h.pa hn hd (star_cons st.1) (star_fst st.2)) (call_ev h hr)
    exact ⟨pe, pt_val pe⟩
theorem ex1 {es : List Expr} {o : Op} {K : PySem.W.Frag} (hK : K = g.K) (h1 : es.length = 1) : ∀ vs H Q, vs.length = es.length → OpRd g.K o vs H Q → ∃ x, vs = [x] ∧ OpRd K o [x] H Q := by
  intro vs H Q hl q
  subst hK
  rw [h1] at hl
  obtain ⟨x, rfl⟩ := List.length_eq_one_iff.mp hl
  exact ⟨x, rfl, q⟩
theorem ex2 {es : List Expr} {o : Op} {K : PySem.W.Frag} (hK : K = g.K) (h1 : es.length = 2) : ∀ vs H Q, vs.length = es.length → OpRd g.K o vs H Q → ∃ x y, vs = [x, y] ∧ OpRd K o [x, y] H Q := by
  intro vs H Q hl q
  subst hK
  rw [h1] at hl
  match vs, hl with
  | [x, y], _ => exact ⟨x, y, rfl, q⟩
theorem ne_nil1 {es : List Expr} {n : Nat} (h : es.length = n + 1) : es ≠ [] := fun z => by rw [z] at h; cases h
theorem isn_ev {o : Op} {b : V → Bool} (hb : ∀ K H Q x, OpRd K o [x] H Q → Q (.bl (b x)) H) {a : Ex} (σ : L2.St) (H : Hp) (Q : VK) (h : tEv g F E (.op o (.cons a .nil)) σ H Q) : tOpd g F E a σ H fun x H1 => Q (.bl (b x)) H1 :=
  op_ev (as := .cons a .nil) rfl σ H Q (fun vs H' => ∀ x, vs = [x] → Q (.bl (b x)) H') (fun vs H' hl z x e => by subst e; exact hb _ _ _ _ z) h |> fun z => by
    have z : tOpd g F E a σ H (fun x H1 => ∀ y, [x] = [y] → Q (.bl (b y)) H1) := z
    have e : (fun x H1 => ∀ y, [x] = [y] → Q (.bl (b y)) H1) = (fun x H1 => Q (.bl (b x)) H1 : VK) := by
      funext x H1
      exact propext ⟨fun h => h x rfl, fun h y e => by cases e; exact h⟩
    rw [e] at z
    exact z
theorem isN_rd {K : PySem.W.Frag} {H : Hp} {Q : VK} {x : V} (h : OpRd K .isN [x] H Q) : Q (.bl (decide (x = .non))) H := by
  obtain ⟨O, a, fr, d, ha, e, q⟩ := h.one
  have e : old (.bool (isNoD a)) = some (fr, d) := e
  obtain ⟨rfl, rfl⟩ := Prod.mk.inj (Option.some.inj e)
  have z := q _ _ pv_bl
  cases a with
  | none => rw [top_none ha]; exact z
  | bool b => rw [top_bool ha]; exact z
  | int b => rw [top_int ha]; exact z
  | str b => rw [top_str ha]; exact z
  | list b => obtain ⟨p, vs, rfl, _⟩ := ha; exact z
  | tuple b => obtain ⟨p, vs, rfl, _⟩ := ha; exact z
  | dict b => obtain ⟨p, vs, rfl, _⟩ := ha; exact z
theorem notN_rd {K : PySem.W.Frag} {H : Hp} {Q : VK} {x : V} (h : OpRd K .notN [x] H Q) : Q (.bl (!decide (x = .non))) H := by
  obtain ⟨O, a, fr, d, ha, e, q⟩ := h.one
  have e : old (.bool (!isNoD a)) = some (fr, d) := e
  obtain ⟨rfl, rfl⟩ := Prod.mk.inj (Option.some.inj e)
  have z := q _ _ pv_bl
  cases a with
  | none => rw [top_none ha]; exact z
  | bool b => rw [top_bool ha]; exact z
  | int b => rw [top_int ha]; exact z
  | str b => rw [top_str ha]; exact z
  | list b => obtain ⟨p, vs, rfl, _⟩ := ha; exact z
  | tuple b => obtain ⟨p, vs, rfl, _⟩ := ha; exact z
  | dict b => obtain ⟨p, vs, rfl, _⟩ := ha; exact z
theorem sn_sl2 {o : Op} {e j ex : Expr} {as : Ex} {lo hi : Int → Option Int} {A B : Int → List D → Nat} {ps : Expr}
    (h1 : ∀ i ds, HT.sIx ds.length 0 (lo i) = A i ds) (h2 : ∀ i ds, HT.sIx ds.length ds.length (hi i) = B i ds) (G : Good g c L sc kd fr E X)
    (ho : ∀ a b, opD o [a, b] = match a, b with
      | .list xs, .int i => new (.list (cutD xs (A i xs) (B i xs)))
      | .tuple xs, .int i => old (.tuple (cutD xs (A i xs) (B i xs)))
      | _, _ => none)
    (h : PEs g F E X [e, j] as)
    (hp : ∀ {te tj : TE}, PE X e te → PE X j tj → ∀ {r : V → Option Int → Option Int → Hp → VK → Prop}, SlR X r → PE X ex (fun σ H Q => te σ H fun x H1 => tj σ H1 fun y H2 => ∃ i, y = .int i ∧ r x (lo i) (hi i) H2 Q)) : PE X ex (tEv g F E (.op o as)) := by
  obtain ⟨a', b', rfl, ha, hb, _⟩ := h.two
  have sl : SlR X (fun x l u H Q => ∃ i, l = lo i ∧ u = hi i ∧ OpRd g.K o [x, .int i] H Q) := by
    intro pins s σ H x v vl vu l u sl Q I rx hsl p1 p2 ⟨i, e1, e2, q⟩
    refine opr_sl (X := X) (h1 i) (h2 i) pins s σ H x v vl vu l u sl Q I rx hsl p1 p2 ⟨e1, e2, ?_⟩
    obtain ⟨O, a, b, f, d, ha, hb, e, q⟩ := q.two
    rw [G.K]
    rw [ho] at e
    split at e
    · have z := top_int hb
      cases z
      obtain ⟨rfl, rfl⟩ := Prod.mk.inj (Option.some.inj e)
      exact ⟨O, _, ha, .inl ⟨_, rfl, q⟩⟩
    · have z := top_int hb
      cases z
      obtain ⟨rfl, rfl⟩ := Prod.mk.inj (Option.some.inj e)
      exact ⟨O, _, ha, .inr ⟨_, rfl, q⟩⟩
    · cases e
  refine PE.imp (hp ha hb sl) fun σ H Q q => ?_
  have z := op_ev (as := .cons a' (.cons b' .nil)) rfl σ H Q (fun vs H' => ∀ x y, vs = [x, y] → ∃ i, y = .int i ∧ ∃ i', lo i = lo i' ∧ hi i = hi i' ∧ OpRd g.K o [x, .int i'] H' Q) (fun vs H' hl z x y e => by
    subst e
    obtain ⟨O, a, b, f, d, ha, hb, e, q⟩ := z.two
    have ez := e
    rw [ho] at e
    split at e
    · obtain rfl := top_int hb
      exact ⟨_, rfl, _, rfl, rfl, O, _, f, d, .cons ha (.cons hb .nil), ez, q⟩
    · obtain rfl := top_int hb
      exact ⟨_, rfl, _, rfl, rfl, O, _, f, d, .cons ha (.cons hb .nil), ez, q⟩
    · cases e) q
  have z : tOpd g F E a' σ H (fun x H1 => tOpd g F E b' σ H1 fun y H2 => ∀ x' y', [x, y] = [x', y'] → ∃ i, y' = .int i ∧ ∃ i', lo i = lo i' ∧ hi i = hi i' ∧ OpRd g.K o [x', .int i'] H2 Q) := z
  have e : (fun x H1 => tOpd g F E b' σ H1 fun y H2 => ∀ x' y', [x, y] = [x', y'] → ∃ i, y' = .int i ∧ ∃ i', lo i = lo i' ∧ hi i = hi i' ∧ OpRd g.K o [x', .int i'] H2 Q) = (fun x H1 => tOpd g F E b' σ H1 fun y H2 => ∃ i, y = .int i ∧ ∃ i', lo i = lo i' ∧ hi i = hi i' ∧ OpRd g.K o [x, .int i'] H2 Q) := by
    funext x H1
    congr 1
    funext y H2
    exact propext ⟨fun h => h x y rfl, fun h x' y' e => by cases e; exact h⟩
  rw [e] at z
  exact z
theorem un_opd {o : Op} {a : Ex} {K : PySem.W.Frag} (hK : K = g.K) (σ : L2.St) (H : Hp) (Q : VK) (h : tEv g F E (.op o (.cons a .nil)) σ H Q) : tUn (fun x H Q => OpRd K o [x] H Q) (tOpd g F E a) σ H Q := by
  subst hK
  exact op_ev (as := .cons a .nil) rfl σ H Q (fun vs H' => OpRd g.K o vs H' Q) (fun _ _ _ z => z) h
theorem b_boot {s : String} {v : Value} (h : (bootBuiltins (Str.ofString s) == some v) = true) : True := trivial
theorem lrng_ev {K : PySem.W.Frag} (hK : K = g.K) {a : Ex} (σ : L2.St) (H : Hp) (Q : VK) (h : tEv g F E (.op .lrng (.cons a .nil)) σ H Q) : tLstRg (tRg1 (tOpd g F E a)) σ H Q := by
  have z := op_ev (as := .cons a .nil) rfl σ H Q (fun vs H' => ∀ x, vs = [x] → ∃ n, x = .int n ∧ RgOk 0 n ∧ ∀ q, H' q = none → Q (.ref q) (upd H' q (.lst (rgV 0 n)))) (fun vs H' hl z x e => by
    subst e
    obtain ⟨O, a, f, d, ha, e, q⟩ := z.one
    cases a <;> simp only [opD] at e <;> try (cases e; done)
    rename_i n
    by_cases hn : 0 ≤ n ∧ n ≤ line
    · rw [if_pos hn] at e
      obtain ⟨rfl, rfl⟩ := Prod.mk.inj (Option.some.inj e)
      obtain rfl := top_int ha
      have hln : n ≤ 16777216 := by
        have : (line : Int) = 16777216 := by show ((sizeLine : Nat) : Int) = _; rw [sizeLine_eq]; rfl
        omega
      refine ⟨n, rfl, RgOk.of_le (by omega) hln (by omega) hn.1, fun p hp => q _ _ (.lst hp ?_)⟩
      have e1 : rgV 0 n = ((List.range n.toNat).map fun k : Nat => (k : Int)).map V.int := by
        unfold rgV
        rw [List.map_map, Int.sub_zero]
        exact List.map_congr_left fun i _ => by simp
      have e2 : ((List.range n.toNat).map fun k : Nat => PyData.int (k : Int)) = ((List.range n.toNat).map fun k : Nat => (k : Int)).map PyData.int := by rw [List.map_map]; rfl
      rw [e1, e2]
      exact RpL.ints
    · rw [if_neg hn] at e; cases e) h
  have z : tOpd g F E a σ H (fun x H1 => ∀ y, [x] = [y] → ∃ n, y = .int n ∧ RgOk 0 n ∧ ∀ q, H1 q = none → Q (.ref q) (upd H1 q (.lst (rgV 0 n)))) := z
  have e : (fun x H1 => ∀ y, [x] = [y] → ∃ n, y = .int n ∧ RgOk 0 n ∧ ∀ q, H1 q = none → Q (.ref q) (upd H1 q (.lst (rgV 0 n)))) = (fun x H1 => ∃ n, x = .int n ∧ RgOk 0 n ∧ ∀ q, H1 q = none → Q (.ref q) (upd H1 q (.lst (rgV 0 n))) : VK) := by
    funext x H1
    exact propext ⟨fun h => h x rfl, fun h y e => by cases e; exact h⟩
  rw [e] at z
  exact z
/-- all operators -/
theorem sn_op (G : Good g c L sc kd fr E X) (Fa : Facts g c L F) {o : Op} {e : Expr} {es : List Expr} {as : Ex} (hv : vw sc o e = some es) (h : PEs g F E X es as) : Bth g F E X e (.op o as) := by
  have hu : X.A.units + 64 < cLine := by have := G.units; omega
  have hu0 : X.A.units < cLine := by omega
  cases o with
  | add => obtain ⟨a, b, pos, rfl, rfl⟩ := vBin_some hv; exact sn_bin G opr_add h
  | sub => obtain ⟨a, b, pos, rfl, rfl⟩ := vBin_some hv; exact sn_bin G opr_sub h
  | mul => obtain ⟨a, b, pos, rfl, rfl⟩ := vBin_some hv; exact sn_bin G opr_mul h
  | fdv => obtain ⟨a, b, pos, rfl, rfl⟩ := vBin_some hv; exact sn_bin G opr_fdv h
  | mod => obtain ⟨a, b, pos, rfl, rfl⟩ := vBin_some hv; exact sn_bin G opr_mod h
  | pow => obtain ⟨a, b, pos, rfl, rfl⟩ := vBin_some hv; exact sn_bin G opr_pow h
  | neg =>
    obtain ⟨a, pos, rfl, rfl⟩ := vNeg_some hv
    obtain ⟨a', rfl, ha, _⟩ := h.one
    have pe : PE X (.UnaryOp .USub a pos) (tEv g F E (.op .neg (.cons a' .nil))) := PE.imp (pe_un (opr_neg (pins := []) (s := X.s_0)) ha) (un_opd G.K)
    exact ⟨pe, pt_val pe⟩
  | eq => obtain ⟨a, b, pos, rfl, rfl, nb⟩ := vCmp_some hv; exact sn_cmp G (opr_eq hu) (by cases b <;> first | rfl | cases nb) h
  | ne => obtain ⟨a, b, pos, rfl, rfl, nb⟩ := vCmp_some hv; exact sn_cmp G (opr_ne hu) (by cases b <;> first | rfl | cases nb) h
  | lt => obtain ⟨a, b, pos, rfl, rfl, nb⟩ := vCmp_some hv; exact sn_cmp G (opr_lt hu0) (by cases b <;> first | rfl | cases nb) h
  | le => obtain ⟨a, b, pos, rfl, rfl, nb⟩ := vCmp_some hv; exact sn_cmp G opr_le (by cases b <;> first | rfl | cases nb) h
  | gt => obtain ⟨a, b, pos, rfl, rfl, nb⟩ := vCmp_some hv; exact sn_cmp G opr_gt (by cases b <;> first | rfl | cases nb) h
  | ge => obtain ⟨a, b, pos, rfl, rfl, nb⟩ := vCmp_some hv; exact sn_cmp G opr_ge (by cases b <;> first | rfl | cases nb) h
  | inn => obtain ⟨a, b, pos, rfl, rfl, nb⟩ := vCmp_some hv; exact sn_cmp G opr_in (by cases b <;> first | rfl | cases nb) h
  | nin => obtain ⟨a, b, pos, rfl, rfl, nb⟩ := vCmp_some hv; exact sn_cmp G opr_nin (by cases b <;> first | rfl | cases nb) h
  | isN =>
    obtain ⟨a, j, p, pos, rfl, rfl⟩ := vNon_some hv
    obtain ⟨a', rfl, ha, _⟩ := h.one
    exact ⟨PE.imp (pe_cmp (pc_isN ha)) (isn_ev (b := fun x => decide (x = .non)) fun K H Q x z => isN_rd z), PT.imp (pt_cmp (pc_isN ha)) fun σ H Q q => isn_ev (b := fun x => decide (x = .non)) (fun K H Q x z => isN_rd z) σ H _ q⟩
  | notN =>
    obtain ⟨a, j, p, pos, rfl, rfl⟩ := vNon_some hv
    obtain ⟨a', rfl, ha, _⟩ := h.one
    exact ⟨PE.imp (pe_cmp (pc_notN ha)) (isn_ev (b := fun x => !decide (x = .non)) fun K H Q x z => notN_rd z), PT.imp (pt_cmp (pc_notN ha)) fun σ H Q q => isn_ev (b := fun x => !decide (x = .non)) (fun K H Q x z => notN_rd z) σ H _ q⟩
  | idx =>
    obtain ⟨a, b, pos, rfl, rfl, nb⟩ := vIx_some hv
    obtain ⟨a', b', rfl, ha, hb, _⟩ := h.two
    have pe : PE X (.Subscript a b pos) (tEv g F E (.op .idx (.cons a' (.cons b' .nil)))) := PE.imp (pe_ix opr_idx ha hb (by cases b <;> first | exact fun _ _ => rfl | cases nb)) (bin_ev G.K)
    exact ⟨pe, pt_val pe⟩
  | slTo =>
    obtain ⟨a, j, p, pos, rfl, rfl⟩ := vSlTo_some hv
    have pe := sn_sl2 (o := .slTo) (ex := .Subscript a (.Slice none (some j) none p) pos) (lo := fun _ => none) (hi := fun i => some i) (A := fun _ _ => 0) (B := fun i ds => sIx ds.length i) (ps := a) (fun i ds => rfl) (fun i ds => sIx_eq _ _ _) G (fun a b => by cases a <;> cases b <;> rfl) h fun ha hb r sl => PE.imp (pe_slice sl ha po_none (po_some hb)) fun σ H Q q => q
    exact ⟨pe, pt_val pe⟩
  | slFrom =>
    obtain ⟨a, j, p, pos, rfl, rfl⟩ := vSlFrom_some hv
    have pe := sn_sl2 (o := .slFrom) (ex := .Subscript a (.Slice (some j) none none p) pos) (lo := fun i => some i) (hi := fun _ => none) (A := fun i ds => sIx ds.length i) (B := fun _ ds => ds.length) (ps := a) (fun i ds => sIx_eq _ _ _) (fun i ds => rfl) G (fun a b => by cases a <;> cases b <;> rfl) h fun ha hb r sl => PE.imp (pe_slice sl ha (po_some hb) po_none) fun σ H Q q => q
    exact ⟨pe, pt_val pe⟩
  | len => obtain ⟨p, pos, rfl, hl, hg⟩ := vCall_some hv; exact sn_callB (ne_nil1 hl) G Fa (by decide) hg PySem.boot_len (by decide) (by decide) opr_len h (fun vs H Q _ z => by rw [G.K]; exact z)
  | sum => obtain ⟨p, pos, rfl, hl, hg⟩ := vCall_some hv; exact sn_callB (ne_nil1 hl) G Fa (by decide) hg (id := "sum") (by decide +kernel) (by decide) (by decide) (opr_sum G.calm) h (ex1 G.K hl)
  | minL => obtain ⟨p, pos, rfl, hl, hg⟩ := vCall_some hv; exact sn_callB (ne_nil1 hl) G Fa (by decide) hg (id := "min") (by decide +kernel) (by decide) (by decide) (opr_minL G.calm) h (ex1 G.K hl)
  | maxL => obtain ⟨p, pos, rfl, hl, hg⟩ := vCall_some hv; exact sn_callB (ne_nil1 hl) G Fa (by decide) hg (id := "max") (by decide +kernel) (by decide) (by decide) (opr_maxL G.calm) h (ex1 G.K hl)
  | min2 => obtain ⟨p, pos, rfl, hl, hg⟩ := vCall_some hv; exact sn_callB (ne_nil1 hl) G Fa (by decide) hg (id := "min") (by decide +kernel) (by decide) (by decide) (opr_min2 G.calm) h (ex2 G.K hl)
  | max2 => obtain ⟨p, pos, rfl, hl, hg⟩ := vCall_some hv; exact sn_callB (ne_nil1 hl) G Fa (by decide) hg (id := "max") (by decide +kernel) (by decide) (by decide) (opr_max2 G.calm) h (ex2 G.K hl)
  | abs => obtain ⟨p, pos, rfl, hl, hg⟩ := vCall_some hv; exact sn_callB (ne_nil1 hl) G Fa (by decide) hg (id := "abs") (by decide +kernel) (by decide) (by decide) opr_abs h (ex1 G.K hl)
  | int => obtain ⟨p, pos, rfl, hl, hg⟩ := vCall_some hv; exact sn_callT (ne_nil1 hl) G Fa (by decide) hg (id := "int") (by decide +kernel) (by decide) (by decide) opr_int h (ex1 G.K hl)
  | tup => obtain ⟨p, pos, rfl, hl, hg⟩ := vCall_some hv; exact sn_callT (ne_nil1 hl) G Fa (by decide) hg (id := "tuple") (by decide +kernel) (by decide) (by decide) opr_tup h (ex1 G.K hl)
  | list => obtain ⟨p, pos, rfl, hl, hg⟩ := vCall_some hv; exact sn_callT (ne_nil1 hl) G Fa (by decide) hg (id := "list") (by decide +kernel) (by decide) (by decide) opr_list h (ex1 G.K hl)
  | allL => obtain ⟨p, pos, rfl, hl, hg⟩ := vCall_some hv; exact sn_callB (ne_nil1 hl) G Fa (by decide) hg (id := "all") (by decide +kernel) (by decide) (by decide) (opr_all G.calm) h (ex1 G.K hl)
  | anyL => obtain ⟨p, pos, rfl, hl, hg⟩ := vCall_some hv; exact sn_callB (ne_nil1 hl) G Fa (by decide) hg (id := "any") (by decide +kernel) (by decide) (by decide) (opr_any G.calm) h (ex1 G.K hl)
  | sorted =>
    obtain ⟨p, pos, rfl, hl, hg⟩ := vCall_some hv
    refine sn_callB (ne_nil1 hl) G Fa (by decide) hg (id := "sorted") (by decide +kernel) (by decide) (by decide) (opr_sorted hu) h fun vs H Q hl2 z => ?_
    obtain ⟨x, rfl, z⟩ := ex1 G.K hl vs H Q hl2 z
    obtain ⟨O, a, f, d, ha, e, q⟩ := z.one
    cases a <;> simp only [opD] at e <;> try (cases e; done)
    rename_i ds
    cases hs : sortD ds with
    | none => rw [hs] at e; cases e
    | some ys =>
      rw [hs] at e
      obtain ⟨rfl, rfl⟩ := Prod.mk.inj (Option.some.inj e)
      rw [G.K]
      exact ⟨x, O, ds, rfl, ha, ys, hs, q⟩
  | isi t =>
    obtain ⟨a, p, p2, pos, rfl, rfl, hg, hg2⟩ := vIsi_some hv
    obtain ⟨a', rfl, ha, na⟩ := h.one
    have hty : bootBuiltins (Str.ofString (tyStr t)) = some (.type (tyStr t)) := by cases t <;> decide +kernel
    have hty2 : g.mg (Str.ofString (tyStr t)) = none := Fa.blt _ (by cases t <;> decide)
    have pn : PE X (.Name (Str.ofString (tyStr t)) p2) (tC (.ty (tyStr t))) := pe_bltn (G.gl hg2) (by rw [G.mg]; exact hty2) hty rfl (by cases t <;> decide) (by cases t <;> decide)
    have hdd : (Str.ofString (tyStr t) == ("__debug__" : Str)) = false := by cases t <;> decide
    have pe : PE X (.Call (.Name "isinstance" p) [a, .Name (Str.ofString (tyStr t)) p2] [] pos) (tEv g F E (.op (.isi t) (.cons a' .nil))) := by
      refine PE.imp (pe_callB (opr_isi t) (G.gl hg) (G.mgB Fa (s := "isinstance") (by decide)) (id := "isinstance") (by decide +kernel) (pa_cons ha (pa_cons pn pa_nil rfl) (star_cons na)) (by decide) (by decide) (star_cons na) rfl) fun σ H Q q => ?_
      exact un_opd G.K σ H Q q |> fun z => by
        have z : tOpd g F E a' σ H (fun x H1 => OpRd X.K (.isi t) [x] H1 Q) := z
        show tOpd g F E a' σ H (fun x H1 => ∃ y, [x, .ty (tyStr t)] = [y, .ty (tyStr t)] ∧ OpRd X.K (.isi t) [y] H1 Q)
        have e : (fun x H1 => OpRd X.K (.isi t) [x] H1 Q) = (fun x H1 => ∃ y, [x, V.ty (tyStr t)] = [y, .ty (tyStr t)] ∧ OpRd X.K (.isi t) [y] H1 Q : VK) := by
          funext x H1
          exact propext ⟨fun h => ⟨x, rfl, h⟩, fun ⟨y, e, h⟩ => by cases e; exact h⟩
        rw [← e]
        exact z
    exact ⟨pe, pt_val pe⟩
  | slFT => cases hv
  | slRev => cases hv
  | lrng =>
    obtain ⟨a, p, p2, pos, pos2, rfl, rfl, hg, hg2⟩ := vLrng_some hv
    obtain ⟨a', rfl, ha, na⟩ := h.one
    have pe : PE X (.Call (.Name "list" p) [.Call (.Name "range" p2) [a] [] pos2] [] pos) (tEv g F E (.op .lrng (.cons a' .nil))) :=
      PE.imp (pe_listRg G.calm (G.gl hg) (G.mgB Fa (s := "list") (by decide)) (prg_1 (G.gl hg2) (G.mgB Fa (s := "range") (by decide)) ha (star_cons na))) (lrng_ev G.K)
    exact ⟨pe, pt_val pe⟩
  | index => cases hv
  | count => cases hv
end
end Mx
end

section
set_option Elab.async false
set_option linter.all false
set_option maxRecDepth 100000
set_option maxHeartbeats 2000000
/-! Things that are walked. -/
namespace Mx
open PySem PySem.Spec PyProof.Rows L2
/-- J walks over ds as long as S holds; O is kept clear of, M may be changed -/
structure Walk (K : PySem.W.Frag) (J : It) (S : Hp → (Addr → Prop) → (Addr → Prop) → Prop) (ds : List D) : Prop where
  keep : ∀ {H H' : Hp} {O O' M M' : Addr → Prop}, S H O M → (∀ a, M a → O a) → Ext M H H' → (∀ a, O' a → O a ∨ H a = none) → (∀ a, M' a → M a ∨ H a = none) → S H' O' M'
  go : ∀ {i : Nat} {H : Hp} {O M : Addr → Prop}, S H O M → i < ds.length → J.go i H
  stop : ∀ {i : Nat} {H : Hp} {O M : Addr → Prop}, S H O M → ds.length ≤ i → J.stop i H
  yld : ∀ {i : Nat} {H H' : Hp} {O M : Addr → Prop} {x : V}, S H O M → J.yld i H x H' → ∀ d, ds[i]? = some d → Rp K H' O x d ∧ (H' = H ∨ ∃ p xs, H p = none ∧ H' = upd H p (.tup xs))
def SrcL (K : PySem.W.Frag) (a : Addr) (ds : List D) : Hp → (Addr → Prop) → (Addr → Prop) → Prop := fun H O M => ∃ xs, ((Rd H a (.lst xs) ∧ ¬ M a) ∨ KL K a xs) ∧ RpL K H O xs ds
def SrcT (K : PySem.W.Frag) (a : Addr) (ds : List D) : Hp → (Addr → Prop) → (Addr → Prop) → Prop := fun H O M => ∃ xs, SqT K H a xs ∧ RpL K H O xs ds
theorem sql_of {K : PySem.W.Frag} {H : Hp} {a : Addr} {xs : List V} {M : Addr → Prop} (h : (Rd H a (.lst xs) ∧ ¬ M a) ∨ KL K a xs) : SqL K H a xs := h.elim (fun z => .inl z.1) fun z => .inr z
theorem srcL_keep {K : PySem.W.Frag} {a : Addr} {ds : List D} {H H' : Hp} {O O' M M' : Addr → Prop} (h : SrcL K a ds H O M) (hm : ∀ a, M a → O a) (hx : Ext M H H') (ho : ∀ a, O' a → O a ∨ H a = none) (hm' : ∀ a, M' a → M a ∨ H a = none) : SrcL K a ds H' O' M' := by
  obtain ⟨xs, h1, h2⟩ := h
  refine ⟨xs, ?_, h2.mono (hx.mono hm) ho⟩
  rcases h1 with ⟨h1, h3⟩ | h1
  · refine .inl ⟨Rd.ext hx h1 (.inl h3) (fun ps z => by cases z), fun z => ?_⟩
    rcases hm' a z with q | q
    · exact h3 q
    · exact Rd.none h1 q
  · exact .inr h1
theorem srcT_keep {K : PySem.W.Frag} {a : Addr} {ds : List D} {H H' : Hp} {O O' M : Addr → Prop} (h : SrcT K a ds H O M) (hm : ∀ a, M a → O a) (hx : Ext M H H') (ho : ∀ a, O' a → O a ∨ H a = none) {M' : Addr → Prop} : SrcT K a ds H' O' M' := by
  obtain ⟨xs, h1, h2⟩ := h
  exact ⟨xs, SqT.ext hx h1, h2.mono (hx.mono hm) ho⟩
theorem walk_list {K : PySem.W.Frag} {a : Addr} {ds : List D} : Walk K (Itl K a) (SrcL K a ds) ds where
  keep h hm hx ho hm' := srcL_keep h hm hx ho hm'
  go {i H O M} h hi := by
    obtain ⟨xs, h1, h2⟩ := h
    have hi' : i < xs.length := by rw [h2.length]; exact hi
    exact ⟨xs, xs[i], sql_of h1, List.getElem?_eq_getElem hi'⟩
  stop h hi := by
    obtain ⟨xs, h1, h2⟩ := h
    exact ⟨xs, sql_of h1, by rw [h2.length]; exact hi⟩
  yld {i H H' O M x} h hy d hd := by
    obtain ⟨xs, h1, h2⟩ := h
    obtain ⟨rfl, hy⟩ := hy
    obtain ⟨v, e1, e2⟩ := h2.get hd
    have e3 := hy xs (sql_of h1)
    rw [e1] at e3
    cases e3
    exact ⟨e2, .inl rfl⟩
theorem walk_tup {K : PySem.W.Frag} {a : Addr} {ds : List D} : Walk K (Itt K a) (SrcT K a ds) ds where
  keep h hm hx ho hm' := srcT_keep h hm hx ho
  go {i H O M} h hi := by
    obtain ⟨xs, h1, h2⟩ := h
    have hi' : i < xs.length := by rw [h2.length]; exact hi
    exact ⟨xs, xs[i], h1, List.getElem?_eq_getElem hi'⟩
  stop h hi := by
    obtain ⟨xs, h1, h2⟩ := h
    exact ⟨xs, h1, by rw [h2.length]; exact hi⟩
  yld {i H H' O M x} h hy d hd := by
    obtain ⟨xs, h1, h2⟩ := h
    obtain ⟨rfl, hy⟩ := hy
    obtain ⟨v, e1, e2⟩ := h2.get hd
    have e3 := hy xs h1
    rw [e1] at e3
    cases e3
    exact ⟨e2, .inl rfl⟩
theorem walk_rng {K : PySem.W.Frag} {lo : Int} {n : Nat} : Walk K (Itr lo n) (fun _ _ _ => True) ((List.range n).map fun k : Nat => .int (lo + (k : Int))) where
  keep _ _ _ _ _ := trivial
  go {i H O M} _ hi := by
    simp at hi
    exact hi
  stop {i H O M} _ hi := by
    simp at hi
    exact hi
  yld {i H H' O M x} _ hy d hd := by
    obtain ⟨rfl, rfl⟩ := hy
    have : i < n := by
      have := (List.getElem?_eq_some_iff.mp hd).1
      simpa using this
    rw [List.getElem?_map, List.getElem?_range this] at hd
    cases hd
    exact ⟨.int _, .inl rfl⟩
theorem zip_get {xs ys : List D} {i : Nat} {d : D} (h : ((xs.zip ys).map fun p => PyData.tuple [p.1, p.2])[i]? = some d) : ∃ x y, xs[i]? = some x ∧ ys[i]? = some y ∧ d = .tuple [x, y] := by
  rw [List.getElem?_map] at h
  cases hz : (xs.zip ys)[i]? with
  | none => rw [hz] at h; cases h
  | some p =>
    rw [hz] at h
    cases h
    rw [List.getElem?_zip_eq_some] at hz
    exact ⟨p.1, p.2, hz.1, hz.2, rfl⟩
theorem walk_zipL {K : PySem.W.Frag} {a b : Addr} {xs ys : List D} : Walk K (Itz K a b) (fun H O M => SrcL K a xs H O M ∧ SrcL K b ys H O M) ((xs.zip ys).map fun p => .tuple [p.1, p.2]) where
  keep h hm hx ho hm' := ⟨srcL_keep h.1 hm hx ho hm', srcL_keep h.2 hm hx ho hm'⟩
  go {i H O M} h hi := by
    obtain ⟨⟨us, h1, h2⟩, ⟨vs, h3, h4⟩⟩ := h
    simp at hi
    have i1 : i < us.length := by rw [h2.length]; omega
    have i2 : i < vs.length := by rw [h4.length]; omega
    exact ⟨us, vs, us[i], vs[i], sql_of h1, sql_of h3, List.getElem?_eq_getElem i1, List.getElem?_eq_getElem i2⟩
  stop {i H O M} h hi := by
    obtain ⟨⟨us, h1, h2⟩, ⟨vs, h3, h4⟩⟩ := h
    simp at hi
    exact ⟨us, vs, sql_of h1, sql_of h3, by rw [h2.length, h4.length]; omega⟩
  yld {i H H' O M x} h hy d hd := by
    obtain ⟨⟨us, h1, h2⟩, ⟨vs, h3, h4⟩⟩ := h
    obtain ⟨T, u, v, rfl, e1, rfl, e2, e3⟩ := hy
    obtain ⟨p, q, z1, z2, rfl⟩ := zip_get hd
    obtain ⟨u', y1, y2⟩ := h2.get z1
    obtain ⟨v', y3, y4⟩ := h4.get z2
    have w1 := e2 us (sql_of h1)
    rw [y1] at w1
    cases w1
    have w2 := e3 vs (sql_of h3)
    rw [y3] at w2
    cases w2
    exact ⟨.tup (.inl (.inl upd_same)) (RpL.mono (Ext.alloc e1) (fun a z => .inl z) (.cons y2 (.cons y4 .nil))), .inr ⟨T, _, e1, rfl⟩⟩
theorem walk_zipT {K : PySem.W.Frag} {a b : Addr} {xs ys : List D} : Walk K (RZ.ItzT K a b) (fun H O M => SrcT K a xs H O M ∧ SrcT K b ys H O M) ((xs.zip ys).map fun p => .tuple [p.1, p.2]) where
  keep h hm hx ho hm' := ⟨srcT_keep h.1 hm hx ho, srcT_keep h.2 hm hx ho⟩
  go {i H O M} h hi := by
    obtain ⟨⟨us, h1, h2⟩, ⟨vs, h3, h4⟩⟩ := h
    simp at hi
    have i1 : i < us.length := by rw [h2.length]; omega
    have i2 : i < vs.length := by rw [h4.length]; omega
    exact ⟨us, vs, us[i], vs[i], h1, h3, List.getElem?_eq_getElem i1, List.getElem?_eq_getElem i2⟩
  stop {i H O M} h hi := by
    obtain ⟨⟨us, h1, h2⟩, ⟨vs, h3, h4⟩⟩ := h
    simp at hi
    exact ⟨us, vs, h1, h3, by rw [h2.length, h4.length]; omega⟩
  yld {i H H' O M x} h hy d hd := by
    obtain ⟨⟨us, h1, h2⟩, ⟨vs, h3, h4⟩⟩ := h
    obtain ⟨T, u, v, rfl, e1, rfl, e2, e3⟩ := hy
    obtain ⟨p, q, z1, z2, rfl⟩ := zip_get hd
    obtain ⟨u', y1, y2⟩ := h2.get z1
    obtain ⟨v', y3, y4⟩ := h4.get z2
    have w1 := e2 us h1
    rw [y1] at w1
    cases w1
    have w2 := e3 vs h3
    rw [y3] at w2
    cases w2
    exact ⟨.tup (.inl (.inl upd_same)) (RpL.mono (Ext.alloc e1) (fun a z => .inl z) (.cons y2 (.cons y4 .nil))), .inr ⟨T, _, e1, rfl⟩⟩
/-- walked: a list or a tuple -/
def iAny (K : PySem.W.Frag) (te : TE) : TI := fun σ H R => te σ H fun x H1 => ∃ a, x = .ref a ∧ (((∃ xs, SqL K H1 a xs) ∧ R (Itl K a) H1) ∨ ((∃ xs, SqT K H1 a xs) ∧ R (Itt K a) H1))
theorem pi_any {X : Cx} {tg e : Expr} {te : TE} (he : PE X e te) : PI X tg e (iAny X.K te) := by
  refine ⟨fun pins s σ H R I h => ?_⟩
  refine thn (he.run pins s σ H _ I h) fun u s1 ⟨x, H1, I1, r1, q1⟩ => ?_
  obtain ⟨a, rfl, q1⟩ := q1
  cases r1
  have fp1 : ∀ b ∈ [s1.heap.objs.size], FpOk X pins H1 b := fun b hb => by
    rw [List.mem_singleton.mp hb]
    exact I1.fpOk (Nat.le_refl _) I1.fresh
  rcases q1 with ⟨⟨xs, hq⟩, q⟩ | ⟨⟨xs, hq⟩, q⟩
  · obtain ⟨its, rv, pl, hz⟩ := I1.list hq
    refine wpAny_pyIter_list pl.isList ?_
    exact ⟨_, [s1.heap.objs.size], _, _, H1, rfl, I1.kept (t' := s1.toks) (fun b o e => Heap.get?_push_of_some _ e), turn_list a _, ⟨_, Heap.get?_push_size _ rfl, rfl, rfl⟩, fp1, q⟩
  · obtain ⟨its, rv, pl, hz⟩ := I1.tuple hq
    refine wpAny_pyIter_tuple (show s1.heap.IsTuple a its.toArray from pl) ?_
    exact ⟨_, [s1.heap.objs.size], _, _, H1, rfl, I1.kept (t' := s1.toks) (fun b o e => Heap.get?_push_of_some _ e), turn_tuple a _, ⟨_, Heap.get?_push_size _ rfl, rfl, rfl⟩, fp1, q⟩
/-! ### locks -/
structure LockOk (g : Fr) (Fb : Addr → Prop) (it : Ex) (ρ1 : Rho) (σ : L2.St) (H : Hp) (Bb' : Nat → Addr → Prop) (FbL : Addr → Prop) : Prop where
  env : EnvR { g with Bb := Bb' } FbL (lockR it ρ1) σ H
  up : ∀ a, Fb a → FbL a
  dn : ∀ a, FbL a → Ot Fb ρ1 σ a
  own : ∀ j b, Own (lockR it ρ1) σ j b → Own ρ1 σ j b
  bbd : ∀ j b, Bb' j b → g.Bb j b ∨ Own ρ1 σ j b
  un : ∀ (σ2 : L2.St) (ρ2 : Rho) (H2 : Hp) (ρ3 : Rho), EnvR { g with Bb := Bb' } FbL ρ2 σ2 H2 → unlockR it ρ1 ρ2 = some ρ3 → EnvR g Fb ρ3 σ2 H2 ∧ (∀ j b, Own ρ3 σ2 j b → Own ρ2 σ2 j b ∨ (Own ρ1 σ j b ∧ FbL b)) ∧ ρ3.length = ρ2.length
theorem lock_no {g : Fr} {Fb : Addr → Prop} {it : Ex} {ρ1 : Rho} {σ : L2.St} {H : Hp} (h1 : lockR it ρ1 = ρ1) (h2 : ∀ ρ2, unlockR it ρ1 ρ2 = some ρ2) (E : EnvR g Fb ρ1 σ H) : LockOk g Fb it ρ1 σ H g.Bb Fb := by
  refine ⟨by rw [h1]; exact E, fun _ z => z, fun _ z => .inl z, fun j b z => by rw [h1] at z; exact z, fun j b z => .inl z, fun σ2 ρ2 H2 ρ3 E2 e => ?_⟩
  rw [h2] at e
  cases e
  exact ⟨E2, fun j b z => .inl z, rfl⟩
theorem lock_yes {g : Fr} {Fb : Addr → Prop} {i : Nat} {m : Md} {d : D} {a : Addr} {ρ1 : Rho} {σ : L2.St} {H : Hp} (h : ρ1[i]? = some (Slot.s m d)) (hm : m = .ow ∨ m = .le) (hs : σ[i]? = some (some (V.ref a))) (E : EnvR g Fb ρ1 σ H) :
    LockOk g Fb (.iseq (.bor i)) ρ1 σ H (g.lock i a).Bb (fun b => b = a ∨ Fb b) := by
  have own : Own ρ1 σ i a := ⟨⟨m, d, h, hm⟩, hs⟩
  have el : lockR (.iseq (.bor i)) ρ1 = ρ1.set i (Slot.s .bo d) := by
    unfold lockR
    simp only
    rw [h]
    rcases hm with rfl | rfl <;> rfl
  refine ⟨by rw [el]; exact E.lock h hm hs, fun _ z => .inr z, fun b z => ?_, fun j b z => ?_, fun j b z => ?_, fun σ2 ρ2 H2 ρ3 E2 e => ?_⟩
  · rcases z with z | z
    · exact .inr ⟨i, by rw [z]; exact own⟩
    · exact .inl z
  · rw [el] at z
    exact (own_set (σ := σ) (s := Slot.s .bo d) h (fun m d e => by cases e; exact ⟨by decide, by decide⟩) j b z).1
  · have z : if j = i then b = a else g.Bb j b := z
    split at z
    · rename_i e
      exact .inr (by rw [e, z]; exact own)
    · exact .inl z
  · have key : ∃ d2, ρ2[i]? = some (Slot.s .bo d2) ∧ ρ3 = ρ2.set i (Slot.s m d2) := by
      unfold unlockR at e
      simp only at e
      rw [h] at e
      rcases hm with rfl | rfl
      · simp only at e
        split at e
        · exact ⟨_, by assumption, (Option.some.inj e).symm⟩
        · cases e
      · simp only at e
        split at e
        · exact ⟨_, by assumption, (Option.some.inj e).symm⟩
        · cases e
    obtain ⟨d2, k1, rfl⟩ := key
    obtain ⟨E3, k2⟩ := EnvR.unlock (g := g) (m := m) E2 k1 hm (fun q => by subst q; exact E.nw i a d h hs) (fun q => by subst q; exact E.lb i a d h hs) (E.nfb i a own) E.bfb
    refine ⟨E3, fun j b ⟨⟨m', d', q, hm'⟩, hq⟩ => ?_, by rw [List.length_set]⟩
    by_cases z : j = i
    · subst z
      rw [k2] at hq
      cases hq
      exact .inr ⟨own, .inl rfl⟩
    · rw [at_set z] at q
      exact .inl ⟨⟨m', d', q, hm'⟩, hq⟩
/-- behind the iterator -/
structure PostI (g : Fr) (Fb : Addr → Prop) (lo : Bool) (ρ : Rho) (σ : L2.St) (H : Hp) (it : Ex) (ρ1 : Rho) (S : Hp → (Addr → Prop) → (Addr → Prop) → Prop) (H1 : Hp) : Prop where
  env : EnvR g Fb ρ1 σ H1
  ext : Ext (fun a => lo = true ∧ Om ρ σ a) H H1
  own : ∀ i a, Own ρ1 σ i a → Own ρ σ i a
  dom : ∀ a, H1 a = none → H a = none
  src : ∀ FbX H2, EnvR g FbX ρ1 σ H2 → Ext (fun _ => False) H1 H2 → (∀ a, FbX a → Fb a ∨ H1 a = none) → (∀ a, Fb a → FbX a) → ∃ Bb' FbL, LockOk g FbX it ρ1 σ H2 Bb' FbL ∧ ∀ M' : Addr → Prop, (∀ a, M' a → Om (lockR it ρ1) σ a ∨ H1 a = none) → S H2 (Ot FbL (lockR it ρ1) σ) M'
def tIt (g : Pg) (F : FnSem) (E : XK) (it : Ex) : TI := fun σ H R => ∃ H0 Lb Bb Fb ρ, EnvR (g.fr H0 Lb Bb) Fb ρ σ H ∧ match ev F it ρ with
  | .ok _ (.list ds) ρ1 => ∀ J H1 S, Walk g.K J S ds → PostI (g.fr H0 Lb Bb) Fb (lends it) ρ σ H it ρ1 S H1 → R J H1
  | .exc (.bad z) => ∀ dd H', PostX (g.fr H0 Lb Bb) (lends it) ρ σ H H' → H' dd = some (.xd [(("name" : Str), V.str z)]) → E (.ref g.C) (some dd) H'
  | _ => False
theorem PI.imp {X : Cx} {tg e : Expr} {t t' : TI} (h : PI X tg e t) (i : ∀ σ H R, t' σ H R → t σ H R) : PI X tg e t' := ⟨fun pins s σ H R I q => h.run pins s σ H R I (i σ H R q)⟩
section
variable {g : Pg} {c : Ck} {L : Nat} {F : FnSem} {sc : Scope} {kd : Option String} {fr : Bool} {E : XK} {X : Cx}
/-- what is walked stays good behind what comes later (nothing is locked yet) -/
theorem src_list {G : Fr} {Fb : Addr → Prop} {ρ1 : Rho} {σ : L2.St} {H1 : Hp} {it : Ex} {a : Addr} {vs : List V} {ds : List D} (h1 : lockR it ρ1 = ρ1) (h2 : ∀ ρ2, unlockR it ρ1 ρ2 = some ρ2) (hs : ((Rd H1 a (.lst vs)) ∧ ¬ Ot Fb ρ1 σ a) ∨ KL G.K a vs) (hr : RpL G.K H1 (Ot Fb ρ1 σ) vs ds) :
    ∀ FbX H2, EnvR G FbX ρ1 σ H2 → Ext (fun _ => False) H1 H2 → (∀ a, FbX a → Fb a ∨ H1 a = none) → (∀ a, Fb a → FbX a) → ∃ Bb' FbL, LockOk G FbX it ρ1 σ H2 Bb' FbL ∧ ∀ M' : Addr → Prop, (∀ a, M' a → Om (lockR it ρ1) σ a ∨ H1 a = none) → SrcL G.K a ds H2 (Ot FbL (lockR it ρ1) σ) M' := by
  intro FbX H2 E2 hx hf _
  refine ⟨_, _, lock_no h1 h2 E2, fun M' hM' => ?_⟩
  rw [h1] at hM' ⊢
  have base : SrcL G.K a ds H1 (Ot Fb ρ1 σ) (Om ρ1 σ) := by
    refine ⟨vs, ?_, hr⟩
    rcases hs with ⟨z1, z2⟩ | z
    · exact .inl ⟨z1, fun ⟨i, z⟩ => z2 (.inr ⟨i, z⟩)⟩
    · exact .inr z
  refine srcL_keep base (fun _ ⟨i, z⟩ => .inr ⟨i, z⟩) (hx.mono fun _ z => z.elim) (fun b z => ?_) hM'
  rcases z with z | z
  · rcases hf b z with q | q
    · exact .inl (.inl q)
    · exact .inr q
  · exact .inl (.inr z)
theorem src_tup {G : Fr} {Fb : Addr → Prop} {ρ1 : Rho} {σ : L2.St} {H1 : Hp} {it : Ex} {a : Addr} {vs : List V} {ds : List D} (h1 : lockR it ρ1 = ρ1) (h2 : ∀ ρ2, unlockR it ρ1 ρ2 = some ρ2) (hs : SqT G.K H1 a vs) (hr : RpL G.K H1 (Ot Fb ρ1 σ) vs ds) :
    ∀ FbX H2, EnvR G FbX ρ1 σ H2 → Ext (fun _ => False) H1 H2 → (∀ a, FbX a → Fb a ∨ H1 a = none) → (∀ a, Fb a → FbX a) → ∃ Bb' FbL, LockOk G FbX it ρ1 σ H2 Bb' FbL ∧ ∀ M' : Addr → Prop, (∀ a, M' a → Om (lockR it ρ1) σ a ∨ H1 a = none) → SrcT G.K a ds H2 (Ot FbL (lockR it ρ1) σ) M' := by
  intro FbX H2 E2 hx hf _
  refine ⟨_, _, lock_no h1 h2 E2, fun M' hM' => ?_⟩
  rw [h1]
  have base : SrcT G.K a ds H1 (Ot Fb ρ1 σ) (Om ρ1 σ) := ⟨vs, hs, hr⟩
  refine srcT_keep base (fun _ ⟨i, z⟩ => .inr ⟨i, z⟩) (hx.mono fun _ z => z.elim) (fun b z => ?_)
  rcases z with z | z
  · rcases hf b z with q | q
    · exact .inl (.inl q)
    · exact .inr q
  · exact .inl (.inr z)
theorem lock_id {it : Ex} {ρ : Rho} (h : ∀ i, it ≠ .iseq (.bor i)) : lockR it ρ = ρ ∧ ∀ ρ2, unlockR it ρ ρ2 = some ρ2 := by
  unfold lockR unlockR
  split
  · rename_i i
    exact absurd rfl (h i)
  · exact ⟨rfl, fun _ => rfl⟩
theorem lock_fz {i : Nat} {ρ : Rho} {m : Md} {d : D} (h : ρ[i]? = some (Slot.s m d)) (hm : m = .fz ∨ m = .bo) : lockR (.iseq (.bor i)) ρ = ρ ∧ ∀ ρ2, unlockR (.iseq (.bor i)) ρ ρ2 = some ρ2 := by
  unfold lockR unlockR
  simp only
  rw [h]
  rcases hm with rfl | rfl <;> exact ⟨rfl, fun _ => rfl⟩
/-- a value is walked -/
theorem it_val {G : Fr} {Fb : Addr → Prop} {lo : Bool} {ρ ρ1 : Rho} {σ : L2.St} {H H1 : Hp} {it : Ex} {f : Bool} {d : D} {v : V} {ds : List D} (h1 : lockR it ρ1 = ρ1) (h2 : ∀ ρ2, unlockR it ρ1 ρ2 = some ρ2) (po : PostE G Fb lo ρ σ H f d ρ1 v H1) (hd : seqOf d = some ds) {R : It → Hp → Prop}
    (hR : ∀ J H1 S, Walk G.K J S ds → PostI G Fb lo ρ σ H it ρ1 S H1 → R J H1) : ∃ a, v = .ref a ∧ (((∃ xs, SqL G.K H1 a xs) ∧ R (Itl G.K a) H1) ∨ ((∃ xs, SqT G.K H1 a xs) ∧ R (Itt G.K a) H1)) := by
  cases d <;> simp only [seqOf] at hd <;> try (cases hd; done)
  · obtain rfl := Option.some.inj hd
    have q := po.val
    cases q with
    | @lst a vs ds h r =>
      refine ⟨a, rfl, .inl ⟨⟨vs, h.elim (fun z => .inl z.1) fun z => .inr z⟩, hR _ _ _ walk_list ⟨po.env, po.ext, po.own, po.dom, src_list h1 h2 h r⟩⟩⟩
  · obtain rfl := Option.some.inj hd
    have q := po.val
    cases q with
    | @tup a vs ds h r => exact ⟨a, rfl, .inr ⟨⟨vs, h⟩, hR _ _ _ walk_tup ⟨po.env, po.ext, po.own, po.dom, src_tup h1 h2 h r⟩⟩⟩
theorem iseq_ev {a : Ex} (ha : isVal a = true ∨ ∃ i, a = .bor i) {K : PySem.W.Frag} (hK : K = g.K) : ∀ σ H R, tIt g F E (.iseq a) σ H R → iAny K (tOpd g F E a) σ H R := by
  subst hK
  intro σ H R ⟨H0, Lb, Bb, Fb, ρ, En, h⟩
  unfold iAny tOpd
  unfold ev at h
  rcases ha with ha | ⟨i, rfl⟩
  · unfold isVal at ha
    have hno : ∀ i, (Ex.iseq a) ≠ .iseq (.bor i) := fun i z => by
      cases z
      cases ha
    cases hk : argK a <;> rw [hk] at ha h <;> try (cases ha; done)
    refine ⟨H0, Lb, Bb, Fb, ρ, En, ?_⟩
    simp only at h
    cases he : ev F a ρ with
    | stuck => rw [he] at h; exact h.elim
    | exc x => rw [he] at h; cases x; exact h
    | ok f d ρ1 =>
      rw [he] at h
      simp only at h
      intro v H1 po
      cases hd : seqOf d with
      | none => rw [hd] at h; exact h.elim
      | some ds =>
        rw [hd] at h
        exact it_val (it := .iseq a) (lock_id hno).1 (lock_id hno).2 po hd h
  · show tVar i σ H _
    have hk : argK (.bor i) = .bor i := rfl
    rw [hk] at h
    simp only at h
    cases hr : ρ[i]? with
    | none => rw [hr] at h; exact h.elim
    | some s =>
      cases s with
      | no => rw [hr] at h; exact h.elim
      | s m d =>
        rw [hr] at h
        simp only at h
        cases hd : seqOf d with
        | none => rw [hd] at h; exact h.elim
        | some ds =>
          rw [hd] at h
          simp only at h
          obtain ⟨v, e1, e2⟩ := En.slot i m d hr
          refine ⟨v, e1, ?_⟩
          cases m with
          | fz => exact it_val (it := .iseq (.bor i)) (lock_fz hr (.inl rfl)).1 (lock_fz hr (.inl rfl)).2 (PostE.pure En (.old e2)) hd h
          | bo =>
            obtain ⟨a, o, rfl, f1, f2, f3⟩ := e2
            refine ⟨a, rfl, ?_⟩
            rcases f3 with ⟨vs, ds', rfl, rfl, f4⟩ | ⟨ks, ds', rfl, rfl, f4⟩
            · obtain rfl := Option.some.inj hd
              refine .inl ⟨⟨vs, .of f2⟩, h _ _ (SrcL g.K a ds') walk_list ⟨En, Ext.refl, fun _ _ z => z, fun _ z => z, fun FbX H2 E2 hx hf hup => ?_⟩⟩
              obtain ⟨l1, l2⟩ := lock_fz hr (.inr rfl)
              refine ⟨_, _, lock_no l1 l2 E2, fun M' hM' => ?_⟩
              rw [l1] at hM' ⊢
              refine srcL_keep (M := Om ρ σ) (O := Ot Fb ρ σ) ⟨vs, .inl ⟨.inl f2, fun ⟨j, z⟩ => En.nfb j a z f1⟩, f4⟩ (fun _ ⟨i, z⟩ => .inr ⟨i, z⟩) (hx.mono fun _ z => z.elim) (fun b z => ?_) hM'
              rcases z with z | z
              · rcases hf b z with q | q
                · exact .inl (.inl q)
                · exact .inr q
              · exact .inl (.inr z)
            · cases hd
          | ow =>
            obtain ⟨a, o, rfl, f2, f3⟩ := e2
            refine ⟨a, rfl, ?_⟩
            rcases f3 with ⟨vs, ds', rfl, rfl, f4⟩ | ⟨ks, ds', rfl, rfl, f4⟩
            · obtain rfl := Option.some.inj hd
              refine .inl ⟨⟨vs, .of f2⟩, h _ _ (SrcL g.K a ds') walk_list ⟨En, Ext.refl, fun _ _ z => z, fun _ z => z, fun FbX H2 E2 hx hf hup => ?_⟩⟩
              have lk := lock_yes hr (.inl rfl) e1 E2
              refine ⟨_, _, lk, fun M' hM' => ⟨vs, .inl ⟨.inl (hx a _ f2 (.inl id) fun ps z => by cases z), fun z => (hM' a z).elim (fun ⟨j, z⟩ => lk.env.nfb j a z (.inl rfl)) fun z => by rw [f2] at z; cases z⟩, f4.mono (hx.mono fun _ z => z.elim) fun b z => ?_⟩⟩
              rcases z with z | ⟨j, z⟩
              · rcases lk.dn b z with y | y
                · rcases hf b y with q | q
                  · exact .inl (.inl q)
                  · exact .inr q
                · exact .inl (.inr y)
              · exact .inl (.inr ⟨j, lk.own j b z⟩)
            · cases hd
          | le =>
            obtain ⟨a, o, rfl, f2, f3⟩ := e2
            refine ⟨a, rfl, ?_⟩
            rcases f3 with ⟨vs, ds', rfl, rfl, f4⟩ | ⟨ks, ds', rfl, rfl, f4⟩
            · obtain rfl := Option.some.inj hd
              refine .inl ⟨⟨vs, .of f2⟩, h _ _ (SrcL g.K a ds') walk_list ⟨En, Ext.refl, fun _ _ z => z, fun _ z => z, fun FbX H2 E2 hx hf hup => ?_⟩⟩
              have lk := lock_yes hr (.inr rfl) e1 E2
              refine ⟨_, _, lk, fun M' hM' => ⟨vs, .inl ⟨.inl (hx a _ f2 (.inl id) fun ps z => by cases z), fun z => (hM' a z).elim (fun ⟨j, z⟩ => lk.env.nfb j a z (.inl rfl)) fun z => by rw [f2] at z; cases z⟩, f4.mono (hx.mono fun _ z => z.elim) fun b z => ?_⟩⟩
              rcases z with z | ⟨j, z⟩
              · rcases lk.dn b z with y | y
                · rcases hf b y with q | q
                  · exact .inl (.inl q)
                  · exact .inr q
                · exact .inl (.inr y)
              · exact .inl (.inr ⟨j, lk.own j b z⟩)
            · cases hd
theorem opd_val {a : Ex} (h : isVal a = true) : tOpd g F E a = tEv g F E a := by
  unfold isVal at h
  unfold tOpd
  cases hk : argK a <;> rw [hk] at h <;> first | rfl | (cases h)
theorem src_rng {G : Fr} {Fb : Addr → Prop} {ρ1 : Rho} {σ : L2.St} {H1 : Hp} {it : Ex} (hno : ∀ i, it ≠ .iseq (.bor i)) :
    ∀ FbX H2, EnvR G FbX ρ1 σ H2 → Ext (fun _ => False) H1 H2 → (∀ a, FbX a → Fb a ∨ H1 a = none) → (∀ a, Fb a → FbX a) → ∃ Bb' FbL, LockOk G FbX it ρ1 σ H2 Bb' FbL ∧ ∀ M' : Addr → Prop, (∀ a, M' a → Om (lockR it ρ1) σ a ∨ H1 a = none) → True :=
  fun FbX H2 E2 _ _ _ => ⟨_, _, lock_no (lock_id hno).1 (lock_id hno).2 E2, fun _ _ => trivial⟩
theorem irng_ev {a : Ex} (ha : isVal a = true) : ∀ σ H R, tIt g F E (.irng a) σ H R → iRng1 (tCons (tOpd g F E a) tNil) σ H R := by
  intro σ H R ⟨H0, Lb, Bb, Fb, ρ, En, h⟩
  show tOpd g F E a σ H _
  rw [opd_val ha]
  unfold ev at h
  refine ⟨H0, Lb, Bb, Fb, ρ, En, ?_⟩
  cases he : ev F a ρ with
  | stuck => rw [he] at h; exact h.elim
  | exc x => rw [he] at h; cases x; exact h
  | ok f d ρ1 =>
    rw [he] at h
    cases d <;> try exact h.elim
    rename_i n
    simp only at h
    by_cases hb : -(2 ^ 60) ≤ n ∧ n ≤ (line : Int)
    · rw [if_pos hb] at h
      intro v H1 po
      have q := po.val
      cases q
      have l : line = 16777216 := by rfl
      refine ⟨n, rfl, by omega, by rw [l] at hb; omega, ?_⟩
      have w := walk_rng (K := g.K) (lo := 0) (n := n.toNat)
      have e : ((List.range n.toNat).map fun k : Nat => (.int ((0 : Int) + (k : Int)) : D)) = (List.range n.toNat).map fun k : Nat => .int (k : Int) := by
        congr 1
        funext k
        rw [Int.zero_add]
      rw [e] at w
      exact h _ _ _ w ⟨po.env, po.ext, po.own, po.dom, src_rng (fun i z => by cases z)⟩
    · rw [if_neg hb] at h
      exact h.elim
theorem irng2_ev {a b : Ex} (ha : isVal a = true) (hb : isVal b = true) : ∀ σ H R, tIt g F E (.irng2 a b) σ H R → iRng2 (tCons (tOpd g F E a) (tCons (tOpd g F E b) tNil)) σ H R := by
  intro σ H R ⟨H0, Lb, Bb, Fb, ρ, En, h⟩
  show tOpd g F E a σ H fun x H1 => tOpd g F E b σ H1 _
  rw [opd_val ha, opd_val hb]
  unfold ev at h
  refine ⟨H0, Lb, Bb, Fb, ρ, En, ?_⟩
  cases he : ev F a ρ with
  | stuck => rw [he] at h; exact h.elim
  | exc x => rw [he] at h; cases x; exact fun dd H' px hx => h dd H' (px.lo_mono fun z => by show (lends a || lends b) = true; rw [z]; rfl) hx
  | ok f d ρ1 =>
    rw [he] at h
    cases d <;> try exact h.elim
    rename_i n
    simp only at h
    intro v H1 po
    have q := po.val
    cases q
    refine ⟨H0, Lb, Bb, Fb, ρ1, po.env, ?_⟩
    cases he2 : ev F b ρ1 with
    | stuck => rw [he2] at h; exact h.elim
    | exc x => rw [he2] at h; cases x; exact fun dd H' px hx => h dd H' (PostX.after po.ext po.own po.dom px) hx
    | ok f2 d2 ρ2 =>
      rw [he2] at h
      cases d2 <;> try exact h.elim
      rename_i m
      simp only at h
      by_cases hb : -(2 ^ 60) ≤ n ∧ n ≤ 2 ^ 60 ∧ -(2 ^ 60) ≤ m ∧ m ≤ (line : Int)
      · rw [if_pos hb] at h
        intro v2 H2 po2
        have q := po2.val
        cases q
        have l : line = 16777216 := by rfl
        rw [l] at hb
        refine ⟨n, m, rfl, ⟨by omega, by omega, by omega, by omega⟩, ?_⟩
        have pt := po.trans po2
        exact h _ _ _ (walk_rng (K := g.K) (lo := n) (n := (m - n).toNat)) ⟨pt.env, pt.ext, pt.own, pt.dom, src_rng (fun i z => by cases z)⟩
      · rw [if_neg hb] at h
        exact h.elim
theorem izip_ev {a b : Ex} (ha : isVal a = true) (hb : isVal b = true) {K : PySem.W.Frag} (hK : K = g.K) : ∀ σ H R, tIt g F E (.izip a b) σ H R → RZ.iZipA K (tCons (tOpd g F E a) (tCons (tOpd g F E b) tNil)) σ H R := by
  subst hK
  intro σ H R ⟨H0, Lb, Bb, Fb, ρ, En, h⟩
  show tOpd g F E a σ H fun x H1 => tOpd g F E b σ H1 _
  rw [opd_val ha, opd_val hb]
  unfold ev at h
  refine ⟨H0, Lb, Bb, Fb, ρ, En, ?_⟩
  cases he : ev F a ρ with
  | stuck => rw [he] at h; exact h.elim
  | exc x => rw [he] at h; cases x; exact fun dd H' px hx => h dd H' (px.lo_mono fun z => by show (lends a || lends b) = true; rw [z]; rfl) hx
  | ok f d ρ1 =>
    rw [he] at h
    simp only at h
    intro v H1 po
    refine ⟨H0, Lb, Bb, Fb, ρ1, po.env, ?_⟩
    cases he2 : ev F b ρ1 with
    | stuck => rw [he2] at h; exact h.elim
    | exc x => rw [he2] at h; cases x; exact fun dd H' px hx => h dd H' (PostX.after po.ext po.own po.dom px) hx
    | ok f2 d2 ρ2 =>
      rw [he2] at h
      simp only at h
      intro v2 H2 po2
      have pt := po.trans po2
      have q1 := po.keep po2
      have q2 := po2.val
      have hno : ∀ i, (Ex.izip a b) ≠ .iseq (.bor i) := fun i z => by cases z
      cases d <;> cases d2 <;> simp only [zipOf] at h <;> try exact h.elim
      · cases q1 with
        | @lst p1 vs1 ds1 h1 r1 =>
          cases q2 with
          | @lst p2 vs2 ds2 h2 r2 =>
            refine ⟨p1, p2, vs1, vs2, rfl, .inl ⟨h1.elim (fun z => .inl z.1) fun z => .inr z, h2.elim (fun z => .inl z.1) fun z => .inr z, ?_⟩⟩
            refine h _ _ _ walk_zipL ⟨pt.env, pt.ext, pt.own, pt.dom, fun FbX H3 E3 hx hf hup => ?_⟩
            refine ⟨_, _, lock_no (lock_id hno).1 (lock_id hno).2 E3, fun M' hM' => ?_⟩
            rw [(lock_id hno).1] at hM' ⊢
            have fo : ∀ b, Ot FbX ρ2 σ b → Ot Fb ρ2 σ b ∨ H2 b = none := fun b z => by
              rcases z with z | z
              · rcases hf b z with q | q
                · exact .inl (.inl q)
                · exact .inr q
              · exact .inl (.inr z)
            have mo : ∀ {p : Addr} {vs : List V}, (Rd H2 p (.lst vs) ∧ ¬ Ot Fb ρ2 σ p) ∨ KL g.K p vs → (Rd H2 p (.lst vs) ∧ ¬ Om ρ2 σ p) ∨ KL g.K p vs := fun {p vs} z => z.imp (fun y => ⟨y.1, fun ⟨i, w⟩ => y.2 (.inr ⟨i, w⟩)⟩) id
            exact ⟨srcL_keep (M := Om ρ2 σ) (O := Ot Fb ρ2 σ) ⟨vs1, mo h1, r1⟩ (fun _ ⟨i, z⟩ => .inr ⟨i, z⟩) (hx.mono fun _ z => z.elim) fo hM', srcL_keep (M := Om ρ2 σ) (O := Ot Fb ρ2 σ) ⟨vs2, mo h2, r2⟩ (fun _ ⟨i, z⟩ => .inr ⟨i, z⟩) (hx.mono fun _ z => z.elim) fo hM'⟩
      · cases q1 with
        | @tup p1 vs1 ds1 h1 r1 =>
          cases q2 with
          | @tup p2 vs2 ds2 h2 r2 =>
            refine ⟨p1, p2, vs1, vs2, rfl, .inr ⟨h1, h2, ?_⟩⟩
            refine h _ _ _ walk_zipT ⟨pt.env, pt.ext, pt.own, pt.dom, fun FbX H3 E3 hx hf hup => ?_⟩
            refine ⟨_, _, lock_no (lock_id hno).1 (lock_id hno).2 E3, fun M' hM' => ?_⟩
            rw [(lock_id hno).1]
            have fo : ∀ b, Ot FbX ρ2 σ b → Ot Fb ρ2 σ b ∨ H2 b = none := fun b z => by
              rcases z with z | z
              · rcases hf b z with q | q
                · exact .inl (.inl q)
                · exact .inr q
              · exact .inl (.inr z)
            exact ⟨srcT_keep (M := Om ρ2 σ) (O := Ot Fb ρ2 σ) ⟨vs1, h1, r1⟩ (fun _ ⟨i, z⟩ => .inr ⟨i, z⟩) (hx.mono fun _ z => z.elim) fo, srcT_keep (M := Om ρ2 σ) (O := Ot Fb ρ2 σ) ⟨vs2, h2, r2⟩ (fun _ ⟨i, z⟩ => .inr ⟨i, z⟩) (hx.mono fun _ z => z.elim) fo⟩
end
end Mx
end

section
set_option Elab.async false
set_option linter.all false
set_option maxRecDepth 100000
set_option maxHeartbeats 2000000
/-! Targets; comprehensions. -/
namespace Mx
open PySem PySem.Spec PyProof.Rows L2
def tTgs : List Nat → TGs
  | [] => gNil
  | i :: is => gCons (gName i) (tTgs is)
def tTg (K : PySem.W.Frag) : Tg → TG
  | .one i => gName i
  | .tup is => gTup K is.length (tTgs is)
section
variable {g : Pg} {c : Ck} {L : Nat} {F : FnSem} {sc : Scope} {kd : Option String} {fr : Bool} {E : XK} {X : Cx}
theorem pg_nm (hN : X.N = c.N) (nd : X.N.Nodup) (hsc : X.env.scope = sc) (hfn : fr = true → ∀ x, X.fn x = true) {i : Nat} {x : Str} {pos : Pos} (h : stB c sc fr i x = true) : PG X (.Name x pos) (gName i) := by
  unfold stB at h
  simp only [Bool.and_eq_true, Bool.or_eq_true] at h
  obtain ⟨h1, h2⟩ := h
  have e1 : X.N[i]? = some x := by rw [hN]; exact eq_of_beq h1
  rcases h2 with h2 | ⟨h2, h3⟩
  · have e2 : List.lookup x X.env.scope.names = some .local := by rw [hsc]; exact eq_of_beq h2
    exact pg_name nd e1 (.inl e2) (.inr e2)
  · have e2 : List.lookup x X.env.scope.names = some .cell := by rw [hsc]; exact eq_of_beq h3
    exact pg_name nd e1 (.inr e2) (.inl (hfn h2 x))
theorem pg_nms (hN : X.N = c.N) (nd : X.N.Nodup) (hsc : X.env.scope = sc) (hfn : fr = true → ∀ x, X.fn x = true) : ∀ (is : List Nat) (es : List Expr), chkT.chkTs c sc fr is es = true → PGs X es (tTgs is) ∧ (assignEach es X.env).length = is.length ∧ List.findIdx? (fun x => x.1) (assignEach es X.env) = none := by
  intro is
  induction is with
  | nil =>
    intro es h
    cases es with
    | nil => exact ⟨pgs_nil, rfl, rfl⟩
    | cons e es => simp [chkT.chkTs] at h
  | cons i is ih =>
    intro es h
    cases es with
    | nil => simp [chkT.chkTs] at h
    | cons e es =>
      cases e <;> simp only [chkT.chkTs, Bool.and_eq_true] at h <;> try (cases h; done)
      obtain ⟨h1, h2, h3⟩ := ih es h.2
      refine ⟨pgs_cons (pg_nm hN nd hsc hfn h.1) h1, ?_, ?_⟩
      · show (assignEach es X.env).length + 1 = _
        rw [h2]
        rfl
      · rename_i x pos
        show List.findIdx? (fun x => x.1) ((false, assign (.Name x pos) X.env) :: assignEach es X.env) = none
        rw [List.findIdx?_cons, h3]
        rfl
theorem pg_tg (hN : X.N = c.N) (nd : X.N.Nodup) (hsc : X.env.scope = sc) (hfn : fr = true → ∀ x, X.fn x = true) (hc : X.calm = true) {tg : Tg} {e : Expr} (h : chkT c sc fr tg e = true) : PG X e (tTg X.K tg) := by
  cases tg with
  | one i =>
    cases e <;> simp only [chkT] at h <;> try (cases h; done)
    exact pg_nm hN nd hsc hfn h
  | tup is =>
    cases e <;> simp only [chkT] at h <;> try (cases h; done)
    obtain ⟨h1, h2, h3⟩ := pg_nms hN nd hsc hfn _ _ h
    exact pg_tup hc h1 h2 h3
end
section
variable {g : Fr} {Fb : Addr → Prop} {ρ ρ' : Rho} {σ : L2.St} {H : Hp}
/-- a slot gets a value -/
theorem EnvR.put (En : EnvR g Fb ρ σ H) {i : Nat} {v : V} {d : D} (h : Rp g.K H (Ot Fb ρ σ) v d) : EnvR g Fb (ρ.set i (Slot.s .fz d)) (σ.set i (some v)) H ∧ (∀ j b, Own (ρ.set i (Slot.s .fz d)) (σ.set i (some v)) j b → Own ρ σ j b) := by
  have own : ∀ j b, Own (ρ.set i (Slot.s .fz d)) (σ.set i (some v)) j b → Own ρ σ j b := fun j b ⟨⟨m, d', q, hm⟩, hs⟩ => by
    by_cases z : j = i
    · subst z
      have l : j < ρ.length := by
        have := (List.getElem?_eq_some_iff.mp q).1
        rw [List.length_set] at this
        exact this
      rw [List.getElem?_set_self l] at q
      cases q
      rcases hm with z | z <;> cases z
    · rw [at_set z] at q
      rw [List.getElem?_set_ne (Ne.symm z)] at hs
      exact ⟨⟨m, d', q, hm⟩, hs⟩
  refine ⟨En.less (fun _ z => z) En.bfb (by rw [List.length_set, List.length_set]; exact En.len) (fun j m d' q => ?_), own⟩
  by_cases z : j = i
  · subst z
    have l : j < ρ.length := by
      have := (List.getElem?_eq_some_iff.mp q).1
      rw [List.length_set] at this
      exact this
    rw [List.getElem?_set_self l] at q
    cases q
    refine .inr ⟨rfl, v, List.getElem?_set_self (by rw [← En.len]; exact l), h.mono Ext.refl fun b z => ?_⟩
    rcases z with z | ⟨j, z⟩
    · exact .inl (.inl z)
    · exact .inl (.inr ⟨j, own j b z⟩)
  · rw [at_set z] at q
    exact .inl ⟨q, List.getElem?_set_ne (Ne.symm z), trivial⟩
/-- the store of a value to a target -/
theorem bind_ok {K : PySem.W.Frag} (hK : K = g.K) (En : EnvR g Fb ρ σ H) {tg : Tg} {v : V} {d : D} (h : Rp g.K H (Ot Fb ρ σ) v d) (hb : bindT tg d ρ = some ρ') {Q : L2.St → Hp → Prop}
    (hQ : ∀ σ', EnvR g Fb ρ' σ' H → (∀ j, j ∉ tgIx tg → σ'[j]? = σ[j]?) → σ'.length = σ.length → (∀ j b, Own ρ' σ' j b → Own ρ σ j b) → Q σ' H) : tTg K tg v σ H Q := by
  subst hK
  cases tg with
  | one i =>
    cases hb
    obtain ⟨E1, o1⟩ := En.put (i := i) h
    exact hQ _ E1 (fun j hj => List.getElem?_set_ne (Ne.symm (by simpa [tgIx] using hj))) (by rw [List.length_set]) o1
  | tup is =>
    cases d <;> simp only [bindT] at hb <;> try (cases hb; done)
    rename_i ds
    split at hb
    · rename_i hl
      obtain rfl := Option.some.inj hb
      cases h with
      | @tup a vs ds hs hr =>
        refine ⟨a, vs, rfl, hs, by rw [hr.length]; exact hl, ?_⟩
        clear hb hs
        have key : ∀ (is : List Nat) (vs : List V) (ds : List D) (ρ : Rho) (σ : L2.St), ds.length = is.length → EnvR g Fb ρ σ H → RpL g.K H (Ot Fb ρ σ) vs ds →
            (∀ σ', EnvR g Fb ((is.zip ds).foldl (fun ρ p => ρ.set p.1 (Slot.s .fz p.2)) ρ) σ' H → (∀ j, j ∉ is → σ'[j]? = σ[j]?) → σ'.length = σ.length → (∀ j b, Own ((is.zip ds).foldl (fun ρ p => ρ.set p.1 (Slot.s .fz p.2)) ρ) σ' j b → Own ρ σ j b) → Q σ' H) → tTgs is vs σ H Q := by
          intro is
          induction is with
          | nil =>
            intro vs ds ρ σ hl En hr hQ
            cases hr with
            | nil => exact ⟨rfl, hQ σ En (fun _ _ => rfl) rfl fun _ _ z => z⟩
            | cons _ _ => cases hl
          | cons i is ih =>
            intro vs ds ρ σ hl En hr hQ
            cases hr with
            | nil => cases hl
            | @cons v d vs ds h1 h2 =>
              obtain ⟨E1, o1⟩ := En.put (i := i) h1
              refine ⟨v, vs, rfl, ?_⟩
              refine ih vs ds _ _ (Nat.succ.inj hl) E1 (h2.mono Ext.refl fun b z => ?_) fun σ' E2 k1 k2 k3 => hQ σ' E2 (fun j hj => ?_) (by rw [k2, List.length_set]) fun j b z => o1 j b (k3 j b z)
              · rcases z with z | ⟨j, z⟩
                · exact .inl (.inl z)
                · exact .inl (.inr ⟨j, o1 j b z⟩)
              · have hj' : j ≠ i ∧ j ∉ is := by simpa using hj
                rw [k1 j hj'.2, List.getElem?_set_ne (Ne.symm hj'.1)]
        exact key is vs ds ρ σ hl En hr hQ
    · cases hb
/-! ### the block's own slots -/
theorem wipe_get (σ : L2.St) : ∀ (own : List Nat) (j : Nat), j ∉ own → (L2.wipe σ own)[j]? = σ[j]?
  | [], _, _ => rfl
  | i :: is, j, h => by
    have h' : j ≠ i ∧ j ∉ is := by simpa using h
    show ((L2.wipe σ is).set i none)[j]? = _
    rw [List.getElem?_set_ne (Ne.symm h'.1)]
    exact wipe_get σ is j h'.2
theorem wipeR_get (ρ : Rho) : ∀ (own : List Nat) (j : Nat), j ∉ own → (wipeR ρ own)[j]? = ρ[j]?
  | [], _, _ => rfl
  | i :: is, j, h => by
    have h' : j ≠ i ∧ j ∉ is := by simpa using h
    show ((wipeR ρ is).set i .no)[j]? = _
    rw [List.getElem?_set_ne (Ne.symm h'.1)]
    exact wipeR_get ρ is j h'.2
theorem wipeR_len (ρ : Rho) : ∀ (own : List Nat), (wipeR ρ own).length = ρ.length
  | [] => rfl
  | i :: is => by
    show ((wipeR ρ is).set i .no).length = _
    rw [List.length_set, wipeR_len ρ is]
theorem wipeR_own (ρ : Rho) : ∀ (own : List Nat) (j : Nat), j ∈ own → ∀ m d, (wipeR ρ own)[j]? ≠ some (Slot.s m d)
  | i :: is, j, h, m, d, e => by
    have e : ((wipeR ρ is).set i .no)[j]? = some (Slot.s m d) := e
    by_cases z : j = i
    · subst z
      have l : j < (wipeR ρ is).length := by
        have := (List.getElem?_eq_some_iff.mp e).1
        rw [List.length_set] at this
        exact this
      rw [List.getElem?_set_self l] at e
      cases e
    · rw [at_set z] at e
      exact wipeR_own ρ is j ((List.mem_cons.mp h).resolve_left z) m d e
theorem backR_len (ρ ρ0 : Rho) : ∀ (own : List Nat), (backR ρ ρ0 own).length = ρ.length
  | [] => rfl
  | i :: is => by
    show ((backR ρ ρ0 is).set i _).length = _
    rw [List.length_set, backR_len ρ ρ0 is]
theorem backR_get (ρ ρ0 : Rho) : ∀ (own : List Nat) (j : Nat), j ∉ own → (backR ρ ρ0 own)[j]? = ρ[j]?
  | [], _, _ => rfl
  | i :: is, j, h => by
    have h' : j ≠ i ∧ j ∉ is := by simpa using h
    show ((backR ρ ρ0 is).set i _)[j]? = _
    rw [List.getElem?_set_ne (Ne.symm h'.1)]
    exact backR_get ρ ρ0 is j h'.2
theorem backR_own (ρ ρ0 : Rho) : ∀ (own : List Nat) (j : Nat), j ∈ own → ∀ m d, (backR ρ ρ0 own)[j]? = some (Slot.s m d) → ρ0[j]? = some (Slot.s m d)
  | i :: is, j, h, m, d, e => by
    have e : ((backR ρ ρ0 is).set i (ρ0.getD i .no))[j]? = some (Slot.s m d) := e
    by_cases z : j = i
    · subst z
      have l : j < (backR ρ ρ0 is).length := by
        have := (List.getElem?_eq_some_iff.mp e).1
        rw [List.length_set] at this
        exact this
      rw [List.getElem?_set_self l] at e
      have e := Option.some.inj e
      rw [List.getD_eq_getElem?_getD] at e
      cases q : ρ0[j]? with
      | none => rw [q] at e; cases e
      | some s => rw [q] at e; rw [← e]; rfl
    · rw [at_set z] at e
      exact backR_own ρ ρ0 is j ((List.mem_cons.mp h).resolve_left z) m d e
theorem EnvR.wiped (En : EnvR g Fb ρ σ H) (own : List Nat) : EnvR g Fb (wipeR ρ own) (L2.wipe σ own) H ∧ (∀ j b, Own (wipeR ρ own) (L2.wipe σ own) j b → Own ρ σ j b) := by
  refine ⟨En.less (fun _ z => z) En.bfb (by rw [wipeR_len, wipe_length]; exact En.len) (fun j m d q => ?_), fun j b ⟨⟨m, d, q, hm⟩, hs⟩ => ?_⟩
  · by_cases z : j ∈ own
    · exact absurd q (wipeR_own ρ own j z m d)
    · rw [wipeR_get ρ own j z] at q
      exact .inl ⟨q, wipe_get σ own j z, trivial⟩
  · by_cases z : j ∈ own
    · exact absurd q (wipeR_own ρ own j z m d)
    · rw [wipeR_get ρ own j z] at q
      rw [wipe_get σ own j z] at hs
      exact ⟨⟨m, d, q, hm⟩, hs⟩
theorem wipe_own (σ : L2.St) : ∀ (own : List Nat) (j : Nat), j ∈ own → j < σ.length → (L2.wipe σ own)[j]? = some none
  | i :: is, j, h, hl => by
    show ((L2.wipe σ is).set i none)[j]? = _
    by_cases z : j = i
    · subst z
      rw [List.getElem?_set_self (by rw [wipe_length]; exact hl)]
    · rw [List.getElem?_set_ne (Ne.symm z)]
      exact wipe_own σ is j ((List.mem_cons.mp h).resolve_left z) hl
theorem wipe_congr {σ1 σ2 : L2.St} {own : List Nat} (hl : σ1.length = σ2.length) (h : ∀ j, j ∉ own → σ1[j]? = σ2[j]?) : L2.wipe σ1 own = L2.wipe σ2 own := by
  apply List.ext_getElem?
  intro j
  by_cases z : j ∈ own
  · by_cases l : j < σ1.length
    · rw [wipe_own σ1 own j z l, wipe_own σ2 own j z (by rw [← hl]; exact l)]
    · rw [List.getElem?_eq_none (by rw [wipe_length]; omega), List.getElem?_eq_none (by rw [wipe_length, ← hl]; omega)]
  · rw [wipe_get σ1 own j z, wipe_get σ2 own j z, h j z]
/-- an own address that is kept clear of gets other items -/
theorem EnvR.updF (En : EnvR g Fb ρ σ H) {p : Addr} {o o' : HO} (hf : Fb p) (hb : ∀ i, ¬ g.Bb i p) (h0 : g.H0 p = none) (hp : H p = some o) (n1 : ∀ ps, o ≠ .tbl ps) (n2 : ∀ φ, o ≠ .ext φ) (n3 : ¬ Still o) (n4 : ∀ ps, o' ≠ .tbl ps) :
    EnvR g Fb ρ σ (upd H p o') ∧ Ext (fun a => a = p) H (upd H p o') := by
  have ex : Ext (fun a => a = p) H (upd H p o') := fun a u e hn ht => by
    by_cases z : a = p
    · subst z
      rw [hp] at e
      cases e
      rcases hn with q | q
      · exact absurd rfl q
      · exact absurd q n3
    · rw [upd_ne z]; exact e
  have exO : Ext (Ot Fb ρ σ) H (upd H p o') := ex.mono fun a z => .inl (by rw [z]; exact hf)
  refine ⟨⟨En.len, fun i m d e => ?_, En.dis, En.nfb, En.nw, En.lb, En.bb, En.bfb, fun a h => ?_, fun a h => ?_, ?_, fun q hq => ?_⟩, ex⟩
  · obtain ⟨v, e1, e2⟩ := En.slot i m d e
    refine ⟨v, e1, ?_⟩
    have same : ∀ {a : Addr} {u : HO}, a ≠ p → H a = some u → upd H p o' a = some u := fun z e => by rw [upd_ne z]; exact e
    cases m with
    | fz => exact Rp.mono exO (fun a z => .inl z) e2
    | bo =>
      obtain ⟨a, u, rfl, w1, w2, w3⟩ := e2
      exact ⟨a, u, rfl, w1, same (fun z => hb i (by rw [← z]; exact En.bb i a d e e1)) w2, w3.mono exO fun a z => .inl z⟩
    | ow =>
      obtain ⟨a, u, rfl, w2, w3⟩ := e2
      exact ⟨a, u, rfl, same (fun z => En.nfb i a ⟨⟨_, d, e, .inl rfl⟩, e1⟩ (by rw [z]; exact hf)) w2, w3.mono exO fun a z => .inl z⟩
    | le =>
      obtain ⟨a, u, rfl, w2, w3⟩ := e2
      exact ⟨a, u, rfl, same (fun z => En.nfb i a ⟨⟨_, d, e, .inr rfl⟩, e1⟩ (by rw [z]; exact hf)) w2, w3.mono exO fun a z => .inl z⟩
  · by_cases z : a = p
    · exact ⟨o', by rw [z, upd_same], n4⟩
    · rw [upd_ne z]
      exact En.fb a h
  · by_cases z : a = p
    · rw [z, upd_same] at h; cases h
    · rw [upd_ne z] at h
      exact En.dom a h
  · exact En.ext.trans ex fun a z => .inr (by rw [z]; exact h0)
  · obtain ⟨ps, y1, y2, y3⟩ := En.tabs q hq
    have k1 : q.1 ≠ p := fun z => by rw [z, hp] at y1; cases y1; exact n1 ps rfl
    refine ⟨ps, by rw [upd_ne k1]; exact y1, y2, fun pos cv w => ?_⟩
    obtain ⟨c0, z1, z2⟩ := y3 pos cv w
    refine ⟨c0, z1, ?_⟩
    have k2 : c0 ≠ p := fun z => by rw [z, hp] at z2; cases z2; exact n2 _ rfl
    rw [upd_ne k2]
    exact z2
end
end Mx
end

section
set_option Elab.async false
set_option linter.all false
set_option maxRecDepth 100000
set_option maxHeartbeats 2000000
/-! Comprehensions, all(..). -/
namespace Mx
open PySem PySem.Spec PyProof.Rows L2
/-- the state in a walk's turn -/
structure CSt (g : Fr) (FbL Xm : Addr → Prop) (S : Hp → (Addr → Prop) → (Addr → Prop) → Prop) (lc : Bool) (ρ1 : Rho) (σ : L2.St) (H1 : Hp) (ρ : Rho) (σ' : L2.St) (H : Hp) : Prop where
  env : EnvR g FbL ρ σ' H
  src : S H (Ot FbL ρ σ') (fun a => Xm a ∨ Om ρ σ' a)
  xm : ∀ a, Xm a → FbL a
  ext : Ext (fun a => lc = true ∧ Om ρ1 σ a) H1 H
  own : ∀ j b, Own ρ σ' j b → Own ρ1 σ j b
  dom : ∀ a, H a = none → H1 a = none
section
variable {g : Fr} {FbL Xm : Addr → Prop} {K : PySem.W.Frag} {J : It} {S : Hp → (Addr → Prop) → (Addr → Prop) → Prop} {ds : List D} {lc lo : Bool} {ρ1 ρ ρ' : Rho} {σ σ' σ'' : L2.St} {H1 H H' : Hp}
theorem CSt.next (W : Walk K J S ds) (C : CSt g FbL Xm S lc ρ1 σ H1 ρ σ' H) (E : EnvR g FbL ρ' σ'' H') (hx : Ext (fun a => lo = true ∧ Om ρ σ' a) H H') (hl : lo = true → lc = true) (ho : ∀ j b, Own ρ' σ'' j b → Own ρ σ' j b) (hd : ∀ a, H' a = none → H a = none) : CSt g FbL Xm S lc ρ1 σ H1 ρ' σ'' H' := by
  refine ⟨E, W.keep C.src (fun a z => z.elim (fun z => .inl (C.xm a z)) fun ⟨i, z⟩ => .inr ⟨i, z⟩) (hx.mono fun a z => .inr z.2) (fun a z => ?_) (fun a z => .inl (z.imp id fun ⟨i, z⟩ => ⟨i, ho i a z⟩)), C.xm, C.ext.trans hx fun a ⟨z, i, y⟩ => .inl ⟨hl z, i, C.own i a y⟩, fun j b z => C.own j b (ho j b z), fun a z => C.dom a (hd a z)⟩
  rcases z with z | ⟨i, z⟩
  · exact .inl (.inl z)
  · exact .inl (.inr ⟨i, ho i a z⟩)
theorem CSt.wiped (W : Walk K J S ds) (C : CSt g FbL Xm S lc ρ1 σ H1 ρ σ' H) (own : List Nat) : CSt g FbL Xm S lc ρ1 σ H1 (wipeR ρ own) (L2.wipe σ' own) H := by
  obtain ⟨E, o⟩ := C.env.wiped own
  exact C.next W (lo := false) E Ext.refl (fun z => by cases z) o fun _ z => z
/-- a turn's item is there -/
theorem CSt.item (W : Walk K J S ds) (hK : K = g.K) (C : CSt g FbL Xm S lc ρ1 σ H1 ρ σ' H) {i : Nat} {x : V} {d : D} (hy : J.yld i H x H') (hd : ds[i]? = some d) : Rp g.K H' (Ot FbL ρ σ') x d ∧ CSt g FbL Xm S lc ρ1 σ H1 ρ σ' H' ∧ Ext (fun _ => False) H H' := by
  subst hK
  obtain ⟨h1, h2⟩ := W.yld C.src hy d hd
  rcases h2 with rfl | ⟨p, xs, h2, rfl⟩
  · exact ⟨h1, C, Ext.refl⟩
  · exact ⟨h1, C.next W (lo := false) (C.env.alloc h2) (Ext.alloc h2) (fun z => by cases z) (fun _ _ z => z) dom_upd, Ext.alloc h2⟩
/-- the list that is made -/
structure DSt (K : PySem.W.Frag) (D0 : Addr) (O : Addr → Prop) (H : Hp) (acc : List V) (ys : List D) : Prop where
  at_ : H D0 = some (.lst acc)
  its : RpL K H O acc ys
theorem DSt.next {D0 : Addr} {acc : List V} {ys : List D} {lo : Bool} (hD : FbL D0) (d : DSt K D0 (Ot FbL ρ σ') H acc ys) (E : EnvR g FbL ρ σ' H) (hx : Ext (fun a => lo = true ∧ Om ρ σ' a) H H') (ho : ∀ j b, Own ρ' σ'' j b → Own ρ σ' j b) : DSt K D0 (Ot FbL ρ' σ'') H' acc ys := by
  refine ⟨hx D0 _ d.at_ (.inl fun ⟨_, i, z⟩ => E.nfb i D0 z hD) (fun ps z => by cases z), d.its.mono (hx.mono fun a ⟨_, i, z⟩ => .inr ⟨i, z⟩) fun a z => ?_⟩
  rcases z with z | ⟨i, z⟩
  · exact .inl (.inl z)
  · exact .inl (.inr ⟨i, ho i a z⟩)
theorem DSt.weak {O O' : Addr → Prop} {D0 : Addr} {acc : List V} {ys : List D} (d : DSt K D0 O H acc ys) (h : ∀ a, O' a → O a) : DSt K D0 O' H acc ys := ⟨d.at_, d.its.mono Ext.refl fun a z => .inl (h a z)⟩
end
def E0 : XK := fun _ _ _ => False
/-- the slots as they were ahead of a comprehension -/
theorem back_env {g : Fr} {Fb FbX : Addr → Prop} {ρ1 ρ3 : Rho} {σ : L2.St} {H1 H : Hp} {own : List Nat} {lc : Bool} (E1 : EnvR g Fb ρ1 σ H1) (ok : ownOk ρ1 own = true) (E3 : EnvR g FbX ρ3 (L2.wipe σ own) H) (hf : ∀ a, FbX a → Fb a ∨ H1 a = none) (ho : ∀ j b, Own ρ3 (L2.wipe σ own) j b → Own ρ1 σ j b)
    (hx : Ext (fun a => lc = true ∧ Om ρ1 σ a) H1 H) : EnvR g FbX (backR ρ3 ρ1 own) σ H ∧ (∀ j b, Own (backR ρ3 ρ1 own) σ j b → Own ρ3 (L2.wipe σ own) j b) := by
  have no : ∀ j, j ∈ own → ∀ m d, (backR ρ3 ρ1 own)[j]? = some (Slot.s m d) → m = .fz ∧ ρ1[j]? = some (Slot.s .fz d) := fun j hj m d e => by
    have e := backR_own ρ3 ρ1 own j hj m d e
    have k := (List.all_eq_true.mp ok) j hj
    rw [e] at k
    cases m <;> first | exact ⟨rfl, e⟩ | cases k
  have o2 : ∀ j b, Own (backR ρ3 ρ1 own) σ j b → Own ρ3 (L2.wipe σ own) j b := fun j b ⟨⟨m, d, q, hm⟩, hs⟩ => by
    by_cases z : j ∈ own
    · obtain ⟨rfl, _⟩ := no j z m d q
      rcases hm with z | z <;> cases z
    · rw [backR_get ρ3 ρ1 own j z] at q
      exact ⟨⟨m, d, q, hm⟩, by rw [wipe_get σ own j z]; exact hs⟩
  refine ⟨E3.less (fun _ z => z) E3.bfb (by rw [backR_len, E3.len, wipe_length]) (fun j m d q => ?_), o2⟩
  by_cases z : j ∈ own
  · obtain ⟨rfl, e⟩ := no j z m d q
    obtain ⟨v, w1, w2⟩ := E1.slot j _ d e
    refine .inr ⟨rfl, v, w1, Rp.mono (hx.mono fun a ⟨_, i, y⟩ => .inr ⟨i, y⟩) (fun a y => ?_) w2⟩
    rcases y with y | ⟨i, y⟩
    · rcases hf a y with y | y
      · exact .inl (.inl y)
      · exact .inr y
    · exact .inl (.inr ⟨i, ho i a (o2 i a y)⟩)
  · rw [backR_get ρ3 ρ1 own j z] at q
    exact .inl ⟨q, (wipe_get σ own j z).symm, trivial⟩
section
variable {g : Pg} {c : Ck} {L : Nat} {F : FnSem} {sc : Scope} {kd : Option String} {fr : Bool} {E : XK} {X : Cx}
def tCond (g : Pg) (F : FnSem) (cond : Ex) : TT := if isNil cond = true then tYes else tB (tEv g F E0 cond)
theorem comp_ev {elt cond it : Ex} {tg : Tg} {own : List Nat} {K : PySem.W.Frag} (hK : K = g.K) (hin : ∀ j ∈ tgIx tg, j ∈ own) : ∀ σ H Q, tEv g F E (.comp elt tg own it cond) σ H Q → tLc (tIt g F E it) (tTg K tg) (tCond g F cond) (tEv g F E0 elt) own σ H Q := by
  subst hK
  intro σ H Q ⟨H0, Lb, Bb, Fb, ρ, En, h⟩
  refine ⟨H0, Lb, Bb, Fb, ρ, En, ?_⟩
  unfold ev at h
  cases he : ev F it ρ with
  | stuck => rw [he] at h; exact h.elim
  | exc x => rw [he] at h; cases x; exact fun dd H' px hx => h dd H' (px.lo_mono fun z => by show (lends it || lends elt || lends cond) = true; rw [z]; rfl) hx
  | ok f d ρ1 =>
    rw [he] at h
    cases d <;> try exact h.elim
    rename_i ds
    simp only at h
    by_cases hok : (ownOk ρ1 own && decide (ds.length ≤ line)) = true
    · rw [if_pos hok] at h
      rw [Bool.and_eq_true] at hok
      obtain ⟨ok1, ok2⟩ := hok
      have ok2 := of_decide_eq_true ok2
      generalize hcm : compL (wipeR · own) (bindT tg) (fun ρ => if isNil cond = true then Res.ok false (.bool true) ρ else ev F cond ρ) (ev F elt) ds (lockR it ρ1) = r at h
      cases r with
      | stuck => exact h.elim
      | exc x => exact h.elim
      | ok f2 d2 ρ2 =>
        cases d2 <;> try exact h.elim
        rename_i YS
        simp only at h
        cases hun : unlockR it ρ1 (wipeR ρ2 own) with
        | none => rw [hun] at h; exact h.elim
        | some ρ3 =>
          rw [hun] at h
          simp only at h
          intro J H1 S W pi D hD
          have fnw := fresh_new pi.env hD (o := .lst []) (d := .list []) (.inl ⟨[], [], rfl, rfl, .nil⟩)
          obtain ⟨p, o, e1, e2, e3, e4, e5, EX⟩ := fnw
          cases e1
          have fx : ∀ a, (a = D ∨ Fb a) → Fb a ∨ H1 a = none := fun a z => z.elim (fun z => .inr (by rw [z]; exact hD)) .inl
          obtain ⟨Bb', FbL, lk, s0⟩ := pi.src (fun a => a = D ∨ Fb a) (upd H1 D (.lst [])) EX (Ext.alloc hD) fx (fun a z => .inr z)
          have hDL : FbL D := lk.up D (.inl rfl)
          have hBn : ∀ i, ¬ Bb' i D := fun i z => by
            rcases lk.bbd i D z with y | y
            · have := pi.env.bfb i D y
              exact e3 this
            · exact pi.env.ot_some (.inr ⟨i, y⟩) hD
          have lcD : ∀ {lo : Bool}, (lo = true → (lends elt || lends cond) = true) → lo = true → (lends elt || lends cond) = true := fun z => z
          have C0 : CSt (g.fr H0 Lb Bb') FbL (fun a => a = D) S (lends elt || lends cond) ρ1 σ H1 (lockR it ρ1) σ (upd H1 D (.lst [])) := ⟨lk.env, s0 _ fun a z => z.elim (fun z => .inr (by rw [z]; exact hD)) .inl, fun a z => by rw [z]; exact hDL, Ext.alloc hD, lk.own, dom_upd⟩
          refine ⟨fun i m H => ∃ ρi acc ys zs f, CSt (g.fr H0 Lb Bb') FbL (fun a => a = D) S (lends elt || lends cond) ρ1 σ H1 (wipeR ρi own) (L2.wipe σ own) H ∧ DSt g.K D (Ot FbL (wipeR ρi own) (L2.wipe σ own)) H acc ys ∧ i ≤ ds.length ∧ m = ds.length - i ∧
            compL (wipeR · own) (bindT tg) (fun ρ => if isNil cond = true then Res.ok false (.bool true) ρ else ev F cond ρ) (ev F elt) (ds.drop i) ρi = .ok f (.list zs) ρ2 ∧ ys ++ zs = YS ∧ ys.length ≤ i, ⟨ds.length, lockR it ρ1, [], [], YS, f2, C0.wiped W own, ⟨upd_same, .nil⟩, Nat.zero_le _, rfl, hcm, rfl, Nat.le_refl _⟩, ?_⟩
          rintro i m H' ⟨ρi, acc, ys, zs, f3, C, DS, hi, rfl, hc, hy, hyl⟩
          by_cases hlt : i < ds.length
          · right
            refine ⟨W.go C.src hlt, fun H'' => ∃ ρi acc ys zs f, CSt (g.fr H0 Lb Bb') FbL (fun a => a = D) S (lends elt || lends cond) ρ1 σ H1 (wipeR ρi own) (L2.wipe σ own) H'' ∧ DSt g.K D (Ot FbL (wipeR ρi own) (L2.wipe σ own)) H'' acc ys ∧
              compL (wipeR · own) (bindT tg) (fun ρ => if isNil cond = true then Res.ok false (.bool true) ρ else ev F cond ρ) (ev F elt) (ds.drop (i + 1)) ρi = .ok f (.list zs) ρ2 ∧ ys ++ zs = YS ∧ ys.length ≤ i + 1, fun H'' ⟨ρi, acc, ys, zs, f, h1, h2, h3, h4, h5⟩ => ⟨ds.length - (i + 1), by omega, ρi, acc, ys, zs, f, h1, h2, hlt, rfl, h3, h4, h5⟩, fun x H2 hyl2 => ?_⟩
            have hdi : ds[i]? = some ds[i] := List.getElem?_eq_getElem hlt
            obtain ⟨rx, C2, x2⟩ := C.item W rfl hyl2 hdi
            have DS2 : DSt g.K D (Ot FbL (wipeR ρi own) (L2.wipe σ own)) H2 acc ys := DS.next (lo := false) hDL C.env (x2.mono fun _ z => z.elim) fun _ _ z => z
            rw [List.drop_eq_getElem_cons hlt] at hc
            unfold compL at hc
            simp only at hc
            cases hb : bindT tg ds[i] (wipeR ρi own) with
            | none => rw [hb] at hc; cases hc
            | some ρb =>
              rw [hb] at hc
              simp only at hc
              refine bind_ok (g := g.fr H0 Lb Bb') rfl C2.env rx hb fun σ2 Eb k1 k2 k3 => ⟨wipe_congr (by rw [k2, wipe_length]) (fun j hj => ?_) |>.trans (wipe_congr (σ1 := L2.wipe σ own) (σ2 := σ) (by rw [wipe_length]) fun j hj => wipe_get σ own j hj), ?_⟩
              · exact k1 j fun z => hj (hin j z)
              · have hw2 : L2.wipe σ2 own = L2.wipe σ own := (wipe_congr (by rw [k2, wipe_length]) fun j hj => k1 j fun z => hj (hin j z)).trans (wipe_congr (by rw [wipe_length]) fun j hj => wipe_get σ own j hj)
                have Cb := C2.next W (lo := false) Eb Ext.refl (fun z => by cases z) k3 fun _ z => z
                have DSb : DSt g.K D (Ot FbL ρb σ2) H2 acc ys := DS2.next (lo := false) hDL C2.env Ext.refl k3
                -- behind the test
                have after : ∀ (b : Bool) (ρc : Rho) (H3 : Hp), CSt (g.fr H0 Lb Bb') FbL (fun a => a = D) S (lends elt || lends cond) ρ1 σ H1 ρc σ2 H3 → DSt g.K D (Ot FbL ρc σ2) H3 acc ys →
                    (match (Res.ok false (.bool b) ρc : Res) with
                    | .ok _ (.bool true) ρ2 => match ev F elt ρ2 with
                      | .ok _ y ρ3 => match compL (wipeR · own) (bindT tg) (fun ρ => if isNil cond = true then Res.ok false (.bool true) ρ else ev F cond ρ) (ev F elt) (ds.drop (i + 1)) ρ3 with
                        | .ok _ (.list ys) ρ4 => Res.ok true (.list (y :: ys)) ρ4
                        | _ => .stuck
                      | _ => .stuck
                    | .ok _ (.bool false) ρ2 => compL (wipeR · own) (bindT tg) (fun ρ => if isNil cond = true then Res.ok false (.bool true) ρ else ev F cond ρ) (ev F elt) (ds.drop (i + 1)) ρ2
                    | _ => .stuck) = .ok f3 (.list zs) ρ2 →
                    (if b = true then tEv g F E0 elt σ2 H3 fun y H4 => ∃ acc, H4 D = some (.lst acc) ∧ acc.length < sizeLine ∧ ∃ ρi acc' ys zs f, CSt (g.fr H0 Lb Bb') FbL (fun a => a = D) S (lends elt || lends cond) ρ1 σ H1 (wipeR ρi own) (L2.wipe σ own) (upd H4 D (.lst (acc ++ [y]))) ∧ DSt g.K D (Ot FbL (wipeR ρi own) (L2.wipe σ own)) (upd H4 D (.lst (acc ++ [y]))) acc' ys ∧
                        compL (wipeR · own) (bindT tg) (fun ρ => if isNil cond = true then Res.ok false (.bool true) ρ else ev F cond ρ) (ev F elt) (ds.drop (i + 1)) ρi = .ok f (.list zs) ρ2 ∧ ys ++ zs = YS ∧ ys.length ≤ i + 1
                      else ∃ ρi acc ys zs f, CSt (g.fr H0 Lb Bb') FbL (fun a => a = D) S (lends elt || lends cond) ρ1 σ H1 (wipeR ρi own) (L2.wipe σ own) H3 ∧ DSt g.K D (Ot FbL (wipeR ρi own) (L2.wipe σ own)) H3 acc ys ∧
                        compL (wipeR · own) (bindT tg) (fun ρ => if isNil cond = true then Res.ok false (.bool true) ρ else ev F cond ρ) (ev F elt) (ds.drop (i + 1)) ρi = .ok f (.list zs) ρ2 ∧ ys ++ zs = YS ∧ ys.length ≤ i + 1) := by
                  intro b ρc H3 Cc DSc heq
                  cases b with
                  | false =>
                    rw [if_neg Bool.false_ne_true]
                    have Cw := Cc.wiped W own
                    rw [hw2] at Cw
                    refine ⟨ρc, acc, ys, zs, f3, Cw, DSc.weak fun a z => ?_, heq, hy, by omega⟩
                    rcases z with z | ⟨j, z⟩
                    · exact .inl z
                    · refine .inr ⟨j, ?_⟩
                      rw [← hw2] at z
                      exact (Cc.env.wiped own).2 j a z
                  | true =>
                    rw [if_pos rfl]
                    simp only at heq
                    refine ⟨H0, Lb, Bb', FbL, ρc, Cc.env, ?_⟩
                    cases hel : ev F elt ρc with
                    | stuck => rw [hel] at heq; cases heq
                    | exc x => rw [hel] at heq; cases heq
                    | ok f4 y ρe =>
                      rw [hel] at heq
                      simp only at heq
                      intro v H4 po
                      generalize hcr : compL (wipeR · own) (bindT tg) (fun ρ => if isNil cond = true then Res.ok false (.bool true) ρ else ev F cond ρ) (ev F elt) (ds.drop (i + 1)) ρe = r at heq
                      cases r with
                      | stuck => cases heq
                      | exc x => cases heq
                      | ok f5 d5 ρ5 =>
                        cases d5 <;> try cases heq
                        rename_i zs'
                        have Ce := Cc.next W (lo := lends elt) po.env po.ext (fun z => by rw [z]; rfl) po.own po.dom
                        have DSe := DSc.next hDL Cc.env po.ext po.own
                        have hlen : acc.length = ys.length := DSe.its.length
                        refine ⟨acc, DSe.at_, by have l : line = sizeLine := rfl; omega, ?_⟩
                        obtain ⟨Eu, xu⟩ := Ce.env.updF (p := D) (o := .lst acc) (o' := .lst (acc ++ [v])) hDL hBn e2 DSe.at_ (fun ps z => by cases z) (fun ps z => by cases z) (by rintro (⟨xs, z⟩ | ⟨ob, u, z⟩) <;> cases z) (fun ps z => by cases z)
                        have xO : Ext (Ot FbL ρe σ2) H4 (upd H4 D (.lst (acc ++ [v]))) := xu.mono fun a z => .inl (by rw [z]; exact hDL)
                        have Cu : CSt (g.fr H0 Lb Bb') FbL (fun a => a = D) S (lends elt || lends cond) ρ1 σ H1 ρe σ2 (upd H4 D (.lst (acc ++ [v]))) := by
                          exact ⟨Eu, W.keep Ce.src (fun a z => z.elim (fun z => .inl (Ce.xm a z)) fun ⟨j, z⟩ => .inr ⟨j, z⟩) (xu.mono fun a z => .inl z) (fun a z => .inl z) (fun a z => .inl z), Ce.xm, Ce.ext.trans xu fun a z => .inr (by rw [z]; exact hD), Ce.own, fun a z => Ce.dom a (dom_upd a z)⟩
                        have Cw := Cu.wiped W own
                        rw [hw2] at Cw
                        refine ⟨ρe, acc ++ [v], ys ++ [y], zs', f5, Cw, ⟨upd_same, ?_⟩, hcr, by rw [List.append_assoc]; exact hy, by rw [List.length_append]; simp; omega⟩
                        refine RpL.mono xO (fun a z => ?_) (DSe.its.append (.cons po.val .nil))
                        rcases z with z | ⟨j, z⟩
                        · exact .inl (.inl z)
                        · refine .inl (.inr ⟨j, ?_⟩)
                          rw [← hw2] at z
                          exact (Ce.env.wiped own).2 j a z
                unfold tCond
                by_cases hn : isNil cond = true
                · rw [if_pos hn]
                  rw [if_pos hn] at hc
                  exact after true ρb H2 Cb DSb hc
                · rw [if_neg hn]
                  rw [if_neg hn] at hc
                  refine ⟨H0, Lb, Bb', FbL, ρb, Eb, ?_⟩
                  cases hcd : ev F cond ρb with
                  | stuck => rw [hcd] at hc; cases hc
                  | exc x => rw [hcd] at hc; cases hc
                  | ok f6 d6 ρ6 =>
                    rw [hcd] at hc
                    intro v H3 po
                    have Cc := Cb.next W (lo := lends cond) po.env po.ext (fun z => by rw [z, Bool.or_true]) po.own po.dom
                    have DSc := DSb.next hDL Cb.env po.ext po.own
                    have pv := po.val
                    cases d6 <;> try (cases hc; done)
                    rename_i b
                    cases pv
                    refine ⟨b, rfl, after b ρ6 H3 Cc DSc ?_⟩
                    cases b <;> exact hc
          · left
            have hge : ds.length ≤ i := Nat.le_of_not_lt hlt
            refine ⟨W.stop C.src hge, ?_⟩
            rw [List.drop_eq_nil_of_le hge] at hc
            unfold compL at hc
            cases hc
            rw [List.append_nil] at hy
            subst hy
            obtain ⟨Eu, ou, lu⟩ := lk.un _ _ _ _ C.env hun
            have ou' : ∀ j b, Own ρ3 (L2.wipe σ own) j b → Own ρ1 σ j b := fun j b z => (ou j b z).elim (C.own j b) And.left
            obtain ⟨Ef, of_⟩ := back_env pi.env ok1 Eu fx ou' C.ext
            have xt := ext_two pi.ext pi.own C.ext
            have Ef2 : EnvR (g.fr H0 Lb Bb) Fb (backR ρ3 ρ1 own) σ H' := Ef.less (fun a z => .inr z) pi.env.bfb (by rw [← Ef.len]) fun j m d e => .inl ⟨e, rfl, trivial⟩
            have fin : Fresh (g.fr H0 Lb Bb) Fb (backR ρ3 ρ1 own) σ H' (.ref D) (.list ys) := ⟨D, .lst acc, rfl, e2, e3, DS.at_, .inl ⟨acc, ys, rfl, rfl, DS.its.mono Ext.refl fun a z => .inl ?_⟩, Ef⟩
            · refine h (.ref D) H' ⟨Ef2, xt.mono fun a z => ⟨by show (lends it || lends elt || lends cond) = true; rw [Bool.or_assoc]; exact z.1, z.2⟩, fun j b z => pi.own j b (ou' j b (of_ j b z)), fun a z => pi.dom a (C.dom a z), fin.rp, fun _ => ⟨fin, fun p e => by cases e; exact pi.dom D hD⟩⟩
            · rcases z with z | z | ⟨j, z⟩
              · exact .inl (lk.up a (.inl z))
              · exact .inl (lk.up a (.inr z))
              · rcases ou j a (of_ j a z) with y | y
                · exact .inr ⟨j, y⟩
                · exact .inl y.2
    · rw [if_neg hok] at h
      exact h.elim
theorem all_ev {elt it : Ex} {tg : Tg} {own : List Nat} {K : PySem.W.Frag} (hK : K = g.K) (hin : ∀ j ∈ tgIx tg, j ∈ own) : ∀ σ H Q, tEv g F E (.allg elt tg own it) σ H Q → tAllG g.T (tIt g F E it) (tTg K tg) (tEv g F E0 elt) own σ H Q := by
  subst hK
  intro σ H Q ⟨H0, Lb, Bb, Fb, ρ, En, h⟩
  refine ⟨H0, Lb, Bb, Fb, ρ, En, ?_⟩
  unfold ev at h
  cases he : ev F it ρ with
  | stuck => rw [he] at h; exact h.elim
  | exc x => rw [he] at h; cases x; exact fun dd H' px hx => h dd H' (px.lo_mono fun z => by show (lends it || lends elt) = true; rw [z]; rfl) hx
  | ok f d ρ1 =>
    rw [he] at h
    cases d <;> try exact h.elim
    rename_i ds
    simp only at h
    by_cases ok1 : ownOk ρ1 own = true
    · rw [if_pos ok1] at h
      generalize hcm : allGL (wipeR · own) (bindT tg) (ev F elt) ds (lockR it ρ1) = r at h
      cases r with
      | stuck => exact h.elim
      | exc x => exact h.elim
      | ok f2 d2 ρ2 =>
        cases d2 <;> try exact h.elim
        rename_i B
        simp only at h
        cases hun : unlockR it ρ1 (wipeR ρ2 own) with
        | none => rw [hun] at h; exact h.elim
        | some ρ3 =>
          rw [hun] at h
          simp only at h
          intro J H1 S W pi
          refine ⟨pi.env.tabs, fun H2 eN dN tN => ?_⟩
          have eX : Ext (fun _ => False) H1 H2 := fun a u e _ ht => eN a u e ht
          have EX := pi.env.grow eX dN tN
          obtain ⟨Bb', FbL, lk, s0⟩ := pi.src Fb H2 EX eX (fun a z => .inl z) fun a z => z
          have C0 : CSt (g.fr H0 Lb Bb') FbL (fun _ => False) S (lends elt) ρ1 σ H1 (lockR it ρ1) σ H2 := ⟨lk.env, s0 _ fun a z => z.elim False.elim .inl, fun a z => z.elim, eX.mono fun _ z => z.elim, lk.own, dN⟩
          have fin : ∀ H', CSt (g.fr H0 Lb Bb') FbL (fun _ => False) S (lends elt) ρ1 σ H1 (wipeR ρ2 own) (L2.wipe σ own) H' → Q (.bl B) H' := fun H' C => by
            obtain ⟨Eu, ou, lu⟩ := lk.un _ _ _ _ C.env hun
            have ou' : ∀ j b, Own ρ3 (L2.wipe σ own) j b → Own ρ1 σ j b := fun j b z => (ou j b z).elim (C.own j b) And.left
            obtain ⟨Ef, of_⟩ := back_env pi.env ok1 Eu (fun a z => .inl z) ou' C.ext
            have xt := ext_two pi.ext pi.own C.ext
            exact h (.bl B) H' ⟨Ef, xt, fun j b z => pi.own j b (ou' j b (of_ j b z)), fun a z => pi.dom a (C.dom a z), .bl B, fun z => by cases z⟩
          refine ⟨fun i m H => ∃ ρi f, CSt (g.fr H0 Lb Bb') FbL (fun _ => False) S (lends elt) ρ1 σ H1 (wipeR ρi own) (L2.wipe σ own) H ∧ i ≤ ds.length ∧ m = ds.length - i ∧
            allGL (wipeR · own) (bindT tg) (ev F elt) (ds.drop i) ρi = .ok f (.bool B) ρ2, ⟨ds.length, lockR it ρ1, f2, C0.wiped W own, Nat.zero_le _, rfl, hcm⟩, ?_⟩
          rintro i m H' ⟨ρi, f3, C, hi, rfl, hc⟩
          by_cases hlt : i < ds.length
          · right
            refine ⟨W.go C.src hlt, fun x H3 hyl2 => ?_⟩
            have hdi : ds[i]? = some ds[i] := List.getElem?_eq_getElem hlt
            obtain ⟨rx, C2, x2⟩ := C.item W rfl hyl2 hdi
            rw [List.drop_eq_getElem_cons hlt] at hc
            unfold allGL at hc
            cases hb : bindT tg ds[i] (wipeR ρi own) with
            | none => rw [hb] at hc; cases hc
            | some ρb =>
              rw [hb] at hc
              simp only at hc
              refine bind_ok (g := g.fr H0 Lb Bb') rfl C2.env rx hb fun σ2 Eb k1 k2 k3 => ?_
              have hw2 : L2.wipe σ2 own = L2.wipe σ own := (wipe_congr (by rw [k2, wipe_length]) fun j hj => k1 j fun z => hj (hin j z)).trans (wipe_congr (by rw [wipe_length]) fun j hj => wipe_get σ own j hj)
              have Cb := C2.next W (lo := false) Eb Ext.refl (fun z => by cases z) k3 fun _ z => z
              refine ⟨hw2, H0, Lb, Bb', FbL, ρb, Eb, ?_⟩
              cases hel : ev F elt ρb with
              | stuck => rw [hel] at hc; cases hc
              | exc x => rw [hel] at hc; cases hc
              | ok f4 y ρe =>
                rw [hel] at hc
                intro v H4 po
                have Ce := Cb.next W (lo := lends elt) po.env po.ext id po.own po.dom
                have Cw := Ce.wiped W own
                rw [hw2] at Cw
                have pv := po.val
                cases y <;> try (cases hc; done)
                rename_i b
                cases pv
                refine ⟨b, rfl, fun hb => ?_, fun hb => ?_⟩
                · subst hb
                  exact ⟨ds.length - (i + 1), by omega, ρe, f3, Cw, hlt, rfl, hc⟩
                · subst hb
                  cases hc
                  exact fin H4 Cw
          · left
            have hge : ds.length ≤ i := Nat.le_of_not_lt hlt
            rw [List.drop_eq_nil_of_le hge] at hc
            unfold allGL at hc
            cases hc
            exact ⟨W.stop C.src hge, fin H' C⟩
    · rw [if_neg ok1] at h
      exact h.elim
end
end Mx
end

section
set_option Elab.async false
set_option linter.all false
set_option maxRecDepth 100000
set_option maxHeartbeats 2000000
/-! Calls of the program's own defs. -/
namespace Mx
open PySem PySem.Spec PyProof.Rows L2
/-- what the k-th argument is -/
def kth : Ex → Nat → Option AK
  | .cons a _, 0 => some (argK a)
  | .cons _ as, k + 1 => kth as k
  | _, _ => none
theorem kth_lent : ∀ (as : Ex) (k i : Nat), kth as k = some (.len i) → i ∈ lent as := by
  intro as
  induction as with
  | cons a as iha ih =>
    intro k i h
    unfold lent
    cases k with
    | zero =>
      have h : argK a = .len i := Option.some.inj h
      rw [h]
      exact List.mem_cons_self ..
    | succ k =>
      have := ih k i h
      split
      · exact List.mem_cons_of_mem _ this
      · exact this
  | _ => intro k i h; cases k <;> cases h
theorem kth_bor : ∀ (as : Ex) (k i : Nat), kth as k = some (.bor i) → i ∈ borIx as := by
  intro as
  induction as with
  | cons a as iha ih =>
    intro k i h
    unfold borIx
    cases k with
    | zero =>
      have h : argK a = .bor i := Option.some.inj h
      rw [h]
      exact List.mem_cons_self ..
    | succ k =>
      have := ih k i h
      split
      · exact List.mem_cons_of_mem _ this
      · exact this
  | _ => intro k i h; cases k <;> cases h
theorem kth_nodup : ∀ (as : Ex), (lent as).Nodup → ∀ (k l i : Nat), kth as k = some (.len i) → kth as l = some (.len i) → k = l := by
  intro as
  induction as with
  | cons a as iha ih =>
    intro nd k l i h1 h2
    unfold lent at nd
    have nd2 : (lent as).Nodup := by
      split at nd
      · exact (List.nodup_cons.mp nd).2
      · exact nd
    cases k with
    | zero =>
      have h1 : argK a = .len i := Option.some.inj h1
      rw [h1] at nd
      cases l with
      | zero => rfl
      | succ l => exact absurd (kth_lent as l i h2) (List.nodup_cons.mp nd).1
    | succ k =>
      cases l with
      | zero =>
        have h2 : argK a = .len i := Option.some.inj h2
        rw [h2] at nd
        exact absurd (kth_lent as k i h1) (List.nodup_cons.mp nd).1
      | succ l => rw [ih nd2 k l i h1 h2]
  | _ => intro _ k l i h; cases k <;> cases h
theorem lent_kth : ∀ (as : Ex) (i : Nat), i ∈ lent as → ∃ k, kth as k = some (.len i) := by
  intro as
  induction as with
  | cons a as iha ih =>
    intro i h
    unfold lent at h
    split at h
    · rename_i j hj
      rcases List.mem_cons.mp h with e | h
      · exact ⟨0, by show some (argK a) = _; rw [hj, e]⟩
      · obtain ⟨k, hk⟩ := ih i h
        exact ⟨k + 1, hk⟩
    · obtain ⟨k, hk⟩ := ih i h
      exact ⟨k + 1, hk⟩
  | _ => intro i h; cases h
theorem gb_spec : ∀ (as : Ex) (outs ρ ρ2 : Rho), (lent as).Nodup → giveBack as outs ρ = some ρ2 → ρ2.length = ρ.length ∧ (∀ j, j ∉ lent as → ρ2[j]? = ρ[j]?) ∧
    (∀ (k i : Nat), kth as k = some (.len i) → ∃ (d d0 : D) (m : Md), outs[k]? = some (Slot.s .le d) ∧ (m = .ow ∨ m = .le) ∧ ρ[i]? = some (Slot.s m d0) ∧ ρ2[i]? = some (Slot.s m d)) := by
  intro as
  induction as with
  | nil =>
    intro outs ρ ρ2 _ h
    unfold giveBack at h
    split at h
    · cases h
      exact ⟨rfl, fun _ _ => rfl, fun k i z => by cases k <;> cases z⟩
    · cases h
  | cons a as iha ih =>
    intro outs ρ ρ2 nd h
    unfold giveBack at h
    unfold lent at nd ⊢
    cases outs with
    | nil => cases h
    | cons s outs =>
      simp only at h
      have rest : (∀ i, argK a ≠ .len i) → giveBack as outs ρ = some ρ2 → (lent as).Nodup → ρ2.length = ρ.length ∧ (∀ j, j ∉ lent as → ρ2[j]? = ρ[j]?) ∧
          (∀ (k i : Nat), kth (.cons a as) k = some (.len i) → ∃ (d d0 : D) (m : Md), (s :: outs)[k]? = some (Slot.s .le d) ∧ (m = .ow ∨ m = .le) ∧ ρ[i]? = some (Slot.s m d0) ∧ ρ2[i]? = some (Slot.s m d)) := fun hne h nd => by
        obtain ⟨h1, h2, h3⟩ := ih outs ρ ρ2 nd h
        refine ⟨h1, h2, fun k i hk => ?_⟩
        cases k with
        | zero => exact absurd (Option.some.inj hk) (hne i)
        | succ k =>
          obtain ⟨d, d0, m, e1, e2⟩ := h3 k i hk
          exact ⟨d, d0, m, by simpa using e1, e2⟩
      cases hk : argK a with
      | bor i => rw [hk] at h nd; exact rest (fun i z => by rw [hk] at z; cases z) h nd
      | frs => rw [hk] at h nd; exact rest (fun i z => by rw [hk] at z; cases z) h nd
      | val => rw [hk] at h nd; exact rest (fun i z => by rw [hk] at z; cases z) h nd
      | len i =>
        rw [hk] at h nd
        simp only at h nd ⊢
        obtain ⟨nd1, nd2⟩ := List.nodup_cons.mp nd
        cases s with
        | no => cases h
        | s m d =>
          cases m <;> try (cases h; done)
          simp only at h
          cases hg : giveBack as outs ρ with
          | none => rw [hg] at h; cases h
          | some ρ' =>
            rw [hg] at h
            simp only at h
            obtain ⟨h1, h2, h3⟩ := ih outs ρ ρ' nd2 hg
            have key : ∀ (m : Md) (d0 : D), (m = .ow ∨ m = .le) → ρ'[i]? = some (Slot.s m d0) → ρ2 = ρ'.set i (Slot.s m d) → ρ2.length = ρ.length ∧ (∀ j, j ∉ i :: lent as → ρ2[j]? = ρ[j]?) ∧
                (∀ (k j : Nat), kth (.cons a as) k = some (.len j) → ∃ (d' d0 : D) (m : Md), (Slot.s .le d :: outs)[k]? = some (Slot.s .le d') ∧ (m = .ow ∨ m = .le) ∧ ρ[j]? = some (Slot.s m d0) ∧ ρ2[j]? = some (Slot.s m d')) := fun m d0 hm hs e => by
              subst e
              refine ⟨by rw [List.length_set, h1], fun j hj => ?_, fun k j hj => ?_⟩
              · have hj' : j ≠ i ∧ j ∉ lent as := by simpa using hj
                rw [at_set hj'.1]
                exact h2 j hj'.2
              · cases k with
                | zero =>
                  have : argK a = .len j := Option.some.inj hj
                  rw [hk] at this
                  cases this
                  exact ⟨d, d0, m, rfl, hm, by rw [← h2 i nd1]; exact hs, at_set_i hs⟩
                | succ k =>
                  obtain ⟨d', d0', m', e1, e2, e3, e4⟩ := h3 k j hj
                  have ne : j ≠ i := fun z => nd1 (by rw [← z]; exact kth_lent as k j hj)
                  exact ⟨d', d0', m', by simpa using e1, e2, e3, by rw [at_set ne]; exact e4⟩
            cases hr : ρ'[i]? with
            | none => rw [hr] at h; cases h
            | some t =>
              cases t with
              | no => rw [hr] at h; cases h
              | s m' d0 =>
                rw [hr] at h
                cases m' <;> try (cases h; done)
                · exact key .ow d0 (.inl rfl) hr (Option.some.inj h).symm
                · exact key .le d0 (.inr rfl) hr (Option.some.inj h).symm
  | _ => intro outs ρ ρ2 _ h; unfold giveBack at h; cases h
/-! ### the arguments -/
inductive ArgR (g : Fr) (Fb FbX : Addr → Prop) (ρ' : Rho) (σ : L2.St) (H : Hp) : Ex → List V → Rho → Prop
  | nil : ArgR g Fb FbX ρ' σ H .nil [] []
  | bor {a as : Ex} {i : Nat} {v : V} {m : Md} {d : D} {vs : List V} {ss : Rho} : argK a = .bor i → σ[i]? = some (some v) → ρ'[i]? = some (Slot.s m d) → ArgR g Fb FbX ρ' σ H as vs ss → ArgR g Fb FbX ρ' σ H (.cons a as) (v :: vs) ((if m = .fz then Slot.s .fz d else Slot.s .bo d) :: ss)
  | len {a as : Ex} {i : Nat} {v : V} {m : Md} {d : D} {vs : List V} {ss : Rho} : argK a = .len i → σ[i]? = some (some v) → ρ'[i]? = some (Slot.s m d) → (m = .ow ∨ m = .le) → ArgR g Fb FbX ρ' σ H as vs ss → ArgR g Fb FbX ρ' σ H (.cons a as) (v :: vs) (Slot.s .le d :: ss)
  | frs {a : Ex} {p : Addr} {o : HO} {d : D} : argK a = .frs → FbX p → ¬ Fb p → g.H0 p = none → H p = some o → Cont g.K H (Ot FbX ρ' σ) o d → ArgR g Fb FbX ρ' σ H (.cons a .nil) [.ref p] [Slot.s .le d]
  | val {a as : Ex} {v : V} {d : D} {vs : List V} {ss : Rho} : argK a = .val → Rp g.K H (Ot FbX ρ' σ) v d → ArgR g Fb FbX ρ' σ H as vs ss → ArgR g Fb FbX ρ' σ H (.cons a as) (v :: vs) (Slot.s .fz d :: ss)
/-- one argument -/
def ArgAt (g : Fr) (Fb FbX : Addr → Prop) (ρ' : Rho) (σ : L2.St) (H : Hp) (as : Ex) (n k : Nat) (v : V) (s : Slot) : Prop :=
  (∃ i m d, kth as k = some (.bor i) ∧ σ[i]? = some (some v) ∧ ρ'[i]? = some (Slot.s m d) ∧ ((m = .fz ∧ s = Slot.s .fz d) ∨ (m ≠ .fz ∧ s = Slot.s .bo d))) ∨
  (∃ i m d, kth as k = some (.len i) ∧ σ[i]? = some (some v) ∧ ρ'[i]? = some (Slot.s m d) ∧ (m = .ow ∨ m = .le) ∧ s = Slot.s .le d) ∨
  (∃ p o d, kth as k = some .frs ∧ k + 1 = n ∧ v = .ref p ∧ FbX p ∧ ¬ Fb p ∧ g.H0 p = none ∧ H p = some o ∧ Cont g.K H (Ot FbX ρ' σ) o d ∧ s = Slot.s .le d) ∨
  (∃ d, kth as k = some .val ∧ Rp g.K H (Ot FbX ρ' σ) v d ∧ s = Slot.s .fz d)
section
variable {g : Fr} {Fb FbX : Addr → Prop} {ρ' ρ2 : Rho} {σ : L2.St} {H H2 : Hp} {as : Ex} {vs : List V} {ss outs : Rho}
theorem ArgR.len_eq (h : ArgR g Fb FbX ρ' σ H as vs ss) : ss.length = vs.length := by
  induction h with
  | nil => rfl
  | bor _ _ _ _ ih => exact congrArg Nat.succ ih
  | len _ _ _ _ _ ih => exact congrArg Nat.succ ih
  | frs => rfl
  | val _ _ _ ih => exact congrArg Nat.succ ih
theorem ArgAt.up {a : Ex} {n k : Nat} {v : V} {s : Slot} (h : ArgAt g Fb FbX ρ' σ H as n k v s) : ArgAt g Fb FbX ρ' σ H (.cons a as) (n + 1) (k + 1) v s := by
  rcases h with ⟨i, m, d, h1, h2⟩ | ⟨i, m, d, h1, h2⟩ | ⟨p, o, d, h1, h2, h3⟩ | ⟨d, h1, h2⟩
  · exact .inl ⟨i, m, d, h1, h2⟩
  · exact .inr (.inl ⟨i, m, d, h1, h2⟩)
  · exact .inr (.inr (.inl ⟨p, o, d, h1, by omega, h3⟩))
  · exact .inr (.inr (.inr ⟨d, h1, h2⟩))
theorem ArgR.at_ (h : ArgR g Fb FbX ρ' σ H as vs ss) : ∀ (k : Nat) (s : Slot), ss[k]? = some s → ∃ v, vs[k]? = some v ∧ ArgAt g Fb FbX ρ' σ H as vs.length k v s := by
  induction h with
  | nil => intro k s e; simp at e
  | @bor a as i v m d vs ss h1 h2 h3 h4 ih =>
    intro k s e
    cases k with
    | zero =>
      simp only [List.getElem?_cons_zero] at e
      refine ⟨v, rfl, .inl ⟨i, m, d, by show some (argK a) = _; rw [h1], h2, h3, ?_⟩⟩
      by_cases hm : m = .fz
      · rw [if_pos hm] at e
        exact .inl ⟨hm, (Option.some.inj e).symm⟩
      · rw [if_neg hm] at e
        exact .inr ⟨hm, (Option.some.inj e).symm⟩
    | succ k =>
      obtain ⟨w, e1, e2⟩ := ih k s (by simpa using e)
      exact ⟨w, by simpa using e1, e2.up⟩
  | @len a as i v m d vs ss h1 h2 h3 h4 h5 ih =>
    intro k s e
    cases k with
    | zero =>
      simp only [List.getElem?_cons_zero] at e
      exact ⟨v, rfl, .inr (.inl ⟨i, m, d, by show some (argK a) = _; rw [h1], h2, h3, h4, (Option.some.inj e).symm⟩)⟩
    | succ k =>
      obtain ⟨w, e1, e2⟩ := ih k s (by simpa using e)
      exact ⟨w, by simpa using e1, e2.up⟩
  | @frs a p o d h1 h2 h3 h4 h5 h6 =>
    intro k s e
    cases k with
    | zero =>
      simp only [List.getElem?_cons_zero] at e
      exact ⟨_, rfl, .inr (.inr (.inl ⟨p, o, d, by show some (argK a) = _; rw [h1], rfl, rfl, h2, h3, h4, h5, h6, (Option.some.inj e).symm⟩))⟩
    | succ k => simp at e
  | @val a as v d vs ss h1 h2 h3 ih =>
    intro k s e
    cases k with
    | zero =>
      simp only [List.getElem?_cons_zero] at e
      exact ⟨v, rfl, .inr (.inr (.inr ⟨d, by show some (argK a) = _; rw [h1], h2, (Option.some.inj e).symm⟩))⟩
    | succ k =>
      obtain ⟨w, e1, e2⟩ := ih k s (by simpa using e)
      exact ⟨w, by simpa using e1, e2.up⟩
/-- lent to the callee -/
def Lt (ss : Rho) (vs : List V) (k : Nat) (a : Addr) : Prop := (∃ d : D, ss[k]? = some (Slot.s .le d)) ∧ vs[k]? = some (V.ref a)
def Bt (ss : Rho) (vs : List V) (k : Nat) (a : Addr) : Prop := (∃ d : D, ss[k]? = some (Slot.s .bo d)) ∧ vs[k]? = some (V.ref a)
/-- what is lent is own, or new -/
theorem lt_own (h : ArgR g Fb FbX ρ' σ H as vs ss) {k : Nat} {a : Addr} (l : Lt ss vs k a) : (∃ i, kth as k = some (.len i) ∧ Own ρ' σ i a) ∨ (kth as k = some .frs ∧ k + 1 = vs.length ∧ FbX a ∧ ¬ Fb a ∧ g.H0 a = none) := by
  obtain ⟨⟨d, e⟩, ev⟩ := l
  obtain ⟨v, e1, e2⟩ := h.at_ k _ e
  rw [ev] at e1
  cases e1
  rcases e2 with ⟨i, m, d', h1, h2, h3, h4⟩ | ⟨i, m, d', h1, h2, h3, h4, h5⟩ | ⟨p, o, d', h1, h2, h3, h4, h5, h6, _⟩ | ⟨d', h1, h2, h3⟩
  · rcases h4 with ⟨_, h4⟩ | ⟨_, h4⟩ <;> cases h4
  · exact .inl ⟨i, h1, ⟨m, d', h3, h4⟩, h2⟩
  · cases h3
    exact .inr ⟨h1, h2, h4, h5, h6⟩
  · cases h3
theorem lt_ot (h : ArgR g Fb FbX ρ' σ H as vs ss) {k : Nat} {a : Addr} (l : Lt ss vs k a) : Ot FbX ρ' σ a := by
  rcases lt_own h l with ⟨i, _, z⟩ | ⟨_, _, z, _⟩
  · exact .inr ⟨i, z⟩
  · exact .inl z
theorem lt_nfb (h : ArgR g Fb FbX ρ' σ H as vs ss) (E : EnvR g FbX ρ' σ H) (hup : ∀ a, Fb a → FbX a) {k : Nat} {a : Addr} (l : Lt ss vs k a) : ¬ Fb a := by
  rcases lt_own h l with ⟨i, _, z⟩ | ⟨_, _, _, z, _⟩
  · exact fun q => E.nfb i a z (hup a q)
  · exact z
/-- the callee's frame begins well -/
theorem args_ok (h : ArgR g Fb FbX ρ' σ H as vs ss) (E : EnvR g FbX ρ' σ H) (hup : ∀ a, Fb a → FbX a) (hbf : ∀ i a, g.Bb i a → Fb a) (hl : lentOk as = true) :
    EnvR ⟨g.K, g.T, H, Lt ss vs, Bt ss vs⟩ (fun a => Ot FbX ρ' σ a ∧ ¬ ∃ k, Lt ss vs k a) ss (vs.map some) H := by
  unfold lentOk at hl
  rw [Bool.and_eq_true] at hl
  have nd : (lent as).Nodup := of_decide_eq_true hl.1
  have nb : ∀ i, i ∈ lent as → i ∉ borIx as := fun i hi hj => by
    have := (List.all_eq_true.mp hl.2) i hi
    rw [List.contains_iff_mem.mpr hj] at this
    cases this
  have vat : ∀ {k : Nat} {v : V}, vs[k]? = some v → (vs.map some)[k]? = some (some v) := fun e => by rw [List.getElem?_map, e]; rfl
  have vat' : ∀ {k : Nat} {v : V}, (vs.map some)[k]? = some (some v) → vs[k]? = some v := fun {k v} e => by
    rw [List.getElem?_map] at e
    cases q : vs[k]? with
    | none => rw [q] at e; cases e
    | some w => rw [q] at e; cases e; rfl
  have own : ∀ {k : Nat} {a : Addr}, Own ss (vs.map some) k a → Lt ss vs k a := fun {k a} ⟨⟨m, d, e, hm⟩, e2⟩ => by
    refine ⟨?_, vat' e2⟩
    obtain ⟨v, e1, ha⟩ := h.at_ k _ e
    rcases ha with ⟨i, m', d', h1, h2, h3, h4⟩ | ⟨i, m', d', h1, h2, h3, h4, h5⟩ | ⟨p, o, d', h1, h2, h3, h4, h5, h6, h7, h8, h9⟩ | ⟨d', h1, h2, h3⟩
    · rcases h4 with ⟨_, h4⟩ | ⟨_, h4⟩ <;> cases h4 <;> rcases hm with z | z <;> cases z
    · cases h5; exact ⟨_, e⟩
    · cases h9; exact ⟨_, e⟩
    · cases h3
      rcases hm with z | z <;> cases z
  have sub : ∀ a, Ot (fun a => Ot FbX ρ' σ a ∧ ¬ ∃ k, Lt ss vs k a) ss (vs.map some) a → Ot FbX ρ' σ a ∨ H a = none := fun a z => by
    rcases z with z | ⟨k, z⟩
    · exact .inl z.1
    · exact .inl (lt_ot h (own z))
  have bo_ok : ∀ {k : Nat} {a : Addr} {d : D}, ss[k]? = some (Slot.s .bo d) → vs[k]? = some (.ref a) → (Ot FbX ρ' σ a ∧ ¬ ∃ k, Lt ss vs k a) ∧ ∃ o, H a = some o ∧ Cont g.K H (Ot FbX ρ' σ) o d := fun {k a d} e ev => by
    obtain ⟨v, e1, ha⟩ := h.at_ k _ e
    rw [ev] at e1
    cases e1
    rcases ha with ⟨i, m', d', h1, h2, h3, h4⟩ | ⟨i, m', d', h1, h2, h3, h4, h5⟩ | ⟨p, o, d', h1, h2, h3, h4, h5, h6, h7, h8, h9⟩ | ⟨d', h1, h2, h3⟩
    · rcases h4 with ⟨_, h4⟩ | ⟨hne, h4⟩
      · cases h4
      · cases h4
        obtain ⟨w, w1, w2⟩ := E.slot i m' _ h3
        rw [h2] at w1
        cases w1
        have tr : ∃ o, H a = some o ∧ Cont g.K H (Ot FbX ρ' σ) o d := by
          cases m' with
          | fz => exact absurd rfl hne
          | bo => obtain ⟨b, o, q1, q2, q3, q4⟩ := w2; cases q1; exact ⟨o, q3, q4⟩
          | ow => obtain ⟨b, o, q1, q3, q4⟩ := w2; cases q1; exact ⟨o, q3, q4⟩
          | le => obtain ⟨b, o, q1, q3, q4⟩ := w2; cases q1; exact ⟨o, q3, q4⟩
        refine ⟨⟨?_, fun ⟨l, z⟩ => ?_⟩, tr⟩
        · cases m' with
          | fz => exact absurd rfl hne
          | bo => exact .inl (E.bfb i a (E.bb i a d h3 h2))
          | ow => exact .inr ⟨i, ⟨_, _, h3, .inl rfl⟩, h2⟩
          | le => exact .inr ⟨i, ⟨_, _, h3, .inr rfl⟩, h2⟩
        · cases m' with
          | fz => exact absurd rfl hne
          | bo => exact lt_nfb h E hup z (hbf i a (E.bb i a d h3 h2))
          | ow =>
            have oi : Own ρ' σ i a := ⟨⟨_, _, h3, .inl rfl⟩, h2⟩
            rcases lt_own h z with ⟨j, y1, y2⟩ | ⟨_, _, y, _⟩
            · have := E.dis i j a oi y2
              subst this
              exact nb i (kth_lent as l i y1) (kth_bor as k i h1)
            · exact E.nfb i a oi y
          | le =>
            have oi : Own ρ' σ i a := ⟨⟨_, _, h3, .inr rfl⟩, h2⟩
            rcases lt_own h z with ⟨j, y1, y2⟩ | ⟨_, _, y, _⟩
            · have := E.dis i j a oi y2
              subst this
              exact nb i (kth_lent as l i y1) (kth_bor as k i h1)
            · exact E.nfb i a oi y
    · cases h5
    · cases h9
    · cases h3
  refine ⟨by rw [List.length_map]; exact h.len_eq, fun k m d e => ?_, fun k l a h1 h2 => ?_, fun k a h1 h2 => h2.2 ⟨k, own h1⟩, fun k a d e _ => ?_, fun k a d e e2 => ⟨⟨d, e⟩, vat' e2⟩, fun k a d e e2 => ⟨⟨d, e⟩, vat' e2⟩, fun k a z => ?_, fun a z => ?_, fun a z => z, Ext.refl, E.tabs⟩
  · obtain ⟨v, e1, ha⟩ := h.at_ k _ e
    refine ⟨v, vat e1, ?_⟩
    rcases ha with ⟨i, m', d', h1, h2, h3, h4⟩ | ⟨i, m', d', h1, h2, h3, h4, h5⟩ | ⟨p, o, d', h1, h2, h3, h4, h5, h6, h7, h8, h9⟩ | ⟨d', h1, h2, h3⟩
    · rcases h4 with ⟨rfl, h4⟩ | ⟨hne, h4⟩
      · cases h4
        obtain ⟨w, w1, w2⟩ := E.slot i _ _ h3
        rw [h2] at w1
        cases w1
        exact Rp.mono Ext.refl sub w2
      · cases h4
        obtain ⟨w, w1, w2⟩ := E.slot i _ _ h3
        rw [h2] at w1
        cases w1
        have ref : ∃ a, v = .ref a := by
          cases m' with
          | fz => exact absurd rfl hne
          | bo => obtain ⟨b, o, q1, _⟩ := w2; exact ⟨b, q1⟩
          | ow => obtain ⟨b, o, q1, _⟩ := w2; exact ⟨b, q1⟩
          | le => obtain ⟨b, o, q1, _⟩ := w2; exact ⟨b, q1⟩
        obtain ⟨a, rfl⟩ := ref
        obtain ⟨z1, o, z2, z3⟩ := bo_ok e e1
        exact ⟨a, o, rfl, z1, z2, z3.mono Ext.refl sub⟩
    · cases h5
      obtain ⟨w, w1, w2⟩ := E.slot i _ _ h3
      rw [h2] at w1
      cases w1
      rcases h4 with rfl | rfl
      · obtain ⟨b, o, q1, q3, q4⟩ := w2; exact ⟨b, o, q1, q3, q4.mono Ext.refl sub⟩
      · obtain ⟨b, o, q1, q3, q4⟩ := w2; exact ⟨b, o, q1, q3, q4.mono Ext.refl sub⟩
    · cases h9
      exact ⟨p, o, h3, h7, h8.mono Ext.refl sub⟩
    · cases h3
      exact Rp.mono Ext.refl sub h2
  · have l1 := own h1
    have l2 := own h2
    rcases lt_own h l1 with ⟨i, y1, y2⟩ | ⟨y1, y2, y3, _⟩ <;> rcases lt_own h l2 with ⟨j, x1, x2⟩ | ⟨x1, x2, x3, _⟩
    · have := E.dis i j a y2 x2
      subst this
      exact kth_nodup as nd k l i y1 x1
    · exact (E.nfb i a y2 x3).elim
    · exact (E.nfb j a x2 y3).elim
    · omega
  · obtain ⟨v, e1, ha⟩ := h.at_ k _ e
    rcases ha with ⟨i, m', d', h1, h2, h3, h4⟩ | ⟨i, m', d', h1, h2, h3, h4, h5⟩ | ⟨p, o, d', h1, h2, h3, h4, h5, h6, h7, h8, h9⟩ | ⟨d', h1, h2, h3⟩
    · rcases h4 with ⟨_, h4⟩ | ⟨_, h4⟩ <;> cases h4
    · cases h5
    · cases h9
    · cases h3
  · obtain ⟨⟨d, e⟩, ev⟩ := z
    exact (bo_ok e ev).1
  · rcases z.1 with y | ⟨i, y⟩
    · exact E.fb a y
    · obtain ⟨o, d, m, _, e, co⟩ := E.tracked y
      exact ⟨o, e, co.ntbl⟩
/-- back in the caller -/
theorem back_call (h : ArgR g Fb FbX ρ' σ H as vs ss) (E : EnvR g FbX ρ' σ H) (hup : ∀ a, Fb a → FbX a) (hbf : ∀ i a, g.Bb i a → Fb a) (hl : lentOk as = true) {FbC FbR : Addr → Prop}
    (EC : EnvR ⟨g.K, g.T, H, Lt ss vs, Bt ss vs⟩ FbC outs (vs.map some) H2) (hx : Ext (Om ss (vs.map some)) H H2) (hC : ∀ a, (Ot FbX ρ' σ a ∧ ¬ ∃ k, Lt ss vs k a) → FbC a) (hR1 : ∀ a, FbR a → Fb a ∨ (H a = none ∧ FbC a)) (hR2 : ∀ a, Fb a → FbR a) (gb : giveBack as outs ρ' = some ρ2) :
    EnvR g FbR ρ2 σ H2 ∧ (∀ j b, Own ρ2 σ j b → Own ρ' σ j b) ∧ (∀ a, Ot FbR ρ2 σ a → Ot FbC outs (vs.map some) a) := by
  have hl' := hl
  unfold lentOk at hl'
  rw [Bool.and_eq_true] at hl'
  have nd : (lent as).Nodup := of_decide_eq_true hl'.1
  obtain ⟨g1, g2, g3⟩ := gb_spec as outs ρ' ρ2 nd gb
  have vat : ∀ {k : Nat} {v : V}, vs[k]? = some v → (vs.map some)[k]? = some (some v) := fun e => by rw [List.getElem?_map, e]; rfl
  have vat' : ∀ {k : Nat} {v : V}, (vs.map some)[k]? = some (some v) → vs[k]? = some v := fun {k v} e => by
    rw [List.getElem?_map] at e
    cases q : vs[k]? with
    | none => rw [q] at e; cases e
    | some w => rw [q] at e; cases e; rfl
  have omL : ∀ a, Om ss (vs.map some) a → ∃ k, Lt ss vs k a := fun a ⟨k, ⟨m, d, e, hm⟩, e2⟩ => by
    refine ⟨k, ?_, vat' e2⟩
    obtain ⟨v, e1, ha⟩ := h.at_ k _ e
    rcases ha with ⟨i, m', d', h1, h2, h3, h4⟩ | ⟨i, m', d', h1, h2, h3, h4, h5⟩ | ⟨p, o, d', h1, h2, h3, h4, h5, h6, h7, h8, h9⟩ | ⟨d', h1, h2, h3⟩
    · rcases h4 with ⟨_, h4⟩ | ⟨_, h4⟩ <;> cases h4 <;> rcases hm with z | z <;> cases z
    · cases h5; exact ⟨_, e⟩
    · cases h9; exact ⟨_, e⟩
    · cases h3
      rcases hm with z | z <;> cases z
  -- the slots behind
  have slotR : ∀ j m d, ρ2[j]? = some (Slot.s m d) → (j ∉ lent as ∧ ρ'[j]? = some (Slot.s m d)) ∨ (j ∈ lent as ∧ (m = .ow ∨ m = .le) ∧ (∃ d0, ρ'[j]? = some (Slot.s m d0)) ∧ ∃ k a, kth as k = some (.len j) ∧ σ[j]? = some (some (.ref a)) ∧ vs[k]? = some (.ref a) ∧ Lt ss vs k a ∧ outs[k]? = some (Slot.s .le d)) := fun j m d e => by
    by_cases hj : j ∈ lent as
    · obtain ⟨k, hk⟩ := lent_kth as j hj
      obtain ⟨d', d0, m', e1, e2, e3, e4⟩ := g3 k j hk
      rw [e] at e4
      cases e4
      refine .inr ⟨hj, e2, ⟨d0, e3⟩, k, ?_⟩
      -- the argument at k
      have hkl : k < ss.length := by
        rw [h.len_eq]
        have := (List.getElem?_eq_some_iff.mp e1).1
        rw [EC.len, List.length_map] at this
        exact this
      obtain ⟨v, f1, f2⟩ := h.at_ k _ (List.getElem?_eq_getElem hkl)
      rcases f2 with ⟨i, m', d', h1, h2, h3, h4⟩ | ⟨i, m', d', h1, h2, h3, h4, h5⟩ | ⟨p, o, d', h1, h2, h3, h4, h5, h6, h7, h8, h9⟩ | ⟨d', h1, h2, h3⟩
      · rw [hk] at h1; cases h1
      · rw [hk] at h1
        cases h1
        obtain ⟨w, w1, w2⟩ := E.slot j m' d' h3
        rw [h2] at w1
        cases w1
        have ref : ∃ a, v = .ref a := by
          rcases h4 with rfl | rfl
          · obtain ⟨b, o, q1, _⟩ := w2; exact ⟨b, q1⟩
          · obtain ⟨b, o, q1, _⟩ := w2; exact ⟨b, q1⟩
        obtain ⟨a, rfl⟩ := ref
        exact ⟨a, hk, h2, f1, ⟨⟨d', by rw [← h5]; exact List.getElem?_eq_getElem hkl⟩, f1⟩, e1⟩
      · rw [hk] at h1; cases h1
      · rw [hk] at h1; cases h1
    · rw [g2 j hj] at e
      exact .inl ⟨hj, e⟩
  have own : ∀ j b, Own ρ2 σ j b → Own ρ' σ j b := fun j b ⟨⟨m, d, e, hm⟩, hs⟩ => by
    rcases slotR j m d e with ⟨_, e'⟩ | ⟨_, _, ⟨d0, e'⟩, _⟩
    · exact ⟨⟨m, d, e', hm⟩, hs⟩
    · exact ⟨⟨m, d0, e', hm⟩, hs⟩
  -- what is not lent has not changed
  have lentI : ∀ {j b}, Own ρ' σ j b → (∃ k, Lt ss vs k b) → ∃ k, kth as k = some (.len j) ∧ Lt ss vs k b := fun {j b} o ⟨k, l⟩ => by
    rcases lt_own h l with ⟨i, y1, y2⟩ | ⟨_, _, y, _⟩
    · have := E.dis j i b o y2
      subst this
      exact ⟨k, y1, l⟩
    · exact (E.nfb j b o y).elim
  have sub : ∀ a, Ot FbR ρ2 σ a → Ot FbC outs (vs.map some) a := fun a z => by
    have byX : Ot FbX ρ' σ a → ((∃ k, Lt ss vs k a) → Ot FbC outs (vs.map some) a) → Ot FbC outs (vs.map some) a := fun q f => by
      by_cases hl : ∃ k, Lt ss vs k a
      · exact f hl
      · exact .inl (hC a ⟨q, hl⟩)
    rcases z with z | ⟨j, z⟩
    · rcases hR1 a z with y | y
      · exact byX (.inl (hup a y)) fun ⟨k, l⟩ => (lt_nfb h E hup l y).elim
      · exact .inl y.2
    · have o := own j a z
      refine byX (.inr ⟨j, o⟩) fun l => ?_
      obtain ⟨k, k1, k2⟩ := lentI o l
      obtain ⟨d, d0, m, e1, _⟩ := g3 k j k1
      exact .inr ⟨k, ⟨_, _, e1, .inr rfl⟩, vat k2.2⟩
  have hO : ∀ a, Om ss (vs.map some) a → Ot FbX ρ' σ a := fun a z => by
    obtain ⟨k, l⟩ := omL a z
    exact lt_ot h l
  have subX : ∀ a, Ot FbR ρ2 σ a → Ot FbX ρ' σ a ∨ H a = none := fun a z => by
    rcases z with z | ⟨j, z⟩
    · rcases hR1 a z with y | y
      · exact .inl (.inl (hup a y))
      · exact .inr y.1
    · exact .inl (.inr ⟨j, own j a z⟩)
  have xX : Ext (Ot FbX ρ' σ) H H2 := hx.mono hO
  have keep : ∀ {a o}, H a = some o → (∀ ps, o ≠ .tbl ps) → (¬ ∃ k, Lt ss vs k a) → H2 a = some o := fun {a o} e n l => hx a o e (.inl fun z => l (omL a z)) n
  refine ⟨⟨by rw [g1]; exact E.len, fun j m d e => ?_, fun i j b h1 h2 => E.dis i j b (own i b h1) (own j b h2), fun j b o z => ?_, fun j a d e hs => ?_, fun j a d e hs => ?_, fun j a d e hs => ?_, fun i a z => hR2 a (hbf i a z), fun a z => ?_, fun a z => E.dom a (EC.dom a z), ?_, EC.tabs⟩, own, sub⟩
  · rcases slotR j m d e with ⟨hj, e'⟩ | ⟨hj, hm, ⟨d0, e'⟩, k, a, k1, k2, k3, k4, k5⟩
    · obtain ⟨v, w1, w2⟩ := E.slot j m d e'
      refine ⟨v, w1, ?_⟩
      have noL : ∀ {a}, Own ρ' σ j a → ¬ ∃ k, Lt ss vs k a := fun o l => by
        obtain ⟨k, k1, _⟩ := lentI o l
        exact hj (kth_lent as k j k1)
      cases m with
      | fz => exact Rp.mono xX subX w2
      | bo =>
        obtain ⟨a, o, rfl, q2, q3, q4⟩ := w2
        have fa : Fb a := hbf j a (E.bb j a d e' w1)
        exact ⟨a, o, rfl, hR2 a fa, keep q3 q4.ntbl fun ⟨k, l⟩ => lt_nfb h E hup l fa, q4.mono xX subX⟩
      | ow =>
        obtain ⟨a, o, rfl, q3, q4⟩ := w2
        exact ⟨a, o, rfl, keep q3 q4.ntbl (noL ⟨⟨_, _, e', .inl rfl⟩, w1⟩), q4.mono xX subX⟩
      | le =>
        obtain ⟨a, o, rfl, q3, q4⟩ := w2
        exact ⟨a, o, rfl, keep q3 q4.ntbl (noL ⟨⟨_, _, e', .inr rfl⟩, w1⟩), q4.mono xX subX⟩
    · obtain ⟨v, w1, b, o, rfl, q3, q4⟩ := EC.slot k _ d k5
      rw [vat k3] at w1
      cases w1
      refine ⟨_, k2, ?_⟩
      rcases hm with rfl | rfl
      · exact ⟨a, o, rfl, q3, q4.mono Ext.refl fun x z => .inl (sub x z)⟩
      · exact ⟨a, o, rfl, q3, q4.mono Ext.refl fun x z => .inl (sub x z)⟩
  · have o' := own j b o
    rcases hR1 b z with y | y
    · exact E.nfb j b o' (hup b y)
    · exact E.ot_some (.inr ⟨j, o'⟩) y.1
  · rcases slotR j _ d e with ⟨_, e'⟩ | ⟨_, _, ⟨d0, e'⟩, _⟩
    · exact E.nw j a d e' hs
    · exact E.nw j a d0 e' hs
  · rcases slotR j _ d e with ⟨_, e'⟩ | ⟨_, _, ⟨d0, e'⟩, _⟩
    · exact E.lb j a d e' hs
    · exact E.lb j a d0 e' hs
  · rcases slotR j _ d e with ⟨_, e'⟩ | ⟨_, hm, _⟩
    · exact E.bb j a d e' hs
    · rcases hm with z | z <;> cases z
  · rcases hR1 a z with y | y
    · obtain ⟨o, e, n⟩ := E.fb a (hup a y)
      exact ⟨o, keep e n fun ⟨k, l⟩ => lt_nfb h E hup l y, n⟩
    · exact EC.fb a y.2
  · refine E.ext.trans hx fun a z => ?_
    obtain ⟨k, l⟩ := omL a z
    rcases lt_own h l with ⟨i, _, ⟨m, d, e, hm⟩, hs⟩ | ⟨_, _, _, _, y⟩
    · rcases hm with rfl | rfl
      · exact .inr (E.nw i a d e hs)
      · exact .inl ⟨i, E.lb i a d e hs⟩
    · exact .inr y
end
/-! ### evaluating the arguments -/
structure PostA (g : Fr) (Fb : Addr → Prop) (lo : Bool) (ρ : Rho) (σ : L2.St) (H : Hp) (as : Ex) (ss ρ' : Rho) (vs : List V) (H' : Hp) : Prop where
  args : ∃ FbX, EnvR g FbX ρ' σ H' ∧ ArgR g Fb FbX ρ' σ H' as vs ss ∧ (∀ a, Fb a → FbX a) ∧ (∀ a, FbX a → Fb a ∨ H a = none) ∧ (∀ i a, g.Bb i a → Fb a)
  ext : Ext (fun a => lo = true ∧ Om ρ σ a) H H'
  own : ∀ i a, Own ρ' σ i a → Own ρ σ i a
  dom : ∀ a, H' a = none → H a = none
def aRes (g : Pg) (G : Fr) (Fb : Addr → Prop) (lo : Bool) (ρ : Rho) (σ : L2.St) (H : Hp) (E : XK) (as : Ex) (r : ARes) (Q : List V → Hp → Prop) : Prop := match r with
  | .ok ss ρ' => ∀ vs H', PostA G Fb lo ρ σ H as ss ρ' vs H' → Q vs H'
  | .exc (.bad z) => ∀ dd H', PostX G lo ρ σ H H' → H' dd = some (.xd [(("name" : Str), V.str z)]) → E (.ref g.C) (some dd) H'
  | .stuck => False
section
variable {g : Pg} {c : Ck} {L : Nat} {F : FnSem} {sc : Scope} {kd : Option String} {fr : Bool} {E : XK} {X : Cx}
theorem argK_bor {a : Ex} {i : Nat} (h : argK a = .bor i) : a = .bor i := by
  cases a <;> simp only [argK] at h <;> first | (cases h; rfl) | cases h
theorem argK_len {a : Ex} {i : Nat} (h : argK a = .len i) : a = .len i := by
  cases a <;> simp only [argK] at h <;> first | (cases h; rfl) | cases h
theorem kth_lends : ∀ (as : Ex) (k i : Nat), kth as k = some (.len i) → lends as = true := by
  intro as
  induction as with
  | cons a as iha ih =>
    intro k i h
    show (lends a || lends as) = true
    cases k with
    | zero => rw [argK_len (Option.some.inj h)]; rfl
    | succ k => rw [ih k i h, Bool.or_true]
  | _ => intro k i h; cases k <;> cases h
theorem seqA_ev {H0 : Hp} {Lb Bb : Nat → Addr → Prop} {Fb : Addr → Prop} : ∀ (as : Ex), isLs as = true → ∀ (σ : L2.St) (H : Hp) (Q : List V → Hp → Prop) (ρ : Rho), EnvR (g.fr H0 Lb Bb) Fb ρ σ H → aRes g (g.fr H0 Lb Bb) Fb (lends as) ρ σ H E as (evA F as ρ) Q → tSeq g F E as σ H Q := by
  intro as
  induction as with
  | nil =>
    intro _ σ H Q ρ En h
    unfold evA at h
    exact h [] H ⟨⟨Fb, En, .nil, fun _ z => z, fun _ z => .inl z, En.bfb⟩, Ext.refl, fun _ _ z => z, fun _ z => z⟩
  | cons a as iha ih =>
    intro ia σ H Q ρ En h
    unfold evA at h
    show tOpd g F E a σ H _
    unfold tOpd
    cases hk : argK a with
    | bor i =>
      rw [hk] at h
      simp only at h ⊢
      cases hr : ρ[i]? with
      | none => rw [hr] at h; exact h.elim
      | some s =>
        cases s with
        | no => rw [hr] at h; exact h.elim
        | s m d0 =>
          rw [hr] at h
          simp only at h
          obtain ⟨v, e1, _⟩ := En.slot i m d0 hr
          refine ⟨v, e1, ih ia σ H _ ρ En ?_⟩
          cases he : evA F as ρ with
          | stuck => rw [he] at h; exact h.elim
          | exc x =>
            rw [he] at h
            cases x
            exact fun dd H' px hx => h dd H' (px.lo_mono fun z => by show (lends a || lends as) = true; rw [z, Bool.or_true]) hx
          | ok ss ρ' =>
            rw [he] at h
            simp only at h
            intro vs H' po
            obtain ⟨FbX, x1, x2, x3, x4, x5⟩ := po.args
            cases hr' : ρ'[i]? with
            | none => rw [hr'] at h; exact h.elim
            | some s' =>
              cases s' with
              | no => rw [hr'] at h; exact h.elim
              | s m' d' =>
                rw [hr'] at h
                have fin : PostA (g.fr H0 Lb Bb) Fb (lends a || lends as) ρ σ H (.cons a as) ((if m' = .fz then Slot.s .fz d' else Slot.s .bo d') :: ss) ρ' (v :: vs) H' :=
                  ⟨⟨FbX, x1, .bor hk e1 hr' x2, x3, x4, x5⟩, po.ext.mono fun x ⟨z1, z2⟩ => ⟨by rw [z1, Bool.or_true], z2⟩, po.own, po.dom⟩
                cases m' <;> exact h _ _ fin
    | len i =>
      rw [hk] at h
      simp only at h ⊢
      cases hr : ρ[i]? with
      | none => rw [hr] at h; exact h.elim
      | some s =>
        cases s with
        | no => rw [hr] at h; exact h.elim
        | s m d0 =>
          rw [hr] at h
          simp only at h
          obtain ⟨v, e1, _⟩ := En.slot i m d0 hr
          refine ⟨v, e1, ih ia σ H _ ρ En ?_⟩
          cases he : evA F as ρ with
          | stuck => rw [he] at h; exact h.elim
          | exc x =>
            rw [he] at h
            cases x
            exact fun dd H' px hx => h dd H' (px.lo_mono fun z => by show (lends a || lends as) = true; rw [z, Bool.or_true]) hx
          | ok ss ρ' =>
            rw [he] at h
            simp only at h
            intro vs H' po
            obtain ⟨FbX, x1, x2, x3, x4, x5⟩ := po.args
            cases hr' : ρ'[i]? with
            | none => rw [hr'] at h; exact h.elim
            | some s' =>
              cases s' with
              | no => rw [hr'] at h; exact h.elim
              | s m' d' =>
                rw [hr'] at h
                have fin : (m' = .ow ∨ m' = .le) → PostA (g.fr H0 Lb Bb) Fb (lends a || lends as) ρ σ H (.cons a as) (Slot.s .le d' :: ss) ρ' (v :: vs) H' := fun hm =>
                  ⟨⟨FbX, x1, .len hk e1 hr' hm x2, x3, x4, x5⟩, po.ext.mono fun x ⟨z1, z2⟩ => ⟨by rw [z1, Bool.or_true], z2⟩, po.own, po.dom⟩
                cases m' <;> first | exact h _ _ (fin (.inl rfl)) | exact h _ _ (fin (.inr rfl)) | exact h.elim
    | frs =>
      rw [hk] at h
      simp only at h ⊢
      refine ⟨H0, Lb, Bb, Fb, ρ, En, ?_⟩
      cases he : ev F a ρ with
      | stuck => rw [he] at h; exact h.elim
      | exc x =>
        rw [he] at h
        cases x
        exact fun dd H' px hx => h dd H' (px.lo_mono fun z => by show (lends a || lends as) = true; rw [z]; rfl) hx
      | ok f1 d ρ1 =>
        rw [he] at h
        cases f1 with
        | false => exact h.elim
        | true =>
          simp only at h
          by_cases hn : isNil as = true
          · rw [if_pos hn] at h
            intro v H1 po
            have en : as = .nil := by
              cases as <;> first | rfl | cases hn
            subst en
            obtain ⟨⟨p, o, rfl, f1, f2, f3, f4, f5⟩, f6⟩ := po.fresh rfl
            refine h [.ref p] H1 ⟨⟨fun a => a = p ∨ Fb a, f5, .frs hk (.inl rfl) f2 f1 f3 (f4.mono Ext.refl fun b z => .inl ?_), fun _ z => .inr z, fun b z => z.elim (fun z => .inr (by rw [z]; exact f6 p rfl)) .inl, En.bfb⟩, po.ext.mono fun x ⟨z1, z2⟩ => ⟨by show (lends a || false) = true; rw [z1]; rfl, z2⟩, po.own, po.dom⟩
            rcases z with (z | z) | ⟨i, z⟩
            · exact .inl z
            · exact .inr (.inl z)
            · exact .inr (.inr ⟨i, z⟩)
          · rw [if_neg hn] at h
            exact h.elim
    | val =>
      rw [hk] at h
      simp only at h ⊢
      refine ⟨H0, Lb, Bb, Fb, ρ, En, ?_⟩
      cases he : ev F a ρ with
      | stuck => rw [he] at h; exact h.elim
      | exc x =>
        rw [he] at h
        cases x
        exact fun dd H' px hx => h dd H' (px.lo_mono fun z => by show (lends a || lends as) = true; rw [z]; rfl) hx
      | ok f1 d ρ1 =>
        rw [he] at h
        simp only at h
        intro v H1 po
        refine ih ia σ H1 _ ρ1 po.env ?_
        cases he2 : evA F as ρ1 with
        | stuck => rw [he2] at h; exact h.elim
        | exc x =>
          rw [he2] at h
          cases x
          exact fun dd H' px hx => h dd H' (PostX.after po.ext po.own po.dom px) hx
        | ok ss ρ2 =>
          rw [he2] at h
          simp only at h
          intro vs H2 pl
          obtain ⟨FbX, x1, x2, x3, x4, x5⟩ := pl.args
          refine h (v :: vs) H2 ⟨⟨FbX, x1, .val hk (po.val.mono (pl.ext.mono fun x ⟨_, i, z⟩ => .inr ⟨i, z⟩) fun b z => ?_) x2, x3, fun b z => (x4 b z).imp id (po.dom b), x5⟩, ext_two po.ext po.own pl.ext, fun i x z => po.own i x (pl.own i x z), fun x z => po.dom x (pl.dom x z)⟩
          rcases z with z | ⟨i, z⟩
          · exact (x4 b z).imp .inl id
          · exact .inl (.inr ⟨i, pl.own i b z⟩)
  | _ => intro ia; cases ia
/-- a call -/
theorem call_fn {f nk : Nat} {as : Ex} (ha : isLs as = true) (hl : lentOk as = true) : ∀ σ H Q, tEv g F E (.call f nk as) σ H Q → tSeq g F E as σ H fun vs H1 => spF g F f vs H1 Q E := by
  intro σ H Q ⟨H0, Lb, Bb, Fb, ρ, En, h⟩
  refine seqA_ev as ha σ H _ ρ En ?_
  unfold ev at h
  cases he : evA F as ρ with
  | stuck => rw [he] at h; exact h.elim
  | exc x => rw [he] at h; cases x; exact h
  | ok ss ρ1 =>
    rw [he] at h
    simp only at h
    intro vs H1 pa
    obtain ⟨FbX, x1, x2, x3, x4, x5⟩ := pa.args
    have ao := args_ok x2 x1 x3 x5 hl
    have omL : ∀ a, Om ss (vs.map some) a → (lends as = true ∧ Om ρ σ a) ∨ H a = none := fun a ⟨k, ⟨m, d, e, hm⟩, e2⟩ => by
      have l : Lt ss vs k a := by
        rcases hm with rfl | rfl
        · exact (by
            obtain ⟨v, e1, ha⟩ := x2.at_ k _ e
            rcases ha with ⟨i, m', d', h1, h2, h3, h4⟩ | ⟨i, m', d', h1, h2, h3, h4, h5⟩ | ⟨p, o, d', h1, h2, h3, h4, h5, h6, h7, h8, h9⟩ | ⟨d', h1, h2, h3⟩
            · rcases h4 with ⟨_, h4⟩ | ⟨_, h4⟩ <;> cases h4
            · cases h5
            · cases h9
            · cases h3)
        · exact ao.lb k a d e e2
      rcases lt_own x2 l with ⟨i, y1, y2⟩ | ⟨_, _, y, y', _⟩
      · exact .inl ⟨kth_lends as k i y1, i, pa.own i a y2⟩
      · exact .inr ((x4 a y).resolve_left y')
    refine ⟨Lt ss vs, Bt ss vs, _, ss, ao, fun i a => Iff.rfl, fun i d e => ?_, x2.len_eq, ?_⟩
    · obtain ⟨v, e1, ha⟩ := x2.at_ i _ e
      rcases ha with ⟨i, m', d', h1, h2, h3, h4⟩ | ⟨i, m', d', h1, h2, h3, h4, h5⟩ | ⟨p, o, d', h1, h2, h3, h4, h5, h6, h7, h8, h9⟩ | ⟨d', h1, h2, h3⟩
      · rcases h4 with ⟨_, h4⟩ | ⟨_, h4⟩ <;> cases h4
      · cases h5
      · cases h9
      · cases h3
    · cases hf : F f ss with
      | stuck => rw [hf] at h; exact h.elim
      | exc x =>
        rw [hf] at h
        cases x
        intro dd H2 px hx
        refine h dd H2 ⟨pa.ext.trans px.ext fun a z => ?_, fun a z => pa.dom a (px.dom a z), px.tabs⟩ hx
        exact omL a z.2
      | ok f1 d outs =>
        rw [hf] at h
        simp only at h
        cases hg : giveBack as outs ρ1 with
        | none => rw [hg] at h; exact h.elim
        | some ρ2 =>
          rw [hg] at h
          intro v H2 po
          have hxx : Ext (Om ss (vs.map some)) H1 H2 := po.ext.mono fun a z => z.2
          have bC : EnvR ⟨(g.fr H0 Lb Bb).K, (g.fr H0 Lb Bb).T, H1, Lt ss vs, Bt ss vs⟩ (fun a => Ot FbX ρ1 σ a ∧ ¬ ∃ k, Lt ss vs k a) outs (vs.map some) H2 := po.env
          obtain ⟨E2, o2, s2⟩ := back_call (g := g.fr H0 Lb Bb) (FbR := Fb) x2 x1 x3 x5 hl bC hxx (fun a z => z) (fun a z => .inl z) (fun a z => z) hg
          refine h v H2 ⟨E2, pa.ext.trans hxx omL, fun i a z => pa.own i a (o2 i a z), fun a z => pa.dom a (po.dom a z), po.val.mono Ext.refl fun a z => .inl (s2 a z), fun hfr => ?_⟩
          obtain ⟨⟨q, o, rfl, f1, f2, f3, f4, f5⟩, f6⟩ := po.fresh hfr
          have hq : H1 q = none := f1
          have bC2 : EnvR ⟨(g.fr H0 Lb Bb).K, (g.fr H0 Lb Bb).T, H1, Lt ss vs, Bt ss vs⟩ (fun a => a = q ∨ (Ot FbX ρ1 σ a ∧ ¬ ∃ k, Lt ss vs k a)) outs (vs.map some) H2 := f5
          obtain ⟨E3, o3, s3⟩ := back_call (g := g.fr H0 Lb Bb) (FbR := fun a => a = q ∨ Fb a) x2 x1 x3 x5 hl bC2 hxx (fun a z => .inr z) (fun a z => z.elim (fun z => .inr ⟨by rw [z]; exact hq, .inl z⟩) .inl) (fun a z => .inr z) hg
          refine ⟨⟨q, o, rfl, x1.dom q hq, fun z => ?_, f3, f4.mono Ext.refl fun a z => .inl ?_, E3⟩, fun p e => by cases e; exact pa.dom q hq⟩
          · obtain ⟨u, y, _⟩ := x1.fb q (x3 q z)
            rw [hq] at y
            cases y
          · have w : Ot (fun a => a = q ∨ Fb a) ρ2 σ a := by
              rcases z with z | z | ⟨i, z⟩
              · exact .inl (.inl z)
              · exact .inl (.inr z)
              · exact .inr ⟨i, z⟩
            rcases s3 a w with (y | y) | ⟨i, y⟩
            · exact .inl y
            · exact .inr (.inl y)
            · exact .inr (.inr ⟨i, y⟩)
end
end Mx
end

section
set_option Elab.async false
set_option linter.all false
set_option maxRecDepth 100000
set_option maxHeartbeats 2000000
/-! All expressions. -/
namespace Mx
open PySem PySem.Spec PyProof.Rows L2
section
variable {g : Pg} {c : Ck} {L : Nat} {F : FnSem} {sc : Scope} {kd : Option String} {fr : Bool} {E : XK} {X : Cx}
theorem tOpd_mono {a : Ex} {σ : L2.St} {H : Hp} {Q Q' : VK} (h : tOpd g F E a σ H Q) (i : ∀ v H', Q v H' → Q' v H') : tOpd g F E a σ H Q' := by
  have ve : ∀ {i : Nat}, tVar i σ H Q → tVar i σ H Q' := fun ⟨v, e, q⟩ => ⟨v, e, i v H q⟩
  have ee : tEv g F E a σ H Q → tEv g F E a σ H Q' := fun ⟨H0, Lb, Bb, Fb, ρ, En, h⟩ => by
    refine ⟨H0, Lb, Bb, Fb, ρ, En, ?_⟩
    cases he : ev F a ρ with
    | stuck => rw [he] at h; exact h
    | exc x => rw [he] at h; cases x; exact h
    | ok f d ρ1 => rw [he] at h; exact fun v H' po => i v H' (h v H' po)
  unfold tOpd at h ⊢
  cases hk : argK a <;> rw [hk] at h
  · exact ve h
  · exact ve h
  · exact ee h
  · exact ee h
theorem tSeq_mono {ks : List Expr} {as : Ex} (h : PEs g F E X ks as) : ∀ (σ : L2.St) (H : Hp) (R R' : List V → Hp → Prop), (∀ zs H', zs.length = ks.length → R zs H' → R' zs H') → tSeq g F E as σ H R → tSeq g F E as σ H R' := by
  induction h with
  | nil => intro σ H R R' i q; exact i [] H rfl q
  | cons h1 h2 h3 ih =>
    intro σ H R R' i q
    exact tOpd_mono (g := g) (F := F) (E := E) q fun v H' q => ih σ H' _ _ (fun zs H2 hl q => i (v :: zs) H2 (congrArg Nat.succ hl) q) q
/-- positional and keyword values apart -/
theorem seq_split : ∀ (es ks : List Expr) (as : Ex), PEs g F E X (es ++ ks) as → ∃ (t1 : TA) (as2 : Ex), PA X es t1 ∧ PEs g F E X ks as2 ∧ es.all notStar = true ∧ (∀ σ H (R R' : List V → Hp → Prop), (∀ vs H', R vs H' → R' vs H') → t1 σ H R → t1 σ H R') ∧
    ∀ σ H (R : List V → Hp → Prop), tSeq g F E as σ H R → t1 σ H fun vs H1 => tSeq g F E as2 σ H1 fun zs H2 => vs.length = es.length ∧ zs.length = ks.length ∧ R (vs ++ zs) H2 := by
  intro es
  induction es with
  | nil =>
    intro ks as h
    exact ⟨tNil, as, pa_nil, h, rfl, fun σ H R R' i q => i [] H q, fun σ H R q => tSeq_mono h σ H R _ (fun zs H' hl q => ⟨rfl, hl, q⟩) q⟩
  | cons e es ih =>
    intro ks as h
    cases h with
    | cons h1 h2 h3 =>
      rename_i a as
      obtain ⟨t1, as2, p1, p2, p3, p4, p5⟩ := ih ks as h3
      refine ⟨tCons (tOpd g F E a) t1, as2, pa_cons h2 p1 (star_cons h1), p2, by rw [List.all_cons, h1, p3]; rfl, fun σ H R R' i q => ?_, fun σ H R q => ?_⟩
      · exact tOpd_mono (g := g) (F := F) (E := E) q fun v H' q => p4 σ H' _ _ (fun vs H2 q => i (v :: vs) H2 q) q
      · exact tOpd_mono (g := g) (F := F) (E := E) q fun v H' q => p4 σ H' _ _ (fun vs H2 q => tSeq_mono p2 σ H2 _ _ (fun zs H3 _ q => ⟨congrArg Nat.succ q.1, q.2⟩) q) (p5 σ H' _ q)
theorem kw_names {env : Env} {pos : Pos} : ∀ (kws : List Keyword), (backToKw pos (keywordEach kws env)).map (·.1) = kws.map (·.arg)
  | [] => rfl
  | ⟨a, v, p⟩ :: kws => congrArg (a :: ·) (kw_names kws)
theorem pk_of : ∀ (kws : List Keyword) {as : Ex}, PEs g F E X (kws.map (·.value)) as → PK X kws (tSeq g F E as) := by
  intro kws
  induction kws with
  | nil =>
    intro as h
    cases h with
    | nil => exact pk_nil
  | cons k kws ih =>
    intro as h
    obtain ⟨a, v, p⟩ := k
    cases h with
    | cons h1 h2 h3 => exact pk_cons h2 (ih h3)
/-- a call of a def -/
theorem sn_call (G : Good g c L sc kd fr E X) (Fa : Facts g c L F) {f nk : Nat} {x : Str} {p pos : Pos} {es : List Expr} {kws : List Keyword} {as : Ex} {ps : List Str} (hf : c.fns[f]? = some (x, ps)) (hg : glB sc x = true) (hd : (x == ("__debug__" : Str)) = false) (hn : es.length + kws.length = ps.length)
    (hk : kws.map (·.arg) = (ps.drop es.length).map some) (h : PEs g F E X (es ++ kws.map (·.value)) as) (hl : lentOk as = true) (hne : es.isEmpty = true → kws.isEmpty = true → False) : PE X (.Call (.Name x p) es kws pos) (tEv g F E (.call f nk as)) := by
  obtain ⟨a, fd, m1, m2, fo, bd, _⟩ := Fa.fns f x ps hf
  have fo' : FnOk X.prog X.w X.K X.mg X.base (CX X.prog X.w) L a fd ps (spF g F f) := by rw [G.P, G.w, G.K, G.mg, G.base]; exact fo
  have mx : X.mg x = some (.ref a) := by rw [G.mg]; exact m1
  have kp : PySem.W.keepIn X.K (.ref a) = true := by rw [G.K]; exact m2
  have gl := G.gl hg
  have hx : Passes (CX X.prog X.w) X E := fun pins σ H s e s' I q => passes_call G.tk (fun _ _ _ _ z => z) pins σ H s e s' I q
  cases kws with
  | nil =>
    cases es with
    | nil => exact (hne rfl rfl).elim
    | cons e es =>
      have h : PEs g F E X (e :: es) as := by
        have e1 : (e :: es) ++ ([] : List Keyword).map (·.value) = e :: es := List.append_nil _
        rw [e1] at h
        exact h
      have st := h.stars
      rw [List.all_cons, Bool.and_eq_true] at st
      have bi : Binds X.K fd ps [] := fun s us _ hl => by
        have e2 : us.length = ps.length := by rw [List.append_nil] at hl; exact hl
        have b := bd ps.length us [] (Nat.le_refl _) e2 (by simp)
        rw [List.append_nil] at b ⊢
        rw [List.drop_length] at b
        exact .of_eq b
      refine PE.imp (pe_call fo' G.roomL gl mx kp bi .nil hx h.pa hd (star_cons st.1) (star_fst st.2)) fun σ H Q q => ?_
      have z := call_fn h.ls hl σ H Q q
      exact tSeq_mono h σ H _ _ (fun zs H' _ q => by rw [List.append_nil]; exact q) z
  | cons k kws =>
    have hnm : (backToKw pos (keywordEach (k :: kws) X.env)).map (·.1) = (ps.drop es.length).map some := (kw_names _).trans hk
    have hall : (backToKw pos (keywordEach (k :: kws) X.env)).all (·.1.isSome) = true := by
      have : ((backToKw pos (keywordEach (k :: kws) X.env)).map (·.1)).all Option.isSome = true := by
        rw [hnm, List.all_map]
        exact List.all_eq_true.mpr fun _ _ => rfl
      rw [List.all_map] at this
      exact this
    have hany : (backToKw pos (keywordEach (k :: kws) X.env)).any (·.1.isNone) = false := by
      have : ((backToKw pos (keywordEach (k :: kws) X.env)).map (·.1)).any Option.isNone = false := by
        rw [hnm, List.any_map]
        exact List.any_eq_false.mpr fun _ _ => by simp
      rw [List.any_map] at this
      exact this
    have hfm : (backToKw pos (keywordEach (k :: kws) X.env)).filterMap (·.1) = ps.drop es.length := by
      have : ((backToKw pos (keywordEach (k :: kws) X.env)).map (·.1)).filterMap id = ps.drop es.length := by
        rw [hnm, List.filterMap_map]
        simp
      rw [List.filterMap_map] at this
      exact this
    have kb : KBn X.K fd ps es.length (ps.drop es.length) (fun us ws => us ++ ws) (fun vs zs => vs ++ zs) :=
      ⟨fun s us ws _ l1 l2 => .of_eq (bd es.length us ws (by omega) l1 (by rw [l2, List.length_drop])), fun r1 r2 => r1.append r2⟩
    have hm : (ps.drop es.length).length = ((k :: kws).map (·.value)).length := by
      rw [List.length_drop, List.length_map]
      omega
    cases es with
    | cons e es =>
      obtain ⟨t1, as2, p1, p2, p3, p4, p5⟩ := seq_split (e :: es) ((k :: kws).map (·.value)) as h
      have red : ∀ σ H Q, tEv g F E (.call f nk as) σ H Q → tCallN (e :: es).length (ps.drop (e :: es).length).length (spF g F f) (fun vs zs => vs ++ zs) E t1 (tSeq g F E as2) σ H Q := fun σ H Q q => by
        have z := p5 σ H _ (call_fn h.ls hl σ H Q q)
        refine p4 σ H _ _ (fun vs H1 q => ?_) z
        exact tSeq_mono p2 σ H1 _ _ (fun zs H2 _ q => ⟨q.1, by rw [hm]; exact q.2.1, q.2.2⟩) q
      rw [List.all_cons, Bool.and_eq_true] at p3
      exact PE.imp (pe_callN fo' G.roomL gl mx kp kb hx p1 (pk_of _ p2) hall hfm hd (star_cons p3.1) (by rw [hany, star_cons p3.1]; show ((false || (backTo pos (starEach es X.env)).any (·.1)) || false) = false; rw [star_fst p3.2]; rfl)) red
    | nil =>
      have h : PEs g F E X ((k :: kws).map (·.value)) as := h
      refine ⟨fun pins s σ H Q I q => ?_⟩
      have z := tSeq_mono h σ H _ (fun zs H2 => zs.length = ((k :: kws).map (·.value)).length ∧ spF g F f zs H2 Q E) (fun zs H2 l q => ⟨l, q⟩) (call_fn h.ls hl σ H Q q)
      refine wpAny_Call_Name_kw (ld_glob I gl mx ?_ hd)
      refine PySem.W.callWith_KW0 (h₀ := X.base) I.ok.mod.kin kp hall ?_ (by rw [hany]; rfl)
      refine thn ((pk_of (k :: kws) h).run pos pins s σ H _ I z) fun ws s2 ⟨zs, H2, I2, rz, l2, q2⟩ => ⟨I2.kIn, ?_⟩
      rw [hfm]
      exact run_fnN (n := 0) fo' G.roomL kb hx I2 .nil rz rfl (l2.trans hm.symm) q2
variable (g c F L) in
/-- what is shown of a code -/
structure Sn (x : Ex) : Prop where
  pe : ∀ {X : Cx} {sc : Scope} {kd : Option String} {fr : Bool} {E : XK} {e : Expr}, Good g c L sc kd fr E X → chkE c sc kd e x = true → PE X e (tOpd g F E x)
  pt : ∀ {X : Cx} {sc : Scope} {kd : Option String} {fr : Bool} {E : XK} {e : Expr}, Good g c L sc kd fr E X → chkE c sc kd e x = true → isVal x = true → notIf e = true → PT X e (tB (tEv g F E x))
  pw : ∀ {X : Cx} {sc : Scope} {kd : Option String} {fr : Bool} {E : XK} {op : BoolOp} {es : List Expr} {pos : Pos}, Good g c L sc kd fr E X → chkE c sc kd (.BoolOp op es pos) x = true → isVal x = true → PW X (.BoolOp op es pos) (tB (tEv g F E x))
  pl : ∀ {X : Cx} {sc : Scope} {kd : Option String} {fr : Bool} {E : XK} {es : List Expr}, Good g c L sc kd fr E X → chkL c sc kd es x = true → PEs g F E X es x
  pi : ∀ {X : Cx} {sc : Scope} {kd : Option String} {fr : Bool} {E : XK} {tg e : Expr}, Good g c L sc kd fr E X → chkI c sc kd e x = true → zipOk x tg = true → PI X tg e (tIt g F E x)
theorem cst_ev {d : D} {v : V} (hv : ∀ K H O, Rp K H O v d) : ∀ σ H Q, tEv g F E (.cst d) σ H Q → tC v σ H Q := fun σ H Q ⟨H0, Lb, Bb, Fb, ρ, En, h⟩ => h v H (PostE.pure En (.old (hv _ _ _)))
theorem glb_ev {x : Str} {d : D} {v : V} (hv : ∀ H O, Rp g.K H O v d) : ∀ σ H Q, tEv g F E (.glb x d) σ H Q → tC v σ H Q := fun σ H Q ⟨H0, Lb, Bb, Fb, ρ, En, h⟩ => h v H (PostE.pure En (.old (hv _ _)))
theorem tup_ev {as : Ex} (ha : isLs as = true) (hv : allVal as = true) (hl : exLen as ≤ 1000) : ∀ σ H Q, tEv g F E (.tup as) σ H Q → tTup (tSeq g F E as) σ H Q := by
  intro σ H Q ⟨H0, Lb, Bb, Fb, ρ, En, h⟩
  refine seq_ev as ha σ H _ ρ En ?_
  unfold ev at h
  cases he : ev F as ρ with
  | stuck => rw [he] at h; exact h.elim
  | exc x => rw [he] at h; cases x; exact h
  | ok f d ρ1 =>
    rw [he] at h
    cases d <;> try exact h.elim
    simp only at h
    intro vs H1 pl
    have l : sizeLine = 16777216 := rfl
    refine ⟨by rw [itR_len pl.items, l]; omega, fun p hp => h (.ref p) _ ?_⟩
    have z := PostE.pure (lo := false) pl.env (.tup hp (itR_val pl.items hv))
    exact ⟨z.env, (ext_two (lo2 := false) pl.ext pl.own z.ext).mono fun x ⟨y1, y2⟩ => ⟨by rw [Bool.or_false] at y1; exact y1, y2⟩, fun i x y => pl.own i x (z.own i x y), fun x y => pl.dom x (z.dom x y), z.val, fun y => by cases y⟩
theorem lst_ev {as : Ex} (ha : isLs as = true) (hv : allVal as = true) (hl : exLen as ≤ 1000) : ∀ σ H Q, tEv g F E (.lst as) σ H Q → tLst (tSeq g F E as) σ H Q := by
  intro σ H Q ⟨H0, Lb, Bb, Fb, ρ, En, h⟩
  refine seq_ev as ha σ H _ ρ En ?_
  unfold ev at h
  cases he : ev F as ρ with
  | stuck => rw [he] at h; exact h.elim
  | exc x => rw [he] at h; cases x; exact h
  | ok f d ρ1 =>
    rw [he] at h
    cases d <;> try exact h.elim
    simp only at h
    intro vs H1 pl
    have l : sizeLine = 16777216 := rfl
    refine ⟨by rw [itR_len pl.items, l]; omega, fun p hp => h (.ref p) _ ?_⟩
    have z := PostE.pure (lo := false) pl.env (.lst hp (itR_val pl.items hv))
    exact ⟨z.env, (ext_two (lo2 := false) pl.ext pl.own z.ext).mono fun x ⟨y1, y2⟩ => ⟨by rw [Bool.or_false] at y1; exact y1, y2⟩, fun i x y => pl.own i x (z.own i x y), fun x y => pl.dom x (z.dom x y), z.val, fun y => ⟨(z.fresh y).1, fun p e => pl.dom p ((z.fresh y).2 p e)⟩⟩
theorem rep_ev {a n : Ex} (hn : isVal n = true) : ∀ σ H Q, tEv g F E (.rep a n) σ H Q → tOp rRep (tEv g F E a) (tOpd g F E n) σ H Q := by
  intro σ H Q ⟨H0, Lb, Bb, Fb, ρ, En, h⟩
  show tEv g F E a σ H _
  rw [opd_val hn]
  refine ⟨H0, Lb, Bb, Fb, ρ, En, ?_⟩
  unfold ev at h
  cases he : ev F a ρ with
  | stuck => rw [he] at h; exact h.elim
  | exc x => rw [he] at h; cases x; exact fun dd H' px hx => h dd H' (px.lo_mono fun z => by show (lends a || lends n) = true; rw [z]; rfl) hx
  | ok f d ρ1 =>
    rw [he] at h
    cases f <;> try exact h.elim
    cases d <;> try exact h.elim
    rename_i ds
    simp only at h
    intro v H1 po
    obtain ⟨⟨p, o, rfl, f1, f2, f3, f4, f5⟩, f6⟩ := po.fresh rfl
    rcases f4 with ⟨vs, ds', rfl, e, r⟩ | ⟨ks, ds', rfl, e, r⟩
    · cases e
      refine ⟨H0, Lb, Bb, fun a => a = p ∨ Fb a, ρ1, f5, ?_⟩
      cases he2 : ev F n ρ1 with
      | stuck => rw [he2] at h; exact h.elim
      | exc x => rw [he2] at h; cases x; exact fun dd H' px hx => h dd H' (PostX.after po.ext po.own po.dom px) hx
      | ok f2 d2 ρ2 =>
        rw [he2] at h
        cases d2 <;> try exact h.elim
        rename_i k
        simp only at h
        by_cases hb : -(2 ^ 62) ≤ k ∧ k < 2 ^ 62 ∧ ds.length * k.toNat ≤ line
        · rw [if_pos hb] at h
          intro w H2 po2
          have q := po2.val
          cases q
          have hp2 : H2 p = some (.lst vs) := po2.ext p _ f3 (.inl fun ⟨_, i, z⟩ => f5.nfb i p z (.inl rfl)) (fun ps z => by cases z)
          have r1 : RpL g.K H1 (Ot (fun a => a = p ∨ Fb a) ρ1 σ) vs ds := RpL.mono Ext.refl (fun a z => .inl (by
            rcases z with (z | z) | ⟨i, z⟩
            · exact .inl z
            · exact .inr (.inl z)
            · exact .inr (.inr ⟨i, z⟩))) r
          have r2 : RpL g.K H2 (Ot Fb ρ2 σ) vs ds := r1.mono (po2.ext.mono fun x ⟨_, i, z⟩ => .inr ⟨i, z⟩) fun a z => .inl (by
            rcases z with z | ⟨i, z⟩
            · exact .inl (.inr z)
            · exact .inr ⟨i, po2.own i a z⟩)
          have l : line = sizeLine := rfl
          have E2 : EnvR (g.fr H0 Lb Bb) Fb ρ2 σ H2 := po2.env.less (fun a z => .inr z) po.env.bfb po2.env.len fun j m d e => .inl ⟨e, rfl, trivial⟩
          refine ⟨p, k, vs, rfl, rfl, hp2, by omega, by omega, by rw [r2.length, ← l]; exact hb.2.2, fun q hq => h (.ref q) _ ?_⟩
          have z := PostE.pure (lo := false) E2 (.lst hq (r2.rep k.toNat))
          have xt := ext_two po.ext po.own po2.ext
          exact ⟨z.env, (ext_two (lo2 := false) xt (fun i x y => po.own i x (po2.own i x y)) z.ext).mono fun x ⟨y1, y2⟩ => ⟨by rw [Bool.or_false] at y1; exact y1, y2⟩, fun i x y => po.own i x (po2.own i x (z.own i x y)), fun x y => po.dom x (po2.dom x (z.dom x y)), z.val, fun y => ⟨(z.fresh y).1, fun p e => po.dom p (po2.dom p ((z.fresh y).2 p e))⟩⟩
        · rw [if_neg hb] at h
          exact h.elim
    · cases e
theorem tEv_mono {a : Ex} {σ : L2.St} {H : Hp} {Q Q' : VK} (h : tEv g F E a σ H Q) (i : ∀ v H', Q v H' → Q' v H') : tEv g F E a σ H Q' := by
  obtain ⟨H0, Lb, Bb, Fb, ρ, En, h⟩ := h
  refine ⟨H0, Lb, Bb, Fb, ρ, En, ?_⟩
  cases he : ev F a ρ with
  | stuck => rw [he] at h; exact h
  | exc x => rw [he] at h; cases x; exact h
  | ok f d ρ1 => rw [he] at h; exact fun v H' po => i v H' (h v H' po)
theorem and_ev {a b : Ex} : ∀ σ H Q, tEv g F E (.and a b) σ H Q → tAndV (tEv g F E a) (tEv g F E b) σ H Q := by
  intro σ H Q ⟨H0, Lb, Bb, Fb, ρ, En, h⟩
  refine ⟨H0, Lb, Bb, Fb, ρ, En, ?_⟩
  unfold ev at h
  cases he : ev F a ρ with
  | stuck => rw [he] at h; exact h.elim
  | exc x => rw [he] at h; cases x; exact fun dd H' px hx => h dd H' (px.lo_mono fun z => by show (lends a || lends b) = true; rw [z]; rfl) hx
  | ok f d ρ1 =>
    rw [he] at h
    cases d <;> try exact h.elim
    rename_i k
    intro v H1 po
    have q := po.val
    cases q
    refine ⟨k, rfl, ?_⟩
    cases k with
    | false =>
      rw [if_neg Bool.false_ne_true]
      exact h (.bl false) H1 ⟨po.env, po.ext.mono fun x ⟨z1, z2⟩ => ⟨by show (lends a || lends b) = true; rw [z1]; rfl, z2⟩, po.own, po.dom, .bl false, fun z => by cases z⟩
    | true =>
      rw [if_pos rfl]
      refine ⟨H0, Lb, Bb, Fb, ρ1, po.env, ?_⟩
      simp only at h
      cases he2 : ev F b ρ1 with
      | stuck => rw [he2] at h; exact h.elim
      | exc x => rw [he2] at h; cases x; exact fun dd H' px hx => h dd H' (PostX.after po.ext po.own po.dom px) hx
      | ok f2 d2 ρ2 =>
        rw [he2] at h
        exact fun w H2 po2 => h w H2 (po.trans po2)
theorem or_ev {a b : Ex} : ∀ σ H Q, tEv g F E (.or a b) σ H Q → tOrV (tEv g F E a) (tEv g F E b) σ H Q := by
  intro σ H Q ⟨H0, Lb, Bb, Fb, ρ, En, h⟩
  refine ⟨H0, Lb, Bb, Fb, ρ, En, ?_⟩
  unfold ev at h
  cases he : ev F a ρ with
  | stuck => rw [he] at h; exact h.elim
  | exc x => rw [he] at h; cases x; exact fun dd H' px hx => h dd H' (px.lo_mono fun z => by show (lends a || lends b) = true; rw [z]; rfl) hx
  | ok f d ρ1 =>
    rw [he] at h
    cases d <;> try exact h.elim
    rename_i k
    intro v H1 po
    have q := po.val
    cases q
    refine ⟨k, rfl, ?_⟩
    cases k with
    | true =>
      rw [if_pos rfl]
      exact h (.bl true) H1 ⟨po.env, po.ext.mono fun x ⟨z1, z2⟩ => ⟨by show (lends a || lends b) = true; rw [z1]; rfl, z2⟩, po.own, po.dom, .bl true, fun z => by cases z⟩
    | false =>
      rw [if_neg Bool.false_ne_true]
      refine ⟨H0, Lb, Bb, Fb, ρ1, po.env, ?_⟩
      simp only at h
      cases he2 : ev F b ρ1 with
      | stuck => rw [he2] at h; exact h.elim
      | exc x => rw [he2] at h; cases x; exact fun dd H' px hx => h dd H' (PostX.after po.ext po.own po.dom px) hx
      | ok f2 d2 ρ2 =>
        rw [he2] at h
        exact fun w H2 po2 => h w H2 (po.trans po2)
theorem not_ev {a : Ex} : ∀ σ H Q, tEv g F E (.not a) σ H Q → tNotV (tEv g F E a) σ H Q := by
  intro σ H Q ⟨H0, Lb, Bb, Fb, ρ, En, h⟩
  refine ⟨H0, Lb, Bb, Fb, ρ, En, ?_⟩
  unfold ev at h
  cases he : ev F a ρ with
  | stuck => rw [he] at h; exact h.elim
  | exc x => rw [he] at h; cases x; exact h
  | ok f d ρ1 =>
    rw [he] at h
    cases d <;> try exact h.elim
    rename_i k
    intro v H1 po
    have q := po.val
    cases q
    exact ⟨k, rfl, h (.bl !k) H1 ⟨po.env, po.ext, po.own, po.dom, .bl _, fun z => by cases z⟩⟩
theorem ife_ev {t a b : Ex} : ∀ σ H Q, tEv g F E (.ife t a b) σ H Q → tIf (tB (tEv g F E t)) (tEv g F E a) (tEv g F E b) σ H Q := by
  intro σ H Q ⟨H0, Lb, Bb, Fb, ρ, En, h⟩
  refine ⟨H0, Lb, Bb, Fb, ρ, En, ?_⟩
  unfold ev at h
  cases he : ev F t ρ with
  | stuck => rw [he] at h; exact h.elim
  | exc x => rw [he] at h; cases x; exact fun dd H' px hx => h dd H' (px.lo_mono fun z => by show (lends t || lends a || lends b) = true; rw [z]; rfl) hx
  | ok f d ρ1 =>
    rw [he] at h
    cases d <;> try exact h.elim
    rename_i k
    intro v H1 po
    have q := po.val
    cases q
    refine ⟨k, rfl, ?_⟩
    cases k with
    | true =>
      rw [if_pos rfl]
      refine ⟨H0, Lb, Bb, Fb, ρ1, po.env, ?_⟩
      simp only at h
      cases he2 : ev F a ρ1 with
      | stuck => rw [he2] at h; exact h.elim
      | exc x => rw [he2] at h; cases x; exact fun dd H' px hx => h dd H' ((PostX.after po.ext po.own po.dom px).lo_mono fun z => by show (lends t || lends a || lends b) = true; rw [z]; rfl) hx
      | ok f2 d2 ρ2 =>
        rw [he2] at h
        exact fun w H2 po2 => h w H2 ((po.trans po2).lo_mono fun z => by show (lends t || lends a || lends b) = true; rw [z]; rfl)
    | false =>
      rw [if_neg Bool.false_ne_true]
      refine ⟨H0, Lb, Bb, Fb, ρ1, po.env, ?_⟩
      simp only at h
      have hl : (lends t || lends b) = true → (lends t || lends a || lends b) = true := fun z => by
        rw [Bool.or_eq_true] at z
        rcases z with z | z <;> rw [z] <;> simp
      cases he2 : ev F b ρ1 with
      | stuck => rw [he2] at h; exact h.elim
      | exc x => rw [he2] at h; cases x; exact fun dd H' px hx => h dd H' ((PostX.after po.ext po.own po.dom px).lo_mono hl) hx
      | ok f2 d2 ρ2 =>
        rw [he2] at h
        exact fun w H2 po2 => h w H2 ((po.trans po2).lo_mono hl)
theorem chn_ev {o o' : Op} {a b d : Ex} (va : isVal a = true) (vb : isVal b = true) (vd : isVal d = true) {K : PySem.W.Frag} (hK : K = g.K) : ∀ σ H Q, tEv g F E (.chn o o' a b d) σ H Q → tChain (fun x y H Q => OpRd K o [x, y] H Q) (fun x y H Q => OpRd K o' [x, y] H Q) (tOpd g F E a) (tOpd g F E b) (tOpd g F E d) σ H Q := by
  subst hK
  intro σ H Q ⟨H0, Lb, Bb, Fb, ρ, En, h⟩
  unfold tChain
  rw [opd_val va, opd_val vb, opd_val vd]
  refine ⟨H0, Lb, Bb, Fb, ρ, En, ?_⟩
  unfold ev at h
  have l1 : ∀ {x y z : Bool}, x = true → (x || y || z) = true := fun h => by rw [h]; rfl
  have l2 : ∀ {x y z : Bool}, (x || y) = true → (x || y || z) = true := fun h => by rw [h]; rfl
  cases he : ev F a ρ with
  | stuck => rw [he] at h; exact h.elim
  | exc x => rw [he] at h; cases x; exact fun dd H' px hx => h dd H' (px.lo_mono l1) hx
  | ok f x ρ1 =>
    rw [he] at h
    simp only at h
    intro v H1 po
    refine ⟨H0, Lb, Bb, Fb, ρ1, po.env, ?_⟩
    cases he2 : ev F b ρ1 with
    | stuck => rw [he2] at h; exact h.elim
    | exc x => rw [he2] at h; cases x; exact fun dd H' px hx => h dd H' ((PostX.after po.ext po.own po.dom px).lo_mono l2) hx
    | ok f2 y ρ2 =>
      rw [he2] at h
      simp only at h
      intro w H2 po2
      have pt := po.trans po2
      cases ho : opD o [x, y] with
      | none => rw [ho] at h; exact h.elim
      | some q =>
        obtain ⟨f3, q⟩ := q
        rw [ho] at h
        cases q <;> try exact h.elim
        rename_i k
        refine ⟨Ot Fb ρ2 σ, [x, y], f3, .bool k, .cons (po.keep po2).top (.cons po2.val.top .nil), ho, fun z H3 pv => ?_⟩
        have hz : z = .bl k ∧ H3 = H2 := by
          cases pv with
          | old r => cases r; exact ⟨rfl, rfl⟩
        obtain ⟨rfl, rfl⟩ := hz
        refine ⟨k, rfl, ?_⟩
        cases k with
        | false =>
          rw [if_neg Bool.false_ne_true]
          exact h (.bl false) H3 ⟨pt.env, pt.ext.mono fun x ⟨z1, z2⟩ => ⟨l2 z1, z2⟩, pt.own, pt.dom, .bl false, fun z => by cases z⟩
        | true =>
          rw [if_pos rfl]
          refine ⟨H0, Lb, Bb, Fb, ρ2, po2.env, ?_⟩
          simp only at h
          cases he3 : ev F d ρ2 with
          | stuck => rw [he3] at h; exact h.elim
          | exc x => rw [he3] at h; cases x; exact fun dd H' px hx => h dd H' (PostX.after pt.ext pt.own pt.dom px) hx
          | ok f4 u ρ3 =>
            rw [he3] at h
            simp only at h
            intro w3 H4 po3
            cases ho2 : opD o' [y, u] with
            | none => rw [ho2] at h; exact h.elim
            | some q =>
              obtain ⟨f5, q⟩ := q
              rw [ho2] at h
              refine ⟨Ot Fb ρ3 σ, [y, u], f5, q, .cons (po2.keep po3).top (.cons po3.val.top .nil), ho2, fun z H5 pv => h z H5 ?_⟩
              have p3 := pt.trans po3
              have pz := PostE.pure (lo := false) p3.env pv
              exact ⟨pz.env, (ext_two (lo2 := false) p3.ext p3.own pz.ext).mono fun x ⟨y1, y2⟩ => ⟨by rw [Bool.or_false] at y1; exact y1, y2⟩, fun i x y => p3.own i x (pz.own i x y), fun x y => p3.dom x (pz.dom x y), pz.val, fun y => ⟨(pz.fresh y).1, fun p e => p3.dom p ((pz.fresh y).2 p e)⟩⟩
theorem cmp_rule {o : Op} {op : CmpOp} (h : cmpB o op = true) (hu : X.A.units < cLine) : OpR X (compareOp op) (fun x y H Q => OpRd X.K o [x, y] H Q) := by
  unfold cmpB at h
  split at h
  · exact opr_lt hu
  · exact opr_le
  · exact opr_gt
  · exact opr_ge
  · cases h
theorem refd_ev {b : Ex} (hb : isVal b = true) (hl : lends b = false) : ∀ σ H Q, tEv g F E (.refd b) σ H Q → tLam2 g.T (TRef g.C "") (fun E' => tEv g F E' b) σ H Q := by
  intro σ H Q ⟨H0, Lb, Bb, Fb, ρ, En, h⟩
  refine ⟨En.tabs, fun H1 gw => ?_⟩
  have eX : Ext (fun _ => False) H H1 := fun a u e _ ht => gw.ext a u e ht
  have E1 := En.grow eX gw.dom gw.tabs
  refine ⟨H0, Lb, Bb, Fb, ρ, E1, ?_⟩
  unfold ev at h
  cases he : ev F b ρ with
  | stuck => rw [he] at h; exact h.elim
  | exc x =>
    rw [he] at h
    cases x
    rename_i z
    intro dd H2 px hx
    refine ⟨rfl, dd, z, rfl, hx, h (.str z) H2 ?_⟩
    have x2 : Ext (fun _ => False) H1 H2 := px.ext.mono fun a ⟨y, _⟩ => by rw [hl] at y; cases y
    have d2 : ∀ a, H2 a = none → H1 a = none := px.dom
    exact ⟨E1.grow x2 d2 px.tabs, (eX.trans x2 fun _ z => z.elim).mono fun _ z => z.elim, fun _ _ z => z, fun a z => gw.dom a (d2 a z), .str z, fun z => by cases z⟩
  | ok f d ρ1 =>
    rw [he] at h
    intro v H2 po
    have x2 := po.ext
    refine h (.str "") H2 ⟨po.env, (eX.mono fun _ z => z.elim).trans x2 fun a z => .inl z, po.own, fun a z => gw.dom a (po.dom a z), .str _, fun z => by cases z⟩
end
end Mx
end

section
set_option Elab.async false
set_option linter.all false
set_option maxRecDepth 100000
set_option maxHeartbeats 2000000
/-! All expressions: the induction. -/
namespace Mx
open PySem PySem.Spec PyProof.Rows L2
section
variable {g : Pg} {c : Ck} {L : Nat} {F : FnSem}
/-- contexts: a comprehension's block -/
theorem Good.blk {sc : Scope} {kd : Option String} {fr : Bool} {E : XK} {X : Cx} (G : Good g c L sc kd fr E X) (s : Shared) (H : Hp) (scope : Scope) (cl : List (Str × Addr)) (C : Addr) (fp : List Addr) : Good g c L (relab scope sc) kd false E0 (X.blk s H scope (compEnvC scope cl C X.env) fp) where
  P := G.P
  w := G.w
  K := G.K
  mg := G.mg
  base := G.base
  N := G.N
  nd := G.nd
  sc := by rw [← G.sc]; rfl
  calm := G.calm
  room := G.room
  tk := L2.takes0
  fn := fun z => by cases z
  code := G.code
theorem Good.gen {sc : Scope} {kd : Option String} {fr : Bool} {E : XK} {X : Cx} (G : Good g c L sc kd fr E X) (hk : kd.isSome = true) {A : Around} (hd : A.depth = X.A.depth) (hu : A.units = X.A.units + 2) (hh : A.handled = none) (s : Shared) (H : Hp) (scope : Scope) (cl : List (Str × Addr)) (C : Addr) (code : Value) (fp : List Addr) (pn : List (Addr × Obj)) :
    Good g c L scope none false E0 (genCx X A s H scope cl C code builtinsNs fp pn) where
  P := G.P
  w := G.w
  K := G.K
  mg := G.mg
  base := G.base
  N := G.N
  nd := G.nd
  sc := rfl
  calm := rfl
  room := by
    have r := G.room
    rw [if_pos hk] at r
    have r1 := r.dp
    have r2 := r.un
    refine ⟨hh, ?_, ?_⟩
    · show A.depth + 1 + 3 * L + 5 < recursionLimit
      omega
    · show A.units + 3 + 16 * L + 200 < cLine
      omega
  tk := L2.takes0
  fn := fun z => by cases z
  code := fun _ z => by cases z
theorem Good.lam {sc : Scope} {kd : Option String} {fr : Bool} {E : XK} {X : Cx} (G : Good g c L sc kd fr E X) (A : Around) (outer : List Env) (s : Shared) (H : Hp) (E' : XK) (scope : Scope) (f c' : Addr) (r : Room L (A.deeper (LamX.lamEnv X scope s.heap.objs.size f c'))) :
    Good g c L scope none false E' (LamX.lamCx X A outer s H E' scope f c') where
  P := G.P
  w := G.w
  K := G.K
  mg := G.mg
  base := G.base
  N := G.N
  nd := G.nd
  sc := rfl
  calm := rfl
  room := r
  tk := takes_of rfl rfl rfl rfl
  fn := fun z => by cases z
  code := fun _ z => by cases z
theorem noSet_fold {e : Expr} {env : Env} (h : notSet e = true) : ∀ v, foldedSetIterable e env v = pure v := fun v => by
  cases e <;> first | rfl | (cases h)
theorem noSL_fold {e : Expr} {env : Env} (h : notSL e = true) : ∀ v, genFold e env v = pure v := fun v => by
  cases e <;> first | rfl | (cases h)
theorem isNil_eq {a : Ex} (h : isNil a = true) : a = .nil := by
  cases a <;> first | rfl | (cases h)
theorem own_ix {own : List Nat} {N : List Str} : ((own.map fun i => (N.getD i Str.empty, i)).map fun x => x.2) = own := by
  induction own with
  | nil => rfl
  | cons i is ih => exact congrArg (i :: ·) ih
theorem lamS_of {sc scope : Scope} (h : lamB sc scope = true) : LamX.LamS sc scope := by
  unfold lamB at h
  simp only [Bool.and_eq_true, Bool.not_eq_true', List.all_eq_true, Bool.or_eq_true] at h
  obtain ⟨⟨⟨h1, h2⟩, h3⟩, h4⟩ := h
  refine ⟨eq_of_beq h1, h2, h3, fun y hy => ⟨fun z => ?_, fun z => ?_⟩, fun y hy z => ?_⟩
  · have := (h4 y hy).1.1
    rw [z] at this
    cases this
  · have := (h4 y hy).1.2
    rw [z] at this
    cases this
  · rcases (h4 y hy).2 with (q | q) | q
    · rw [z] at q
      cases q
    · exact .inl (eq_of_beq q)
    · exact .inr (eq_of_beq q)
theorem noArgs_of {p : Arguments} (h : noArgs p = true) : p = ⟨[], [], none, [], [], none, []⟩ := by
  obtain ⟨a, b, v, d, e, w, f⟩ := p
  unfold noArgs at h
  simp only [Bool.and_eq_true, List.isEmpty_iff, Option.isNone_iff_eq_none] at h
  obtain ⟨⟨⟨⟨⟨⟨rfl, rfl⟩, rfl⟩, rfl⟩, rfl⟩, rfl⟩, rfl⟩ := h
  rfl
theorem and_of {A B : Prop} (a : A) (f : A → B) : A ∧ B := ⟨a, f a⟩
theorem opd_eq {x : Ex} (h : argK x = .val) (E : XK) : tOpd g F E x = tEv g F E x := by
  unfold tOpd
  rw [h]
theorem val_of {x : Ex} (h : isVal x = true) : argK x = .val := by
  unfold isVal at h
  cases hk : argK x <;> rw [hk] at h <;> first | rfl | (cases h)
theorem Sn.peV {x : Ex} (h : Sn g c L F x) (hv : isVal x = true) {X : Cx} {sc : Scope} {kd : Option String} {fr : Bool} {E : XK} {e : Expr} (G : Good g c L sc kd fr E X) (hc : chkE c sc kd e x = true) : PE X e (tEv g F E x) := by
  rw [← opd_val hv]
  exact h.pe G hc
/-- a code that is a value -/
theorem Sn.val {x : Ex} (hv : argK x = .val) (b : ∀ {X : Cx} {sc : Scope} {kd : Option String} {fr : Bool} {E : XK} {e : Expr}, Good g c L sc kd fr E X → chkE c sc kd e x = true → PE X e (tEv g F E x) ∧ (notIf e = true → PT X e (tB (tEv g F E x))))
    (pw : ∀ {X : Cx} {sc : Scope} {kd : Option String} {fr : Bool} {E : XK} {op : BoolOp} {es : List Expr} {pos : Pos}, Good g c L sc kd fr E X → chkE c sc kd (.BoolOp op es pos) x = true → PW X (.BoolOp op es pos) (tB (tEv g F E x)))
    (nl : ∀ sc kd es, chkL c sc kd es x = false) (ni : ∀ sc kd e, chkI c sc kd e x = false) : Sn g c L F x where
  pe G h := by rw [opd_eq hv]; exact (b G h).1
  pt G h _ n := (b G h).2 n
  pw G h _ := pw G h
  pl G h := by rw [nl] at h; cases h
  pi G h _ := by rw [ni] at h; cases h
theorem sn_var (i : Nat) : Sn g c L F (.var i) := by
  refine Sn.val rfl (fun {X sc kd fr E e} G h => ?_) (fun G h => ?_) (fun _ _ _ => rfl) (fun _ _ _ => rfl)
  · unfold chkE at h
    split at h
    · exact and_of (PE.imp (G.pv h) ev_var) fun p _ => pt_val p
    · cases h
  · cases h
theorem sn_cst (d : D) : Sn g c L F (.cst d) := by
  refine Sn.val rfl (fun {X sc kd fr E e} G h => ?_) (fun G h => ?_) (fun _ _ _ => rfl) (fun _ _ _ => rfl)
  · unfold chkE at h
    split at h
    · obtain rfl := eq_of_beq h
      exact and_of (PE.imp pe_int (cst_ev fun K H O => .int _)) fun p _ => pt_val p
    · obtain rfl := eq_of_beq h
      exact and_of (PE.imp pe_bl (cst_ev fun K H O => .bl _)) fun p _ => pt_val p
    · obtain rfl := eq_of_beq h
      exact and_of (PE.imp pe_str (cst_ev fun K H O => .str _)) fun p _ => pt_val p
    · exact and_of (PE.imp pe_non (cst_ev fun K H O => .non)) fun p _ => pt_val p
    · cases h
  · cases h
theorem sn_glb (Fa : Facts g c L F) (x : Str) (d : D) : Sn g c L F (.glb x d) := by
  refine Sn.val rfl (fun {X sc kd fr E e} G h => ?_) (fun G h => ?_) (fun _ _ _ => rfl) (fun _ _ _ => rfl)
  · unfold chkE at h
    split at h
    · simp only [Bool.and_eq_true, Bool.not_eq_true'] at h
      obtain ⟨⟨⟨h1, h2⟩, h3⟩, h4⟩ := h
      obtain rfl := eq_of_beq h1
      split at h4
      · rename_i d' hd
        obtain rfl := deq_eq h4
        obtain ⟨u, v, m1, m2, m3⟩ := Fa.glb _ _ hd
        exact and_of (PE.imp (pe_glob (G.gl h2) (by rw [G.mg]; exact m1) m2 h3) (glb_ev m3)) fun p _ => pt_val p
      · cases h4
    · cases h
  · cases h
theorem vw_bool {sc : Scope} {o : Op} {op : BoolOp} {es : List Expr} {pos : Pos} : vw sc o (.BoolOp op es pos) = none := by
  cases o <;> rfl
theorem sn_opx (Fa : Facts g c L F) (o : Op) {as : Ex} (ih : Sn g c L F as) : Sn g c L F (.op o as) := by
  refine Sn.val rfl (fun {X sc kd fr E e} G h => ?_) (fun {X sc kd fr E op es pos} G h => ?_) (fun _ _ _ => rfl) (fun _ _ _ => rfl)
  · unfold chkE at h
    cases hv : vw sc o e with
    | none => rw [hv] at h; cases h
    | some es =>
      rw [hv] at h
      have b := sn_op G Fa hv (ih.pl G h)
      exact ⟨b.1, fun _ => b.2⟩
  · unfold chkE at h
    rw [vw_bool] at h
    cases h
theorem sn_chn (Fa : Facts g c L F) (o o' : Op) {a b d : Ex} (ia : Sn g c L F a) (ib : Sn g c L F b) (id : Sn g c L F d) : Sn g c L F (.chn o o' a b d) := by
  refine Sn.val rfl (fun {X sc kd fr E e} G h => ?_) (fun G h => ?_) (fun _ _ _ => rfl) (fun _ _ _ => rfl)
  · unfold chkE at h
    split at h
    · rename_i ea p p' eb ed pos
      simp only [Bool.and_eq_true] at h
      obtain ⟨⟨⟨⟨⟨⟨⟨⟨h1, h2⟩, hn⟩, h3⟩, h4⟩, h5⟩, h6⟩, h7⟩, h8⟩ := h
      have hu : X.A.units < cLine := by have := G.units; omega
      have lm : lastMarks [p, p'] [eb, ed] = false := by cases ed <;> first | rfl | (cases hn)
      exact ⟨PE.imp (pe_chain (cmp_rule h1 hu) (cmp_rule h2 hu) (ia.pe G h3) (ib.pe G h4) (id.pe G h5) lm) (chn_ev h6 h7 h8 G.K), fun _ => PT.imp (pt_chain (cmp_rule h1 hu) (cmp_rule h2 hu) (ia.pe G h3) (ib.pe G h4) (id.pe G h5) lm) fun σ H Q q => chn_ev h6 h7 h8 G.K σ H _ q⟩
    · cases h
  · cases h
theorem PW.imp {X : Cx} {e : Expr} {t t' : TT} (h : PW X e t) (i : ∀ σ H Q, t' σ H Q → t σ H Q) : PW X e t' := ⟨fun whole pins s σ H Q I q => h.run whole pins s σ H Q I (i σ H Q q)⟩
theorem sn_and {a b : Ex} (ia : Sn g c L F a) (ib : Sn g c L F b) : Sn g c L F (.and a b) := by
  have key : ∀ {X : Cx} {sc : Scope} {kd : Option String} {fr : Bool} {E : XK} {e : Expr}, Good g c L sc kd fr E X → chkE c sc kd e (.and a b) = true → ∃ es pos, e = .BoolOp .And es pos ∧ PE X e (tEv g F E (.and a b)) ∧ PW X e (tB (tEv g F E (.and a b))) := fun {X sc kd fr E e} G h => by
    unfold chkE at h
    split at h
    · rename_i ea eb rest pos
      simp only [Bool.and_eq_true] at h
      obtain ⟨⟨⟨⟨h1, h2⟩, h3⟩, h4⟩, h5⟩ := h
      have pa : PE X ea (tEv g F E a) := by rw [← opd_val h4]; exact ia.pe G h2
      have ta := ia.pt G h2 h4 h1
      have both : PE X (.BoolOp .And (eb :: rest) pos) (tEv g F E b) ∧ PW X (.BoolOp .And (eb :: rest) pos) (tB (tEv g F E b)) := by
        cases rest with
        | nil =>
          simp only [Bool.and_eq_true] at h3
          have pb : PE X eb (tEv g F E b) := by rw [← opd_val h5]; exact ib.pe G h3.2
          exact ⟨pe_one pb, pw_and1 (ib.pt G h3.2 h5 h3.1)⟩
        | cons r rest =>
          simp only at h3
          exact ⟨by rw [← opd_val h5]; exact ib.pe G h3, ib.pw G h3 h5⟩
      refine ⟨_, _, rfl, PE.imp (pe_and pa both.1) and_ev, PW.imp (pw_and ta both.2) fun σ H Q q => ?_⟩
      refine tEv_mono (and_ev σ H _ q) fun v H1 ⟨k, e1, e2⟩ => ⟨k, e1, ?_⟩
      cases k with
      | true =>
        rw [if_pos rfl] at e2 ⊢
        exact e2
      | false =>
        rw [if_neg Bool.false_ne_true] at e2 ⊢
        obtain ⟨k', e3, e4⟩ := e2
        cases e3
        exact e4
    · cases h
  refine Sn.val rfl (fun {X sc kd fr E e} G h => ?_) (fun {X sc kd fr E op es pos} G h => ?_) (fun _ _ _ => rfl) (fun _ _ _ => rfl)
  · obtain ⟨es, pos, rfl, p, w⟩ := key G h
    exact ⟨p, fun _ => w.pt⟩
  · obtain ⟨es', pos', e, p, w⟩ := key G h
    exact w
theorem sn_or {a b : Ex} (ia : Sn g c L F a) (ib : Sn g c L F b) : Sn g c L F (.or a b) := by
  have key : ∀ {X : Cx} {sc : Scope} {kd : Option String} {fr : Bool} {E : XK} {e : Expr}, Good g c L sc kd fr E X → chkE c sc kd e (.or a b) = true → ∃ es pos, e = .BoolOp .Or es pos ∧ PE X e (tEv g F E (.or a b)) ∧ PW X e (tB (tEv g F E (.or a b))) := fun {X sc kd fr E e} G h => by
    unfold chkE at h
    split at h
    · rename_i ea eb rest pos
      simp only [Bool.and_eq_true] at h
      obtain ⟨⟨⟨⟨h1, h2⟩, h3⟩, h4⟩, h5⟩ := h
      have pa : PE X ea (tEv g F E a) := by rw [← opd_val h4]; exact ia.pe G h2
      have ta := ia.pt G h2 h4 h1
      have both : PE X (.BoolOp .Or (eb :: rest) pos) (tEv g F E b) ∧ PW X (.BoolOp .Or (eb :: rest) pos) (tB (tEv g F E b)) := by
        cases rest with
        | nil =>
          simp only [Bool.and_eq_true] at h3
          have pb : PE X eb (tEv g F E b) := by rw [← opd_val h5]; exact ib.pe G h3.2
          exact ⟨pe_one pb, pw_or1 (ib.pt G h3.2 h5 h3.1)⟩
        | cons r rest =>
          simp only at h3
          exact ⟨by rw [← opd_val h5]; exact ib.pe G h3, ib.pw G h3 h5⟩
      refine ⟨_, _, rfl, PE.imp (pe_or pa both.1) or_ev, PW.imp (pw_or ta both.2) fun σ H Q q => ?_⟩
      refine tEv_mono (or_ev σ H _ q) fun v H1 ⟨k, e1, e2⟩ => ⟨k, e1, ?_⟩
      cases k with
      | true =>
        rw [if_pos rfl] at e2 ⊢
        obtain ⟨k', e3, e4⟩ := e2
        cases e3
        exact e4
      | false =>
        rw [if_neg Bool.false_ne_true] at e2 ⊢
        exact e2
    · cases h
  refine Sn.val rfl (fun {X sc kd fr E e} G h => ?_) (fun {X sc kd fr E op es pos} G h => ?_) (fun _ _ _ => rfl) (fun _ _ _ => rfl)
  · obtain ⟨es, pos, rfl, p, w⟩ := key G h
    exact ⟨p, fun _ => w.pt⟩
  · obtain ⟨es', pos', e, p, w⟩ := key G h
    exact w
theorem sn_not {a : Ex} (ia : Sn g c L F a) : Sn g c L F (.not a) := by
  refine Sn.val rfl (fun {X sc kd fr E e} G h => ?_) (fun G h => ?_) (fun _ _ _ => rfl) (fun _ _ _ => rfl)
  · unfold chkE at h
    split at h
    · simp only [Bool.and_eq_true] at h
      obtain ⟨⟨h1, h2⟩, h3⟩ := h
      refine ⟨PE.imp (pe_not (ia.peV h3 G h2)) not_ev, fun _ => PT.imp (pt_not (ia.pt G h2 h3 h1)) fun σ H Q q => ?_⟩
      exact tEv_mono (not_ev σ H _ q) fun v H1 ⟨k, e1, k', e2, e3⟩ => ⟨k, e1, by cases e2; exact e3⟩
    · cases h
  · cases h
theorem sn_ife {t a b : Ex} (it : Sn g c L F t) (ia : Sn g c L F a) (ib : Sn g c L F b) : Sn g c L F (.ife t a b) := by
  refine Sn.val rfl (fun {X sc kd fr E e} G h => ?_) (fun G h => ?_) (fun _ _ _ => rfl) (fun _ _ _ => rfl)
  · unfold chkE at h
    split at h
    · simp only [Bool.and_eq_true] at h
      obtain ⟨⟨⟨⟨⟨⟨h1, h2⟩, h3⟩, h4⟩, h5⟩, h6⟩, h7⟩ := h
      exact ⟨PE.imp (pe_ifExp (it.pt G h2 h5 h1) (ia.peV h6 G h3) (ib.peV h7 G h4)) ife_ev, fun z => by cases z⟩
    · cases h
  · cases h
theorem sn_tup {as : Ex} (ih : Sn g c L F as) : Sn g c L F (.tup as) := by
  refine Sn.val rfl (fun {X sc kd fr E e} G h => ?_) (fun G h => ?_) (fun _ _ _ => rfl) (fun _ _ _ => rfl)
  · unfold chkE at h
    split at h
    · simp only [Bool.and_eq_true] at h
      have ps := ih.pl (E := E) G h.1.1
      exact and_of (PE.imp (pe_tup ps.pa) (tup_ev ps.ls h.1.2 (by rw [ps.len]; exact of_decide_eq_true h.2))) fun p _ => pt_val p
    · cases h
  · cases h
theorem sn_lst {as : Ex} (ih : Sn g c L F as) : Sn g c L F (.lst as) := by
  refine Sn.val rfl (fun {X sc kd fr E e} G h => ?_) (fun G h => ?_) (fun _ _ _ => rfl) (fun _ _ _ => rfl)
  · unfold chkE at h
    split at h
    · simp only [Bool.and_eq_true] at h
      have ps := ih.pl (E := E) G h.1.1
      exact and_of (PE.imp (pe_lst ps.pa) (lst_ev ps.ls h.1.2 (by rw [ps.len]; exact of_decide_eq_true h.2))) fun p _ => pt_val p
    · cases h
  · cases h
theorem sn_rep {a n : Ex} (ia : Sn g c L F a) (ib : Sn g c L F n) : Sn g c L F (.rep a n) := by
  refine Sn.val rfl (fun {X sc kd fr E e} G h => ?_) (fun G h => ?_) (fun _ _ _ => rfl) (fun _ _ _ => rfl)
  · unfold chkE at h
    split at h
    · simp only [Bool.and_eq_true] at h
      obtain ⟨⟨⟨h1, h2⟩, h3⟩, h4⟩ := h
      have va : argK a = .val := by
        cases a <;> first | rfl | (cases h1)
      exact and_of (PE.imp (pe_op op_rep (ia.peV (by unfold isVal; rw [va]) G h2) (ib.pe G h3)) (rep_ev h4)) fun p _ => pt_val p
    · cases h
  · cases h
theorem sn_callx (Fa : Facts g c L F) (f nk : Nat) {as : Ex} (ih : Sn g c L F as) : Sn g c L F (.call f nk as) := by
  refine Sn.val rfl (fun {X sc kd fr E e} G h => ?_) (fun G h => ?_) (fun _ _ _ => rfl) (fun _ _ _ => rfl)
  · unfold chkE at h
    split at h
    · split at h
      · rename_i y ps hf
        simp only [Bool.and_eq_true, Bool.not_eq_true'] at h
        obtain ⟨⟨⟨⟨⟨⟨⟨⟨h1, h2⟩, h3⟩, h4⟩, h5⟩, h6⟩, h7⟩, h8⟩, h9⟩ := h
        obtain rfl := eq_of_beq h1
        exact and_of (sn_call (E := E) (nk := nk) G Fa hf h2 h3 (eq_of_beq h4) (eq_of_beq h6) (ih.pl G h7) h8 (fun z1 z2 => by rw [z1, z2] at h9; cases h9)) fun p _ => pt_val p
      · cases h
    · cases h
  · cases h
theorem sn_comp {elt it cond : Ex} (tg : Tg) (own : List Nat) (ie : Sn g c L F elt) (ii : Sn g c L F it) (ic : Sn g c L F cond) : Sn g c L F (.comp elt tg own it cond) := by
  refine Sn.val rfl (fun {X sc kd fr E e} G h => ?_) (fun G h => ?_) (fun _ _ _ => rfl) (fun _ _ _ => rfl)
  · unfold chkE at h
    split at h
    · rename_i ee te iex ifs scope pos
      simp only [Bool.and_eq_true] at h
      obtain ⟨⟨⟨⟨⟨⟨⟨h1, h2⟩, h3⟩, h4⟩, h5⟩, h6⟩, h7⟩, h8⟩ := h
      have hin : ∀ j ∈ tgIx tg, j ∈ own := fun j hj => List.contains_iff_mem.mp ((List.all_eq_true.mp h4) j hj)
      have ok : BlkOk X.N X.env.scope scope (ownP c own) := by
        rw [G.N, G.sc]
        exact blkOk_by h1
      have pe : ∀ (s : Shared) (H : Hp) (C : Addr) (cl : List (Str × Addr)) (fp : List Addr), PE (X.blk s H scope (compEnvC scope cl C X.env) fp) ee (tEv g F E0 elt) := fun s H C cl fp => by
        rw [← opd_val h7]
        exact ie.pe (G.blk s H scope cl C fp) h6
      have pg : ∀ (s : Shared) (H : Hp) (C : Addr) (cl : List (Str × Addr)) (fp : List Addr), PG (X.blk s H scope (compEnvC scope cl C X.env) fp) te (tTg X.K tg) := fun s H C cl fp => by
        have B := G.blk s H scope cl C fp
        exact pg_tg B.N B.nd B.sc B.fn B.calm h3
      have pt : ∀ (s : Shared) (H : Hp) (C : Addr) (cl : List (Str × Addr)) (fp : List Addr), PTs (X.blk s H scope (compEnvC scope cl C X.env) fp) ifs (tCond g F cond) := fun s H C cl fp => by
        have B := G.blk s H scope cl C fp
        unfold tCond
        cases ifs with
        | nil =>
          simp only at h8
          rw [if_pos h8]
          exact pts_nil
        | cons t r =>
          cases r with
          | nil =>
            simp only [Bool.and_eq_true, Bool.not_eq_true'] at h8
            rw [if_neg (by rw [h8.2]; exact Bool.false_ne_true)]
            exact pts_one (ic.pt B h8.1.1.2 h8.1.2 h8.1.1.1)
          | cons _ _ => cases h8
      exact and_of (PE.imp (pe_lc G.calm G.nd (ii.pi (tg := te) (E := E) G h5.2 h5.1) ok pg pt pe (noSet_fold h2)) (by
        show ∀ σ H Q, tEv g F E (.comp elt tg own it cond) σ H Q → tLc (tIt g F E it) (tTg X.K tg) (tCond g F cond) (tEv g F E0 elt) ((own.map fun i => (c.N.getD i Str.empty, i)).map fun x => x.2) σ H Q
        rw [own_ix]
        exact comp_ev G.K hin)) fun p _ => pt_val p
    · cases h
  · cases h
theorem sn_allg (Fa : Facts g c L F) {elt it : Ex} (tg : Tg) (own : List Nat) (ie : Sn g c L F elt) (ii : Sn g c L F it) : Sn g c L F (.allg elt tg own it) := by
  refine Sn.val rfl (fun {X sc kd fr E e} G h => ?_) (fun G h => ?_) (fun _ _ _ => rfl) (fun _ _ _ => rfl)
  · unfold chkE at h
    split at h
    · rename_i x xp ee te iex scope gpos pos
      simp only [Bool.and_eq_true, Bool.not_eq_true'] at h
      obtain ⟨⟨⟨⟨⟨⟨⟨⟨⟨⟨⟨h1, h2⟩, h3⟩, h4⟩, h5⟩, h6⟩, h7⟩, h8⟩, h9⟩, h10⟩, h11⟩, h12⟩ := h
      obtain ⟨rfl, hg⟩ := blt_eq h1
      have hkd := eq_of_beq h2
      have hin : ∀ j ∈ tgIx tg, j ∈ own := fun j hj => List.contains_iff_mem.mp ((List.all_eq_true.mp h9) j hj)
      have ok : BlkOk X.N X.env.scope scope (ownP c own) := by
        rw [G.N, G.sc]
        exact blkOk_by h3
      have hks : kd.isSome = true := by rw [hkd]; rfl
      have hcell : ∀ y ∈ scope.names, y.2 ≠ .cell := fun y hy z => by
        have := (List.all_eq_true.mp h5) y hy
        rw [z] at this
        cases this
      obtain ⟨cc, P, k1, k2, k3, k4⟩ := G.code _ hkd
      exact and_of (PE.imp (pe_allG (T := g.T) (own := ownP c own) (k := L) G.calm G.nd G.roomL (G.gl hg) (G.mgB Fa (s := "all") (by decide)) k2 k1 k3 k4 (ii.pi (tg := te) (E := E) G h10.2 h10.1) ok hcell h6 (eq_of_beq h7)
          (fun A s H cl C code fp pn => pg_tg (X := genCx X A s H scope cl C code builtinsNs fp pn) (c := c) (fr := false) G.N G.nd rfl (fun z => by cases z) rfl h8)
          (fun A s H cl C code fp pn q1 q2 q3 => ie.peV h12 (G.gen hks q1 q2 q3 s H scope cl C code fp pn) h11) (noSL_fold h4)) (by
        show ∀ σ H Q, tEv g F E (.allg elt tg own it) σ H Q → tAllG g.T (tIt g F E it) (tTg X.K tg) (tEv g F E0 elt) ((own.map fun i => (c.N.getD i Str.empty, i)).map fun x => x.2) σ H Q
        rw [own_ix]
        exact all_ev G.K hin)) fun p _ => pt_val p
    · cases h
  · cases h
theorem sn_refd (Fa : Facts g c L F) {b : Ex} (ib : Sn g c L F b) : Sn g c L F (.refd b) := by
  refine Sn.val rfl (fun {X sc kd fr E e} G h => ?_) (fun G h => ?_) (fun _ _ _ => rfl) (fun _ _ _ => rfl)
  · unfold chkE at h
    split at h
    · rename_i x xp params body scope lpos pos
      simp only [Bool.and_eq_true, Bool.not_eq_true'] at h
      obtain ⟨⟨⟨⟨⟨⟨h1, h2⟩, h3⟩, h4⟩, h5⟩, h6⟩, h7⟩ := h
      obtain ⟨rfl, hg⟩ := blt_eq h1
      have hkd := eq_of_beq h2
      have hks : kd.isSome = true := by rw [hkd]; rfl
      obtain ⟨cc, P, k1, k2, k3, k4⟩ := G.code _ hkd
      obtain rfl := noArgs_of h3
      have r := G.room
      rw [if_pos hks] at r
      exact and_of (PE.imp (Fa.ref X L cc P _ body scope (fun E' => tEv g F E' b) xp lpos pos G.P G.w G.K G.mg (G.gl hg) k2 k1 k3 k4 r (by rw [G.sc]; exact lamS_of h4) rfl (fun q cl pm cv ctv => rfl)
        (fun A outer s H E' f c' rm => ib.peV h6 (G.lam A outer s H E' scope f c' rm) h5)) (refd_ev h6 h7)) fun p _ => pt_val p
    · cases h
  · cases h
theorem sn_bor (i : Nat) : Sn g c L F (.bor i) where
  pe {X sc kd fr E e} G h := by
    unfold chkE at h
    split at h
    · exact G.pv h
    · cases h
  pt _ _ z := by cases z
  pw _ _ z := by cases z
  pl _ h := by cases h
  pi _ h _ := by cases h
theorem sn_len (i : Nat) : Sn g c L F (.len i) where
  pe {X sc kd fr E e} G h := by
    unfold chkE at h
    split at h
    · exact G.pv h
    · cases h
  pt _ _ z := by cases z
  pw _ _ z := by cases z
  pl _ h := by cases h
  pi _ h _ := by cases h
theorem sn_frs {a : Ex} (ia : Sn g c L F a) : Sn g c L F (.frs a) where
  pe {X sc kd fr E e} G h := by
    unfold chkE at h
    rw [Bool.and_eq_true] at h
    exact ia.peV h.2 G h.1
  pt _ _ z := by cases z
  pw _ _ z := by cases z
  pl _ h := by cases h
  pi _ h _ := by cases h
theorem sn_nil : Sn g c L F .nil where
  pe _ h := by cases h
  pt _ h := by cases h
  pw _ h := by cases h
  pl {X sc kd fr E es} _ h := by
    cases es with
    | nil => exact .nil
    | cons _ _ => cases h
  pi _ h _ := by cases h
theorem sn_cons {a as : Ex} (ia : Sn g c L F a) (ias : Sn g c L F as) : Sn g c L F (.cons a as) where
  pe _ h := by cases h
  pt _ h := by cases h
  pw _ h := by cases h
  pl {X sc kd fr E es} G h := by
    cases es with
    | nil => cases h
    | cons e es =>
      have h : (notStar e && chkE c sc kd e a && chkL c sc kd es as) = true := h
      rw [Bool.and_eq_true, Bool.and_eq_true] at h
      exact .cons h.1.1 (ia.pe G h.1.2) (ias.pl G h.2)
  pi _ h _ := by cases h
theorem sn_iseq {a : Ex} (ia : Sn g c L F a) : Sn g c L F (.iseq a) where
  pe _ h := by cases h
  pt _ h := by cases h
  pw _ h := by cases h
  pl _ h := by cases h
  pi {X sc kd fr E tg e} G h hz := by
    have h : (chkE c sc kd e a && (match argK a with
      | .val => true
      | .bor _ => true
      | _ => false)) = true := h
    rw [Bool.and_eq_true] at h
    have ha : isVal a = true ∨ ∃ i, a = .bor i := by
      have h2 := h.2
      unfold isVal
      cases hk : argK a <;> rw [hk] at h2
      · exact .inr ⟨_, argK_bor hk⟩
      · cases h2
      · cases h2
      · exact .inl rfl
    exact PI.imp (pi_any (ia.pe G h.1)) (iseq_ev ha G.K)
theorem sn_irng (Fa : Facts g c L F) {a : Ex} (ia : Sn g c L F a) : Sn g c L F (.irng a) where
  pe _ h := by cases h
  pt _ h := by cases h
  pw _ h := by cases h
  pl _ h := by cases h
  pi {X sc kd fr E tg e} G h hz := by
    unfold chkI at h
    split at h
    · simp only [Bool.and_eq_true] at h
      obtain ⟨⟨⟨h1, h2⟩, h3⟩, h4⟩ := h
      obtain ⟨rfl, hg⟩ := blt_eq h1
      exact PI.imp (pi_range1 (G.gl hg) (G.mgB Fa (s := "range") (by decide)) (pa_cons (ia.pe G h3) pa_nil (star_cons h2)) (star_cons h2)) (irng_ev h4)
    · cases h
theorem sn_irng2 (Fa : Facts g c L F) {a b : Ex} (ia : Sn g c L F a) (ib : Sn g c L F b) : Sn g c L F (.irng2 a b) where
  pe _ h := by cases h
  pt _ h := by cases h
  pw _ h := by cases h
  pl _ h := by cases h
  pi {X sc kd fr E tg e} G h hz := by
    unfold chkI at h
    split at h
    · simp only [Bool.and_eq_true] at h
      obtain ⟨⟨⟨⟨⟨⟨h1, h2⟩, h3⟩, h4⟩, h5⟩, h6⟩, h7⟩ := h
      obtain ⟨rfl, hg⟩ := blt_eq h1
      exact PI.imp (pi_range2 (G.gl hg) (G.mgB Fa (s := "range") (by decide)) (pa_cons (ia.pe G h4) (pa_cons (ib.pe G h5) pa_nil (star_cons h3)) (star_cons h2)) (by rw [star_cons h2, star_cons h3]; rfl) (star_cons h3)) (irng2_ev h6 h7)
    · cases h
/-- the target of a zip is a row of names -/
theorem sn_izip (Fa : Facts g c L F) {a b : Ex} (ia : Sn g c L F a) (ib : Sn g c L F b) : Sn g c L F (.izip a b) where
  pe _ h := by cases h
  pt _ h := by cases h
  pw _ h := by cases h
  pl _ h := by cases h
  pi {X sc kd fr E tg e} G h hz := by
    unfold chkI at h
    split at h
    · simp only [Bool.and_eq_true] at h
      obtain ⟨⟨⟨⟨⟨⟨h1, h2⟩, h3⟩, h4⟩, h5⟩, h6⟩, h7⟩ := h
      obtain ⟨rfl, hg⟩ := blt_eq h1
      cases tg <;> try (cases hz; done)
      exact PI.imp (RZ.pi_zipA (G.gl hg) (G.mgB Fa (s := "zip") (by decide)) (pa_cons (ia.pe G h4) (pa_cons (ib.pe G h5) pa_nil (star_cons h3)) (star_cons h2)) (star_cons h2) (by rw [star_cons h3]; rfl)) (izip_ev h6 h7 G.K)
    · cases h
theorem snd (Fa : Facts g c L F) : ∀ x : Ex, Sn g c L F x := by
  intro x
  induction x with
  | var i => exact sn_var i
  | bor i => exact sn_bor i
  | len i => exact sn_len i
  | frs a ia => exact sn_frs ia
  | cst d => exact sn_cst d
  | glb x d => exact sn_glb Fa x d
  | op o as ih => exact sn_opx Fa o ih
  | chn o o' a b d ia ib id => exact sn_chn Fa o o' ia ib id
  | and a b ia ib => exact sn_and ia ib
  | or a b ia ib => exact sn_or ia ib
  | not a ia => exact sn_not ia
  | ife t a b it ia ib => exact sn_ife it ia ib
  | tup as ih => exact sn_tup ih
  | lst as ih => exact sn_lst ih
  | rep a n ia ib => exact sn_rep ia ib
  | call f nk as ih => exact sn_callx Fa f nk ih
  | comp elt tg own it cond ie ii ic => exact sn_comp tg own ie ii ic
  | allg elt tg own it ie ii => exact sn_allg Fa tg own ie ii
  | refd b ib => exact sn_refd Fa ib
  | nil => exact sn_nil
  | cons a as ia ias => exact sn_cons ia ias
  | iseq a ia => exact sn_iseq ia
  | irng a ia => exact sn_irng Fa ia
  | irng2 a b ia ib => exact sn_irng2 Fa ia ib
  | izip a b ia ib => exact sn_izip Fa ia ib
end
end Mx
end

section
set_option Elab.async false
set_option linter.all false
set_option maxRecDepth 100000
set_option maxHeartbeats 2000000
/-! Does a code tell of this block? -/
namespace Mx
open PySem PySem.Spec PyProof.Rows L2
def blkKd (sc : Scope) : ScopeKind := if sc.kind.isAnnotationScope = true then .function else sc.kind
/-- a comprehension whose list goes to a name of the same line -/
def swT (sc : Scope) (x : Str) (py : Pos) (e : Expr) : Bool := match e with
  | .ListComp _ _ s pos => blkKd sc == .function && sc.names.lookup x == some .local && py.line == pos.line && !s.names.any fun q => q.1 == x && (q.2 == .local || q.2 == .cell)
  | _ => false
def notDrop : Expr → Bool
  | .ListComp _ _ _ _ => false
  | .SetComp _ _ _ _ => false
  | .DictComp _ _ _ _ _ => false
  | _ => true
def notSD : Expr → Bool
  | .SetComp _ _ _ _ => false
  | .DictComp _ _ _ _ _ => false
  | _ => true
def notTup : Expr → Bool
  | .Tuple _ _ _ => false
  | _ => true
/-- a name among the targets that is no plain local one -/
def unSw (sc : Scope) (es : List Expr) : Bool := es.any fun e => match e with
  | .Name x _ => !(sc.names.lookup x == some .local)
  | _ => false
def augB : Op → Operator → Bool
  | .add, .Add => true
  | .sub, .Sub => true
  | .mul, .Mult => true
  | _, _ => false
/-- two names of one line, two values -/
def parB (sc : Scope) (x y : Str) (px py : Pos) (a b : Expr) : Bool :=
  blkKd sc == .function && notStar a && notStar b && sc.names.lookup x == some .local && sc.names.lookup y == some .local && py.line == px.line && !(x == y) && !(foldedForSure 8 a && foldedForSure 8 b) && !(constantsAlone 8 a && constantsAlone 8 b)
def par3B (sc : Scope) (x y z : Str) (px py pz : Pos) (a b d : Expr) : Bool :=
  blkKd sc == .function && notStar a && notStar b && notStar d && sc.names.lookup x == some .local && sc.names.lookup y == some .local && sc.names.lookup z == some .local && py.line == px.line && pz.line == px.line && !(x == y) && !(x == z) && !(y == z) && !(foldedForSure 8 a && (foldedForSure 8 b && foldedForSure 8 d)) && !(constantsAlone 8 a && (constantsAlone 8 b && constantsAlone 8 d))
mutual
def chk1 (c : Ck) (sc : Scope) (kd : Option String) (st : Stmt) : Sc → Bool
  | .skip => match st with
    | .Pass _ => true
    | .Expr (.Constant (.str _) _ _) _ => true
    | _ => false
  | .seq _ _ => false
  | .ex e => match st with
    | .Expr x _ => chkE c sc kd x e && isVal e && notDrop x
    | _ => false
  | .set i e => match st with
    | .Assign [.Name x _] v _ => stB c sc true i x && chkE c sc kd v e && isVal e && notSD v
    | _ => false
  | .par i j as => match st with
    | .Assign [.Tuple [.Name x px, .Name y py] _ _] (.Tuple [a, b] _ _) _ => c.N[i]? == some x && c.N[j]? == some y && !(i == j) && parB sc x y px py a b && chkL c sc kd [a, b] as && allVal as
    | _ => false
  | .unp is e => match st with
    | .Assign [.Tuple es _ _] v _ => chkT.chkTs c sc true is es && chkE c sc kd v e && isVal e && (notTup v || unSw sc es)
    | _ => false
  | .aug i o e => match st with
    | .AugAssign (.Name x _) op v _ => stB c sc true i x && augB o op && chkE c sc kd v e && isVal e
    | _ => false
  | .sti i ix e => match st with
    | .Assign [.Subscript (.Name x _) ixe _] v _ => nm c sc i x && chkE c sc kd ixe ix && chkE c sc kd v e && plIx ixe && isVal ix && isVal e
    | _ => false
  | .agi i ix o e => match st with
    | .AugAssign (.Subscript (.Name x _) ixe _) op v _ => nm c sc i x && augB o op && chkE c sc kd ixe ix && chkE c sc kd v e && plIx ixe && isVal ix && isVal e
    | _ => false
  | .app i e => match st with
    | .Expr (.Call (.Attribute (.Name x _) m apos) [a] [] cpos) _ => m == ("append" : Str) && apos.endLine == cpos.line && nm c sc i x && notStar a && chkE c sc kd a e && isVal e
    | _ => false
  | .ret e => match st with
    | .Return (some x) _ => chkE c sc kd x e && isVal e
    | _ => false
  | .retN => match st with
    | .Return none _ => true
    | _ => false
  | .rown i => match st with
    | .Return (some (.Name x _)) _ => nm c sc i x
    | _ => false
  | .ifs t a b => match st with
    | .If et s1 s2 _ => notIf et && chkE c sc kd et t && isVal t && chkSs c sc kd s1 a && chkSs c sc kd s2 b
    | _ => false
  | .whl t b => match st with
    | .While et s1 [] _ => notIf et && chkE c sc kd et t && isVal t && chkSs c sc kd s1 b
    | _ => false
  | .for1 tg it b => match st with
    | .For te ie s1 [] _ => chkT c sc true tg te && zipOk it te && chkI c sc kd ie it && notSet ie && chkSs c sc kd s1 b
    | _ => false
  | .brk => match st with
    | .Break _ => true
    | _ => false
  | .cnt => match st with
    | .Continue _ => true
    | _ => false
  | .rais e => match st with
    | .Raise (some (.Call (.Name x _) [a] [] _)) none _ => bltB sc x "BadArgument" && notStar a && chkE c sc kd a e && isVal e
    | _ => false
  | .par3 i j l as => match st with
    | .Assign [.Tuple [.Name x px, .Name y py, .Name z pz] _ _] (.Tuple [a, b, d] _ _) _ => c.N[i]? == some x && c.N[j]? == some y && c.N[l]? == some z && !(i == j) && !(i == l) && !(j == l) && par3B sc x y z px py pz a b d && chkL c sc kd [a, b, d] as && allVal as
    | _ => false
termination_by structural s => s
def chkSs (c : Ck) (sc : Scope) (kd : Option String) (sts : List Stmt) : Sc → Bool
  | .skip => sts.isEmpty
  | .seq a b => match sts with
    | st :: rest => chk1 c sc kd st a && chkSs c sc kd rest b
    | [] => false
  | _ => false
termination_by structural s => s
end
theorem filterMap_lt {α β : Type} (f : α → Option β) : ∀ (l : List α), (∃ a ∈ l, f a = none) → (l.filterMap f).length ≠ l.length
  | [], ⟨a, h, _⟩ => by cases h
  | x :: l, ⟨a, h, e⟩ => by
    have le := List.length_filterMap_le f l
    rcases List.mem_cons.mp h with z | z
    · subst z
      rw [List.filterMap_cons_none e, List.length_cons]
      omega
    · have ih := filterMap_lt f l ⟨a, z, e⟩
      rw [List.filterMap_cons, List.length_cons]
      split
      · omega
      · rw [List.length_cons]
        omega
theorem unSw_none {es : List Expr} {k : Nat} {p : Pos} {v : Expr} {env : Env} (h : unSw env.scope es = true) : swappedStores [.Tuple es k p] v env = pure none := by
  unfold swappedStores
  cases v <;> try rfl
  rename_i vs k2 p2
  simp only
  split
  · rfl
  · split
    · rfl
    · rename_i q1 q2
      rw [if_pos]
      rw [Bool.or_eq_true]
      left
      rw [bne_iff_ne]
      refine filterMap_lt _ es ?_
      obtain ⟨e, he, hq⟩ := List.any_eq_true.mp h
      refine ⟨e, he, ?_⟩
      cases e <;> try (cases hq; done)
      rename_i x px
      simp only [Bool.not_eq_true'] at hq
      simp only
      rw [if_neg]
      intro z
      rw [Bool.and_eq_true] at z
      have z1 : (env.scope.names.lookup x == some NameKind.local) = true := z.1
      rw [hq] at z1
      cases z1
theorem par_swap {sc : Scope} {x y : Str} {px py pt pt2 : Pos} {kt k2 : Nat} {a b : Expr} {env : Env} (hs : env.scope = sc) (h : parB sc x y px py a b = true) :
    swappedStores [.Tuple [.Name x px, .Name y py] kt pt] (.Tuple [a, b] k2 pt2) env = pure (some [x, y]) := by
  subst hs
  unfold parB at h
  simp only [Bool.and_eq_true, Bool.not_eq_true', Bool.and_eq_false_iff] at h
  obtain ⟨⟨⟨⟨⟨⟨⟨⟨h1, h2⟩, h3⟩, h4⟩, h5⟩, h6⟩, h7⟩, h8⟩, h9⟩ := h
  have e1 : env.blockKind = .function := eq_of_beq h1
  have e4 : env.kindOf x = some .local := eq_of_beq h4
  have e5 : env.kindOf y = some .local := eq_of_beq h5
  have n1 : (match a with | .Starred _ _ => true | _ => false) = false := by cases a <;> first | rfl | (cases h2)
  have n2 : (match b with | .Starred _ _ => true | _ => false) = false := by cases b <;> first | rfl | (cases h3)
  have e8 : (foldedForSure 8 a && foldedForSure 8 b) = false := by rw [Bool.and_eq_false_iff]; exact h8
  have e9 : (constantsAlone 8 a && constantsAlone 8 b) = false := by rw [Bool.and_eq_false_iff]; exact h9
  have hxy : x ≠ y := fun z => by rw [z] at h7; simp at h7
  unfold swappedStores
  simp [e1, e4, e5, h6, List.any_cons, n1, n2, e8, e9, List.eraseDups, hxy]
  rw [if_neg (by
    rintro (z | z)
    · cases a <;> first | (cases z; done) | (cases h2; done)
    · cases b <;> first | (cases z; done) | (cases h3; done))]
  have e6 : py.line = px.line := eq_of_beq h6
  simp [List.filterMap, e4, e5, e6, Expr.pos, List.eraseDupsBy, List.eraseDupsBy.loop, hxy, Ne.symm hxy]
  have hb : (y == x) = false := by simp [Ne.symm hxy]
  rw [hb]
  intro z
  exact absurd rfl z
theorem fin3 {x y z : Str} (names : List Str) (k : Nat) (hn : names = [x, y, z]) (hk : k = 3) (ed : ([x, y, z] : List Str).eraseDups = [x, y, z]) (A B : Bool) (hA : A = false) (hB : B = false) (U : Sem (Option (List Str))) :
    (if (names.length != k || names.eraseDups.length != names.length) = true then Sem.pure none else if A = true then Sem.pure none else if B = true then U else Sem.pure (some names)) = Sem.pure (some [x, y, z]) := by
  subst hn hk hA hB
  rw [ed]
  rfl
theorem sw3 {x y z : Str} {px py pz pt pt2 : Pos} {kt k2 : Nat} {a b d : Expr} {env : Env} 
  (e1 : env.blockKind = .function) 
  (nn : ([a, b, d].any fun | .Starred .. => true | _ => false) = false)
  (ed : ([x, y, z] : List Str).eraseDups = [x, y, z])
  (fm : ([Expr.Name x px, .Name y py, .Name z pz].filterMap fun
    | .Name id pos => if env.kindOf id == some .local && pos.line == (([Expr.Name x px, .Name y py, .Name z pz].head?.map (·.pos.line)).getD 0) then some id else none
    | _ => none) = [x, y, z])
  (a1 : [a, b, d].all (foldedForSure 8) = false)
  (a2 : [a, b, d].all (constantsAlone 8) = false) :
    swappedStores [.Tuple [.Name x px, .Name y py, .Name z pz] kt pt] (.Tuple [a, b, d] k2 pt2) env = pure (some [x, y, z]) := by
  unfold swappedStores
  dsimp only [bind, pure]
  rw [if_neg (by rw [e1]; exact Bool.noConfusion), if_neg (by rw [Bool.not_eq_true]; exact nn)]
  exact fin3 _ _ fm rfl ed _ _ a1 a2 _
theorem par3_swap {sc : Scope} {x y z : Str} {px py pz pt pt2 : Pos} {kt k2 : Nat} {a b d : Expr} {env : Env} (hs : env.scope = sc) (h : par3B sc x y z px py pz a b d = true) :
    swappedStores [.Tuple [.Name x px, .Name y py, .Name z pz] kt pt] (.Tuple [a, b, d] k2 pt2) env = pure (some [x, y, z]) := by
  subst hs
  unfold par3B at h
  simp only [Bool.and_eq_true, Bool.not_eq_true'] at h
  obtain ⟨⟨⟨⟨⟨⟨⟨⟨⟨⟨⟨⟨⟨h1, h2⟩, h3⟩, h3'⟩, h4⟩, h5⟩, h5'⟩, h6⟩, h6'⟩, h7⟩, h7'⟩, h7''⟩, h8⟩, h9⟩ := h
  have e1 : env.blockKind = .function := eq_of_beq h1
  have e4 : env.kindOf x = some .local := eq_of_beq h4
  have e5 : env.kindOf y = some .local := eq_of_beq h5
  have e5' : env.kindOf z = some .local := eq_of_beq h5'
  have e6 : py.line = px.line := eq_of_beq h6
  have e6' : pz.line = px.line := eq_of_beq h6'
  have b1 : x ≠ y := fun z => by rw [z] at h7; simp at h7
  have b2 : x ≠ z := fun z => by rw [z] at h7'; simp at h7'
  have b3 : y ≠ z := fun z => by rw [z] at h7''; simp at h7''
  refine sw3 e1 ?_ ?_ ?_ ?_ ?_
  · have key : ∀ e ∈ [a, b, d], notStar e = true := by
      intro e he
      simp only [List.mem_cons, List.not_mem_nil, or_false] at he
      rcases he with rfl | rfl | rfl
      · exact h2
      · exact h3
      · exact h3'
    rw [List.any_eq_false]
    intro e he
    have k := key e he
    clear he key h8 h9 h2 h3 h3'
    cases e <;> first | (cases k; done) | exact Bool.noConfusion
  · have c1 : (y == x) = false := by simp [b1.symm]
    have c2 : (z == x) = false := by simp [b2.symm]
    have c3 : (z == y) = false := by simp [b3.symm]
    simp [List.eraseDups, List.eraseDupsBy, List.eraseDupsBy.loop, c1, c2, c3]
  · simp [List.filterMap, e4, e5, e5', e6, e6', Expr.pos]
  · simpa only [List.all_cons, List.all_nil, Bool.and_true] using h8
  · simpa only [List.all_cons, List.all_nil, Bool.and_true] using h9
end Mx
end

section
set_option Elab.async false
set_option linter.all false
set_option maxRecDepth 100000
set_option maxHeartbeats 2000000
/-! Statements. -/
namespace Mx
open PySem PySem.Spec PyProof.Rows L2
structure PostS (g : Fr) (Fb : Addr → Prop) (ρ : Rho) (σ : L2.St) (H : Hp) (ρ' : Rho) (σ' : L2.St) (H' : Hp) : Prop where
  env : EnvR g Fb ρ' σ' H'
  ext : Ext (Om ρ σ) H H'
  own : ∀ b, Om ρ' σ' b → Om ρ σ b ∨ H b = none
  dom : ∀ a, H' a = none → H a = none
structure PostR (g : Fr) (Fb : Addr → Prop) (ρ : Rho) (σ : L2.St) (H : Hp) (fr : Bool) (d : D) (ρ' : Rho) (v : V) (σ' : L2.St) (H' : Hp) : Prop extends PostS g Fb ρ σ H ρ' σ' H' where
  val : Rp g.K H' (Ot Fb ρ' σ') v d
  fresh : fr = true → Fresh g Fb ρ' σ' H' v d
structure PostXS (g : Fr) (ρ : Rho) (σ : L2.St) (H H' : Hp) : Prop where
  ext : Ext (Om ρ σ) H H'
  dom : ∀ a, H' a = none → H a = none
  tabs : LamX.Tabs g.T H'
def sRes (g : Pg) (G : Fr) (Fb : Addr → Prop) (ρ : Rho) (σ : L2.St) (H : Hp) (E : XK) (r : SRes) (D : Ends) : Prop := match r with
  | .nx ρ' => ∀ σ' H', PostS G Fb ρ σ H ρ' σ' H' → D.nx σ' H'
  | .rt fr d ρ' => ∀ v σ' H', PostR G Fb ρ σ H fr d ρ' v σ' H' → D.rt v H'
  | .brk ρ' => ∀ σ' H', PostS G Fb ρ σ H ρ' σ' H' → D.bk σ' H'
  | .cnt ρ' => ∀ σ' H', PostS G Fb ρ σ H ρ' σ' H' → D.ct σ' H'
  | .exc (.bad z) => ∀ dd H', PostXS G ρ σ H H' → H' dd = some (.xd [(("name" : Str), V.str z)]) → E (.ref g.C) (some dd) H'
  | .stuck => False
def tSt (g : Pg) (F : FnSem) (E : XK) (c : Sc) : TS := fun D σ H => ∃ H0 Lb Bb Fb ρ, EnvR (g.fr H0 Lb Bb) Fb ρ σ H ∧ sRes g (g.fr H0 Lb Bb) Fb ρ σ H E (evS F c ρ) D
section
variable {g : Fr} {Fb : Addr → Prop} {ρ ρ1 ρ' : Rho} {σ σ1 σ' : L2.St} {H H1 H' : Hp} {lo : Bool}
theorem PostS.refl (E : EnvR g Fb ρ σ H) : PostS g Fb ρ σ H ρ σ H := ⟨E, Ext.refl, fun _ z => .inl z, fun _ z => z⟩
theorem PostE.toS {fr : Bool} {d : D} {v : V} (p : PostE g Fb lo ρ σ H fr d ρ' v H') : PostS g Fb ρ σ H ρ' σ H' := ⟨p.env, p.ext.mono fun _ z => z.2, fun b ⟨i, z⟩ => .inl ⟨i, p.own i b z⟩, p.dom⟩
theorem PostX.toS (p : PostX g lo ρ σ H H') : PostXS g ρ σ H H' := ⟨p.ext.mono fun _ z => z.2, p.dom, p.tabs⟩
theorem ext_S (a : Ext (Om ρ σ) H H1) (o : ∀ b, Om ρ1 σ1 b → Om ρ σ b ∨ H b = none) (b : Ext (Om ρ1 σ1) H1 H') : Ext (Om ρ σ) H H' := a.trans b o
theorem PostS.trans {ρ2 : Rho} {σ2 : L2.St} {H2 : Hp} (a : PostS g Fb ρ σ H ρ1 σ1 H1) (b : PostS g Fb ρ1 σ1 H1 ρ2 σ2 H2) : PostS g Fb ρ σ H ρ2 σ2 H2 :=
  ⟨b.env, ext_S a.ext a.own b.ext, fun x z => (b.own x z).elim (a.own x) fun y => .inr (a.dom x y), fun x z => a.dom x (b.dom x z)⟩
theorem PostR.after {ρ2 : Rho} {σ2 : L2.St} {H2 : Hp} {fr : Bool} {d : D} {v : V} (a : PostS g Fb ρ σ H ρ1 σ1 H1) (b : PostR g Fb ρ1 σ1 H1 fr d ρ2 v σ2 H2) : PostR g Fb ρ σ H fr d ρ2 v σ2 H2 := ⟨a.trans b.toPostS, b.val, b.fresh⟩
theorem PostXS.after {H2 : Hp} (a : PostS g Fb ρ σ H ρ1 σ1 H1) (b : PostXS g ρ1 σ1 H1 H2) : PostXS g ρ σ H H2 := ⟨ext_S a.ext a.own b.ext, fun x z => a.dom x (b.dom x z), b.tabs⟩
/-- a slot gets a new list -/
theorem EnvR.putOw {p : Addr} {o : HO} {d : D} (E : EnvR g (fun a => a = p ∨ Fb a) ρ σ H) (hbf : ∀ i a, g.Bb i a → Fb a) (hf : ¬ Fb p) (h0 : g.H0 p = none) (hp : H p = some o) (hc : Cont g.K H (fun a => a = p ∨ Ot Fb ρ σ a) o d) (i : Nat) :
    EnvR g Fb (ρ.set i (Slot.s .ow d)) (σ.set i (some (.ref p))) H ∧ (∀ j b, Own (ρ.set i (Slot.s .ow d)) (σ.set i (some (.ref p))) j b → (j = i ∧ b = p) ∨ (j ≠ i ∧ Own ρ σ j b)) := by
  have own : ∀ j b, Own (ρ.set i (Slot.s .ow d)) (σ.set i (some (.ref p))) j b → (j = i ∧ b = p) ∨ (j ≠ i ∧ Own ρ σ j b) := fun j b ⟨⟨m, d', q, hm⟩, hs⟩ => by
    by_cases z : j = i
    · subst z
      have l : j < σ.length := by
        have := (List.getElem?_eq_some_iff.mp hs).1
        rw [List.length_set] at this
        exact this
      rw [List.getElem?_set_self l] at hs
      cases hs
      exact .inl ⟨rfl, rfl⟩
    · rw [at_set z] at q
      rw [List.getElem?_set_ne (Ne.symm z)] at hs
      exact .inr ⟨z, ⟨m, d', q, hm⟩, hs⟩
  have sub : ∀ a, Ot Fb (ρ.set i (Slot.s .ow d)) (σ.set i (some (.ref p))) a → Ot (fun a => a = p ∨ Fb a) ρ σ a ∨ H a = none := fun a z => by
    rcases z with z | ⟨j, z⟩
    · exact .inl (.inl (.inr z))
    · rcases own j a z with ⟨_, y⟩ | ⟨_, y⟩
      · exact .inl (.inl (.inl y))
      · exact .inl (.inr ⟨j, y⟩)
  have atI : ∀ {m d'}, (ρ.set i (Slot.s .ow d))[i]? = some (Slot.s m d') → m = .ow ∧ d' = d ∧ (σ.set i (some (.ref p)))[i]? = some (some (.ref p)) := fun {m d'} q => by
    have l : i < ρ.length := by
      have := (List.getElem?_eq_some_iff.mp q).1
      rw [List.length_set] at this
      exact this
    rw [List.getElem?_set_self l] at q
    cases q
    exact ⟨rfl, rfl, List.getElem?_set_self (by rw [← E.len]; exact l)⟩
  refine ⟨⟨by rw [List.length_set, List.length_set]; exact E.len, fun j m d' q => ?_, fun j k b h1 h2 => ?_, fun j b h z => ?_, fun j b d' q hs => ?_, fun j b d' q hs => ?_, fun j b d' q hs => ?_, hbf, fun a z => E.fb a (.inr z), E.dom, E.ext, E.tabs⟩, own⟩
  · by_cases z : j = i
    · subst z
      obtain ⟨rfl, rfl, e⟩ := atI q
      refine ⟨_, e, p, o, rfl, hp, hc.mono Ext.refl fun a z => .inl ?_⟩
      rcases z with z | ⟨k, z⟩
      · exact .inr (.inl z)
      · rcases own k a z with ⟨_, y⟩ | ⟨_, y⟩
        · exact .inl y
        · exact .inr (.inr ⟨k, y⟩)
    · rw [at_set z] at q
      obtain ⟨v, w1, w2⟩ := E.slot j m d' q
      refine ⟨v, by rw [List.getElem?_set_ne (Ne.symm z)]; exact w1, ?_⟩
      cases m with
      | fz => exact Rp.mono Ext.refl sub w2
      | bo =>
        obtain ⟨a, u, rfl, q2, q3, q4⟩ := w2
        exact ⟨a, u, rfl, hbf j a (E.bb j a d' q w1), q3, q4.mono Ext.refl sub⟩
      | ow => obtain ⟨a, u, rfl, q3, q4⟩ := w2; exact ⟨a, u, rfl, q3, q4.mono Ext.refl sub⟩
      | le => obtain ⟨a, u, rfl, q3, q4⟩ := w2; exact ⟨a, u, rfl, q3, q4.mono Ext.refl sub⟩
  · rcases own j b h1 with ⟨a1, a2⟩ | ⟨a1, a2⟩ <;> rcases own k b h2 with ⟨b1, b2⟩ | ⟨b1, b2⟩
    · rw [a1, b1]
    · exact (E.nfb k b b2 (.inl a2)).elim
    · exact (E.nfb j b a2 (.inl b2)).elim
    · exact E.dis j k b a2 b2
  · rcases own j b h with ⟨a1, a2⟩ | ⟨a1, a2⟩
    · rw [a2] at z; exact hf z
    · exact E.nfb j b a2 (.inr z)
  · by_cases z : j = i
    · subst z
      obtain ⟨_, _, e⟩ := atI q
      rw [e] at hs
      cases hs
      exact h0
    · rw [at_set z] at q
      rw [List.getElem?_set_ne (Ne.symm z)] at hs
      exact E.nw j b d' q hs
  · by_cases z : j = i
    · subst z
      obtain ⟨e, _⟩ := atI q
      cases e
    · rw [at_set z] at q
      rw [List.getElem?_set_ne (Ne.symm z)] at hs
      exact E.lb j b d' q hs
  · by_cases z : j = i
    · subst z
      obtain ⟨e, _⟩ := atI q
      cases e
    · rw [at_set z] at q
      rw [List.getElem?_set_ne (Ne.symm z)] at hs
      exact E.bb j b d' q hs
/-- a value goes to a slot -/
theorem PostE.put {fr : Bool} {d : D} {v : V} (p : PostE g Fb lo ρ σ H fr d ρ' v H') (i : Nat) : PostS g Fb ρ σ H (putS ρ' i fr d) (σ.set i (some v)) H' := by
  cases fr with
  | false =>
    obtain ⟨E1, o1⟩ := p.env.put (i := i) p.val
    exact ⟨E1, p.ext.mono fun _ z => z.2, fun b ⟨j, z⟩ => .inl ⟨j, p.own j b (o1 j b z)⟩, p.dom⟩
  | true =>
    obtain ⟨⟨q, o, rfl, f1, f2, f3, f4, f5⟩, f6⟩ := p.fresh rfl
    obtain ⟨E1, o1⟩ := f5.putOw p.env.bfb f2 f1 f3 f4 i
    refine ⟨E1, p.ext.mono fun _ z => z.2, fun b ⟨j, z⟩ => ?_, p.dom⟩
    rcases o1 j b z with ⟨_, y⟩ | ⟨_, y⟩
    · exact .inr (by rw [y]; exact f6 q rfl)
    · exact .inl ⟨j, p.own j b y⟩
/-- the list of a slot is changed in place -/
theorem EnvR.mut (E : EnvR g Fb ρ σ H) {i : Nat} {m : Md} {d d' : D} {o' : HO} {a : Addr} (h : ρ[i]? = some (Slot.s m d)) (hm : m = .ow ∨ m = .le) (hs : σ[i]? = some (some (.ref a))) (hc : Cont g.K H (Ot Fb ρ σ) o' d') :
    PostS g Fb ρ σ H (ρ.set i (Slot.s m d')) σ (upd H a o') := by
  have own : Own ρ σ i a := ⟨⟨m, d, h, hm⟩, hs⟩
  obtain ⟨o, d0, m0, e0, e1, e2⟩ := E.tracked own
  have sub : ∀ j b, Own (ρ.set i (Slot.s m d')) σ j b → Own ρ σ j b := fun j b ⟨⟨m', d'', q, hm'⟩, hq⟩ => by
    by_cases z : j = i
    · subst z
      rw [hs] at hq
      cases hq
      exact own
    · rw [at_set z] at q
      exact ⟨⟨m', d'', q, hm'⟩, hq⟩
  have subO : ∀ b, Ot Fb (ρ.set i (Slot.s m d')) σ b → Ot Fb ρ σ b ∨ H b = none := fun b z => .inl (z.imp id fun ⟨j, z⟩ => ⟨j, sub j b z⟩)
  have xa : Ext (fun b => b = a) H (upd H a o') := fun b u e hn ht => by
    by_cases z : b = a
    · subst z
      rw [e1] at e
      cases e
      rcases hn with q | q
      · exact absurd rfl q
      · exact absurd q e2.nstill
    · rw [upd_ne z]; exact e
  have xO : Ext (Ot Fb ρ σ) H (upd H a o') := xa.mono fun b z => .inr ⟨i, by rw [z]; exact own⟩
  have same : ∀ {b : Addr} {u : HO}, b ≠ a → H b = some u → upd H a o' b = some u := fun z e => by rw [upd_ne z]; exact e
  have na : ¬ Fb a := E.nfb i a own
  refine ⟨⟨by rw [List.length_set]; exact E.len, fun j m' d'' q => ?_, fun j k b h1 h2 => E.dis j k b (sub j b h1) (sub k b h2), fun j b h z => E.nfb j b (sub j b h) z, fun j b d'' q hq => ?_, fun j b d'' q hq => ?_, fun j b d'' q hq => ?_, E.bfb, fun b z => ?_, fun b z => E.dom b (dom_upd b z), ?_, fun q hq => ?_⟩, xa.mono fun b z => ⟨i, by rw [z]; exact own⟩, fun b ⟨j, z⟩ => .inl ⟨j, sub j b z⟩, dom_upd⟩
  · by_cases z : j = i
    · subst z
      rw [at_set_i h] at q
      cases q
      have st : Cont g.K (upd H a o') (Ot Fb (ρ.set j (Slot.s m d')) σ) o' d' := hc.mono xO subO
      refine ⟨_, hs, ?_⟩
      rcases hm with rfl | rfl
      · exact ⟨a, o', rfl, upd_same, st⟩
      · exact ⟨a, o', rfl, upd_same, st⟩
    · rw [at_set z] at q
      obtain ⟨v, w1, w2⟩ := E.slot j m' d'' q
      refine ⟨v, w1, ?_⟩
      have ne : ∀ {b}, Own ρ σ j b → b ≠ a := fun {b} o y => z (E.dis j i b o (by rw [y]; exact own))
      cases m' with
      | fz => exact Rp.mono xO subO w2
      | bo =>
        obtain ⟨b, u, rfl, q2, q3, q4⟩ := w2
        exact ⟨b, u, rfl, q2, same (fun y => na (by rw [← y]; exact q2)) q3, q4.mono xO subO⟩
      | ow => obtain ⟨b, u, rfl, q3, q4⟩ := w2; exact ⟨b, u, rfl, same (ne ⟨⟨_, _, q, .inl rfl⟩, w1⟩) q3, q4.mono xO subO⟩
      | le => obtain ⟨b, u, rfl, q3, q4⟩ := w2; exact ⟨b, u, rfl, same (ne ⟨⟨_, _, q, .inr rfl⟩, w1⟩) q3, q4.mono xO subO⟩
  · by_cases z : j = i
    · subst z
      rw [at_set_i h] at q
      cases q
      exact E.nw j b d h hq
    · rw [at_set z] at q
      exact E.nw j b d'' q hq
  · by_cases z : j = i
    · subst z
      rw [at_set_i h] at q
      cases q
      exact E.lb j b d h hq
    · rw [at_set z] at q
      exact E.lb j b d'' q hq
  · by_cases z : j = i
    · subst z
      rw [at_set_i h] at q
      cases q
      rcases hm with z | z <;> cases z
    · rw [at_set z] at q
      exact E.bb j b d'' q hq
  · obtain ⟨u, q1, q2⟩ := E.fb b z
    exact ⟨u, same (fun y => na (by rw [← y]; exact z)) q1, q2⟩
  · refine E.ext.trans xa fun b z => ?_
    subst z
    rcases hm with rfl | rfl
    · exact .inr (E.nw i b d h hs)
    · exact .inl ⟨i, E.lb i b d h hs⟩
  · obtain ⟨ps, y1, y2, y3⟩ := E.tabs q hq
    have k1 : q.1 ≠ a := fun z => by rw [z, e1] at y1; cases y1; exact e2.ntbl ps rfl
    refine ⟨ps, by rw [upd_ne k1]; exact y1, y2, fun pos cv w => ?_⟩
    obtain ⟨c0, z1, z2⟩ := y3 pos cv w
    refine ⟨c0, z1, ?_⟩
    have k2 : c0 ≠ a := fun z => by rw [z, e1] at z2; cases z2; exact e2.next _ rfl
    rw [upd_ne k2]
    exact z2
end
section
variable {g : Pg} {c : Ck} {L : Nat} {F : FnSem} {sc : Scope} {kd : Option String} {E : XK} {X : Cx}
theorem PS.imp {X : Cx} {st : Stmt} {t t' : TS} (h : PS X st t) (i : ∀ D σ H, t' D σ H → t D σ H) : PS X st t' := ⟨fun pins s σ H D I q => h.run pins s σ H D I (i D σ H q)⟩
theorem PSs.imp {X : Cx} {st : List Stmt} {t t' : TS} (h : PSs X st t) (i : ∀ D σ H, t' D σ H → t D σ H) : PSs X st t' := ⟨fun pins s σ H D I q => h.run pins s σ H D I (i D σ H q)⟩
theorem skip_st : ∀ D σ H, tSt g F E .skip D σ H → tNext D σ H := fun D σ H ⟨H0, Lb, Bb, Fb, ρ, En, h⟩ => h σ H (PostS.refl En)
theorem seq_st {a b : Sc} : ∀ D σ H, tSt g F E (.seq a b) D σ H → L2.tSeq (tSt g F E a) (tSt g F E b) D σ H := by
  intro D σ H ⟨H0, Lb, Bb, Fb, ρ, En, h⟩
  refine ⟨H0, Lb, Bb, Fb, ρ, En, ?_⟩
  unfold evS at h
  cases he : evS F a ρ with
  | nx ρ1 =>
    rw [he] at h
    intro σ1 H1 po
    refine ⟨H0, Lb, Bb, Fb, ρ1, po.env, ?_⟩
    simp only at h
    cases he2 : evS F b ρ1 with
    | nx ρ2 => rw [he2] at h; exact fun σ2 H2 p2 => h σ2 H2 (po.trans p2)
    | rt f d ρ2 => rw [he2] at h; exact fun v σ2 H2 p2 => h v σ2 H2 (PostR.after po p2)
    | brk ρ2 => rw [he2] at h; exact fun σ2 H2 p2 => h σ2 H2 (po.trans p2)
    | cnt ρ2 => rw [he2] at h; exact fun σ2 H2 p2 => h σ2 H2 (po.trans p2)
    | exc x => rw [he2] at h; cases x; exact fun dd H2 p2 hx => h dd H2 (PostXS.after po p2) hx
    | stuck => rw [he2] at h; exact h.elim
  | rt f d ρ1 => rw [he] at h; exact h
  | brk ρ1 => rw [he] at h; exact h
  | cnt ρ1 => rw [he] at h; exact h
  | exc x => rw [he] at h; exact h
  | stuck => rw [he] at h; exact h
theorem set_st {i : Nat} {e : Ex} : ∀ D σ H, tSt g F E (.set i e) D σ H → tAsg (tEv g F E e) (gName i) D σ H := by
  intro D σ H ⟨H0, Lb, Bb, Fb, ρ, En, h⟩
  refine ⟨H0, Lb, Bb, Fb, ρ, En, ?_⟩
  unfold evS at h
  cases he : ev F e ρ with
  | stuck => rw [he] at h; exact h.elim
  | exc x => rw [he] at h; cases x; exact fun dd H' px hx => h dd H' px.toS hx
  | ok f d ρ1 => rw [he] at h; exact fun v H1 po => h _ H1 (po.put i)
theorem ex_st {e : Ex} : ∀ D σ H, tSt g F E (.ex e) D σ H → tDrop (tEv g F E e) D σ H := by
  intro D σ H ⟨H0, Lb, Bb, Fb, ρ, En, h⟩
  refine ⟨H0, Lb, Bb, Fb, ρ, En, ?_⟩
  unfold evS at h
  cases he : ev F e ρ with
  | stuck => rw [he] at h; exact h.elim
  | exc x => rw [he] at h; cases x; exact fun dd H' px hx => h dd H' px.toS hx
  | ok f d ρ1 => rw [he] at h; exact fun v H1 po => h _ H1 po.toS
theorem ret_st {e : Ex} : ∀ D σ H, tSt g F E (.ret e) D σ H → tRet (tEv g F E e) D σ H := by
  intro D σ H ⟨H0, Lb, Bb, Fb, ρ, En, h⟩
  refine ⟨H0, Lb, Bb, Fb, ρ, En, ?_⟩
  unfold evS at h
  cases he : ev F e ρ with
  | stuck => rw [he] at h; exact h.elim
  | exc x => rw [he] at h; cases x; exact fun dd H' px hx => h dd H' px.toS hx
  | ok f d ρ1 => rw [he] at h; exact fun v H1 po => h v σ H1 ⟨po.toS, po.val, fun z => (po.fresh z).1⟩
theorem retN_st : ∀ D σ H, tSt g F E .retN D σ H → tRetN D σ H := fun D σ H ⟨H0, Lb, Bb, Fb, ρ, En, h⟩ => h .non σ H ⟨PostS.refl En, .non, fun z => by cases z⟩
theorem rown_st {i : Nat} : ∀ D σ H, tSt g F E (.rown i) D σ H → tRet (tVar i) D σ H := by
  intro D σ H ⟨H0, Lb, Bb, Fb, ρ, En, h⟩
  unfold evS at h
  split at h
  · rename_i d e
    obtain ⟨v, e1, a, o, rfl, e3, e4⟩ := En.slot i _ d e
    refine ⟨_, e1, h _ σ H ?_⟩
    have own : Own ρ σ i a := ⟨⟨_, _, e, .inl rfl⟩, e1⟩
    have sub := own_set (σ := σ) (s := Slot.no) e (fun m d z => by cases z)
    have nO : ∀ b, Ot Fb (ρ.set i .no) σ b → Ot Fb ρ σ b ∧ b ≠ a := fun b z => by
      rcases z with z | ⟨j, z⟩
      · exact ⟨.inl z, fun y => En.nfb i a own (by rw [← y]; exact z)⟩
      · obtain ⟨z1, z2⟩ := sub j b z
        exact ⟨.inr ⟨j, z1⟩, fun y => z2 (En.dis j i b z1 (by rw [y]; exact own))⟩
    have E2 : EnvR (g.fr H0 Lb Bb) Fb (ρ.set i .no) σ H := En.less (fun _ z => z) En.bfb (by rw [List.length_set]; exact En.len) (fun j m d' q => by
      by_cases z : j = i
      · subst z
        rw [at_set_i e] at q
        cases q
      · rw [at_set z] at q
        exact .inl ⟨q, rfl, trivial⟩)
    have E3 : EnvR (g.fr H0 Lb Bb) (fun b => b = a ∨ Fb b) (ρ.set i .no) σ H := by
      -- the list itself is kept clear of
      have subA : ∀ b, Ot (fun b => b = a ∨ Fb b) (ρ.set i .no) σ b → Ot Fb ρ σ b ∨ H b = none := fun b z => by
        rcases z with (z | z) | ⟨j, z⟩
        · exact .inl (.inr ⟨i, by rw [z]; exact own⟩)
        · exact .inl (.inl z)
        · exact .inl (.inr ⟨j, (sub j b z).1⟩)
      have at' : ∀ {j m d'}, (ρ.set i Slot.no)[j]? = some (Slot.s m d') → j ≠ i ∧ ρ[j]? = some (Slot.s m d') := fun {j m d'} q => by
        by_cases z : j = i
        · subst z
          rw [at_set_i e] at q
          cases q
        · rw [at_set z] at q
          exact ⟨z, q⟩
      refine ⟨E2.len, fun j m d' q => ?_, E2.dis, fun j b h1 h2 => ?_, E2.nw, E2.lb, E2.bb, fun j b z => .inr (En.bfb j b z), fun b z => ?_, En.dom, En.ext, En.tabs⟩
      · obtain ⟨z, q⟩ := at' q
        obtain ⟨v, w1, w2⟩ := En.slot j m d' q
        exact ⟨v, w1, w2.mono Ext.refl subA fun _ y => .inr y⟩
      · rcases h2 with h2 | h2
        · exact (nO b (.inr ⟨j, h1⟩)).2 h2
        · exact E2.nfb j b h1 h2
      · rcases z with z | z
        · exact ⟨o, by rw [z]; exact e3, e4.ntbl⟩
        · exact En.fb b z
    have fresh : Fresh (g.fr H0 Lb Bb) Fb (ρ.set i .no) σ H (.ref a) d := ⟨a, o, rfl, En.nw i a d e e1, En.nfb i a own, e3, e4.mono Ext.refl (fun b z => by
      rcases z with z | z
      · exact .inl (.inr ⟨i, by rw [z]; exact own⟩)
      · exact .inl (nO b z).1), E3⟩
    exact ⟨⟨E2, Ext.refl, fun b ⟨j, z⟩ => .inl ⟨j, (sub j b z).1⟩, fun _ z => z⟩, fresh.rp, fun _ => fresh⟩
  · rename_i d e
    obtain ⟨v, e1, e2⟩ := En.slot i _ d e
    exact ⟨v, e1, h v σ H ⟨PostS.refl En, e2, fun z => by cases z⟩⟩
  · exact h.elim
theorem ifs_st {t : Ex} {a b : Sc} : ∀ D σ H, tSt g F E (.ifs t a b) D σ H → tIfS (tB (tEv g F E t)) (tSt g F E a) (tSt g F E b) D σ H := by
  intro D σ H ⟨H0, Lb, Bb, Fb, ρ, En, h⟩
  refine ⟨H0, Lb, Bb, Fb, ρ, En, ?_⟩
  unfold evS at h
  cases he : ev F t ρ with
  | stuck => rw [he] at h; exact h.elim
  | exc x => rw [he] at h; cases x; exact fun dd H' px hx => h dd H' px.toS hx
  | ok f d ρ1 =>
    rw [he] at h
    cases d <;> try exact h.elim
    rename_i k
    intro v H1 po
    have q := po.val
    cases q
    refine ⟨k, rfl, ?_⟩
    have fwd : ∀ (s : Sc), sRes g (g.fr H0 Lb Bb) Fb ρ σ H E (evS F s ρ1) D → tSt g F E s D σ H1 := fun s h => by
      refine ⟨H0, Lb, Bb, Fb, ρ1, po.env, ?_⟩
      have pt := po.toS
      cases he2 : evS F s ρ1 with
      | nx ρ2 => rw [he2] at h; exact fun σ2 H2 p2 => h σ2 H2 (pt.trans p2)
      | rt f d ρ2 => rw [he2] at h; exact fun v σ2 H2 p2 => h v σ2 H2 (PostR.after pt p2)
      | brk ρ2 => rw [he2] at h; exact fun σ2 H2 p2 => h σ2 H2 (pt.trans p2)
      | cnt ρ2 => rw [he2] at h; exact fun σ2 H2 p2 => h σ2 H2 (pt.trans p2)
      | exc x => rw [he2] at h; cases x; exact fun dd H2 p2 hx => h dd H2 (PostXS.after pt p2) hx
      | stuck => rw [he2] at h; exact h.elim
    cases k with
    | true => show tSt g F E a D σ H1; exact fwd a h
    | false => show tSt g F E b D σ H1; exact fwd b h
theorem brk_st : ∀ D σ H, tSt g F E .brk D σ H → tBreak D σ H := fun D σ H ⟨H0, Lb, Bb, Fb, ρ, En, h⟩ => h σ H (PostS.refl En)
theorem cnt_st : ∀ D σ H, tSt g F E .cnt D σ H → tCont D σ H := fun D σ H ⟨H0, Lb, Bb, Fb, ρ, En, h⟩ => h σ H (PostS.refl En)
theorem par_st {i j : Nat} {as : Ex} (ha : isLs as = true) (hv : allVal as = true) : ∀ D σ H, tSt g F E (.par i j as) D σ H → tPar i j (tSeq g F E as) D σ H := by
  intro D σ H ⟨H0, Lb, Bb, Fb, ρ, En, h⟩
  refine seq_ev as ha σ H _ ρ En ?_
  unfold evS at h
  cases he : ev F as ρ with
  | stuck => rw [he] at h; exact h.elim
  | exc x => rw [he] at h; cases x; exact fun dd H' px hx => h dd H' px.toS hx
  | ok f d ρ1 =>
    rw [he] at h
    cases d <;> try exact h.elim
    rename_i ds
    intro vs H1 pl
    have r := itR_val pl.items hv
    have fin : ∀ x y, ds = [x, y] → sRes g (g.fr H0 Lb Bb) Fb ρ σ H E (.nx (putS (putS ρ1 i false x) j false y)) D → ∃ v w, vs = [v, w] ∧ D.nx ((σ.set i (some v)).set j (some w)) H1 := fun x y e h => by
      subst e
      cases r with
      | cons r1 r =>
        cases r with
        | cons r2 r =>
          cases r with
          | nil =>
            obtain ⟨E1, o1⟩ := pl.env.put (i := i) r1
            obtain ⟨E2, o2⟩ := E1.put (i := j) (r2.mono Ext.refl fun b z => .inl (z.imp id fun ⟨k, z⟩ => ⟨k, o1 k b z⟩))
            exact ⟨_, _, rfl, h _ H1 ⟨E2, pl.ext.mono fun _ z => z.2, fun b ⟨k, z⟩ => .inl ⟨k, pl.own k b (o1 k b (o2 k b z))⟩, pl.dom⟩⟩
    match ds, h with
    | [x, y], h => exact fin x y rfl h
theorem par3_st {i j l : Nat} {as : Ex} (ha : isLs as = true) (hv : allVal as = true) : ∀ D σ H, tSt g F E (.par3 i j l as) D σ H → tPar3 i j l (tSeq g F E as) D σ H := by
  intro D σ H ⟨H0, Lb, Bb, Fb, ρ, En, h⟩
  refine seq_ev as ha σ H _ ρ En ?_
  unfold evS at h
  cases he : ev F as ρ with
  | stuck => rw [he] at h; exact h.elim
  | exc x => rw [he] at h; cases x; exact fun dd H' px hx => h dd H' px.toS hx
  | ok f d ρ1 =>
    rw [he] at h
    cases d <;> try exact h.elim
    rename_i ds
    intro vs H1 pl
    have r := itR_val pl.items hv
    have fin : ∀ x y z, ds = [x, y, z] → sRes g (g.fr H0 Lb Bb) Fb ρ σ H E (.nx (putS (putS (putS ρ1 i false x) j false y) l false z)) D → ∃ u v w, vs = [u, v, w] ∧ D.nx (((σ.set i (some u)).set j (some v)).set l (some w)) H1 := fun x y z e h => by
      subst e
      cases r with
      | cons r1 r =>
        cases r with
        | cons r2 r =>
          cases r with
          | cons r3 r =>
            cases r with
            | nil =>
              obtain ⟨E1, o1⟩ := pl.env.put (i := i) r1
              obtain ⟨E2, o2⟩ := E1.put (i := j) (r2.mono Ext.refl fun b z => .inl (z.imp id fun ⟨k, z⟩ => ⟨k, o1 k b z⟩))
              obtain ⟨E3, o3⟩ := E2.put (i := l) (r3.mono Ext.refl fun b z => .inl (z.imp id fun ⟨k, z⟩ => ⟨k, o1 k b (o2 k b z)⟩))
              exact ⟨_, _, _, rfl, h _ H1 ⟨E3, pl.ext.mono fun _ z => z.2, fun b ⟨k, z⟩ => .inl ⟨k, pl.own k b (o1 k b (o2 k b (o3 k b z)))⟩, pl.dom⟩⟩
    match ds, h with
    | [x, y, z], h => exact fin x y z rfl h
theorem unp_st {is : List Nat} {e : Ex} {K : PySem.W.Frag} (hK : K = g.K) : ∀ D σ H, tSt g F E (.unp is e) D σ H → tAsg (tEv g F E e) (tTg K (.tup is)) D σ H := by
  intro D σ H ⟨H0, Lb, Bb, Fb, ρ, En, h⟩
  refine ⟨H0, Lb, Bb, Fb, ρ, En, ?_⟩
  unfold evS at h
  cases he : ev F e ρ with
  | stuck => rw [he] at h; exact h.elim
  | exc x => rw [he] at h; cases x; exact fun dd H' px hx => h dd H' px.toS hx
  | ok f d ρ1 =>
    rw [he] at h
    simp only at h
    intro v H1 po
    cases hb : bindT (.tup is) d ρ1 with
    | none => rw [hb] at h; exact h.elim
    | some ρ2 =>
      rw [hb] at h
      refine bind_ok (g := g.fr H0 Lb Bb) hK po.env po.val hb fun σ' E' k1 k2 k3 => h σ' H1 ⟨E', po.ext.mono fun _ z => z.2, fun b ⟨j, z⟩ => .inl ⟨j, po.own j b (k3 j b z)⟩, po.dom⟩
theorem rais_st {e : Ex} (hv : isVal e = true) : ∀ D σ H, tSt g F E (.rais e) D σ H → tMkBad g.C (tCons (tOpd g F E e) tNil) σ H (fun cls d H' => E cls d H') := by
  intro D σ H ⟨H0, Lb, Bb, Fb, ρ, En, h⟩
  show tOpd g F E e σ H _
  rw [opd_val hv]
  refine ⟨H0, Lb, Bb, Fb, ρ, En, ?_⟩
  unfold evS at h
  cases he : ev F e ρ with
  | stuck => rw [he] at h; exact h.elim
  | exc x => rw [he] at h; cases x; exact fun dd H' px hx => h dd H' px.toS hx
  | ok f d ρ1 =>
    rw [he] at h
    cases d <;> try exact h.elim
    rename_i z
    simp only at h
    by_cases hl : z.length ≤ 1000
    · rw [if_pos hl] at h
      intro v H1 po
      have q := po.val
      cases q
      refine ⟨z, rfl, hl, fun dd hd => h dd _ ⟨(po.ext.mono fun _ z => z.2).trans (Ext.alloc (O := fun _ => False) hd) fun _ z => z.elim, fun a y => po.dom a (dom_upd a y), tabs_alloc po.env.tabs hd⟩ upd_same⟩
    · rw [if_neg hl] at h
      exact h.elim
theorem mutS_some {ρ : Rho} {i : Nat} {m : Md} {d : D} (h : mutS ρ i = some (m, d)) : ρ[i]? = some (Slot.s m d) ∧ (m = .ow ∨ m = .le) := by
  unfold mutS at h
  split at h
  · rename_i d' e
    cases h
    exact ⟨e, .inl rfl⟩
  · rename_i d' e
    cases h
    exact ⟨e, .inr rfl⟩
  · cases h
/-- an own list at its slot -/
theorem own_lst {G : Fr} {Fb : Addr → Prop} {ρ : Rho} {σ : L2.St} {H : Hp} {i : Nat} {m : Md} {xs : List D} (En : EnvR G Fb ρ σ H) (h : ρ[i]? = some (Slot.s m (.list xs))) (hm : m = .ow ∨ m = .le) : ∃ a vs, σ[i]? = some (some (.ref a)) ∧ H a = some (.lst vs) ∧ RpL G.K H (Ot Fb ρ σ) vs xs := by
  obtain ⟨v, e1, e2⟩ := En.slot i m _ h
  have key : ∃ a o, v = .ref a ∧ H a = some o ∧ Cont G.K H (Ot Fb ρ σ) o (.list xs) := by
    rcases hm with rfl | rfl <;> exact e2
  obtain ⟨a, o, rfl, e3, e4⟩ := key
  rcases e4 with ⟨vs, ds, rfl, e, r⟩ | ⟨ks, ds, rfl, e, r⟩
  · cases e
    exact ⟨a, vs, e1, e3, r⟩
  · cases e
theorem sti_st {i : Nat} {ix e : Ex} (hx : isVal ix = true) : ∀ D σ H, tSt g F E (.sti i ix e) D σ H → tAsg (tEv g F E e) (gSub (tVar i) (tOpd g F E ix) rSetL) D σ H := by
  intro D σ H ⟨H0, Lb, Bb, Fb, ρ, En, h⟩
  refine ⟨H0, Lb, Bb, Fb, ρ, En, ?_⟩
  unfold evS at h
  cases he : ev F e ρ with
  | stuck => rw [he] at h; exact h.elim
  | exc x => rw [he] at h; cases x; exact fun dd H' px hx => h dd H' px.toS hx
  | ok f v ρ1 =>
    rw [he] at h
    simp only at h
    intro x H1 po
    cases hr : ρ1[i]? with
    | none => rw [hr] at h; exact h.elim
    | some s =>
      cases s with
      | no => rw [hr] at h; exact h.elim
      | s m0 d0 =>
        rw [hr] at h
        simp only at h
        obtain ⟨w, w1, _⟩ := po.env.slot i m0 d0 hr
        refine ⟨w, w1, ?_⟩
        show tOpd g F E ix σ H1 _
        rw [opd_val hx]
        refine ⟨H0, Lb, Bb, Fb, ρ1, po.env, ?_⟩
        cases he2 : ev F ix ρ1 with
        | stuck => rw [he2] at h; exact h.elim
        | exc x => rw [he2] at h; cases x; exact fun dd H' px hx => h dd H' (PostXS.after po.toS px.toS) hx
        | ok f2 k ρ2 =>
          rw [he2] at h
          simp only at h
          intro kv H2 po2
          cases hm : mutS ρ2 i with
          | none => rw [hm] at h; exact h.elim
          | some q =>
            obtain ⟨m, d⟩ := q
            rw [hm] at h
            simp only at h
            obtain ⟨z1, z2⟩ := mutS_some hm
            cases hs : setD d k v with
            | none => rw [hs] at h; exact h.elim
            | some d' =>
              rw [hs] at h
              unfold setD at hs
              split at hs
              · rename_i xs j
                obtain ⟨a, vs, y1, y2, y3⟩ := own_lst po2.env z1 z2
                rw [w1] at y1
                cases y1
                cases hn : ixN xs.length j with
                | none => rw [hn] at hs; cases hs
                | some n =>
                  rw [hn] at hs
                  obtain rfl := Option.some.inj hs
                  have q := po2.val
                  cases q
                  refine ⟨a, vs, j, n, rfl, rfl, y2, by rw [y3.length]; exact hn, ?_⟩
                  have xv := po.keep po2
                  have pm := po2.env.mut z1 z2 w1 (o' := .lst (vs.set n x)) (d' := .list (xs.set n v)) (.inl ⟨_, _, rfl, rfl, y3.set xv n⟩)
                  exact h σ _ ((po.toS.trans po2.toS).trans pm)
              · cases hs
theorem app_st {i : Nat} {e : Ex} (hx : isVal e = true) {K : PySem.W.Frag} (hK : K = g.K) : ∀ D σ H, tSt g F E (.app i e) D σ H → tDrop (tBM K "list" rAppend (tVar i) (tCons (tOpd g F E e) tNil)) D σ H := by
  subst hK
  intro D σ H ⟨H0, Lb, Bb, Fb, ρ, En, h⟩
  unfold evS at h
  cases hm0 : mutS ρ i with
  | none => rw [hm0] at h; exact h.elim
  | some q =>
    obtain ⟨m0, d0⟩ := q
    rw [hm0] at h
    cases d0 <;> try exact h.elim
    rename_i xs0
    obtain ⟨u1, u2⟩ := mutS_some hm0
    obtain ⟨a, vs0, w1, w2, w3⟩ := own_lst En u1 u2
    refine ⟨_, w1, .inl ⟨rfl, vs0, .of w2⟩, ?_⟩
    show tOpd g F E e σ H _
    rw [opd_val hx]
    refine ⟨H0, Lb, Bb, Fb, ρ, En, ?_⟩
    simp only at h
    cases he : ev F e ρ with
    | stuck => rw [he] at h; exact h.elim
    | exc x => rw [he] at h; cases x; exact fun dd H' px hx => h dd H' px.toS hx
    | ok f v ρ1 =>
      rw [he] at h
      simp only at h
      intro x H1 po
      cases hm : mutS ρ1 i with
      | none => rw [hm] at h; exact h.elim
      | some q =>
        obtain ⟨m, d⟩ := q
        rw [hm] at h
        cases d <;> try exact h.elim
        rename_i xs
        simp only at h
        by_cases hl : xs.length < line
        · rw [if_pos hl] at h
          obtain ⟨z1, z2⟩ := mutS_some hm
          obtain ⟨a', vs, y1, y2, y3⟩ := own_lst po.env z1 z2
          rw [w1] at y1
          cases y1
          refine ⟨a, vs, x, rfl, rfl, y2, by rw [y3.length]; exact hl, ?_⟩
          have pm := po.env.mut z1 z2 w1 (o' := .lst (vs ++ [x])) (d' := .list (xs ++ [v])) (.inl ⟨_, _, rfl, rfl, y3.append (.cons po.val .nil)⟩)
          exact h σ _ (po.toS.trans pm)
        · rw [if_neg hl] at h
          exact h.elim
/-- int op= int -/
def rAug (o : Op) : TIp := fun x y H Q => ∃ i j f d, x = .int i ∧ y = .int j ∧ opD o [.int i, .int j] = some (f, d) ∧ ∀ z, d = .int z → f = false → Q (.int z) H
theorem aug_rule {o : Op} {op : Operator} (h : augB o op = true) : PIp X op (rAug o) := by
  intro pins s σ H x y v u Q I rx ry ⟨i, j, f, d, e1, e2, e3, q⟩
  subst e1 e2
  unfold augB at h
  split at h
  · cases e3
    exact ip_add pins s σ H _ _ v u Q I rx ry ⟨i, j, rfl, rfl, q _ rfl rfl⟩
  · cases e3
    exact ip_sub pins s σ H _ _ v u Q I rx ry ⟨i, j, rfl, rfl, q _ rfl rfl⟩
  · have e3 : (if mulOk i j = true then old (.int (i * j)) else none) = some (f, d) := e3
    split at e3
    · rename_i hm
      cases e3
      exact iop_mul pins s σ H _ _ v u Q I rx ry ⟨i, j, rfl, rfl, cmul_of hm, q _ rfl rfl⟩
    · cases e3
  · cases h
theorem opD_ints {o : Op} {i j : Int} {f : Bool} {d : D} (ho : o = .add ∨ o = .sub ∨ o = .mul) (h : opD o [.int i, .int j] = some (f, d)) : f = false ∧ ∃ z, d = .int z := by
  rcases ho with rfl | rfl | rfl
  · cases h; exact ⟨rfl, _, rfl⟩
  · cases h; exact ⟨rfl, _, rfl⟩
  · have h : (if mulOk i j = true then old (.int (i * j)) else none) = some (f, d) := h
    split at h
    · cases h; exact ⟨rfl, _, rfl⟩
    · cases h
theorem augB_op {o : Op} {op : Operator} (h : augB o op = true) : o = .add ∨ o = .sub ∨ o = .mul := by
  unfold augB at h
  split at h
  · exact .inl rfl
  · exact .inr (.inl rfl)
  · exact .inr (.inr rfl)
  · cases h
theorem aug_st {i : Nat} {o : Op} {op : Operator} {e : Ex} (ho : augB o op = true) : ∀ D σ H, tSt g F E (.aug i o e) D σ H → tAug i (tEv g F E e) (rAug o) D σ H := by
  intro D σ H ⟨H0, Lb, Bb, Fb, ρ, En, h⟩
  unfold evS at h
  split at h
  · rename_i x hr
    obtain ⟨w, w1, w2⟩ := En.slot i _ _ hr
    cases w2
    refine ⟨_, w1, H0, Lb, Bb, Fb, ρ, En, ?_⟩
    cases he : ev F e ρ with
    | stuck => rw [he] at h; exact h.elim
    | exc x => rw [he] at h; cases x; exact fun dd H' px hx => h dd H' px.toS hx
    | ok f v ρ1 =>
      rw [he] at h
      cases v <;> try exact h.elim
      rename_i y
      simp only at h
      intro v H1 po
      have q := po.val
      cases q
      cases hd : opD o [.int x, .int y] with
      | none => rw [hd] at h; exact h.elim
      | some q =>
        obtain ⟨f3, d⟩ := q
        rw [hd] at h
        refine ⟨x, y, f3, d, rfl, rfl, hd, fun z e1 e2 => ?_⟩
        subst e1 e2
        obtain ⟨E1, o1⟩ := po.env.put (i := i) (v := .int z) (d := .int z) (.int z)
        exact h _ H1 ⟨E1, po.ext.mono fun _ z => z.2, fun b ⟨j, z⟩ => .inl ⟨j, po.own j b (o1 j b z)⟩, po.dom⟩
  · exact h.elim
theorem whl_st {t : Ex} {b : Sc} : ∀ D σ H, tSt g F E (.whl t b) D σ H → tWhile (tB (tEv g F E t)) (tSt g F E b) D σ H := by
  intro D σ H ⟨H0, Lb, Bb, Fb, ρ, En, h⟩
  have h : sRes g (g.fr H0 Lb Bb) Fb ρ σ H E (whlL (ev F t) (evS F b) fuel ρ) D := h
  generalize hR : whlL (ev F t) (evS F b) fuel ρ = R at h
  refine ⟨fun n σ' H' => ∃ ρ', PostS (g.fr H0 Lb Bb) Fb ρ σ H ρ' σ' H' ∧ whlL (ev F t) (evS F b) n ρ' = R, ⟨fuel, ρ, PostS.refl En, hR⟩, ?_⟩
  intro n σ1 H1 ⟨ρ1, p1, r1⟩
  cases n with
  | zero =>
    unfold whlL at r1
    rw [← r1] at h
    exact h.elim
  | succ n =>
    unfold whlL at r1
    refine ⟨H0, Lb, Bb, Fb, ρ1, p1.env, ?_⟩
    cases he : ev F t ρ1 with
    | stuck => rw [he] at r1; rw [← r1] at h; exact h.elim
    | exc x =>
      rw [he] at r1
      rw [← r1] at h
      cases x
      exact fun dd H' px hx => h dd H' (PostXS.after p1 px.toS) hx
    | ok f d ρ2 =>
      rw [he] at r1
      cases d <;> try (rw [← r1] at h; exact h.elim)
      rename_i k
      intro v H2 po
      have q := po.val
      cases q
      refine ⟨k, rfl, ?_⟩
      have p2 := p1.trans po.toS
      cases k with
      | false =>
        rw [← r1] at h
        show D.nx σ1 H2
        exact h σ1 H2 p2
      | true =>
        show ∃ N : L2.St → Hp → Prop, _
        refine ⟨fun σ' H' => ∃ ρ', PostS (g.fr H0 Lb Bb) Fb ρ σ H ρ' σ' H' ∧ whlL (ev F t) (evS F b) n ρ' = R, fun σ' H' z => ⟨n, Nat.lt_succ_self n, z⟩, H0, Lb, Bb, Fb, ρ2, po.env, ?_⟩
        simp only at r1
        cases hb : evS F b ρ2 with
        | nx ρ3 => rw [hb] at r1; exact fun σ3 H3 p3 => ⟨ρ3, p2.trans p3, r1⟩
        | cnt ρ3 => rw [hb] at r1; exact fun σ3 H3 p3 => ⟨ρ3, p2.trans p3, r1⟩
        | brk ρ3 => rw [hb] at r1; rw [← r1] at h; exact fun σ3 H3 p3 => h σ3 H3 (p2.trans p3)
        | rt f d ρ3 => rw [hb] at r1; rw [← r1] at h; exact fun v σ3 H3 p3 => h v σ3 H3 (PostR.after p2 p3)
        | exc x => rw [hb] at r1; rw [← r1] at h; cases x; exact fun dd H3 p3 hx => h dd H3 (PostXS.after p2 p3) hx
        | stuck => rw [hb] at r1; rw [← r1] at h; exact h.elim
theorem for_st {tg : Tg} {it : Ex} {b : Sc} {K : PySem.W.Frag} (hK : K = g.K) : ∀ D σ H, tSt g F E (.for1 tg it b) D σ H → tFor (tIt g F E it) (tTg K tg) (tSt g F E b) D σ H := by
  subst hK
  intro D σ H ⟨H0, Lb, Bb, Fb, ρ, En, h⟩
  refine ⟨H0, Lb, Bb, Fb, ρ, En, ?_⟩
  unfold evS at h
  cases he : ev F it ρ with
  | stuck => rw [he] at h; exact h.elim
  | exc x => rw [he] at h; cases x; exact fun dd H' px hx => h dd H' px.toS hx
  | ok f d ρ1 =>
    rw [he] at h
    cases d <;> try exact h.elim
    rename_i ds
    simp only at h
    intro J H1 S W pi
    obtain ⟨Bb', FbL, lk, s0⟩ := pi.src Fb H1 pi.env Ext.refl (fun _ z => .inl z) (fun _ z => z)
    have s0 := s0 (Om (lockR it ρ1) σ) fun a z => .inl z
    -- from the walk's beginning to the statement's
    have base : PostS (g.fr H0 Lb Bb) Fb ρ σ H ρ1 σ H1 := ⟨pi.env, pi.ext.mono fun _ z => z.2, fun b ⟨i, z⟩ => .inl ⟨i, pi.own i b z⟩, pi.dom⟩
    have omL : ∀ a, Om (lockR it ρ1) σ a → Om ρ1 σ a := fun a ⟨i, z⟩ => ⟨i, lk.own i a z⟩
    generalize hR : forL (bindT tg) (evS F b) ds (lockR it ρ1) = R at h
    have lift : ∀ {ρ2 : Rho} {σ2 : L2.St} {H2 : Hp}, PostS (g.fr H0 Lb Bb') FbL (lockR it ρ1) σ H1 ρ2 σ2 H2 → ∀ {ρ3 : Rho}, unlockR it ρ1 ρ2 = some ρ3 → PostS (g.fr H0 Lb Bb) Fb ρ σ H ρ3 σ2 H2 ∧ (∀ a, Ot Fb ρ3 σ2 a → Ot FbL ρ2 σ2 a) := fun {ρ2 σ2 H2} p {ρ3} hu => by
      obtain ⟨E3, o3, _⟩ := lk.un _ _ _ _ p.env hu
      refine ⟨base.trans ⟨E3, p.ext.mono omL, fun b ⟨j, z⟩ => ?_, p.dom⟩, fun a z => ?_⟩
      · rcases o3 j b z with y | y
        · exact (p.own b ⟨j, y⟩).imp (omL b) id
        · exact .inl ⟨j, y.1⟩
      · rcases z with z | ⟨j, z⟩
        · exact .inl (lk.up a z)
        · rcases o3 j a z with y | y
          · exact .inr ⟨j, y⟩
          · exact .inl y.2
    have liftX : ∀ {ρ2 : Rho} {σ2 : L2.St} {H2 H3 : Hp}, PostS (g.fr H0 Lb Bb') FbL (lockR it ρ1) σ H1 ρ2 σ2 H2 → PostXS (g.fr H0 Lb Bb') ρ2 σ2 H2 H3 → PostXS (g.fr H0 Lb Bb) ρ σ H H3 := fun {ρ2 σ2 H2 H3} p px => by
      have e : Ext (Om (lockR it ρ1) σ) H1 H3 := ext_S p.ext p.own px.ext
      exact ⟨ext_S base.ext base.own (e.mono omL), fun a z => base.dom a (p.dom a (px.dom a z)), px.tabs⟩
    refine ⟨fun i m σ' H' => ∃ ρ', PostS (g.fr H0 Lb Bb') FbL (lockR it ρ1) σ H1 ρ' σ' H' ∧ S H' (Ot FbL ρ' σ') (Om ρ' σ') ∧ i ≤ ds.length ∧ m = ds.length - i ∧ forL (bindT tg) (evS F b) (ds.drop i) ρ' = R, ⟨ds.length, lockR it ρ1, PostS.refl lk.env, s0, Nat.zero_le _, rfl, hR⟩, ?_⟩
    rintro i m σ2 H2 ⟨ρ2, p2, s2, hi, rfl, r2⟩
    by_cases hlt : i < ds.length
    · right
      refine ⟨W.go s2 hlt, fun σ' H' => ∃ ρ', PostS (g.fr H0 Lb Bb') FbL (lockR it ρ1) σ H1 ρ' σ' H' ∧ S H' (Ot FbL ρ' σ') (Om ρ' σ') ∧ forL (bindT tg) (evS F b) (ds.drop (i + 1)) ρ' = R, fun σ' H' ⟨ρ', a1, a2, a3⟩ => ⟨ds.length - (i + 1), by omega, ρ', a1, a2, hlt, rfl, a3⟩, fun x H3 hy => ?_⟩
      have hdi : ds[i]? = some ds[i] := List.getElem?_eq_getElem hlt
      obtain ⟨rx, gH⟩ := W.yld s2 hy _ hdi
      have p3 : PostS (g.fr H0 Lb Bb') FbL ρ2 σ2 H2 ρ2 σ2 H3 := by
        rcases gH with rfl | ⟨p, xs, hp, rfl⟩
        · exact PostS.refl p2.env
        · exact ⟨p2.env.alloc hp, Ext.alloc hp, fun _ z => .inl z, dom_upd⟩
      rw [List.drop_eq_getElem_cons hlt] at r2
      unfold forL at r2
      cases hb : bindT tg ds[i] ρ2 with
      | none => rw [hb] at r2; rw [← r2] at h; exact h.elim
      | some ρb =>
        rw [hb] at r2
        simp only at r2
        refine bind_ok (g := g.fr H0 Lb Bb') rfl p3.env rx hb fun σb Eb k1 k2 k3 => ?_
        have pb : PostS (g.fr H0 Lb Bb') FbL ρ2 σ2 H2 ρb σb H3 := ⟨Eb, p3.ext, fun a ⟨j, z⟩ => .inl ⟨j, k3 j a z⟩, p3.dom⟩
        refine ⟨H0, Lb, Bb', FbL, ρb, Eb, ?_⟩
        have next : ∀ {ρ4 : Rho} {σ4 : L2.St} {H4 : Hp}, PostS (g.fr H0 Lb Bb') FbL ρb σb H3 ρ4 σ4 H4 → PostS (g.fr H0 Lb Bb') FbL (lockR it ρ1) σ H1 ρ4 σ4 H4 ∧ S H4 (Ot FbL ρ4 σ4) (Om ρ4 σ4) := fun {ρ4 σ4 H4} p4 => by
          have pt := pb.trans p4
          refine ⟨p2.trans pt, W.keep s2 (fun a z => .inr z) pt.ext (fun a z => ?_) pt.own⟩
          rcases z with z | z
          · exact .inl (.inl z)
          · exact (pt.own a z).imp .inr id
        cases hs : evS F b ρb with
        | nx ρ4 => rw [hs] at r2; exact fun σ4 H4 p4 => ⟨ρ4, (next p4).1, (next p4).2, r2⟩
        | cnt ρ4 => rw [hs] at r2; exact fun σ4 H4 p4 => ⟨ρ4, (next p4).1, (next p4).2, r2⟩
        | brk ρ4 =>
          rw [hs] at r2
          rw [← r2] at h
          simp only at h
          intro σ4 H4 p4
          cases hu : unlockR it ρ1 ρ4 with
          | none => rw [hu] at h; exact h.elim
          | some ρ5 => rw [hu] at h; exact h σ4 H4 (lift (next p4).1 hu).1
        | rt f d ρ4 =>
          rw [hs] at r2
          rw [← r2] at h
          simp only at h
          intro v σ4 H4 p4
          cases hu : unlockR it ρ1 ρ4 with
          | none => rw [hu] at h; exact h.elim
          | some ρ5 =>
            rw [hu] at h
            obtain ⟨l1, l2⟩ := lift (next p4.toPostS).1 hu
            exact h v σ4 H4 ⟨l1, p4.val.mono Ext.refl fun a z => .inl (l2 a z), fun z => by cases z⟩
        | exc x =>
          rw [hs] at r2
          rw [← r2] at h
          cases x
          exact fun dd H4 px hx => h dd H4 (liftX (p2.trans pb) px) hx
        | stuck => rw [hs] at r2; rw [← r2] at h; exact h.elim
    · left
      have hge : ds.length ≤ i := Nat.le_of_not_lt hlt
      rw [List.drop_eq_nil_of_le hge] at r2
      unfold forL at r2
      rw [← r2] at h
      simp only at h
      refine ⟨W.stop s2 hge, ?_⟩
      cases hu : unlockR it ρ1 ρ2 with
      | none => rw [hu] at h; exact h.elim
      | some ρ5 => rw [hu] at h; exact h σ2 H2 (lift p2 hu).1
end
end Mx
end

section
set_option Elab.async false
set_option linter.all false
set_option maxRecDepth 100000
set_option maxHeartbeats 2000000
/-! Blocks: the induction. -/
namespace Mx
open PySem PySem.Spec PyProof.Rows L2
section
variable {g : Pg} {c : Ck} {L : Nat} {F : FnSem} {sc : Scope} {kd : Option String} {E : XK} {X : Cx}
theorem swaps_eq {v : Expr} {x : Str} {py : Pos} {l : Nat} {env : Env} (h : notSD v = true) : swapsWith v (some (.Name x py)) l env = pure (swT env.scope x py v) := by
  cases v <;> first | rfl | (cases h)
theorem swaps_no {v : Expr} {t : Expr} {l : Nat} {env : Env} (h : ∀ x p, t ≠ .Name x p) : swapsWith v (some t) l env = pure false := by
  cases t <;> cases v <;> first | rfl | exact absurd rfl (h _ _)
theorem drop_no {v : Expr} {l : Nat} {env : Env} (h : notDrop v = true) : swapsWith v none l env = pure false := by
  cases v <;> first | rfl | (cases h)
/-- the comprehension's parts -/
theorem comp_parts (G : Good g c L sc kd true E X) (Fa : Facts g c L F) {ee te iex : Expr} {ifs : List Expr} {scope : Scope} {pos : Pos} {elt it cond : Ex} {tg : Tg} {own : List Nat} (h : chkE c sc kd (.ListComp ee [⟨te, iex, ifs, 0⟩] scope pos) (.comp elt tg own it cond) = true) :
    PI X te iex (tIt g F E it) ∧ BlkOk X.N X.env.scope scope (ownP c own) ∧ (∀ (s : Shared) (H : Hp) (C : Addr) (cl : List (Str × Addr)) (fp : List Addr), PG (X.blk s H scope (compEnvC scope cl C X.env) fp) te (tTg X.K tg)) ∧
    (∀ (s : Shared) (H : Hp) (C : Addr) (cl : List (Str × Addr)) (fp : List Addr), PTs (X.blk s H scope (compEnvC scope cl C X.env) fp) ifs (tCond g F cond)) ∧
    (∀ (s : Shared) (H : Hp) (C : Addr) (cl : List (Str × Addr)) (fp : List Addr), PE (X.blk s H scope (compEnvC scope cl C X.env) fp) ee (tEv g F E0 elt)) ∧ notSet iex = true ∧ ∀ j ∈ tgIx tg, j ∈ own := by
  unfold chkE at h
  simp only [Bool.and_eq_true] at h
  obtain ⟨⟨⟨⟨⟨⟨⟨h1, h2⟩, h3⟩, h4⟩, h5⟩, h6⟩, h7⟩, h8⟩ := h
  have Sx := snd (g := g) (c := c) (L := L) (F := F) Fa
  refine ⟨(Sx it).pi (tg := te) (E := E) G h5.2 h5.1, by rw [G.N, G.sc]; exact blkOk_by h1, fun s H C cl fp => ?_, fun s H C cl fp => ?_, fun s H C cl fp => (Sx elt).peV h7 (G.blk s H scope cl C fp) h6, h2, fun j hj => List.contains_iff_mem.mp ((List.all_eq_true.mp h4) j hj)⟩
  · have B := G.blk s H scope cl C fp
    exact pg_tg B.N B.nd B.sc B.fn B.calm h3
  · have B := G.blk s H scope cl C fp
    unfold tCond
    cases ifs with
    | nil =>
      simp only at h8
      rw [if_pos h8]
      exact pts_nil
    | cons t r =>
      cases r with
      | nil =>
        simp only [Bool.and_eq_true, Bool.not_eq_true'] at h8
        rw [if_neg (by rw [h8.2]; exact Bool.false_ne_true)]
        exact pts_one ((Sx cond).pt B h8.1.1.2 h8.1.2 h8.1.1.1)
      | cons _ _ => cases h8
theorem comp_code {ee : Expr} {gs : List Comprehension} {scope : Scope} {pos : Pos} {e : Ex} (h3 : isVal e = true) (h2 : chkE c sc kd (.ListComp ee gs scope pos) e = true) : ∃ elt tg own it cond, e = .comp elt tg own it cond := by
  cases e
  case comp elt tg own it cond => exact ⟨elt, tg, own, it, cond, rfl⟩
  case op o as =>
    unfold chkE at h2
    rw [show vw sc o (.ListComp ee gs scope pos) = none by cases o <;> rfl] at h2
    cases h2
  case cst d => cases d <;> cases h2
  all_goals first | (cases h3; done) | (cases h2; done)
/-- x = e -/
theorem ps_setx (G : Good g c L sc kd true E X) (Fa : Facts g c L F) {i : Nat} {x : Str} {v : Expr} {py pos : Pos} {e : Ex} (h1 : stB c sc true i x = true) (h2 : chkE c sc kd v e = true) (h3 : isVal e = true) (h4 : notSD v = true) : PS X (.Assign [.Name x py] v pos) (tSt g F E (.set i e)) := by
  have hN : X.N[i]? = some x := by
    unfold stB at h1
    rw [Bool.and_eq_true] at h1
    rw [G.N]
    exact eq_of_beq h1.1
  cases hs : swT sc x py v with
  | false =>
    have hl : L2.Loc X.env.scope x := by
      unfold stB at h1
      simp only [Bool.and_eq_true, Bool.or_eq_true] at h1
      rw [G.sc]
      rcases h1.2 with z | z
      · exact .inl (eq_of_beq z)
      · exact .inr (eq_of_beq z.2)
    exact PS.imp (ps_set G.nd hN hl ((snd Fa e).peV h3 G h2) (by rw [swaps_eq h4, G.sc, hs]) (.inl (G.fn rfl x))) set_st
  | true =>
    unfold swT at hs
    split at hs
    · rename_i ee gs scope cpos
      obtain ⟨elt, tg, own, it, cond, rfl⟩ := comp_code h3 h2
      have gs1 : ∃ te iex ifs, gs = [⟨te, iex, ifs, 0⟩] := by
        unfold chkE at h2
        split at h2
        · rename_i q
          cases q
          exact ⟨_, _, _, rfl⟩
        · cases h2
      obtain ⟨te, iex, ifs, rfl⟩ := gs1
      obtain ⟨p1, p2, p3, p4, p5, p6, p7⟩ := comp_parts G Fa h2
      simp only [Bool.and_eq_true, Bool.not_eq_true'] at hs
      obtain ⟨⟨⟨s1, s2⟩, s3⟩, s4⟩ := hs
      have hl : List.lookup x X.env.scope.names = some .local := by rw [G.sc]; exact eq_of_beq s2
      have hsw : swapsWith (.ListComp ee [⟨te, iex, ifs, 0⟩] scope cpos) (some (.Name x py)) pos.line X.env = pure true := by
        rw [swaps_eq rfl]
        congr 1
        unfold swT
        simp only [Bool.and_eq_true, Bool.not_eq_true']
        rw [G.sc]
        exact ⟨⟨⟨s1, s2⟩, s3⟩, s4⟩
      refine PS.imp (ps_setLc G.calm G.nd hN hl hsw p1 p2 p3 p4 p5 (noSet_fold p6)) fun D σ H q => ?_
      have q := set_st D σ H q
      rw [show ((ownP c own).map fun x => x.2) = own from own_ix]
      exact comp_ev (E := E) G.K p7 σ H _ q
    · cases hs
theorem get_list : PGet X (fun o i H Q => rIxL X.K o i H Q) := by
  intro pins s σ H o i ov iv Q I ro ri ⟨p, xs, k, w, e1, e2, hq, hw, q⟩
  subst e1 e2
  cases ro
  obtain ⟨t, rfl⟩ := ri
  obtain ⟨its, r, pl, hz⟩ := I.list hq
  have hl := r.length
  unfold L2.atI at hw
  cases hx : L2.ixN xs.length k with
  | none => rw [hx] at hw; cases hw
  | some n =>
    rw [hx] at hw
    obtain ⟨u, eu, ru⟩ := r.get (show xs[n]? = some w from hw)
    have fin : EP X pins σ Q u s := ⟨w, H, I, ru, q⟩
    have sz : sizeLine = 16777216 := rfl
    unfold L2.ixN at hx
    by_cases h0 : 0 ≤ k
    · rw [if_pos h0] at hx
      split at hx
      · cases hx
        exact wpAny_getItem_list pl.isList h0 (by omega) (by simpa using eu) fin
      · cases hx
    · rw [if_neg h0] at hx
      split at hx
      · cases hx
        exact wpAny_getItem_list_neg pl.isList (by omega) (by rw [List.size_toArray, ← hl]; omega) (by omega) (by rw [List.size_toArray, ← hl]; simpa using eu) fin
      · cases hx
theorem agi_st {i : Nat} {ix e : Ex} {o : Op} {op : Operator} (ho : augB o op = true) (hx : isVal ix = true) (he : isVal e = true) {K : PySem.W.Frag} (hK : K = g.K) : ∀ D σ H, tSt g F E (.agi i ix o e) D σ H → tAugS (tVar i) (tOpd g F E ix) (tEv g F E e) (fun o i H Q => rIxL K o i H Q) (rAug o) rSetL D σ H := by
  subst hK
  intro D σ H ⟨H0, Lb, Bb, Fb, ρ, En, h⟩
  unfold evS at h
  cases hr : ρ[i]? with
  | none => rw [hr] at h; exact h.elim
  | some s =>
    cases s with
    | no => rw [hr] at h; exact h.elim
    | s m0 d0 =>
      rw [hr] at h
      simp only at h
      obtain ⟨w, w1, _⟩ := En.slot i m0 d0 hr
      refine ⟨w, w1, ?_⟩
      show tOpd g F E ix σ H _
      rw [opd_val hx]
      refine ⟨H0, Lb, Bb, Fb, ρ, En, ?_⟩
      cases he1 : ev F ix ρ with
      | stuck => rw [he1] at h; exact h.elim
      | exc x => rw [he1] at h; cases x; exact fun dd H' px hx => h dd H' px.toS hx
      | ok f1 k ρ1 =>
        rw [he1] at h
        cases k <;> try exact h.elim
        rename_i k
        simp only at h
        intro kv H1 po
        have q := po.val
        cases q
        cases hm : mutS ρ1 i with
        | none => rw [hm] at h; exact h.elim
        | some q =>
          obtain ⟨m, d⟩ := q
          rw [hm] at h
          cases d <;> try exact h.elim
          rename_i xs
          simp only at h
          obtain ⟨z1, z2⟩ := mutS_some hm
          obtain ⟨a, vs, y1, y2, y3⟩ := own_lst po.env z1 z2
          rw [w1] at y1
          cases y1
          cases hd : idxD xs k with
          | none => rw [hd] at h; exact h.elim
          | some x =>
            rw [hd] at h
            cases x <;> try exact h.elim
            rename_i x
            simp only at h
            obtain ⟨xv, x1, x2⟩ := idxD_get y3 hd
            cases x2
            refine ⟨a, vs, k, _, rfl, rfl, .of y2, x1, ?_⟩
            refine ⟨H0, Lb, Bb, Fb, ρ1, po.env, ?_⟩
            cases he2 : ev F e ρ1 with
            | stuck => rw [he2] at h; exact h.elim
            | exc x => rw [he2] at h; cases x; exact fun dd H' px hx => h dd H' (PostXS.after po.toS px.toS) hx
            | ok f2 y ρ2 =>
              rw [he2] at h
              cases y <;> try exact h.elim
              rename_i y
              simp only at h
              intro yv H2 po2
              have q := po2.val
              cases q
              cases hop : opD o [.int x, .int y] with
              | none => rw [hop] at h; exact h.elim
              | some q =>
                obtain ⟨f3, z⟩ := q
                rw [hop] at h
                simp only at h
                refine ⟨x, y, f3, z, rfl, rfl, hop, fun zi e1 e2 => ?_⟩
                subst e1 e2
                cases hm2 : mutS ρ2 i with
                | none => rw [hm2] at h; exact h.elim
                | some q =>
                  obtain ⟨m2, d2⟩ := q
                  rw [hm2] at h
                  simp only at h
                  obtain ⟨z3, z4⟩ := mutS_some hm2
                  cases hs : setD d2 (.int k) (.int zi) with
                  | none => rw [hs] at h; exact h.elim
                  | some d' =>
                    rw [hs] at h
                    unfold setD at hs
                    split at hs
                    · rename_i xs2 j hj
                      cases hj
                      obtain ⟨a2, vs2, y4, y5, y6⟩ := own_lst po2.env z3 z4
                      rw [w1] at y4
                      cases y4
                      cases hn : ixN xs2.length k with
                      | none => rw [hn] at hs; cases hs
                      | some n =>
                        rw [hn] at hs
                        obtain rfl := Option.some.inj hs
                        refine ⟨a, vs2, k, n, rfl, rfl, y5, by rw [y6.length]; exact hn, ?_⟩
                        have pm := po2.env.mut z3 z4 w1 (o' := .lst (vs2.set n (.int zi))) (d' := .list (xs2.set n (.int zi))) (.inl ⟨_, _, rfl, rfl, y6.set (.int zi) n⟩)
                        exact h σ _ ((po.toS.trans po2.toS).trans pm)
                    · cases hs
theorem st_loc (G : Good g c L sc kd true E X) {i : Nat} {x : Str} (h1 : stB c sc true i x = true) : X.N[i]? = some x ∧ L2.Loc X.env.scope x := by
  unfold stB at h1
  simp only [Bool.and_eq_true, Bool.or_eq_true] at h1
  refine ⟨by rw [G.N]; exact eq_of_beq h1.1, ?_⟩
  rw [G.sc]
  rcases h1.2 with z | z
  · exact .inl (eq_of_beq z)
  · exact .inr (eq_of_beq z.2)
variable (g c L F) in
structure Ss (s : Sc) : Prop where
  one : ∀ {X : Cx} {sc : Scope} {kd : Option String} {E : XK} {st : Stmt}, Good g c L sc kd true E X → PassesOwn (model X.prog X.w) X.A X.env X.xe → chk1 c sc kd st s = true → PS X st (tSt g F E s)
  all : ∀ {X : Cx} {sc : Scope} {kd : Option String} {E : XK} {sts : List Stmt}, Good g c L sc kd true E X → PassesOwn (model X.prog X.w) X.A X.env X.xe → chkSs c sc kd sts s = true → PSs X sts (tSt g F E s)
theorem sns (Fa : Facts g c L F) : ∀ s : Sc, Ss g c L F s := by
  have Sx := snd (g := g) (c := c) (L := L) (F := F) Fa
  intro s
  induction s with
  | skip =>
    refine ⟨fun {X sc kd E st} G po h => ?_, fun {X sc kd E sts} G po h => ?_⟩
    · unfold chk1 at h
      split at h
      · exact PS.imp ps_pass skip_st
      · exact PS.imp ps_doc skip_st
      · cases h
    · cases sts with
      | nil => exact PSs.imp pss_nil skip_st
      | cons _ _ => cases h
  | seq a b ia ib =>
    refine ⟨fun {X sc kd E st} G po h => ?_, fun {X sc kd E sts} G po h => ?_⟩
    · cases h
    · cases sts with
      | nil => cases h
      | cons st rest =>
        have h : (chk1 c sc kd st a && chkSs c sc kd rest b) = true := h
        rw [Bool.and_eq_true] at h
        exact PSs.imp (pss_cons (ia.one G po h.1) (ib.all G po h.2)) seq_st
  | ex e =>
    refine ⟨fun {X sc kd E st} G po h => ?_, fun G po h => by cases h⟩
    unfold chk1 at h
    split at h
    · simp only [Bool.and_eq_true] at h
      exact PS.imp (ps_expr ((Sx e).peV h.1.2 G h.1.1) (drop_no h.2)) ex_st
    · cases h
  | set i e =>
    refine ⟨fun {X sc kd E st} G po h => ?_, fun G po h => by cases h⟩
    unfold chk1 at h
    split at h
    · simp only [Bool.and_eq_true] at h
      exact ps_setx G Fa h.1.1.1 h.1.1.2 h.1.2 h.2
    · cases h
  | par i j as =>
    refine ⟨fun {X sc kd E st} G po h => ?_, fun G po h => by cases h⟩
    unfold chk1 at h
    split at h
    · rename_i x px y py kt pt a b k2 pt2 pos
      simp only [Bool.and_eq_true, Bool.not_eq_true'] at h
      obtain ⟨⟨⟨⟨⟨h1, h2⟩, h3⟩, h4⟩, h5⟩, h6⟩ := h
      have ps := (Sx as).pl (E := E) G h5
      have h4' := h4
      unfold parB at h4'
      simp only [Bool.and_eq_true] at h4'
      obtain ⟨⟨⟨⟨⟨⟨⟨⟨q1, q2⟩, q3⟩, q4⟩, q5⟩, q6⟩, q7⟩, q8⟩, q9⟩ := h4'
      have hij : i ≠ j := fun z => by rw [z] at h3; simp at h3
      exact PS.imp (ps_par G.calm G.nd (by rw [G.N]; exact eq_of_beq h1) (by rw [G.N]; exact eq_of_beq h2) hij (by rw [G.sc]; exact eq_of_beq q4) (by rw [G.sc]; exact eq_of_beq q5) ps.pa (par_swap G.sc h4)) (par_st ps.ls h6)
    · cases h
  | par3 i j l as =>
    refine ⟨fun {X sc kd E st} G po h => ?_, fun G po h => by cases h⟩
    unfold chk1 at h
    split at h
    · rename_i x px y py z pz kt pt a b d k2 pt2 pos
      simp only [Bool.and_eq_true, Bool.not_eq_true'] at h
      obtain ⟨⟨⟨⟨⟨⟨⟨⟨h1, h2⟩, h3⟩, h4⟩, h5⟩, h6⟩, h7⟩, h8⟩, h9⟩ := h
      have ps := (Sx as).pl (E := E) G h8
      have h4' := h7
      unfold par3B at h4'
      simp only [Bool.and_eq_true] at h4'
      obtain ⟨⟨⟨⟨⟨⟨⟨⟨⟨⟨⟨⟨⟨q1, q2⟩, q3⟩, q3'⟩, q4⟩, q5⟩, q5'⟩, q6⟩, q6'⟩, q7⟩, q7'⟩, q7''⟩, q8⟩, q9⟩ := h4'
      have hij : i ≠ j := fun z => by rw [z] at h4; simp at h4
      have hil : i ≠ l := fun z => by rw [z] at h5; simp at h5
      have hjl : j ≠ l := fun z => by rw [z] at h6; simp at h6
      exact PS.imp (ps_par3 G.calm G.nd (by rw [G.N]; exact eq_of_beq h1) (by rw [G.N]; exact eq_of_beq h2) (by rw [G.N]; exact eq_of_beq h3) hij hil hjl (by rw [G.sc]; exact eq_of_beq q4) (by rw [G.sc]; exact eq_of_beq q5) (by rw [G.sc]; exact eq_of_beq q5') ps.pa (par3_swap G.sc h7)) (par3_st ps.ls h9)
    · cases h
  | unp is e =>
    refine ⟨fun {X sc kd E st} G po h => ?_, fun G po h => by cases h⟩
    unfold chk1 at h
    split at h
    · rename_i es k p v pos
      simp only [Bool.and_eq_true] at h
      obtain ⟨⟨⟨h1, h2⟩, h3⟩, h4⟩ := h
      have pg : PG X (.Tuple es k p) (tTg X.K (.tup is)) := pg_tg (c := c) (tg := .tup is) G.N G.nd G.sc G.fn G.calm h1
      refine PS.imp (ps_asg ((Sx e).peV h3 G h2) pg (by show swapsWith v (some (.Tuple es k p)) pos.line X.env = pure false; exact swaps_no fun x p z => by cases z) ?_ rfl) (unp_st G.K)
      rw [Bool.or_eq_true] at h4
      rcases h4 with h4 | h4
      · cases v <;> first | rfl | (cases h4)
      · rw [← G.sc] at h4
        exact unSw_none h4
    · cases h
  | aug i o e =>
    refine ⟨fun {X sc kd E st} G po h => ?_, fun G po h => by cases h⟩
    unfold chk1 at h
    split at h
    · simp only [Bool.and_eq_true] at h
      obtain ⟨⟨⟨h1, h2⟩, h3⟩, h4⟩ := h
      obtain ⟨l1, l2⟩ := st_loc G h1
      exact PS.imp (ps_aug G.nd l1 l2 ((Sx e).peV h4 G h3) (aug_rule h2) (.inl (G.fn rfl _))) (aug_st h2)
    · cases h
  | sti i ix e =>
    refine ⟨fun {X sc kd E st} G po h => ?_, fun G po h => by cases h⟩
    unfold chk1 at h
    split at h
    · rename_i x xp ixe sp v pos
      simp only [Bool.and_eq_true] at h
      obtain ⟨⟨⟨⟨⟨h1, h2⟩, h3⟩, h4⟩, h5⟩, h6⟩ := h
      have pg : PG X (.Subscript (.Name x xp) ixe sp) (gSub (tVar i) (tOpd g F E ix) rSetL) := pg_sub (G.pv h1) ((Sx ix).pe G h2) set_list (by cases ixe <;> first | exact fun _ => rfl | cases h4)
      exact PS.imp (ps_asg ((Sx e).peV h6 G h3) pg (by show swapsWith v (some (.Subscript (.Name x xp) ixe sp)) pos.line X.env = pure false; exact swaps_no fun x p z => by cases z) rfl rfl) (sti_st h5)
    · cases h
  | agi i ix o e =>
    refine ⟨fun {X sc kd E st} G po h => ?_, fun G po h => by cases h⟩
    unfold chk1 at h
    split at h
    · rename_i x xp ixe sp op v pos
      simp only [Bool.and_eq_true] at h
      obtain ⟨⟨⟨⟨⟨⟨h1, h2⟩, h3⟩, h4⟩, h5⟩, h6⟩, h7⟩ := h
      exact PS.imp (ps_augS (G.pv h1) ((Sx ix).pe G h3) get_list ((Sx e).peV h7 G h4) (aug_rule h2) set_list (by cases ixe <;> first | exact fun _ _ _ => rfl | cases h5)) (agi_st h2 h6 h7 G.K)
    · cases h
  | app i e =>
    refine ⟨fun {X sc kd E st} G po h => ?_, fun G po h => by cases h⟩
    unfold chk1 at h
    split at h
    · simp only [Bool.and_eq_true] at h
      obtain ⟨⟨⟨⟨⟨h1, h2⟩, h3⟩, h4⟩, h5⟩, h6⟩ := h
      obtain rfl := eq_of_beq h1
      exact PS.imp (ps_expr (pe_bm PySem.F.plainAttrs_list PySem.F.slot_list_append PySem.F.type_list_append mt_append (G.pv h3) (pa_cons ((Sx e).pe G h5) pa_nil (star_cons h4)) rfl (by rw [star_cons h4]; rfl) h2 (star_cons h4) rfl) rfl) (app_st h6 G.K)
    · cases h
  | ret e =>
    refine ⟨fun {X sc kd E st} G po h => ?_, fun G po h => by cases h⟩
    unfold chk1 at h
    split at h
    · simp only [Bool.and_eq_true] at h
      exact PS.imp (ps_ret ((Sx e).peV h.2 G h.1)) ret_st
    · cases h
  | retN =>
    refine ⟨fun {X sc kd E st} G po h => ?_, fun G po h => by cases h⟩
    unfold chk1 at h
    split at h
    · exact PS.imp ps_retN retN_st
    · cases h
  | rown i =>
    refine ⟨fun {X sc kd E st} G po h => ?_, fun G po h => by cases h⟩
    unfold chk1 at h
    split at h
    · exact PS.imp (ps_ret (G.pv h)) rown_st
    · cases h
  | ifs t a b ia ib =>
    refine ⟨fun {X sc kd E st} G po h => ?_, fun G po h => by cases h⟩
    unfold chk1 at h
    split at h
    · simp only [Bool.and_eq_true] at h
      obtain ⟨⟨⟨⟨h1, h2⟩, h3⟩, h4⟩, h5⟩ := h
      exact PS.imp (ps_if ((Sx t).pt G h2 h3 h1) (ia.all G po h4) (ib.all G po h5)) ifs_st
    · cases h
  | whl t b ib =>
    refine ⟨fun {X sc kd E st} G po h => ?_, fun G po h => by cases h⟩
    unfold chk1 at h
    split at h
    · simp only [Bool.and_eq_true] at h
      obtain ⟨⟨⟨h1, h2⟩, h3⟩, h4⟩ := h
      exact PS.imp (ps_while po ((Sx t).pt G h2 h3 h1) (ib.all G po h4)) whl_st
    · cases h
  | for1 tg it b ib =>
    refine ⟨fun {X sc kd E st} G po h => ?_, fun G po h => by cases h⟩
    unfold chk1 at h
    split at h
    · simp only [Bool.and_eq_true] at h
      obtain ⟨⟨⟨⟨h1, h2⟩, h3⟩, h4⟩, h5⟩ := h
      exact PS.imp (ps_for po G.calm ((Sx it).pi (E := E) G h3 h2) (pg_tg G.N G.nd G.sc G.fn G.calm h1) (ib.all G po h5) (noSet_fold h4)) (for_st G.K)
    · cases h
  | brk =>
    refine ⟨fun {X sc kd E st} G po h => ?_, fun G po h => by cases h⟩
    unfold chk1 at h
    split at h
    · exact PS.imp ps_break brk_st
    · cases h
  | cnt =>
    refine ⟨fun {X sc kd E st} G po h => ?_, fun G po h => by cases h⟩
    unfold chk1 at h
    split at h
    · exact PS.imp ps_continue cnt_st
    · cases h
  | rais e =>
    refine ⟨fun {X sc kd E st} G po h => ?_, fun G po h => by cases h⟩
    unfold chk1 at h
    split at h
    · simp only [Bool.and_eq_true] at h
      obtain ⟨⟨⟨h1, h2⟩, h3⟩, h4⟩ := h
      obtain ⟨rfl, hg⟩ := blt_eq h1
      have bad : PySem.BadX.BadTxt X.prog X.K X.mg g.C g.fI := by rw [G.P, G.K, G.mg]; exact Fa.bad
      exact PS.imp (ps_raise G.calm G.tk (pmk_bad bad G.roomL (pa_cons ((Sx e).pe G h3) pa_nil (star_cons h2)) (G.gl hg) (star_cons h2) rfl)) (fun D σ H q => rais_st h4 D σ H q)
    · cases h
end
end Mx
end

section
set_option Elab.async false
set_option linter.all false
set_option maxRecDepth 100000
set_option maxHeartbeats 2000000
/-! Defs. -/
namespace Mx
open PySem PySem.Spec PyProof.Rows L2
theorem outs_spec : ∀ (args ρ o : Rho), outsOf args ρ = some o → o.length = args.length ∧ ∀ (k : Nat) (s : Slot), o[k]? = some s → (∃ d d0, s = Slot.s .le d ∧ args[k]? = some (Slot.s .le d0) ∧ ρ[k]? = some (Slot.s .le d)) ∨ ((∀ d, s ≠ Slot.s .le d) ∧ args[k]? = some s) := by
  intro args
  induction args with
  | nil =>
    intro ρ o h
    cases h
    exact ⟨rfl, fun k s e => by simp at e⟩
  | cons a as ih =>
    intro ρ o h
    unfold outsOf at h
    cases ρ with
    | nil => cases h
    | cons r ρ =>
      simp only at h
      cases hr : outsOf as ρ with
      | none => rw [hr] at h; cases h
      | some o' =>
        rw [hr] at h
        simp only at h
        obtain ⟨h1, h2⟩ := ih ρ o' hr
        have rest : ∀ (t : Slot), o = t :: o' → ((∃ d d0, t = Slot.s .le d ∧ a = Slot.s .le d0 ∧ r = Slot.s .le d) ∨ ((∀ d, t ≠ Slot.s .le d) ∧ a = t)) → o.length = (a :: as).length ∧ ∀ (k : Nat) (s : Slot), o[k]? = some s → (∃ d d0, s = Slot.s .le d ∧ (a :: as)[k]? = some (Slot.s .le d0) ∧ (r :: ρ)[k]? = some (Slot.s .le d)) ∨ ((∀ d, s ≠ Slot.s .le d) ∧ (a :: as)[k]? = some s) := fun t e ht => by
          subst e
          refine ⟨congrArg Nat.succ h1, fun k s e => ?_⟩
          cases k with
          | zero =>
            simp only [List.getElem?_cons_zero] at e ⊢
            cases e
            rcases ht with ⟨d, d0, e1, e2, e3⟩ | ⟨e1, e2⟩
            · exact .inl ⟨d, d0, e1, by rw [e2], by rw [e3]⟩
            · exact .inr ⟨e1, by rw [e2]⟩
          | succ k =>
            simp only [List.getElem?_cons_succ] at e ⊢
            exact h2 k s e
        cases a with
        | no => exact rest .no (Option.some.inj h).symm (.inr ⟨fun d z => (by cases z), rfl⟩)
        | s m d0 =>
          cases m with
          | le =>
            simp only at h
            cases r with
            | no => cases h
            | s m' d =>
              cases m' <;> try (cases h; done)
              exact rest _ (Option.some.inj h).symm (.inl ⟨d, d0, rfl, rfl, rfl⟩)
          | fz => exact rest _ (Option.some.inj h).symm (.inr ⟨fun d z => (by cases z), rfl⟩)
          | ow => exact rest _ (Option.some.inj h).symm (.inr ⟨fun d z => (by cases z), rfl⟩)
          | bo => exact rest _ (Option.some.inj h).symm (.inr ⟨fun d z => (by cases z), rfl⟩)
section
variable {g : Fr} {Fb FbX : Addr → Prop} {args ρ' o : Rho} {vs : List V} {σ' : L2.St} {H H' : Hp}
/-- the callee's slots at its end, as the caller sees them -/
theorem outs_env (hH : g.H0 = H) (En : EnvR g Fb args (vs.map some) H) (hLb : ∀ (i : Nat) (a : Addr), g.Lb i a ↔ (∃ d : D, args[i]? = some (Slot.s .le d)) ∧ vs[i]? = some (V.ref a)) (noow : ∀ (i : Nat) (d : D), args[i]? ≠ some (Slot.s .ow d))
    (EX : EnvR g FbX ρ' σ' H') (hx1 : ∀ a, FbX a → Fb a ∨ H a = none) (hx2 : ∀ a, Fb a → FbX a) (ho : outsOf args ρ' = some o) :
    EnvR g FbX o (vs.map some) H' ∧ (∀ k b, Own o (vs.map some) k b → Own args (vs.map some) k b) ∧ (∀ a, Ot FbX o (vs.map some) a → Ot FbX ρ' σ' a) := by
  obtain ⟨l1, l2⟩ := outs_spec args ρ' o ho
  have vat : ∀ {k : Nat} {v : V}, vs[k]? = some v → (vs.map some)[k]? = some (some v) := fun e => by rw [List.getElem?_map, e]; rfl
  have vat' : ∀ {k : Nat} {v : V}, (vs.map some)[k]? = some (some v) → vs[k]? = some v := fun {k v} e => by
    rw [List.getElem?_map] at e
    cases q : vs[k]? with
    | none => rw [q] at e; cases e
    | some w => rw [q] at e; cases e; rfl
  have lbOwn : ∀ {i a}, g.Lb i a → Own args (vs.map some) i a := fun {i a} l => by
    obtain ⟨⟨d, e⟩, e2⟩ := (hLb i a).mp l
    exact ⟨⟨_, d, e, .inr rfl⟩, vat e2⟩
  have own : ∀ k b, Own o (vs.map some) k b → Own args (vs.map some) k b := fun k b ⟨⟨m, d, e, hm⟩, hs⟩ => by
    rcases l2 k _ e with ⟨d1, d0, e1, e2, e3⟩ | ⟨e1, e2⟩
    · exact ⟨⟨_, d0, e2, .inr rfl⟩, hs⟩
    · exact ⟨⟨m, d, e2, hm⟩, hs⟩
  have ownX : ∀ k b, Own o (vs.map some) k b → Own ρ' σ' k b := fun k b ⟨⟨m, d, e, hm⟩, hs⟩ => by
    rcases l2 k _ e with ⟨d1, d0, e1, e2, e3⟩ | ⟨e1, e2⟩
    · obtain ⟨v, w1, a, u, rfl, w2, w3⟩ := EX.slot k _ d1 e3
      have l := (hLb k a).mp (EX.lb k a d1 e3 w1)
      have : a = b := by
        have := vat' hs
        rw [l.2] at this
        cases this
        rfl
      subst this
      exact ⟨⟨_, d1, e3, .inr rfl⟩, w1⟩
    · rcases hm with rfl | rfl
      · exact absurd e2 (noow k d)
      · exact absurd rfl (e1 d)
  have sub : ∀ a, Ot FbX o (vs.map some) a → Ot FbX ρ' σ' a := fun a z => z.imp id fun ⟨k, z⟩ => ⟨k, ownX k a z⟩
  have subA : ∀ a, Ot FbX o (vs.map some) a → Ot Fb args (vs.map some) a ∨ H a = none := fun a z => by
    rcases z with z | ⟨k, z⟩
    · exact (hx1 a z).imp .inl id
    · exact .inl (.inr ⟨k, own k a z⟩)
  have xE : Ext (fun a => ∃ i, g.Lb i a) H H' := by
    have := EX.ext
    rw [hH] at this
    exact this
  have xO : Ext (Ot Fb args (vs.map some)) H H' := xE.mono fun a ⟨i, l⟩ => .inr ⟨i, lbOwn l⟩
  refine ⟨⟨by rw [l1]; exact En.len, fun k m d e => ?_, fun i j a h1 h2 => En.dis i j a (own i a h1) (own j a h2), fun k b h1 h2 => ?_, fun k a d e hs => ?_, fun k a d e hs => ?_, fun k a d e hs => ?_, fun i a z => hx2 a (En.bfb i a z), EX.fb, EX.dom, EX.ext, EX.tabs⟩, own, sub⟩
  · rcases l2 k _ e with ⟨d1, d0, e1, e2, e3⟩ | ⟨e1, e2⟩
    · cases e1
      obtain ⟨v, w1, a, u, rfl, w2, w3⟩ := EX.slot k _ d e3
      have l := (hLb k a).mp (EX.lb k a d e3 w1)
      exact ⟨_, vat l.2, a, u, rfl, w2, w3.mono Ext.refl fun b z => .inl (sub b z)⟩
    · obtain ⟨v, w1, w2⟩ := En.slot k m d e2
      refine ⟨v, w1, ?_⟩
      cases m with
      | fz => exact Rp.mono xO subA w2
      | ow => exact absurd e2 (noow k d)
      | le => exact absurd rfl (e1 d)
      | bo =>
        obtain ⟨a, u, rfl, q2, q3, q4⟩ := w2
        exact ⟨a, u, rfl, hx2 a q2, xE a u q3 (.inl fun ⟨i, l⟩ => En.nfb i a (lbOwn l) q2) q4.ntbl, q4.mono xO subA⟩
  · rcases hx1 b h2 with y | y
    · exact En.nfb k b (own k b h1) y
    · exact En.ot_some (.inr ⟨k, own k b h1⟩) y
  · rcases l2 k _ e with ⟨d1, d0, e1, _⟩ | ⟨_, e2⟩
    · cases e1
    · exact absurd e2 (noow k d)
  · rcases l2 k _ e with ⟨d1, d0, e1, e2, e3⟩ | ⟨e1, _⟩
    · exact (hLb k a).mpr ⟨⟨d0, e2⟩, vat' hs⟩
    · exact absurd rfl (e1 d)
  · rcases l2 k _ e with ⟨d1, d0, e1, _⟩ | ⟨_, e2⟩
    · cases e1
    · exact En.bb k a d e2 hs
/-- the slots at the beginning -/
theorem start_env (En : EnvR g Fb args (vs.map some) H) (n : Nat) : EnvR g Fb (args ++ List.replicate n .no) (vs.map some ++ List.replicate n none) H ∧ (∀ k b, Own (args ++ List.replicate n .no) (vs.map some ++ List.replicate n none) k b ↔ Own args (vs.map some) k b) := by
  have lo : ∀ {k : Nat} {m : Md} {d : D}, (args ++ List.replicate n .no)[k]? = some (Slot.s m d) → args[k]? = some (Slot.s m d) ∧ (vs.map some ++ List.replicate n none)[k]? = (vs.map some)[k]? := fun {k m d} e => by
    by_cases hk : k < args.length
    · rw [List.getElem?_append_left hk] at e
      exact ⟨e, List.getElem?_append_left (by rw [← En.len]; exact hk)⟩
    · rw [List.getElem?_append_right (by omega)] at e
      rw [List.getElem?_replicate] at e
      split at e <;> cases e
  have own : ∀ k b, Own (args ++ List.replicate n .no) (vs.map some ++ List.replicate n none) k b ↔ Own args (vs.map some) k b := fun k b => by
    refine ⟨fun ⟨⟨m, d, e, hm⟩, hs⟩ => ?_, fun ⟨⟨m, d, e, hm⟩, hs⟩ => ?_⟩
    · obtain ⟨e1, e2⟩ := lo e
      exact ⟨⟨m, d, e1, hm⟩, by rw [← e2]; exact hs⟩
    · have hk := (List.getElem?_eq_some_iff.mp e).1
      exact ⟨⟨m, d, by rw [List.getElem?_append_left hk]; exact e, hm⟩, by rw [List.getElem?_append_left (by rw [← En.len]; exact hk)]; exact hs⟩
  refine ⟨En.less (fun _ z => z) En.bfb (by rw [List.length_append, List.length_append, En.len, List.length_replicate, List.length_replicate]) fun k m d e => ?_, own⟩
  obtain ⟨e1, e2⟩ := lo e
  exact .inl ⟨e1, e2, trivial⟩
end
/-- a def: its name, its parameters, all its names, its text, what it may make, its code -/
structure DefD where
  x : Str
  ps : List Str
  N : List Str
  st : Stmt
  kd : Option String
  body : Sc
def ckOf (ds : List DefD) (glb : List (Str × D)) (rfn : Str) (N : List Str) : Ck := ⟨N, ds.map fun d => (d.x, d.ps), glb, rfn⟩
def fnsOf (ds : List DefD) : List Fn := ds.map fun d => ⟨d.ps.length, d.N.length, d.body⟩
/-- what is known of a def -/
structure DefF (g : Pg) (d : DefD) (a : Addr) : Prop where
  mx : g.mg d.x = some (.ref a)
  kp : PySem.W.keepIn g.K (.ref a) = true
  ex : ∃ (oc : Value) (od : Option Addr) (kV doc pm : Value) (an : Option Addr) (cdv ct : Value) (osl : Array (Option Value)), g.K.lookup a = some ⟨oc, od, .func (PySem.W.fnOf d.x d.x (defArgs d.st) (defBody d.st) (defScope d.st) .none kV doc pm an cdv ct), osl⟩ ∧ PySem.W.codeIn g.K cdv d.x = true ∧
    ∀ s, d.kd = some s → ∃ cc P, cdv = .ref cc ∧ LamX.TabB g.base g.mg cc P ∧ (P, (d.x ++ ".<locals>.") ++ Str.ofString s) ∈ g.T ∧ ∀ p ∈ g.T, p.1 = P → p.2 = (d.x ++ ".<locals>.") ++ Str.ofString s
  bd : ∀ (kV doc pm : Value) (an : Option Addr) (cdv ct : Value) (n : Nat) (us ws : List Value), n ≤ d.ps.length → us.length = n → ws.length = d.ps.length - n →
    bindArgs (PySem.W.fnOf d.x d.x (defArgs d.st) (defBody d.st) (defScope d.st) .none kV doc pm an cdv ct) ⟨us, (d.ps.drop n).zip ws⟩ = pure (d.ps.zip (us ++ ws))
structure ProgF (g : Pg) (ds : List DefD) (glb : List (Str × D)) (rfn : Str) : Prop where
  blt : ∀ x ∈ blts, g.mg (Str.ofString x) = none
  glbs : ∀ x d, glb.lookup x = some d → ∃ u v, g.mg x = some u ∧ RelV v u ∧ ∀ H O, Rp g.K H O v d
  ref : RefOk g rfn
  bad : PySem.BadX.BadTxt g.P g.K g.mg g.C g.fI
  defs : ∀ d ∈ ds, ∃ a, DefF g d a
  scope : ∀ d ∈ ds, FnScope d.N d.ps (defScope d.st)
  chk : ∀ d ∈ ds, chkSs (ckOf ds glb rfn d.N) (defScope d.st) d.kd (defBody d.st) d.body = true
section
variable {g : Pg} {ds : List DefD} {glb : List (Str × D)} {rfn : Str}
/-- a def's body keeps its promise -/
theorem body_ok {E : XK} {d : DefD} {f : Nat} {n : Nat} (hf : (fnsOf ds)[f]? = some ⟨d.ps.length, d.N.length, d.body⟩) (hn : d.ps.length ≤ d.N.length) (vs : List V) (H : Hp) (Q : VK) (h : spF g (sem (fnsOf ds) (n + 1)) f vs H Q E) :
    vs.length = d.ps.length ∧ tSt g (sem (fnsOf ds) n) E d.body { nx := fun _ H' => Q .non H', rt := Q } (L2.start d.N vs) H := by
  obtain ⟨Lb, Bb, Fb, args, En, hLb, noow, hl, h⟩ := h
  have h : tRes g (g.fr H Lb Bb) Fb true args (vs.map some) H E (match (fnsOf ds)[f]? with
    | some fn => runFn (sem (fnsOf ds) n) fn args
    | none => .stuck) Q := h
  rw [hf] at h
  simp only at h
  unfold runFn at h
  by_cases ha : args.length = d.ps.length
  · simp only at h
    rw [if_pos ha] at h
    have hv : vs.length = d.ps.length := hl.symm.trans ha
    refine ⟨hv, H, Lb, Bb, Fb, args ++ List.replicate (d.N.length - d.ps.length) .no, ?_, ?_⟩
    · have := (start_env En (d.N.length - d.ps.length)).1
      unfold L2.start
      rw [hv]
      exact this
    · have own := (start_env En (d.N.length - d.ps.length)).2
      have est : L2.start d.N vs = vs.map some ++ List.replicate (d.N.length - d.ps.length) none := by unfold L2.start; rw [hv]
      rw [est]
      have fin : ∀ {fr : Bool} {dd : D} {ρ' : Rho} {v : V} {σ' : L2.St} {H' : Hp} {o : Rho}, PostR (g.fr H Lb Bb) Fb (args ++ List.replicate (d.N.length - d.ps.length) .no) (vs.map some ++ List.replicate (d.N.length - d.ps.length) none) H fr dd ρ' v σ' H' → outsOf args ρ' = some o → PostE (g.fr H Lb Bb) Fb true args (vs.map some) H fr dd o v H' := fun {fr dd ρ' v σ' H' o} p ho => by
        obtain ⟨E1, o1, s1⟩ := outs_env (g := g.fr H Lb Bb) rfl En hLb noow p.env (fun a z => .inl z) (fun a z => z) ho
        refine ⟨E1, p.ext.mono fun a ⟨k, z⟩ => ⟨rfl, k, (own k a).mp z⟩, o1, p.dom, p.val.mono Ext.refl fun a z => .inl (s1 a z), fun hfr => ?_⟩
        obtain ⟨q, u, rfl, f1, f2, f3, f4, f5⟩ := p.fresh hfr
        have hq : H q = none := f1
        obtain ⟨E2, o2, s2⟩ := outs_env (g := g.fr H Lb Bb) rfl En hLb noow f5 (fun a z => z.elim (fun z => .inr (by rw [z]; exact hq)) .inl) (fun a z => .inr z) ho
        refine ⟨⟨q, u, rfl, f1, f2, f3, f4.mono Ext.refl fun a z => .inl ?_, E2⟩, fun p e => by cases e; exact hq⟩
        rcases z with z | z
        · exact .inl z
        · exact .inr (s1 a z)
      cases he : evS (sem (fnsOf ds) n) d.body (args ++ List.replicate (d.N.length - d.ps.length) .no) with
      | stuck => rw [he] at h; exact h.elim
      | brk ρ' => rw [he] at h; exact h.elim
      | cnt ρ' => rw [he] at h; exact h.elim
      | exc x =>
        rw [he] at h
        cases x
        exact fun dd H' px hx => h dd H' ⟨px.ext.mono fun a ⟨k, z⟩ => ⟨rfl, k, (own k a).mp z⟩, px.dom, px.tabs⟩ hx
      | nx ρ' =>
        rw [he] at h
        simp only at h
        intro σ' H' p
        cases ho : outsOf args ρ' with
        | none => rw [ho] at h; exact h.elim
        | some o => rw [ho] at h; exact h .non H' (fin ⟨p, .non, fun z => by cases z⟩ ho)
      | rt fr dd ρ' =>
        rw [he] at h
        simp only at h
        intro v σ' H' p
        cases ho : outsOf args ρ' with
        | none => rw [ho] at h; exact h.elim
        | some o => rw [ho] at h; exact h v H' (fin p ho)
  · simp only at h
    rw [if_neg ha] at h
    exact h.elim
/-- all defs keep their promises, n calls deep -/
theorem defs_ok (Pf : ProgF g ds glb rfn) : ∀ (n : Nat) (N : List Str), Facts g (ckOf ds glb rfn N) (4 * n) (sem (fnsOf ds) n) := by
  intro n
  induction n with
  | zero =>
    intro N
    refine ⟨Pf.blt, Pf.glbs, fun f x ps hf => ?_, Pf.ref, Pf.bad⟩
    have hf : (ds.map fun d => (d.x, d.ps))[f]? = some (x, ps) := hf
    rw [List.getElem?_map] at hf
    cases hd : ds[f]? with
    | none => rw [hd] at hf; cases hf
    | some d =>
      rw [hd] at hf
      cases hf
      obtain ⟨a, D⟩ := Pf.defs d (List.mem_of_getElem? hd)
      obtain ⟨oc, od, kV, doc, pm, an, cdv, ct, osl, lk, cd, _⟩ := D.ex
      refine ⟨a, _, D.mx, D.kp, ⟨fun vs H Q E h => ?_, fun A outer s H args us vs Q E _ _ _ _ h => ?_⟩, D.bd kV doc pm an cdv ct, oc, od, osl, lk⟩
      · obtain ⟨Lb, Bb, Fb, args, En, hLb, noow, hl, h⟩ := h
        exact h.elim
      · obtain ⟨Lb, Bb, Fb, args, En, hLb, noow, hl, h⟩ := h
        exact h.elim
  | succ n ih =>
    intro N
    refine ⟨Pf.blt, Pf.glbs, fun f x ps hf => ?_, Pf.ref, Pf.bad⟩
    have hf : (ds.map fun d => (d.x, d.ps))[f]? = some (x, ps) := hf
    rw [List.getElem?_map] at hf
    cases hd : ds[f]? with
    | none => rw [hd] at hf; cases hf
    | some d =>
      rw [hd] at hf
      cases hf
      have hm := List.mem_of_getElem? hd
      obtain ⟨a, D⟩ := Pf.defs d hm
      obtain ⟨oc, od, kV, doc, pm, an, cdv, ct, osl, lk, cd, hk⟩ := D.ex
      have S := Pf.scope d hm
      have hle : d.ps.length ≤ d.N.length := by
        have := congrArg List.length S.pre
        rw [List.length_take] at this
        omega
      have hfn : (fnsOf ds)[f]? = some ⟨d.ps.length, d.N.length, d.body⟩ := by
        show (ds.map fun d => (⟨d.ps.length, d.N.length, d.body⟩ : Fn))[f]? = _
        rw [List.getElem?_map, hd]
        rfl
      refine ⟨a, _, D.mx, D.kp, ?_, D.bd kV doc pm an cdv ct, oc, od, osl, lk⟩
      refine fn_of (k := 4 * n + 3) lk cd S (fun vs H Q E h => (body_ok hfn hle vs H Q h).1) fun A outer s H vs Q E rm h => ⟨_, ?_, (body_ok hfn hle vs H Q h).2⟩
      have G : Good g (ckOf ds glb rfn d.N) (4 * n) (defScope d.st) d.kd true E (cxOf (CX g.P g.w) g.P g.w g.K g.mg g.base d.N d.x (defScope d.st) a cdv A outer s H E) :=
        { P := rfl, w := rfl, K := rfl, mg := rfl, base := rfl, N := rfl, nd := S.nd, sc := rfl, calm := rfl,
          room := by
            split
            · exact rm
            · exact rm.mono (by omega)
          tk := takes_of rfl rfl rfl rfl, fn := fun _ _ => rfl
          code := fun s hs => by
            obtain ⟨cc, P, k1, k2, k3, k4⟩ := hk s hs
            exact ⟨cc, P, k1, k2, k3, k4⟩ }
      exact (sns (ih d.N) d.body).all G (passes_of rfl) (Pf.chk d hm)
end
end Mx
end

section
set_option Elab.async false
set_option linter.all false
set_option maxRecDepth 100000
set_option maxHeartbeats 2000000
/-! The end of a law. -/
namespace Mx
open PySem PySem.Spec PyProof.Rows L2
/-- the law at the head's heap -/
theorem lawAt_of {l : PySem.W.OpenLaw} {w : World} {K : PySem.W.Frag} {mg : Str → Option Value} {h : Heap} {fa C fI : Addr} {n n0 f : Nat} {x : Str} {T : List (Addr × Str)} {ds : List DefD} {glb : List (Str × D)} {rfn : Str} {d : DefD} (cs : List (Addr × Addr))
    (hT : ∀ p ∈ cs, h.get? p.2 = some { cls := .none, data := .fields #[] }) (nT : ∀ p ∈ cs, K.lookup p.2 = none) (ch : ∀ p ∈ cs, PySem.W.CodeHd h p.1 p.2) (tc : ∀ q ∈ T, ∃ c, (c, q.1) ∈ cs)
    (Pf : ∀ base : Heap, K.In base → base.Ns mainGlobals mg → (∀ p ∈ cs, LamX.TabB base mg p.1 p.2) → ProgF ⟨l.prog, w, K, mg, base, T, C, fI⟩ ds glb rfn)
    (hd : ds[f]? = some d) (hx : d.ps = [x]) (hfa : mg d.x = some (.ref fa)) (aL : ∃ (oc : Value) (od : Option Addr) (fd : FuncData) (osl : Array (Option Value)), K.lookup fa = some ⟨oc, od, .func fd, osl⟩ ∧ ∀ u : Value, bindArgs fd ⟨[u], []⟩ = pure [(x, u)])
    (law : ∀ ns : List Int, ns.length ≤ n0 → (∀ z ∈ ns, Builtin.Int.intBits z ≤ 1048576) → ∃ fr o, sem (fnsOf ds) n f [Slot.s .fz (.list (ns.map .int))] = .ok fr (.bool true) o) :
    LamX.LawAtS l w K (CX l.prog w) (4 * n) n0 x mg fa h := by
  obtain ⟨oc, od, fd, osl, lk, bd⟩ := aL
  refine ⟨fd, cs, spF ⟨l.prog, w, K, mg, h, T, C, fI⟩ (sem (fnsOf ds) n) f, hT, nT, ch, fun s u => .of_eq (bd u), fun H a ns hl hb hH hS => ?_, fun base KB NB TB => ?_⟩
  · obtain ⟨fr, o, e⟩ := law ns hl hb
    have tabs : LamX.Tabs T H := fun q hq => by
      obtain ⟨c, hc⟩ := tc q hq
      exact LamX.TabS.nil (hH _ hc)
    have rp : Rp K H (Ot (fun _ => False) [Slot.s .fz (.list (ns.map .int))] [some (.ref a)]) (.ref a) (.list (ns.map .int)) := by
      refine .lst ?_ RpL.ints
      rcases hS with h1 | h1
      · refine .inl ⟨h1, fun z => ?_⟩
        rcases z with z | ⟨i, ⟨m, d, e, hm⟩, _⟩
        · exact z
        · cases i with
          | zero =>
            simp only [List.getElem?_cons_zero] at e
            cases e
            rcases hm with z | z <;> cases z
          | succ i => simp at e
      · exact .inr h1
    have noS : ∀ {i : Nat} {m : Md} {d : D}, ([Slot.s .fz (.list (ns.map PyData.int))] : Rho)[i]? = some (Slot.s m d) → m = .fz ∧ i = 0 ∧ d = .list (ns.map .int) := fun {i m d} e => by
      cases i with
      | zero =>
        simp only [List.getElem?_cons_zero] at e
        cases e
        exact ⟨rfl, rfl, rfl⟩
      | succ i => simp at e
    have noO : ∀ i b, ¬ Own [Slot.s .fz (.list (ns.map PyData.int))] [some (V.ref a)] i b := fun i b ⟨⟨m, d, e, hm⟩, _⟩ => by
      obtain ⟨rfl, _⟩ := noS e
      rcases hm with z | z <;> cases z
    refine ⟨fun _ _ => False, fun _ _ => False, fun _ => False, [Slot.s .fz (.list (ns.map .int))], ⟨rfl, fun i m d e => ?_, fun i j b z => (noO i b z).elim, fun i b z => (noO i b z).elim, fun i b d e => ?_, fun i b d e => ?_, fun i b d e => ?_, fun _ _ z => z, fun _ z => z.elim, fun _ z => z, Ext.refl, tabs⟩, fun i b => ⟨False.elim, fun z => ?_⟩, fun i d e => ?_, rfl, ?_⟩
    · obtain ⟨rfl, rfl, rfl⟩ := noS e
      exact ⟨_, rfl, rp⟩
    · obtain ⟨z, _⟩ := noS e
      cases z
    · obtain ⟨z, _⟩ := noS e
      cases z
    · obtain ⟨z, _⟩ := noS e
      cases z
    · obtain ⟨⟨d, e⟩, _⟩ := z
      obtain ⟨z, _⟩ := noS e
      cases z
    · obtain ⟨z, _⟩ := noS e
      cases z
    · rw [e]
      intro v H' po
      have q := po.val
      cases q
      rfl
  · have Fa := defs_ok (Pf base KB NB TB) n []
    have hf : (ckOf ds glb rfn []).fns[f]? = some (d.x, [x]) := by
      show (ds.map fun d => (d.x, d.ps))[f]? = _
      rw [List.getElem?_map, hd]
      show some (d.x, d.ps) = _
      rw [hx]
    obtain ⟨a', fd', m1, _, fo, _, oc', od', osl', lk'⟩ := Fa.fns f d.x [x] hf
    have m1 : mg d.x = some (.ref a') := m1
    rw [hfa] at m1
    cases m1
    have lk' : K.lookup fa = _ := lk'
    rw [lk] at lk'
    cases lk'
    exact fo
end Mx
namespace LamX
open PySem PySem.Spec PyProof.Rows L2
/-- the walk of a law whose defs hold generator expressions and lambdas: nms, their names -/
theorem walk_mx {l : PySem.W.OpenLaw} {m lv : Nat} {q : Program} {loose : List Str} {XP : (Str → Option Value) → Heap → Prop} {YP : World → Heap → Prop} {d : DefRec} {K : Params → PySem.W.Frag} {x : Str} (nms : List Str)
    (hm : l.most = some m) (hs : m ≤ sizeLine) (df : d.params.defaults = []) (rm : Room lv callerA) (rec : ∀ nm ∈ nms, ((recsOf q).any fun e => e.name == nm) = true) (kin : ∀ (w : World) (h : Heap), YP w h → (K w.params).In h)
    (F : ∀ (w : World) (mg : Str → Option Value) (fa : Addr) (h : Heap), YP w h → (K w.params).In h → h.Ns mainGlobals mg → mg d.name = some (.ref fa) → (∀ nm ∈ nms, ∀ a, mg nm = some (.ref a) → OwnTab (K w.params) a h) → LawAtS l w (K w.params) (CX l.prog w) lv m x mg fa h) :
    PySem.W.WalkO q loose XP YP l.row.toRowW d [] (fun f vs => PySem.call f vs) := by
  refine Att.attach_callB hm df fun w s₀ s1 mg mb fa o pm cd doc a vs ns G Y ho hd hcd mgd obj hints hlen hbits hg => ?_
  have KX := kin w _ Y
  have own : ∀ nm ∈ nms, ∀ a, mg nm = some (.ref a) → OwnTab (K w.params) a s1.heap := fun nm hn a ha c P o1 fd1 e dd us sl k1 k2 k3 k4 k5 => by
    obtain ⟨r, hr, he⟩ := List.any_eq_true.mp (rec nm hn)
    have en : r.name = nm := beq_iff_eq.mp he
    obtain ⟨a2, o2, fd2, c2, P2, t1, t2, t3, t4, t5, t6⟩ := G.T.tab r hr
    rw [en, ha] at t1
    cases t1
    have u1 := KX _ _ k1
    rw [u1] at t2
    cases t2
    rw [k2] at t3
    cases t3
    rw [k3] at t4
    cases t4
    obtain ⟨⟨oc, vc, y1, _, y3, y4⟩, y5⟩ := t6
    have u2 := KX _ _ k4
    rw [u2] at y1
    cases y1
    cases y3
    rw [k5] at y4
    cases y4
    exact y5
  obtain ⟨fd, cs, sp, z1, z2, z3, z4, z5, z6⟩ := F w mg fa _ Y KX G.T.g mgd own
  refine law_callTs KX G.T.g G.T.b G.T.builtins G.T.nolimit hg z1 z2 z3 G.T.bmain obj hints (Nat.le_trans hlen hs) rm z6 z4 (fun H h1 h2 => z5 H a ns hlen hbits h1 h2) fun H e s' z => ?_
  obtain ⟨_, _, _, _, _, _, _, _, _, _, _, _, z⟩ := z
  exact z
end LamX
namespace Mx
open PySem PySem.Spec PyProof.Rows L2
/-- the law's helper that calls what may be refused -/
theorem refOk_of {g : Pg} {x a n : Str} {Ng : List Str} {st : Stmt} {f : Addr} {oc kV doc pm cdv ct : Value} {an od : Option Addr} {osl : Array (Option Value)} {i : Nat} (bad : PySem.BadX.BadTxt g.P g.K g.mg g.C g.fI) (mx : g.mg x = some (.ref f)) (kp : PySem.W.keepIn g.K (.ref f) = true)
    (lk : g.K.lookup f = some ⟨oc, od, .func (PySem.W.fnOf x x (defArgs st) (defBody st) (defScope st) .none kV doc pm an cdv ct), osl⟩) (cg : PySem.W.codeIn g.K cdv x = true) (bi : ∀ u : Value, bindArgs (PySem.W.fnOf x x (defArgs st) (defBody st) (defScope st) .none kV doc pm an cdv ct) ⟨[u], []⟩ = pure [(a, u)])
    (Sg : FnScope Ng [a] (defScope st)) (hi : Ng[i]? = some n) (hi0 : i ≠ 0) (hge : (defScope st).names.lookup ("BadArgument" : Str) = some .globalImplicit) (hln : (defScope st).names.lookup n = some .local) (hla : (defScope st).names.lookup a = some .local) (n0 : Ng[0]? = some a)
    (dn : (n == ("__debug__" : Str)) = false) (cn : (n == ("__classdict__" : Str)) = false) (dx : (x == ("__debug__" : Str)) = false) (da : (a == ("__debug__" : Str)) = false) (ca : (a == ("__classdict__" : Str)) = false)
    (sh : ∃ p1 p2 p3 p4 p5 p6 p7 p8 p9 p10 p11 j, defBody st = [.Try [.Expr (.Call (.Name a p1) [] [] p2) p3] [.ExceptHandler (some (.Name "BadArgument" p4)) (some n) [.Return (some (.Attribute (.Name n p5) "name" p6)) p7] p8] [] [] p9, .Return (some (.Constant (.str "") j p10)) p11]) : RefOk g x := by
  obtain ⟨p1, p2, p3, p4, p5, p6, p7, p8, p9, p10, p11, j, sh⟩ := sh
  intro X k c P params body scope t p lpos pos eP ew eK em gl tb cd mT uq rm L df bj hb
  have bad' : PySem.BadX.BadTxt X.prog X.K X.mg g.C g.fI := by rw [eP, eK, em]; exact bad
  have h0 : ∀ f : Addr, (L2.start Ng [V.ref f])[0]? = some (some (V.ref f)) := fun f => rfl
  refine pe_lamcall2 (k := k) (a := a) (Ng := Ng) gl (by rw [em]; exact mx) (by rw [eK]; exact kp) (by rw [eK]; exact lk) (by rw [eK]; exact cg) (fun s us _ hl => ?_) Sg n0 (.inl hla) ?_ tb cd mT uq (rm.mono (by omega)) L df bj hb dx da ca
  · match us, hl with
    | [u], _ => exact .of_eq (bi u)
  · rw [sh]
    exact refused_gives bad' hge Sg.nd hi hi0 hln dn cn h0 (List.getElem?_eq_some_iff.mp hi).1
end Mx
namespace Mx
open PySem PySem.Spec PyProof.Rows L2
theorem exm_same {K : PySem.W.Frag} {S : Addr} (h1 : PySem.W.subIn K (.ref S) (.type "BaseException") = some true) (h2 : PySem.W.isClsIn K S = true) (h3 : PySem.W.typeIn K (.ref S) = some (.type "type")) (h4 : PySem.W.subIn K (.ref S) (.ref S) = some true) : PySem.W.exmOne K (.ref S) (.ref S) = some true := by
  have c1 : (PySem.W.clsIn K S).isSome = true := h2
  have c2 : (PySem.W.subIn K (.ref S) (.type "BaseException") == some true) = true := by rw [h1]; rfl
  have c3 : ((PySem.W.clsIn K S).isSome && PySem.W.typeIn K (.ref S) == some (.type "type")) = true := by rw [c1, h3]; rfl
  show (if (PySem.W.subIn K (.ref S) (.type "BaseException") == some true) = true then (if ((PySem.W.clsIn K S).isSome && PySem.W.typeIn K (.ref S) == some (.type "type")) = true then PySem.W.subIn K (.ref S) (.ref S) else none) else none) = some true
  rw [if_pos c2, if_pos c3, h4]
theorem glb_nil {g : Pg} : ∀ x d, List.lookup x ([] : List (Str × D)) = some d → ∃ u v, g.mg x = some u ∧ RelV v u ∧ ∀ H O, Rp g.K H O v d := fun x d h => by cases h
theorem glb_cons {g : Pg} {y : Str} {e : D} {l : List (Str × D)} {u : Value} {v : V} (h1 : g.mg y = some u) (h2 : RelV v u) (h3 : ∀ H O, Rp g.K H O v e) (h : ∀ x d, List.lookup x l = some d → ∃ u v, g.mg x = some u ∧ RelV v u ∧ ∀ H O, Rp g.K H O v d) :
    ∀ x d, List.lookup x ((y, e) :: l) = some d → ∃ u v, g.mg x = some u ∧ RelV v u ∧ ∀ H O, Rp g.K H O v d := fun x d hx => by
  rw [List.lookup_cons] at hx
  cases hb : x == y with
  | true =>
    rw [hb] at hx
    cases hx
    obtain rfl := eq_of_beq hb
    exact ⟨u, v, h1, h2, h3⟩
  | false =>
    rw [hb] at hx
    exact h x d hx
theorem defs_nil {g : Pg} : ∀ d ∈ ([] : List DefD), ∃ a, DefF g d a := fun d h => by cases h
theorem defs_cons {g : Pg} {d : DefD} {l : List DefD} (h1 : ∃ a, DefF g d a) (h : ∀ d ∈ l, ∃ a, DefF g d a) : ∀ d' ∈ d :: l, ∃ a, DefF g d' a := List.forall_mem_cons.mpr ⟨h1, h⟩
theorem split_args {k n : Nat} {us ws : List Value} (h1 : n ≤ k) (h2 : us.length = n) (h3 : ws.length = k - n) : ∃ l : List Value, l.length = k ∧ us = l.take n ∧ ws = l.drop n :=
  ⟨us ++ ws, by rw [List.length_append]; omega, by rw [← h2, List.take_left], by rw [← h2, List.drop_left]⟩
end Mx
end

section
set_option Elab.async false
set_option linter.all false
set_option maxRecDepth 100000
set_option maxHeartbeats 2000000
/-! the meaning, stepped by simp -/
namespace Mx
open PySem
theorem sem_succ (fs : List Fn) (n f : Nat) (args : Rho) : sem fs (n + 1) f args = match fs[f]? with
    | some fn => runFn (sem fs n) fn args
    | none => .stuck := rfl
section
variable {x y : D} {i j : Int} {xs ys : List D}
theorem o_add : opD .add [x, y] = addD x y := rfl
theorem o_sub : opD .sub [.int i, .int j] = some (false, .int (i - j)) := rfl
theorem o_mul : opD .mul [x, y] = mulD x y := rfl
theorem o_fdv (h : 0 < j ∧ j < 1073741824) : opD .fdv [.int i, .int j] = some (false, .int (i / j)) := if_pos h
theorem o_mod (h : 0 < j) : opD .mod [.int i, .int j] = some (false, .int (i % j)) := if_pos h
theorem o_neg : opD .neg [.int i] = some (false, .int (-i)) := rfl
theorem o_pow : opD .pow [.int i, .int j] = if 0 ≤ j ∧ j ≤ 1000 ∧ i.natAbs < 2 ^ 63 then some (false, .int (i ^ j.toNat)) else none := rfl
theorem o_eq : opD .eq [x, y] = cmpOpt (eqD x y) := rfl
theorem o_ne : opD .ne [x, y] = cmpOpt ((eqD x y).map (!·)) := rfl
theorem o_lt : opD .lt [.int i, .int j] = some (false, .bool (decide (i < j))) := rfl
theorem o_le : opD .le [.int i, .int j] = some (false, .bool (decide (i ≤ j))) := rfl
theorem o_gt : opD .gt [.int i, .int j] = some (false, .bool (decide (j < i))) := rfl
theorem o_ge : opD .ge [.int i, .int j] = some (false, .bool (decide (j ≤ i))) := rfl
theorem o_isN : opD .isN [x] = some (false, .bool (isNoD x)) := rfl
theorem o_notN : opD .notN [x] = some (false, .bool (!isNoD x)) := rfl
theorem o_idxL : opD .idx [.list xs, .int i] = (idxD xs i).bind old := rfl
theorem o_idxT : opD .idx [.tuple xs, .int i] = (idxD xs i).bind old := rfl
theorem o_slToL : opD .slTo [.list xs, .int j] = some (true, .list (cutD xs 0 (sIx xs.length j))) := rfl
theorem o_lenL : opD .len [.list xs] = some (false, .int xs.length) := rfl
theorem o_lenT : opD .len [.tuple xs] = some (false, .int xs.length) := rfl
theorem o_sumL : opD .sum [.list xs] = (intsOf xs).bind fun ns => old (.int ns.sum) := rfl
theorem o_sumT : opD .sum [.tuple xs] = (intsOf xs).bind fun ns => old (.int ns.sum) := rfl
theorem o_min2 : opD .min2 [.int i, .int j] = some (false, .int (if j < i then j else i)) := rfl
theorem o_max2 : opD .max2 [.int i, .int j] = some (false, .int (if j > i then j else i)) := rfl
theorem o_abs : opD .abs [.int i] = some (false, .int (if i < 0 then -i else i)) := rfl
theorem o_int : opD .int [.int i] = some (false, .int i) := rfl
theorem o_tupL : opD .tup [.list xs] = some (false, .tuple xs) := rfl
theorem o_tupT : opD .tup [.tuple xs] = some (false, .tuple xs) := rfl
theorem o_listL : opD .list [.list xs] = some (true, .list xs) := rfl
theorem o_listT : opD .list [.tuple xs] = some (true, .list xs) := rfl
theorem o_lrng (h : 0 ≤ i ∧ i ≤ line) : opD .lrng [.int i] = some (true, .list ((List.range i.toNat).map fun k : Nat => .int (k : Int))) := if_pos h
theorem o_isi {t : Ty} : opD (.isi t) [x] = some (false, .bool (isiD t x)) := rfl
theorem addD_int : addD (.int i) (.int j) = some (false, .int (i + j)) := rfl
theorem addD_list (h : xs.length + ys.length ≤ line) : addD (.list xs) (.list ys) = some (true, .list (xs ++ ys)) := if_pos h
theorem mulD_l (h : i.natAbs < 2 ^ 63) : mulD (.int i) (.int j) = some (false, .int (i * j)) := if_pos (decide_eq_true (.inl h))
theorem mulD_r (h : j.natAbs < 2 ^ 63) : mulD (.int i) (.int j) = some (false, .int (i * j)) := if_pos (decide_eq_true (.inr h))
theorem eqD_ii : eqD (.int i) (.int j) = some (decide (i = j)) := rfl
theorem idxD_nat {k : Nat} (h : k < xs.length) : idxD xs (k : Int) = some xs[k] := by
  have h' : (k : Int) < (xs.length : Int) := by omega
  simp [idxD, ixN, h, h']
theorem intsOf_map (ns : List Int) : intsOf (ns.map .int) = some ns := by
  induction ns with
  | nil => rfl
  | cons n ns ih => simp [intsOf, ih]
end
section
variable {F : FnSem} {ρ : Rho}
theorem ev_comp {elt it cond : Ex} {tg : Tg} {own : List Nat} {fr : Bool} {ds ys : List D} {ρ1 ρ2 ρ3 : Rho} {fr2 : Bool} (h1 : ev F it ρ = .ok fr (.list ds) ρ1) (h2 : ownOk ρ1 own = true) (h3 : ds.length ≤ line)
    (h4 : compL (wipeR · own) (bindT tg) (fun ρ => if isNil cond then .ok false (.bool true) ρ else ev F cond ρ) (ev F elt) ds (lockR it ρ1) = .ok fr2 (.list ys) ρ2) (h5 : unlockR it ρ1 (wipeR ρ2 own) = some ρ3) :
    ev F (.comp elt tg own it cond) ρ = .ok true (.list ys) (backR ρ3 ρ1 own) := by
  simp only [ev, h1, h2, h3, h4, h5, decide_true, Bool.and_self, if_true]
theorem ev_allg {elt it : Ex} {tg : Tg} {own : List Nat} {fr : Bool} {ds : List D} {b : Bool} {ρ1 ρ2 ρ3 : Rho} {fr2 : Bool} (h1 : ev F it ρ = .ok fr (.list ds) ρ1) (h2 : ownOk ρ1 own = true)
    (h4 : allGL (wipeR · own) (bindT tg) (ev F elt) ds (lockR it ρ1) = .ok fr2 (.bool b) ρ2) (h5 : unlockR it ρ1 (wipeR ρ2 own) = some ρ3) :
    ev F (.allg elt tg own it) ρ = .ok false (.bool b) (backR ρ3 ρ1 own) := by
  simp only [ev, h1, h2, h4, h5, if_true]
end
theorem ix0 {x : D} {xs : List D} : idxD (x :: xs) 0 = some x := by simp [idxD, Mx.ixN]
theorem ix1 {x y : D} {xs : List D} : idxD (x :: y :: xs) 1 = some y := by
  have h : (1 : Int) < (xs.length : Int) + 1 + 1 := by omega
  simp [idxD, Mx.ixN, h]
theorem ix2 {x y z : D} {xs : List D} : idxD (x :: y :: z :: xs) 2 = some z := by
  have h : (2 : Int) < (xs.length : Int) + 1 + 1 + 1 := by omega
  simp [idxD, Mx.ixN, h]
theorem evS_whl {F : FnSem} {ρ : Rho} {c : Ex} {b : Sc} {r : SRes} (h : whlL (ev F c) (evS F b) fuel ρ = r) : evS F (.whl c b) ρ = r := by rw [evS.eq_15, h]
theorem evS_for {F : FnSem} {ρ ρ1 ρ2 ρ3 : Rho} {tg : Tg} {it : Ex} {b : Sc} {fr : Bool} {ds : List D} (h1 : ev F it ρ = .ok fr (.list ds) ρ1) (h2 : forL (bindT tg) (evS F b) ds (lockR it ρ1) = .nx ρ2) (h3 : unlockR it ρ1 ρ2 = some ρ3) : evS F (.for1 tg it b) ρ = .nx ρ3 := by
  rw [evS.eq_16, h1]; simp only [h2, h3]
theorem evS_for_rt {F : FnSem} {ρ ρ1 ρ2 ρ3 : Rho} {tg : Tg} {it : Ex} {b : Sc} {fr fr2 : Bool} {d : D} {ds : List D} (h1 : ev F it ρ = .ok fr (.list ds) ρ1) (h2 : forL (bindT tg) (evS F b) ds (lockR it ρ1) = .rt fr2 d ρ2) (h3 : unlockR it ρ1 ρ2 = some ρ3) : evS F (.for1 tg it b) ρ = .rt false d ρ3 := by
  rw [evS.eq_16, h1]; simp only [h2, h3]
theorem ev_rep {F : FnSem} {ρ ρ1 ρ2 : Rho} {a n : Ex} {ds : List D} {k : Int} {fr : Bool} (h1 : ev F a ρ = .ok true (.list ds) ρ1) (h2 : ev F n ρ1 = .ok fr (.int k) ρ2) (h3 : -(2 ^ 62) ≤ k ∧ k < 2 ^ 62 ∧ ds.length * k.toNat ≤ line) : ev F (.rep a n) ρ = .ok true (.list (repD ds k)) ρ2 := by
  rw [ev.eq_15, h1]; simp only [h2, if_pos h3]
theorem runFn_rt {F : FnSem} {f : Fn} {args ρ o : Rho} {fr : Bool} {d : D} (h1 : args.length = f.np) (h2 : evS F f.body (args ++ List.replicate (f.ns - f.np) .no) = .rt fr d ρ) (h3 : outsOf args ρ = some o) : runFn F f args = .ok fr d o := by
  unfold runFn; rw [if_pos h1, h2]; simp only [h3]
theorem evS_seq {F : FnSem} {ρ ρ1 : Rho} {a b : Sc} {r : SRes} (h1 : evS F a ρ = .nx ρ1) (h2 : evS F b ρ1 = r) : evS F (.seq a b) ρ = r := by
  rw [evS.eq_2, h1]; exact h2
/-- a comprehension that takes every element, under an invariant of the slots -/
theorem compL_map {clr : Rho → Rho} {bind : D → Rho → Option Rho} {cond elt : Rho → Res} {I : Rho → Prop} {f : D → D} : ∀ (ds : List D),
    (∀ d ∈ ds, ∀ ρ, I ρ → ∃ ρ1 ρ2 ρ3 b c, bind d (clr ρ) = some ρ1 ∧ cond ρ1 = .ok b (.bool true) ρ2 ∧ elt ρ2 = .ok c (f d) ρ3 ∧ I ρ3) →
    ∀ ρ, I ρ → ∃ ρ', I ρ' ∧ compL clr bind cond elt ds ρ = .ok true (.list (ds.map f)) ρ'
  | [], _, ρ, hi => ⟨ρ, hi, rfl⟩
  | d :: ds, h, ρ, hi => by
    obtain ⟨ρ1, ρ2, ρ3, b, c, e1, e2, e3, i3⟩ := h d List.mem_cons_self ρ hi
    obtain ⟨ρ', i', e⟩ := compL_map ds (fun d hd => h d (List.mem_cons_of_mem _ hd)) ρ3 i3
    exact ⟨ρ', i', by simp only [compL, e1, e2, e3, e, List.map_cons]⟩
/-- a comprehension that takes some elements -/
theorem compL_filter {clr : Rho → Rho} {bind : D → Rho → Option Rho} {cond elt : Rho → Res} {I : Rho → Prop} {p : D → Bool} {f : D → D} : ∀ (ds : List D),
    (∀ d ∈ ds, ∀ ρ, I ρ → ∃ ρ1 ρ2 b, bind d (clr ρ) = some ρ1 ∧ cond ρ1 = .ok b (.bool (p d)) ρ2 ∧ I ρ2 ∧ (p d = true → ∃ ρ3 c, elt ρ2 = .ok c (f d) ρ3 ∧ I ρ3)) →
    ∀ ρ, I ρ → ∃ ρ', I ρ' ∧ compL clr bind cond elt ds ρ = .ok true (.list ((ds.filter p).map f)) ρ'
  | [], _, ρ, hi => ⟨ρ, hi, rfl⟩
  | d :: ds, h, ρ, hi => by
    obtain ⟨ρ1, ρ2, b, e1, e2, i2, h3⟩ := h d List.mem_cons_self ρ hi
    cases hp : p d with
    | true =>
      obtain ⟨ρ3, c, e3, i3⟩ := h3 hp
      obtain ⟨ρ', i', e⟩ := compL_filter ds (fun d hd => h d (List.mem_cons_of_mem _ hd)) ρ3 i3
      rw [hp] at e2
      exact ⟨ρ', i', by simp only [compL, e1, e2, e3, e, List.filter_cons, hp, if_true, List.map_cons]⟩
    | false =>
      obtain ⟨ρ', i', e⟩ := compL_filter ds (fun d hd => h d (List.mem_cons_of_mem _ hd)) ρ2 i2
      rw [hp] at e2
      exact ⟨ρ', i', by simp only [compL, e1, e2, e, List.filter_cons, hp, Bool.false_eq_true, if_false]⟩
/-- all of them -/
theorem allGL_true {clr : Rho → Rho} {bind : D → Rho → Option Rho} {elt : Rho → Res} {I : Rho → Prop} : ∀ (ds : List D),
    (∀ d ∈ ds, ∀ ρ, I ρ → ∃ ρ1 ρ3 c, bind d (clr ρ) = some ρ1 ∧ elt ρ1 = .ok c (.bool true) ρ3 ∧ I ρ3) →
    ∀ ρ, I ρ → ∃ ρ', I ρ' ∧ allGL clr bind elt ds ρ = .ok false (.bool true) ρ'
  | [], _, ρ, hi => ⟨ρ, hi, rfl⟩
  | d :: ds, h, ρ, hi => by
    obtain ⟨ρ1, ρ3, c, e1, e3, i3⟩ := h d List.mem_cons_self ρ hi
    obtain ⟨ρ', i', e⟩ := allGL_true ds (fun d hd => h d (List.mem_cons_of_mem _ hd)) ρ3 i3
    exact ⟨ρ', i', by simp only [allGL, e1, e3, e]⟩
/-- a for loop that always goes on, or returns -/
theorem forL_or {bind : D → Rho → Option Rho} {body : Rho → SRes} {R : Bool → D → Rho → Prop} : ∀ (ds : List D) (I : Nat → Rho → Prop),
    (∀ k (hk : k < ds.length) ρ, I k ρ → ∃ ρ1, bind ds[k] ρ = some ρ1 ∧ ((∃ ρ2, body ρ1 = .nx ρ2 ∧ I (k + 1) ρ2) ∨ (∃ fr d ρ2, body ρ1 = .rt fr d ρ2 ∧ R fr d ρ2))) →
    ∀ ρ, I 0 ρ → (∃ ρ', I ds.length ρ' ∧ forL bind body ds ρ = .nx ρ') ∨ (∃ fr d ρ', R fr d ρ' ∧ forL bind body ds ρ = .rt fr d ρ')
  | [], _, _, ρ, hi => .inl ⟨ρ, hi, rfl⟩
  | d :: ds, I, h, ρ, hi => by
    obtain ⟨ρ1, e1, h1⟩ := h 0 (Nat.zero_lt_succ _) ρ hi
    rw [List.getElem_cons_zero] at e1
    rcases h1 with ⟨ρ2, e2, i2⟩ | ⟨fr, x, ρ2, e2, r2⟩
    · rcases forL_or ds (fun k => I (k + 1)) (fun k hk ρ hi => by
        have := h (k + 1) (Nat.succ_lt_succ hk) ρ hi
        simpa only [List.getElem_cons_succ] using this) ρ2 i2 with ⟨ρ', i', e⟩ | ⟨fr, x, ρ', r', e⟩
      · exact .inl ⟨ρ', i', by simp only [forL, e1, e2, e]⟩
      · exact .inr ⟨fr, x, ρ', r', by simp only [forL, e1, e2, e]⟩
    · exact .inr ⟨fr, x, ρ2, r2, by simp only [forL, e1, e2]⟩
theorem forL_nx {bind : D → Rho → Option Rho} {body : Rho → SRes} (ds : List D) (I : Nat → Rho → Prop)
    (h : ∀ k (hk : k < ds.length) ρ, I k ρ → ∃ ρ1 ρ2, bind ds[k] ρ = some ρ1 ∧ body ρ1 = .nx ρ2 ∧ I (k + 1) ρ2) (ρ : Rho) (hi : I 0 ρ) : ∃ ρ', I ds.length ρ' ∧ forL bind body ds ρ = .nx ρ' := by
  rcases forL_or (R := fun _ _ _ => False) ds I (fun k hk ρ hi => by
    obtain ⟨ρ1, ρ2, e1, e2, i2⟩ := h k hk ρ hi
    exact ⟨ρ1, e1, .inl ⟨ρ2, e2, i2⟩⟩) ρ hi with h | ⟨_, _, _, z, _⟩
  · exact h
  · exact z.elim
/-- a while loop under an invariant and a measure -/
theorem whlL_inv {c : Rho → Res} {body : Rho → SRes} {Q : Rho → Prop} (I : Nat → Rho → Prop)
    (h : ∀ m ρ, I m ρ → (∃ fr ρ1, c ρ = .ok fr (.bool false) ρ1 ∧ Q ρ1) ∨ (∃ fr ρ1 ρ2 m', c ρ = .ok fr (.bool true) ρ1 ∧ body ρ1 = .nx ρ2 ∧ m' < m ∧ I m' ρ2)) : ∀ (n m : Nat) (ρ : Rho), m < n → I m ρ → ∃ ρ', Q ρ' ∧ whlL c body n ρ = .nx ρ'
  | 0, m, _, l, _ => absurd l (Nat.not_lt_zero m)
  | n + 1, m, ρ, l, hi => by
    rcases h m ρ hi with ⟨fr, ρ1, e1, q⟩ | ⟨fr, ρ1, ρ2, m', e1, e2, l2, i2⟩
    · exact ⟨ρ1, q, by simp only [whlL, e1]⟩
    · obtain ⟨ρ', q, e⟩ := whlL_inv I h n m' ρ2 (by omega) i2
      exact ⟨ρ', q, by simp only [whlL, e1, e2, e]⟩
end Mx
end

section
set_option maxRecDepth 100000
namespace K02
open Mx PySem L2
/-- is_integer(value) -/
def c_is_integer : Sc :=
  (.seq (.ret (.and (.op (.isi .int) (.cons (.bor 0) .nil)) (.not (.op (.isi .bool) (.cons (.bor 0) .nil)))))
  .skip)
/-- need_integer(value, name, least, most) -/
def c_need_integer : Sc :=
  (.seq (.ifs (.or (.not (.call 0 0 (.cons (.bor 0) .nil))) (.or (.op .lt (.cons (.bor 0) (.cons (.bor 2) .nil))) (.op .gt (.cons (.bor 0) (.cons (.bor 3) .nil))))) (.seq (.rais (.var 1))
   .skip) .skip)
  .skip)
/-- are_weights(value) -/
def c_are_weights : Sc :=
  (.seq (.ifs (.or (.not (.op (.isi .tuple) (.cons (.bor 0) .nil))) (.not (.chn .le .le (.cst (.int 1)) (.op .len (.cons (.bor 0) .nil)) (.glb "MOST_MEMBERS" (.int 8))))) (.seq (.ret (.cst (.bool false)))
   .skip) .skip)
  (.seq (.ret (.allg (.and (.call 0 0 (.cons (.bor 1) .nil)) (.chn .le .le (.cst (.int 1)) (.var 1) (.glb "MOST_WEIGHT" (.int 100000)))) (.one 1) [1] (.iseq (.bor 0))))
  .skip))
/-- need_share(weights, units, way) -/
def c_need_share : Sc :=
  (.seq (.ifs (.not (.call 2 0 (.cons (.bor 0) .nil))) (.seq (.rais (.cst (.str "weights")))
   .skip) .skip)
  (.seq (.ex (.call 1 0 (.cons (.bor 1) (.cons (.cst (.str "units")) (.cons (.cst (.int 0)) (.cons (.glb "MOST_UNITS" (.int 500)) .nil))))))
  (.seq (.ifs (.op .nin (.cons (.bor 2) (.cons (.glb "WAYS" (.tuple [(.str "remainders"), (.str "down"), (.str "nearest"), (.str "up")])) .nil))) (.seq (.rais (.cst (.str "way")))
   .skip) .skip)
  .skip)))
/-- by_remainders(weights, units) -/
def c_by_remainders : Sc :=
  (.seq (.set 2 (.op .sum (.cons (.bor 0) .nil)))
  (.seq (.set 3 (.comp (.op .fdv (.cons (.op .mul (.cons (.bor 7) (.cons (.bor 1) .nil))) (.cons (.bor 2) .nil))) (.one 7) [7] (.iseq (.bor 0)) .nil))
  (.seq (.set 4 (.op .sorted (.cons (.comp (.tup (.cons (.op .sub (.cons (.cst (.int 0)) (.cons (.op .mod (.cons (.op .mul (.cons (.op .idx (.cons (.bor 0) (.cons (.bor 6) .nil))) (.cons (.bor 1) .nil))) (.cons (.bor 2) .nil))) .nil))) (.cons (.var 6) .nil))) (.one 6) [6] (.irng (.op .len (.cons (.bor 0) .nil))) .nil) .nil)))
  (.seq (.for1 (.tup [5, 6]) (.iseq (.op .slTo (.cons (.bor 4) (.cons (.op .sub (.cons (.bor 1) (.cons (.op .sum (.cons (.bor 3) .nil)) .nil))) .nil)))) (.seq (.agi 3 (.var 6) .add (.cst (.int 1)))
   .skip))
  (.seq (.rown 3)
  .skip)))))
/-- next_claim(units, way) -/
def c_next_claim : Sc :=
  (.seq (.ifs (.op .eq (.cons (.bor 1) (.cons (.glb "DOWN" (.str "down")) .nil))) (.seq (.ret (.op .add (.cons (.op .mul (.cons (.cst (.int 2)) (.cons (.bor 0) .nil))) (.cons (.cst (.int 2)) .nil))))
   .skip) .skip)
  (.seq (.ret (.ife (.op .eq (.cons (.bor 1) (.cons (.glb "NEAREST" (.str "nearest")) .nil))) (.op .add (.cons (.op .mul (.cons (.cst (.int 2)) (.cons (.bor 0) .nil))) (.cons (.cst (.int 1)) .nil))) (.op .mul (.cons (.cst (.int 2)) (.cons (.bor 0) .nil)))))
  .skip))
/-- by_divisors(weights, units, way) -/
def c_by_divisors : Sc :=
  (.seq (.set 3 (.rep (.lst (.cons (.cst (.int 0)) .nil)) (.op .len (.cons (.bor 0) .nil))))
  (.seq (.for1 (.one 4) (.irng (.var 1)) (.seq (.set 5 (.cst (.int 0)))
   (.seq (.for1 (.one 6) (.irng2 (.cst (.int 1)) (.op .len (.cons (.bor 0) .nil))) (.seq (.set 7 (.call 5 0 (.cons (.op .idx (.cons (.bor 3) (.cons (.bor 6) .nil))) (.cons (.bor 2) .nil))))
    (.seq (.set 8 (.call 5 0 (.cons (.op .idx (.cons (.bor 3) (.cons (.bor 5) .nil))) (.cons (.bor 2) .nil))))
    (.seq (.ifs (.op .gt (.cons (.op .mul (.cons (.op .idx (.cons (.bor 0) (.cons (.bor 6) .nil))) (.cons (.bor 8) .nil))) (.cons (.op .mul (.cons (.op .idx (.cons (.bor 0) (.cons (.bor 5) .nil))) (.cons (.bor 7) .nil))) .nil))) (.seq (.set 5 (.var 6))
     .skip) (.seq (.ifs (.and (.op .eq (.cons (.bor 7) (.cons (.cst (.int 0)) .nil))) (.and (.op .eq (.cons (.bor 8) (.cons (.cst (.int 0)) .nil))) (.op .gt (.cons (.op .idx (.cons (.bor 0) (.cons (.bor 6) .nil))) (.cons (.op .idx (.cons (.bor 0) (.cons (.bor 5) .nil))) .nil))))) (.seq (.set 5 (.var 6))
      .skip) .skip)
     .skip))
    .skip))))
   (.seq (.agi 3 (.var 5) .add (.cst (.int 1)))
   .skip))))
  (.seq (.rown 3)
  .skip)))
/-- shared(weights, units, way) -/
def c_shared : Sc :=
  (.seq (.ret (.ife (.op .eq (.cons (.bor 2) (.cons (.glb "REMAINDERS" (.str "remainders")) .nil))) (.call 4 0 (.cons (.bor 0) (.cons (.bor 1) .nil))) (.call 6 0 (.cons (.bor 0) (.cons (.bor 1) (.cons (.bor 2) .nil))))))
  .skip)
/-- share(weights, units, way) -/
def c_share : Sc :=
  (.seq (.ex (.call 3 0 (.cons (.bor 0) (.cons (.bor 1) (.cons (.bor 2) .nil)))))
  (.seq (.ret (.op .tup (.cons (.call 7 0 (.cons (.bor 0) (.cons (.bor 1) (.cons (.bor 2) .nil)))) .nil)))
  .skip))
/-- losers_by_more(weights, units, way) -/
def c_losers_by_more : Sc :=
  (.seq (.ex (.call 3 0 (.cons (.bor 0) (.cons (.bor 1) (.cons (.bor 2) .nil)))))
  (.seq (.set 3 (.call 7 0 (.cons (.bor 0) (.cons (.bor 1) (.cons (.bor 2) .nil)))))
  (.seq (.set 4 (.call 7 0 (.cons (.bor 0) (.cons (.op .add (.cons (.bor 1) (.cons (.cst (.int 1)) .nil))) (.cons (.bor 2) .nil)))))
  (.seq (.ret (.op .tup (.cons (.comp (.var 5) (.one 5) [5] (.irng (.op .len (.cons (.bor 0) .nil))) (.op .lt (.cons (.op .idx (.cons (.bor 4) (.cons (.bor 5) .nil))) (.cons (.op .idx (.cons (.bor 3) (.cons (.bor 5) .nil))) .nil)))) .nil)))
  .skip))))
/-- first_loss(weights, most, way) -/
def c_first_loss : Sc :=
  (.seq (.ex (.call 3 0 (.cons (.bor 0) (.cons (.bor 1) (.cons (.bor 2) .nil)))))
  (.seq (.for1 (.one 3) (.irng (.op .add (.cons (.bor 1) (.cons (.cst (.int 1)) .nil)))) (.seq (.ifs (.op .gt (.cons (.op .len (.cons (.call 9 0 (.cons (.bor 0) (.cons (.bor 3) (.cons (.bor 2) .nil)))) .nil)) (.cons (.cst (.int 0)) .nil))) (.seq (.rown 3)
    .skip) .skip)
   .skip))
  (.seq (.ret (.cst .none))
  .skip)))
/-- off_quota(weights, units, way) -/
def c_off_quota : Sc :=
  (.seq (.ex (.call 3 0 (.cons (.bor 0) (.cons (.bor 1) (.cons (.bor 2) .nil)))))
  (.seq (.set 3 (.op .sum (.cons (.bor 0) .nil)))
  (.seq (.set 4 (.lst .nil))
  (.seq (.set 5 (.call 7 0 (.cons (.bor 0) (.cons (.bor 1) (.cons (.bor 2) .nil)))))
  (.seq (.for1 (.one 6) (.irng (.op .len (.cons (.bor 0) .nil))) (.seq (.set 7 (.op .fdv (.cons (.op .mul (.cons (.op .idx (.cons (.bor 0) (.cons (.bor 6) .nil))) (.cons (.bor 1) .nil))) (.cons (.bor 3) .nil))))
   (.seq (.set 8 (.ife (.op .eq (.cons (.op .mod (.cons (.op .mul (.cons (.op .idx (.cons (.bor 0) (.cons (.bor 6) .nil))) (.cons (.bor 1) .nil))) (.cons (.bor 3) .nil))) (.cons (.cst (.int 0)) .nil))) (.var 7) (.op .add (.cons (.bor 7) (.cons (.cst (.int 1)) .nil)))))
   (.seq (.ifs (.not (.chn .le .le (.var 7) (.op .idx (.cons (.bor 5) (.cons (.bor 6) .nil))) (.var 8))) (.seq (.app 4 (.var 6))
    .skip) .skip)
   .skip))))
  (.seq (.ret (.op .tup (.cons (.bor 4) .nil)))
  .skip))))))
/-- least_units(weights, member, wanted, way) -/
def c_least_units : Sc :=
  (.seq (.ifs (.not (.call 2 0 (.cons (.bor 0) .nil))) (.seq (.rais (.cst (.str "weights")))
   .skip) .skip)
  (.seq (.ex (.call 1 0 (.cons (.bor 1) (.cons (.cst (.str "member")) (.cons (.cst (.int 0)) (.cons (.op .sub (.cons (.op .len (.cons (.bor 0) .nil)) (.cons (.cst (.int 1)) .nil))) .nil))))))
  (.seq (.ex (.call 1 0 (.cons (.bor 2) (.cons (.cst (.str "wanted")) (.cons (.cst (.int 0)) (.cons (.glb "MOST_UNITS" (.int 500)) .nil))))))
  (.seq (.ifs (.op .nin (.cons (.bor 3) (.cons (.glb "WAYS" (.tuple [(.str "remainders"), (.str "down"), (.str "nearest"), (.str "up")])) .nil))) (.seq (.rais (.cst (.str "way")))
   .skip) .skip)
  (.seq (.for1 (.one 4) (.irng (.op .add (.cons (.glb "MOST_UNITS" (.int 500)) (.cons (.cst (.int 1)) .nil)))) (.seq (.ifs (.op .ge (.cons (.op .idx (.cons (.call 7 0 (.cons (.bor 0) (.cons (.bor 4) (.cons (.bor 3) .nil)))) (.cons (.bor 1) .nil))) (.cons (.bor 2) .nil))) (.seq (.rown 4)
    .skip) .skip)
   .skip))
  (.seq (.ret (.cst .none))
  .skip))))))
/-- _law_dice(script, spot) -/
def c__law_dice : Sc :=
  (.seq (.set 2 (.ife (.op .lt (.cons (.bor 1) (.cons (.op .len (.cons (.bor 0) .nil)) .nil))) (.op .idx (.cons (.bor 0) (.cons (.bor 1) .nil))) (.op .add (.cons (.op .mul (.cons (.cst (.int 733)) (.cons (.bor 1) .nil))) (.cons (.cst (.int 29)) .nil)))))
  (.seq (.set 3 (.op .add (.cons (.cst (.int 990029)) (.cons (.op .mul (.cons (.cst (.int 7907)) (.cons (.bor 1) .nil))) .nil))))
  (.seq (.for1 (.one 4) (.iseq (.op .add (.cons (.op .slTo (.cons (.bor 0) (.cons (.cst (.int 6)) .nil))) (.cons (.lst (.cons (.var 2) .nil)) .nil)))) (.seq (.set 3 (.op .mod (.cons (.op .int (.cons (.op .add (.cons (.op .mul (.cons (.bor 3) (.cons (.cst (.int 48271)) .nil))) (.cons (.op .mod (.cons (.op .int (.cons (.bor 4) .nil)) (.cons (.cst (.int 2147480009)) .nil))) .nil))) .nil)) (.cons (.cst (.int 2147480009)) .nil))))
   .skip))
  (.seq (.ret (.lst (.cons (.ife (.or (.op .lt (.cons (.bor 2) (.cons (.cst (.int 0)) .nil))) (.op .ge (.cons (.bor 2) (.cons (.op .pow (.cons (.cst (.int 10)) (.cons (.cst (.int 16)) .nil))) .nil)))) (.op .abs (.cons (.bor 2) .nil)) (.cst (.int 0))) (.cons (.var 3) (.cons (.cst (.int 0)) .nil)))))
  .skip))))
/-- _law_roll(dice, many) -/
def c__law_roll : Sc :=
  (.seq (.ifs (.op .gt (.cons (.op .idx (.cons (.bor 0) (.cons (.cst (.int 0)) .nil))) (.cons (.cst (.int 0)) .nil))) (.seq (.set 2 (.op .mod (.cons (.op .int (.cons (.op .idx (.cons (.bor 0) (.cons (.cst (.int 0)) .nil))) .nil)) (.cons (.bor 1) .nil))))
   (.seq (.sti 0 (.cst (.int 0)) (.op .fdv (.cons (.op .idx (.cons (.bor 0) (.cons (.cst (.int 0)) .nil))) (.cons (.bor 1) .nil))))
   (.seq (.rown 2)
   .skip))) .skip)
  (.seq (.sti 0 (.cst (.int 2)) (.op .add (.cons (.op .idx (.cons (.bor 0) (.cons (.cst (.int 2)) .nil))) (.cons (.cst (.int 1)) .nil))))
  (.seq (.sti 0 (.cst (.int 1)) (.op .mod (.cons (.op .int (.cons (.op .add (.cons (.op .add (.cons (.op .mul (.cons (.op .idx (.cons (.bor 0) (.cons (.cst (.int 1)) .nil))) (.cons (.cst (.int 52501)) .nil))) (.cons (.op .mul (.cons (.op .mul (.cons (.op .idx (.cons (.bor 0) (.cons (.cst (.int 2)) .nil))) (.cons (.op .idx (.cons (.bor 0) (.cons (.cst (.int 2)) .nil))) .nil))) (.cons (.cst (.int 1009)) .nil))) .nil))) (.cons (.cst (.int 77)) .nil))) .nil)) (.cons (.cst (.int 2147480009)) .nil))))
  (.seq (.ret (.op .mod (.cons (.op .int (.cons (.op .fdv (.cons (.op .idx (.cons (.bor 0) (.cons (.cst (.int 1)) .nil))) (.cons (.cst (.int 211)) .nil))) .nil)) (.cons (.bor 1) .nil))))
  .skip))))
/-- _law_pick(dice, things) -/
def c__law_pick : Sc :=
  (.seq (.ret (.op .idx (.cons (.bor 1) (.cons (.call 14 0 (.cons (.len 0) (.cons (.op .len (.cons (.bor 1) .nil)) .nil))) .nil))))
  .skip)
/-- _law_half(units, way) -/
def c__law_half : Sc :=
  (.seq (.ret (.ife (.op .eq (.cons (.bor 1) (.cons (.cst (.str "down")) .nil))) (.op .add (.cons (.op .mul (.cons (.cst (.int 2)) (.cons (.bor 0) .nil))) (.cons (.cst (.int 2)) .nil))) (.ife (.op .eq (.cons (.bor 1) (.cons (.cst (.str "nearest")) .nil))) (.op .add (.cons (.op .mul (.cons (.cst (.int 2)) (.cons (.bor 0) .nil))) (.cons (.cst (.int 1)) .nil))) (.op .mul (.cons (.cst (.int 2)) (.cons (.bor 0) .nil))))))
  .skip)
/-- _law_ahead(own, best) -/
def c__law_ahead : Sc :=
  (.seq (.ifs (.or (.op .eq (.cons (.op .idx (.cons (.bor 0) (.cons (.cst (.int 1)) .nil))) (.cons (.cst (.int 0)) .nil))) (.op .eq (.cons (.op .idx (.cons (.bor 1) (.cons (.cst (.int 1)) .nil))) (.cons (.cst (.int 0)) .nil)))) (.seq (.ret (.and (.op .eq (.cons (.op .idx (.cons (.bor 0) (.cons (.cst (.int 1)) .nil))) (.cons (.cst (.int 0)) .nil))) (.or (.op .gt (.cons (.op .idx (.cons (.bor 1) (.cons (.cst (.int 1)) .nil))) (.cons (.cst (.int 0)) .nil))) (.op .gt (.cons (.op .idx (.cons (.bor 0) (.cons (.cst (.int 0)) .nil))) (.cons (.op .idx (.cons (.bor 1) (.cons (.cst (.int 0)) .nil))) .nil))))))
   .skip) .skip)
  (.seq (.ret (.op .gt (.cons (.op .mul (.cons (.op .idx (.cons (.bor 0) (.cons (.cst (.int 0)) .nil))) (.cons (.op .idx (.cons (.bor 1) (.cons (.cst (.int 1)) .nil))) .nil))) (.cons (.op .mul (.cons (.op .idx (.cons (.bor 1) (.cons (.cst (.int 0)) .nil))) (.cons (.op .idx (.cons (.bor 0) (.cons (.cst (.int 1)) .nil))) .nil))) .nil))))
  .skip))
/-- _law_share(weights, units, way) -/
def c__law_share : Sc :=
  (.seq (.unp [5, 6] (.tup (.cons (.op .lrng (.cons (.op .len (.cons (.bor 0) .nil)) .nil)) (.cons (.op .sum (.cons (.bor 0) .nil)) .nil))))
  (.seq (.ifs (.op .eq (.cons (.bor 2) (.cons (.cst (.str "remainders")) .nil))) (.seq (.set 3 (.comp (.op .fdv (.cons (.op .mul (.cons (.bor 14) (.cons (.bor 1) .nil))) (.cons (.bor 6) .nil))) (.one 14) [14] (.iseq (.bor 0)) .nil))
   (.seq (.set 7 (.op .sub (.cons (.bor 1) (.cons (.op .sum (.cons (.bor 3) .nil)) .nil))))
   (.seq (.for1 (.one 8) (.iseq (.bor 5)) (.seq (.set 10 (.op .mod (.cons (.op .mul (.cons (.op .idx (.cons (.bor 0) (.cons (.bor 8) .nil))) (.cons (.bor 1) .nil))) (.cons (.bor 6) .nil))))
    (.seq (.set 11 (.comp (.var 13) (.one 13) [13] (.iseq (.bor 5)) (.op .lt (.cons (.tup (.cons (.op .sub (.cons (.cst (.int 0)) (.cons (.op .mod (.cons (.op .mul (.cons (.op .idx (.cons (.bor 0) (.cons (.bor 13) .nil))) (.cons (.bor 1) .nil))) (.cons (.bor 6) .nil))) .nil))) (.cons (.var 13) .nil))) (.cons (.tup (.cons (.op .sub (.cons (.cst (.int 0)) (.cons (.bor 10) .nil))) (.cons (.var 8) .nil))) .nil)))))
    (.seq (.sti 3 (.var 8) (.op .add (.cons (.op .idx (.cons (.bor 3) (.cons (.bor 8) .nil))) (.cons (.ife (.op .lt (.cons (.op .len (.cons (.bor 11) .nil)) (.cons (.bor 7) .nil))) (.cst (.int 1)) (.cst (.int 0))) .nil))))
    .skip))))
   (.seq (.rown 3)
   .skip)))) .skip)
  (.seq (.set 3 (.rep (.lst (.cons (.cst (.int 0)) .nil)) (.op .len (.cons (.bor 0) .nil))))
  (.seq (.for1 (.one 4) (.irng (.var 1)) (.seq (.set 9 (.cst .none))
   (.seq (.for1 (.one 8) (.iseq (.bor 5)) (.seq (.set 12 (.call 16 0 (.cons (.op .idx (.cons (.bor 3) (.cons (.bor 8) .nil))) (.cons (.bor 2) .nil))))
    (.seq (.set 13 (.tup (.cons (.op .idx (.cons (.bor 0) (.cons (.bor 8) .nil))) (.cons (.var 12) .nil))))
    (.seq (.ifs (.or (.op .isN (.cons (.bor 9) .nil)) (.call 17 0 (.cons (.bor 13) (.cons (.bor 9) .nil)))) (.seq (.set 9 (.op .add (.cons (.bor 13) (.cons (.tup (.cons (.var 8) .nil)) .nil))))
     .skip) .skip)
    .skip))))
   (.seq (.sti 3 (.op .idx (.cons (.bor 9) (.cons (.cst (.int 2)) .nil))) (.op .add (.cons (.op .idx (.cons (.bor 3) (.cons (.op .idx (.cons (.bor 9) (.cons (.cst (.int 2)) .nil))) .nil))) (.cons (.cst (.int 1)) .nil))))
   .skip))))
  (.seq (.rown 3)
  .skip)))))
/-- _law_early(weights, least, way, member, wanted) -/
def c__law_early : Sc :=
  (.seq (.ret (.op .gt (.cons (.op .len (.cons (.comp (.cst (.int 1)) (.one 5) [5] (.irng (.var 1)) (.op .ge (.cons (.op .idx (.cons (.call 18 0 (.cons (.bor 0) (.cons (.bor 5) (.cons (.bor 2) .nil)))) (.cons (.bor 3) .nil))) (.cons (.bor 4) .nil)))) .nil)) (.cons (.cst (.int 0)) .nil))))
  .skip)
/-- _law_right(dice) -/
def c__law_right : Sc :=
  (.seq (.set 1 (.op .tup (.cons (.comp (.op .add (.cons (.cst (.int 1)) (.cons (.call 15 0 (.cons (.len 0) (.cons (.lst (.cons (.call 14 0 (.cons (.len 0) (.cons (.cst (.int 9)) .nil))) (.cons (.call 14 0 (.cons (.len 0) (.cons (.cst (.int 60)) .nil))) .nil))) .nil))) .nil))) (.one 24) [24] (.irng (.op .add (.cons (.cst (.int 1)) (.cons (.call 14 0 (.cons (.len 0) (.cons (.cst (.int 5)) .nil))) .nil)))) .nil) .nil)))
  (.seq (.par 10 11 (.cons (.call 14 0 (.cons (.len 0) (.cons (.cst (.int 25)) .nil))) (.cons (.lst (.cons (.cst (.str "remainders")) (.cons (.cst (.str "down")) (.cons (.cst (.str "nearest")) (.cons (.cst (.str "up")) .nil))))) .nil)))
  (.seq (.for1 (.one 2) (.iseq (.bor 11)) (.seq (.set 12 (.call 8 1 (.cons (.bor 1) (.cons (.bor 10) (.cons (.bor 2) .nil)))))
   (.seq (.ifs (.or (.op .ne (.cons (.bor 12) (.cons (.op .tup (.cons (.call 18 0 (.cons (.bor 1) (.cons (.bor 10) (.cons (.bor 2) .nil)))) .nil)) .nil))) (.op .ne (.cons (.op .sum (.cons (.bor 12) .nil)) (.cons (.bor 10) .nil)))) (.seq (.ret (.cst (.bool false)))
    .skip) .skip)
   (.seq (.for1 (.one 13) (.irng (.op .len (.cons (.bor 1) .nil))) (.seq (.for1 (.one 23) (.irng (.op .len (.cons (.bor 1) .nil))) (.seq (.ifs (.and (.op .ne (.cons (.bor 2) (.cons (.cst (.str "remainders")) .nil))) (.op .gt (.cons (.op .idx (.cons (.bor 12) (.cons (.bor 13) .nil))) (.cons (.cst (.int 0)) .nil)))) (.seq (.par 25 26 (.cons (.call 16 0 (.cons (.op .sub (.cons (.op .idx (.cons (.bor 12) (.cons (.bor 13) .nil))) (.cons (.cst (.int 1)) .nil))) (.cons (.bor 2) .nil))) (.cons (.call 16 0 (.cons (.op .idx (.cons (.bor 12) (.cons (.bor 23) .nil))) (.cons (.bor 2) .nil))) .nil)))
      (.seq (.ifs (.and (.op .gt (.cons (.bor 25) (.cons (.cst (.int 0)) .nil))) (.or (.op .eq (.cons (.bor 26) (.cons (.cst (.int 0)) .nil))) (.op .gt (.cons (.op .mul (.cons (.op .idx (.cons (.bor 1) (.cons (.bor 23) .nil))) (.cons (.bor 25) .nil))) (.cons (.op .mul (.cons (.op .idx (.cons (.bor 1) (.cons (.bor 13) .nil))) (.cons (.bor 26) .nil))) .nil))))) (.seq (.ret (.cst (.bool false)))
       .skip) .skip)
      .skip)) .skip)
     .skip))
    .skip))
   .skip))))
  (.seq (.unp [2, 14] (.tup (.cons (.call 15 0 (.cons (.len 0) (.cons (.bor 11) .nil))) (.cons (.op .sum (.cons (.bor 1) .nil)) .nil))))
  (.seq (.unp [15, 16] (.tup (.cons (.call 18 0 (.cons (.bor 1) (.cons (.bor 10) (.cons (.bor 2) .nil)))) (.cons (.call 18 0 (.cons (.bor 1) (.cons (.op .add (.cons (.bor 10) (.cons (.cst (.int 1)) .nil))) (.cons (.bor 2) .nil)))) .nil))))
  (.seq (.ifs (.op .ne (.cons (.call 9 1 (.cons (.bor 1) (.cons (.bor 10) (.cons (.bor 2) .nil)))) (.cons (.op .tup (.cons (.comp (.var 4) (.one 4) [4] (.irng (.op .len (.cons (.bor 1) .nil))) (.op .lt (.cons (.op .idx (.cons (.bor 16) (.cons (.bor 4) .nil))) (.cons (.op .idx (.cons (.bor 15) (.cons (.bor 4) .nil))) .nil)))) .nil)) .nil))) (.seq (.ret (.cst (.bool false)))
   .skip) .skip)
  (.seq (.set 3 (.lst .nil))
  (.seq (.for1 (.one 4) (.irng (.op .len (.cons (.bor 1) .nil))) (.seq (.ifs (.or (.op .le (.cons (.op .mul (.cons (.op .idx (.cons (.bor 15) (.cons (.bor 4) .nil))) (.cons (.bor 14) .nil))) (.cons (.op .sub (.cons (.op .mul (.cons (.op .idx (.cons (.bor 1) (.cons (.bor 4) .nil))) (.cons (.bor 10) .nil))) (.cons (.bor 14) .nil))) .nil))) (.op .ge (.cons (.op .mul (.cons (.op .idx (.cons (.bor 15) (.cons (.bor 4) .nil))) (.cons (.bor 14) .nil))) (.cons (.op .add (.cons (.op .mul (.cons (.op .idx (.cons (.bor 1) (.cons (.bor 4) .nil))) (.cons (.bor 10) .nil))) (.cons (.bor 14) .nil))) .nil)))) (.seq (.app 3 (.var 4))
    .skip) .skip)
   .skip))
  (.seq (.ifs (.op .ne (.cons (.call 11 1 (.cons (.bor 1) (.cons (.bor 10) (.cons (.bor 2) .nil)))) (.cons (.op .tup (.cons (.bor 3) .nil)) .nil))) (.seq (.ret (.cst (.bool false)))
   .skip) .skip)
  (.seq (.par3 17 18 19 (.cons (.call 14 0 (.cons (.len 0) (.cons (.cst (.int 20)) .nil))) (.cons (.cst .none) (.cons (.call 18 0 (.cons (.bor 1) (.cons (.cst (.int 0)) (.cons (.bor 2) .nil)))) .nil))))
  (.seq (.for1 (.one 5) (.irng (.op .add (.cons (.bor 17) (.cons (.cst (.int 1)) .nil)))) (.seq (.set 20 (.call 18 0 (.cons (.bor 1) (.cons (.op .add (.cons (.bor 5) (.cons (.cst (.int 1)) .nil))) (.cons (.bor 2) .nil)))))
   (.seq (.ifs (.and (.op .isN (.cons (.bor 18) .nil)) (.op .gt (.cons (.op .len (.cons (.comp (.cst (.int 1)) (.tup [13, 23]) [13, 23] (.izip (.var 19) (.var 20)) (.op .lt (.cons (.bor 23) (.cons (.bor 13) .nil)))) .nil)) (.cons (.cst (.int 0)) .nil)))) (.seq (.set 18 (.var 5))
    .skip) .skip)
   (.seq (.set 19 (.var 20))
   .skip))))
  (.seq (.ifs (.op .ne (.cons (.call 10 1 (.cons (.bor 1) (.cons (.bor 17) (.cons (.bor 2) .nil)))) (.cons (.bor 18) .nil))) (.seq (.ret (.cst (.bool false)))
   .skip) .skip)
  (.seq (.par 21 22 (.cons (.call 14 0 (.cons (.len 0) (.cons (.op .len (.cons (.bor 1) .nil)) .nil))) (.cons (.call 14 0 (.cons (.len 0) (.cons (.cst (.int 4)) .nil))) .nil)))
  (.seq (.set 6 (.call 12 1 (.cons (.bor 1) (.cons (.bor 21) (.cons (.bor 22) (.cons (.bor 2) .nil))))))
  (.seq (.ifs (.and (.op .notN (.cons (.bor 6) .nil)) (.or (.op .lt (.cons (.op .idx (.cons (.call 18 0 (.cons (.bor 1) (.cons (.bor 6) (.cons (.bor 2) .nil)))) (.cons (.bor 21) .nil))) (.cons (.bor 22) .nil))) (.call 19 0 (.cons (.bor 1) (.cons (.bor 6) (.cons (.bor 2) (.cons (.bor 21) (.cons (.bor 22) .nil)))))))) (.seq (.ret (.cst (.bool false)))
   .skip) .skip)
  (.seq (.ifs (.and (.op .isN (.cons (.bor 6) .nil)) (.call 19 0 (.cons (.bor 1) (.cons (.cst (.int 40)) (.cons (.bor 2) (.cons (.bor 21) (.cons (.bor 22) .nil))))))) (.seq (.ret (.cst (.bool false)))
   .skip) .skip)
  (.seq (.set 7 (.call 15 0 (.cons (.len 0) (.cons (.lst (.cons (.cst .none) (.cons (.tup .nil) (.cons (.lst (.cons (.cst (.int 1)) .nil)) (.cons (.tup (.cons (.cst (.int 0)) .nil)) (.cons (.tup (.cons (.cst (.int 100001)) .nil)) (.cons (.op .mul (.cons (.tup (.cons (.cst (.int 1)) .nil)) (.cons (.cst (.int 9)) .nil))) (.cons (.tup (.cons (.cst (.bool true)) .nil)) .nil)))))))) .nil))))
  (.seq (.set 8 (.lst (.cons (.refd (.call 8 0 (.cons (.bor 7) (.cons (.cst .none) (.cons (.cst .none) .nil))))) (.cons (.refd (.call 8 0 (.cons (.bor 1) (.cons (.cst (.int 501)) (.cons (.cst .none) .nil))))) (.cons (.refd (.call 8 0 (.cons (.bor 1) (.cons (.cst (.int 1)) (.cons (.cst (.str "Up")) .nil))))) (.cons (.refd (.call 9 0 (.cons (.bor 1) (.cons (.op .neg (.cons (.cst (.int 1)) .nil)) (.cons (.bor 2) .nil))))) (.cons (.refd (.call 10 0 (.cons (.bor 1) (.cons (.cst .none) (.cons (.bor 2) .nil))))) (.cons (.refd (.call 11 0 (.cons (.bor 7) (.cons (.cst (.int 0)) (.cons (.bor 2) .nil))))) (.cons (.refd (.call 12 0 (.cons (.bor 1) (.cons (.op .len (.cons (.bor 1) .nil)) (.cons (.cst (.int 0)) (.cons (.bor 2) .nil)))))) (.cons (.refd (.call 12 0 (.cons (.bor 1) (.cons (.cst (.int 0)) (.cons (.cst (.int 0)) (.cons (.cst .none) .nil)))))) .nil))))))))))
  (.seq (.set 9 (.lst (.cons (.cst (.str "weights")) (.cons (.cst (.str "units")) (.cons (.cst (.str "way")) (.cons (.cst (.str "units")) (.cons (.cst (.str "units")) (.cons (.cst (.str "weights")) (.cons (.cst (.str "member")) (.cons (.cst (.str "way")) .nil))))))))))
  (.seq (.ret (.and (.op .eq (.cons (.bor 8) (.cons (.bor 9) .nil))) (.and (.call 2 0 (.cons (.bor 1) .nil)) (.not (.call 2 0 (.cons (.bor 7) .nil))))))
  .skip))))))))))))))))))))
/-- law(script) -/
def c_law : Sc :=
  (.seq (.for1 (.one 1) (.irng (.op .max2 (.cons (.cst (.int 1)) (.cons (.op .min2 (.cons (.cst (.int 4)) (.cons (.op .len (.cons (.bor 0) .nil)) .nil))) .nil)))) (.seq (.ifs (.not (.call 20 0 (.cons (.frs (.call 13 0 (.cons (.bor 0) (.cons (.bor 1) .nil)))) .nil))) (.seq (.ret (.cst (.bool false)))
    .skip) .skip)
   .skip))
  (.seq (.ret (.cst (.bool true)))
  .skip))
def n_is_integer : List Str := ["value"]
def n_need_integer : List Str := ["value", "name", "least", "most"]
def n_are_weights : List Str := ["value", "one"]
def n_need_share : List Str := ["weights", "units", "way"]
def n_by_remainders : List Str := ["weights", "units", "whole", "found", "rests", "rest", "at", "weight"]
def n_next_claim : List Str := ["units", "way"]
def n_by_divisors : List Str := ["weights", "units", "way", "found", "turn", "best", "at", "own", "other"]
def n_shared : List Str := ["weights", "units", "way"]
def n_share : List Str := ["weights", "units", "way"]
def n_losers_by_more : List Str := ["weights", "units", "way", "now", "later", "at"]
def n_first_loss : List Str := ["weights", "most", "way", "units"]
def n_off_quota : List Str := ["weights", "units", "way", "whole", "found", "rows", "at", "low", "high"]
def n_least_units : List Str := ["weights", "member", "wanted", "way", "units"]
def n__law_dice : List Str := ["script", "spot", "own", "mixed", "cell"]
def n__law_roll : List Str := ["dice", "many", "found"]
def n__law_pick : List Str := ["dice", "things"]
def n__law_half : List Str := ["units", "way"]
def n__law_ahead : List Str := ["own", "best"]
def n__law_share : List Str := ["weights", "units", "way", "found", "turn", "many", "whole", "left", "at", "best", "rest", "ahead", "half", "own", "weight"]
def n__law_early : List Str := ["weights", "least", "way", "member", "wanted", "own"]
def n__law_right : List Str := ["dice", "weights", "way", "off", "at", "own", "least", "bad", "told", "due", "units", "ways", "found", "one", "whole", "now", "later", "most", "first", "before", "after", "member", "wanted", "other", "turn", "last", "further"]
def n_law : List Str := ["script", "spot"]
def tp (n : Nat) : Stmt := (PySem.Challenge.pw_mutualbox_k02_whole_seats.main.body)[n]?.getD (.Pass ⟨0, 0, 0, 0⟩)
def d_is_integer : DefD := ⟨"is_integer", ["value"], n_is_integer, tp 3, none, c_is_integer⟩
def d_need_integer : DefD := ⟨"need_integer", ["value", "name", "least", "most"], n_need_integer, tp 4, none, c_need_integer⟩
def d_are_weights : DefD := ⟨"are_weights", ["value"], n_are_weights, tp 14, (some "<genexpr>"), c_are_weights⟩
def d_need_share : DefD := ⟨"need_share", ["weights", "units", "way"], n_need_share, tp 15, none, c_need_share⟩
def d_by_remainders : DefD := ⟨"by_remainders", ["weights", "units"], n_by_remainders, tp 16, none, c_by_remainders⟩
def d_next_claim : DefD := ⟨"next_claim", ["units", "way"], n_next_claim, tp 17, none, c_next_claim⟩
def d_by_divisors : DefD := ⟨"by_divisors", ["weights", "units", "way"], n_by_divisors, tp 18, none, c_by_divisors⟩
def d_shared : DefD := ⟨"shared", ["weights", "units", "way"], n_shared, tp 19, none, c_shared⟩
def d_share : DefD := ⟨"share", ["weights", "units", "way"], n_share, tp 20, none, c_share⟩
def d_losers_by_more : DefD := ⟨"losers_by_more", ["weights", "units", "way"], n_losers_by_more, tp 21, none, c_losers_by_more⟩
def d_first_loss : DefD := ⟨"first_loss", ["weights", "most", "way"], n_first_loss, tp 22, none, c_first_loss⟩
def d_off_quota : DefD := ⟨"off_quota", ["weights", "units", "way"], n_off_quota, tp 23, none, c_off_quota⟩
def d_least_units : DefD := ⟨"least_units", ["weights", "member", "wanted", "way"], n_least_units, tp 24, none, c_least_units⟩
def d__law_dice : DefD := ⟨"_law_dice", ["script", "spot"], n__law_dice, tp 26, none, c__law_dice⟩
def d__law_roll : DefD := ⟨"_law_roll", ["dice", "many"], n__law_roll, tp 27, none, c__law_roll⟩
def d__law_pick : DefD := ⟨"_law_pick", ["dice", "things"], n__law_pick, tp 28, none, c__law_pick⟩
def d__law_half : DefD := ⟨"_law_half", ["units", "way"], n__law_half, tp 30, none, c__law_half⟩
def d__law_ahead : DefD := ⟨"_law_ahead", ["own", "best"], n__law_ahead, tp 31, none, c__law_ahead⟩
def d__law_share : DefD := ⟨"_law_share", ["weights", "units", "way"], n__law_share, tp 32, none, c__law_share⟩
def d__law_early : DefD := ⟨"_law_early", ["weights", "least", "way", "member", "wanted"], n__law_early, tp 33, none, c__law_early⟩
def d__law_right : DefD := ⟨"_law_right", ["dice"], n__law_right, tp 34, (some "<lambda>"), c__law_right⟩
def d_law : DefD := ⟨"law", ["script"], n_law, tp 35, none, c_law⟩
def defs : List DefD := [d_is_integer, d_need_integer, d_are_weights, d_need_share, d_by_remainders, d_next_claim, d_by_divisors, d_shared, d_share, d_losers_by_more, d_first_loss, d_off_quota, d_least_units, d__law_dice, d__law_roll, d__law_pick, d__law_half, d__law_ahead, d__law_share, d__law_early, d__law_right, d_law]
def glbs : List (Str × D) := [("MOST_MEMBERS", (.int 8)), ("MOST_WEIGHT", (.int 100000)), ("MOST_UNITS", (.int 500)), ("REMAINDERS", (.str "remainders")), ("DOWN", (.str "down")), ("NEAREST", (.str "nearest")), ("UP", (.str "up")), ("WAYS", (.tuple [(.str "remainders"), (.str "down"), (.str "nearest"), (.str "up")]))]
-- defs: 0=is_integer 1=need_integer 2=are_weights 3=need_share 4=by_remainders 5=next_claim 6=by_divisors 7=shared 8=share 9=losers_by_more 10=first_loss 11=off_quota 12=least_units 13=_law_dice 14=_law_roll 15=_law_pick 16=_law_half 17=_law_ahead 18=_law_share 19=_law_early 20=_law_right 21=law
theorem k_is_integer : chkSs (ckOf defs glbs "_law_refused" n_is_integer) (defScope d_is_integer.st) d_is_integer.kd (defBody d_is_integer.st) d_is_integer.body = true := by decide +kernel
theorem s_is_integer : FnScope n_is_integer d_is_integer.ps (defScope d_is_integer.st) := ⟨rfl, rfl, rfl, by decide +kernel, rfl, by decide +kernel, by decide +kernel⟩
theorem k_need_integer : chkSs (ckOf defs glbs "_law_refused" n_need_integer) (defScope d_need_integer.st) d_need_integer.kd (defBody d_need_integer.st) d_need_integer.body = true := by decide +kernel
theorem s_need_integer : FnScope n_need_integer d_need_integer.ps (defScope d_need_integer.st) := ⟨rfl, rfl, rfl, by decide +kernel, rfl, by decide +kernel, by decide +kernel⟩
theorem k_are_weights : chkSs (ckOf defs glbs "_law_refused" n_are_weights) (defScope d_are_weights.st) d_are_weights.kd (defBody d_are_weights.st) d_are_weights.body = true := by decide +kernel
theorem s_are_weights : FnScope n_are_weights d_are_weights.ps (defScope d_are_weights.st) := ⟨rfl, rfl, rfl, by decide +kernel, rfl, by decide +kernel, by decide +kernel⟩
theorem k_need_share : chkSs (ckOf defs glbs "_law_refused" n_need_share) (defScope d_need_share.st) d_need_share.kd (defBody d_need_share.st) d_need_share.body = true := by decide +kernel
theorem s_need_share : FnScope n_need_share d_need_share.ps (defScope d_need_share.st) := ⟨rfl, rfl, rfl, by decide +kernel, rfl, by decide +kernel, by decide +kernel⟩
theorem k_by_remainders : chkSs (ckOf defs glbs "_law_refused" n_by_remainders) (defScope d_by_remainders.st) d_by_remainders.kd (defBody d_by_remainders.st) d_by_remainders.body = true := by decide +kernel
theorem s_by_remainders : FnScope n_by_remainders d_by_remainders.ps (defScope d_by_remainders.st) := ⟨rfl, rfl, rfl, by decide +kernel, rfl, by decide +kernel, by decide +kernel⟩
theorem k_next_claim : chkSs (ckOf defs glbs "_law_refused" n_next_claim) (defScope d_next_claim.st) d_next_claim.kd (defBody d_next_claim.st) d_next_claim.body = true := by decide +kernel
theorem s_next_claim : FnScope n_next_claim d_next_claim.ps (defScope d_next_claim.st) := ⟨rfl, rfl, rfl, by decide +kernel, rfl, by decide +kernel, by decide +kernel⟩
theorem k_by_divisors : chkSs (ckOf defs glbs "_law_refused" n_by_divisors) (defScope d_by_divisors.st) d_by_divisors.kd (defBody d_by_divisors.st) d_by_divisors.body = true := by decide +kernel
theorem s_by_divisors : FnScope n_by_divisors d_by_divisors.ps (defScope d_by_divisors.st) := ⟨rfl, rfl, rfl, by decide +kernel, rfl, by decide +kernel, by decide +kernel⟩
theorem k_shared : chkSs (ckOf defs glbs "_law_refused" n_shared) (defScope d_shared.st) d_shared.kd (defBody d_shared.st) d_shared.body = true := by decide +kernel
theorem s_shared : FnScope n_shared d_shared.ps (defScope d_shared.st) := ⟨rfl, rfl, rfl, by decide +kernel, rfl, by decide +kernel, by decide +kernel⟩
theorem k_share : chkSs (ckOf defs glbs "_law_refused" n_share) (defScope d_share.st) d_share.kd (defBody d_share.st) d_share.body = true := by decide +kernel
theorem s_share : FnScope n_share d_share.ps (defScope d_share.st) := ⟨rfl, rfl, rfl, by decide +kernel, rfl, by decide +kernel, by decide +kernel⟩
theorem k_losers_by_more : chkSs (ckOf defs glbs "_law_refused" n_losers_by_more) (defScope d_losers_by_more.st) d_losers_by_more.kd (defBody d_losers_by_more.st) d_losers_by_more.body = true := by decide +kernel
theorem s_losers_by_more : FnScope n_losers_by_more d_losers_by_more.ps (defScope d_losers_by_more.st) := ⟨rfl, rfl, rfl, by decide +kernel, rfl, by decide +kernel, by decide +kernel⟩
theorem k_first_loss : chkSs (ckOf defs glbs "_law_refused" n_first_loss) (defScope d_first_loss.st) d_first_loss.kd (defBody d_first_loss.st) d_first_loss.body = true := by decide +kernel
theorem s_first_loss : FnScope n_first_loss d_first_loss.ps (defScope d_first_loss.st) := ⟨rfl, rfl, rfl, by decide +kernel, rfl, by decide +kernel, by decide +kernel⟩
theorem k_off_quota : chkSs (ckOf defs glbs "_law_refused" n_off_quota) (defScope d_off_quota.st) d_off_quota.kd (defBody d_off_quota.st) d_off_quota.body = true := by decide +kernel
theorem s_off_quota : FnScope n_off_quota d_off_quota.ps (defScope d_off_quota.st) := ⟨rfl, rfl, rfl, by decide +kernel, rfl, by decide +kernel, by decide +kernel⟩
theorem k_least_units : chkSs (ckOf defs glbs "_law_refused" n_least_units) (defScope d_least_units.st) d_least_units.kd (defBody d_least_units.st) d_least_units.body = true := by decide +kernel
theorem s_least_units : FnScope n_least_units d_least_units.ps (defScope d_least_units.st) := ⟨rfl, rfl, rfl, by decide +kernel, rfl, by decide +kernel, by decide +kernel⟩
theorem k__law_dice : chkSs (ckOf defs glbs "_law_refused" n__law_dice) (defScope d__law_dice.st) d__law_dice.kd (defBody d__law_dice.st) d__law_dice.body = true := by decide +kernel
theorem s__law_dice : FnScope n__law_dice d__law_dice.ps (defScope d__law_dice.st) := ⟨rfl, rfl, rfl, by decide +kernel, rfl, by decide +kernel, by decide +kernel⟩
theorem k__law_roll : chkSs (ckOf defs glbs "_law_refused" n__law_roll) (defScope d__law_roll.st) d__law_roll.kd (defBody d__law_roll.st) d__law_roll.body = true := by decide +kernel
theorem s__law_roll : FnScope n__law_roll d__law_roll.ps (defScope d__law_roll.st) := ⟨rfl, rfl, rfl, by decide +kernel, rfl, by decide +kernel, by decide +kernel⟩
theorem k__law_pick : chkSs (ckOf defs glbs "_law_refused" n__law_pick) (defScope d__law_pick.st) d__law_pick.kd (defBody d__law_pick.st) d__law_pick.body = true := by decide +kernel
theorem s__law_pick : FnScope n__law_pick d__law_pick.ps (defScope d__law_pick.st) := ⟨rfl, rfl, rfl, by decide +kernel, rfl, by decide +kernel, by decide +kernel⟩
theorem k__law_half : chkSs (ckOf defs glbs "_law_refused" n__law_half) (defScope d__law_half.st) d__law_half.kd (defBody d__law_half.st) d__law_half.body = true := by decide +kernel
theorem s__law_half : FnScope n__law_half d__law_half.ps (defScope d__law_half.st) := ⟨rfl, rfl, rfl, by decide +kernel, rfl, by decide +kernel, by decide +kernel⟩
theorem k__law_ahead : chkSs (ckOf defs glbs "_law_refused" n__law_ahead) (defScope d__law_ahead.st) d__law_ahead.kd (defBody d__law_ahead.st) d__law_ahead.body = true := by decide +kernel
theorem s__law_ahead : FnScope n__law_ahead d__law_ahead.ps (defScope d__law_ahead.st) := ⟨rfl, rfl, rfl, by decide +kernel, rfl, by decide +kernel, by decide +kernel⟩
theorem k__law_share : chkSs (ckOf defs glbs "_law_refused" n__law_share) (defScope d__law_share.st) d__law_share.kd (defBody d__law_share.st) d__law_share.body = true := by decide +kernel
theorem s__law_share : FnScope n__law_share d__law_share.ps (defScope d__law_share.st) := ⟨rfl, rfl, rfl, by decide +kernel, rfl, by decide +kernel, by decide +kernel⟩
theorem k__law_early : chkSs (ckOf defs glbs "_law_refused" n__law_early) (defScope d__law_early.st) d__law_early.kd (defBody d__law_early.st) d__law_early.body = true := by decide +kernel
theorem s__law_early : FnScope n__law_early d__law_early.ps (defScope d__law_early.st) := ⟨rfl, rfl, rfl, by decide +kernel, rfl, by decide +kernel, by decide +kernel⟩
theorem k__law_right : chkSs (ckOf defs glbs "_law_refused" n__law_right) (defScope d__law_right.st) d__law_right.kd (defBody d__law_right.st) d__law_right.body = true := by decide +kernel
theorem s__law_right : FnScope n__law_right d__law_right.ps (defScope d__law_right.st) := ⟨rfl, rfl, rfl, by decide +kernel, rfl, by decide +kernel, by decide +kernel⟩
theorem k_law : chkSs (ckOf defs glbs "_law_refused" n_law) (defScope d_law.st) d_law.kd (defBody d_law.st) d_law.body = true := by decide +kernel
theorem s_law : FnScope n_law d_law.ps (defScope d_law.st) := ⟨rfl, rfl, rfl, by decide +kernel, rfl, by decide +kernel, by decide +kernel⟩
end K02
end

section
/-! k00's plain mathematics: levels of a fund -/
namespace K00P
def net (a b : List Int) (i : Nat) : Int := a[i % a.length]?.getD 0 - b[i % b.length]?.getD 0
def psum (f : Nat → Int) : Nat → Int
  | 0 => 0
  | n + 1 => psum f n + f n
theorem psum_add (f : Nat → Int) (m n : Nat) : psum f (m + n) = psum f m + psum (fun i => f (m + i)) n := by
  induction n with
  | zero => simp [psum]
  | succ n ih => rw [← Nat.add_assoc]; simp only [psum]; omega
def Per (f : Nat → Int) (T : Nat) : Prop := ∀ i, f (i + T) = f i
theorem Per.mul {f : Nat → Int} {T : Nat} (h : Per f T) (k i : Nat) : f (k * T + i) = f i := by
  induction k with
  | zero => simp
  | succ k ih => rw [Nat.succ_mul, Nat.add_right_comm, h, ih]
theorem Per.psum {f : Nat → Int} {T : Nat} (h : Per f T) (k m : Nat) : psum f (k * T + m) = k * K00P.psum f T + K00P.psum f m := by
  have e : ∀ k, K00P.psum f (k * T) = k * K00P.psum f T := by
    intro k
    induction k with
    | zero => simp [K00P.psum]
    | succ k ih =>
      rw [Nat.succ_mul, psum_add, ih, funext (h.mul k)]
      have : ((k + 1 : Nat) : Int) = k + 1 := by omega
      rw [this, Int.add_mul]; omega
  rw [psum_add, e, funext (h.mul k)]
/-- the least i with P, or none -/
def IsFirst (P : Nat → Prop) : Option Nat → Prop
  | none => ∀ i, ¬ P i
  | some k => P k ∧ ∀ j, j < k → ¬ P j
theorem IsFirst.uniq {P : Nat → Prop} : ∀ {r s : Option Nat}, IsFirst P r → IsFirst P s → r = s
  | none, none, _, _ => rfl
  | none, some k, h, g => (h k g.1).elim
  | some k, none, h, g => (g k h.1).elim
  | some k, some l, h, g => by
    rcases Nat.lt_trichotomy k l with z | z | z
    · exact (g.2 k z h.1).elim
    · rw [z]
    · exact (h.2 l z g.1).elim
theorem IsFirst.congr {P Q : Nat → Prop} (h : ∀ i, P i ↔ Q i) : ∀ {r}, IsFirst P r → IsFirst Q r
  | none, g => fun i q => g i ((h i).2 q)
  | some _, g => ⟨(h _).1 g.1, fun j l q => g.2 j l ((h j).2 q)⟩
def better (k : Nat) : Option Nat → Option Nat
  | none => some k
  | some b => if k < b then some k else some b
theorem IsFirst.or {P Q : Nat → Prop} {k : Nat} (hq : IsFirst Q (some k)) : ∀ {r}, IsFirst P r → IsFirst (fun i => P i ∨ Q i) (better k r)
  | none, g => ⟨.inr hq.1, fun j l => fun | .inl z => g j z | .inr z => hq.2 j l z⟩
  | some b, g => by
    show IsFirst _ (if k < b then some k else some b)
    by_cases h : k < b
    · rw [if_pos h]
      exact ⟨.inr hq.1, fun j l => fun | .inl z => g.2 j (by omega) z | .inr z => hq.2 j l z⟩
    · rw [if_neg h]
      exact ⟨.inl g.1, fun j l => fun | .inl z => g.2 j l z | .inr z => hq.2 j (by omega) z⟩
theorem IsFirst.or_none {P Q : Nat → Prop} (hq : ∀ i, ¬ Q i) {r} (g : IsFirst P r) : IsFirst (fun i => P i ∨ Q i) r :=
  g.congr fun i => ⟨.inl, fun | .inl z => z | .inr z => (hq i z).elim⟩
def lev (b : Int) (f : Nat → Int) (i : Nat) : Int := b + psum f (i + 1)
theorem lev_per {b : Int} {f : Nat → Int} {T : Nat} (h : Per f T) (k m : Nat) : lev b f (k * T + m) = lev b f m + k * psum f T := by
  unfold lev
  rw [Nat.add_assoc, h.psum]; omega
/-- how many turns until the level at a month of the first turn is below nothing -/
def turnsOf (level whole : Int) : Int := if level < 0 then 0 else level / (0 - whole) + 1
theorem turnsOf_first {level whole : Int} (h : level < 0 ∨ whole < 0) : ∃ t : Nat, turnsOf level whole = t ∧ level + t * whole < 0 ∧ ∀ k : Nat, k < t → ¬ level + k * whole < 0 := by
  unfold turnsOf
  by_cases h1 : level < 0
  · exact ⟨0, by simp [h1], by simpa using h1, fun k l => absurd l (Nat.not_lt_zero _)⟩
  · have h2 : whole < 0 := h.resolve_left h1
    have h3 : 0 < 0 - whole := by omega
    have q0 : 0 ≤ level / (0 - whole) := Int.ediv_nonneg (by omega) (by omega)
    refine ⟨(level / (0 - whole) + 1).toNat, by rw [if_neg h1]; omega, ?_, fun k l => ?_⟩
    · have e : (((level / (0 - whole) + 1).toNat : Nat) : Int) = level / (0 - whole) + 1 := by omega
      rw [e]
      have := Int.lt_ediv_add_one_mul_self level h3
      have e2 : (level / (0 - whole) + 1) * whole = -((level / (0 - whole) + 1) * (0 - whole)) := by rw [Int.zero_sub, Int.mul_neg, Int.neg_neg]
      rw [e2]; omega
    · have hk : (k : Int) ≤ level / (0 - whole) := by omega
      have := (Int.le_ediv_iff_mul_le h3).1 hk
      have e2 : (k : Int) * whole = -((k : Int) * (0 - whole)) := by rw [Int.zero_sub, Int.mul_neg, Int.neg_neg]
      rw [e2]; omega
theorem turns_first {b : Int} {f : Nat → Int} {T m : Nat} (hp : Per f T) (hT : m < T) (h : lev b f m < 0 ∨ psum f T < 0) :
    ∃ k : Nat, turnsOf (lev b f m) (psum f T) * T + m = k ∧ IsFirst (fun i => i % T = m ∧ lev b f i < 0) (some k) := by
  obtain ⟨t, e, h1, h2⟩ := turnsOf_first h
  refine ⟨t * T + m, by rw [e]; simp, ⟨by rw [Nat.add_comm, Nat.add_mul_mod_self_right, Nat.mod_eq_of_lt hT], by rw [lev_per hp]; exact h1⟩, fun j hj z => ?_⟩
  obtain ⟨z1, z2⟩ := z
  have ej : j = j / T * T + m := by rw [← z1, Nat.mul_comm]; exact (Nat.div_add_mod j T).symm
  rw [ej, lev_per hp] at z2
  refine h2 (j / T) ?_ z2
  have : j / T * T < t * T := by omega
  exact Nat.lt_of_mul_lt_mul_right this
def bestOf (b : Int) (f : Nat → Int) (T : Nat) : Nat → Option Nat
  | 0 => none
  | m + 1 => if lev b f m < 0 ∨ psum f T < 0 then better (turnsOf (lev b f m) (psum f T) * T + m).toNat (bestOf b f T m) else bestOf b f T m
theorem bestOf_first {b : Int} {f : Nat → Int} {T : Nat} (hp : Per f T) : ∀ m, m ≤ T → IsFirst (fun i => i % T < m ∧ lev b f i < 0) (bestOf b f T m)
  | 0, _ => fun i z => Nat.not_lt_zero _ z.1
  | m + 1, hm => by
    have ih := bestOf_first (b := b) hp m (by omega)
    unfold bestOf
    have sp : ∀ i, ((i % T < m ∧ lev b f i < 0) ∨ (i % T = m ∧ lev b f i < 0)) ↔ (i % T < m + 1 ∧ lev b f i < 0) := fun i => by omega
    by_cases h : lev b f m < 0 ∨ psum f T < 0
    · rw [if_pos h]
      obtain ⟨k, e, hk⟩ := turns_first hp (by omega) h
      rw [e, Int.toNat_natCast]
      exact (hk.or ih).congr sp
    · rw [if_neg h]
      refine (IsFirst.or_none (fun i z => ?_) ih).congr sp
      obtain ⟨z1, z2⟩ := z
      have ej : i = i / T * T + m := by rw [← z1, Nat.mul_comm]; exact (Nat.div_add_mod i T).symm
      rw [ej, lev_per hp] at z2
      have : 0 ≤ ((i / T : Nat) : Int) * psum f T := Int.mul_nonneg (Int.natCast_nonneg _) (by omega)
      omega
theorem best_first {b : Int} {f : Nat → Int} {T : Nat} (hp : Per f T) (hT : 0 < T) : IsFirst (fun i => lev b f i < 0) (bestOf b f T T) :=
  (bestOf_first hp T (Nat.le_refl _)).congr fun i => ⟨fun z => z.2, fun z => ⟨Nat.mod_lt _ hT, z⟩⟩
/-- if ever, then early -/
theorem first_early {b : Int} {f : Nat → Int} {T : Nat} (hp : Per f T) (hT : 0 < T) (hb : 0 ≤ b) {k : Nat} (h : IsFirst (fun i => lev b f i < 0) (some k)) : k < (b.toNat + 1) * T := by
  by_cases hw : psum f T < 0
  · refine Nat.lt_of_not_le fun hk => h.2 ((b.toNat + 1) * T - 1) ?_ ?_
    · have : 0 < (b.toNat + 1) * T := Nat.mul_pos (by omega) hT
      omega
    · have : 0 < (b.toNat + 1) * T := Nat.mul_pos (by omega) hT
      have e : (b.toNat + 1) * T - 1 + 1 = (b.toNat + 1) * T + 0 := by omega
      show b + psum f ((b.toNat + 1) * T - 1 + 1) < 0
      rw [e, hp.psum]
      have e2 : ((b.toNat + 1 : Nat) : Int) = b + 1 := by omega
      have e3 : (b + 1) * psum f T ≤ (b + 1) * (-1) := Int.mul_le_mul_of_nonneg_left (by omega) (by omega)
      rw [e2]
      simp only [psum]; omega
  · have ek : k = k / T * T + k % T := by rw [Nat.mul_comm]; exact (Nat.div_add_mod k T).symm
    have h1 := h.1
    simp only at h1
    rw [ek, lev_per hp] at h1
    have h2 : 0 ≤ ((k / T : Nat) : Int) * psum f T := Int.mul_nonneg (Int.natCast_nonneg _) (by omega)
    have h3 : lev b f (k % T) < 0 := by omega
    have h4 : k ≤ k % T := Nat.le_of_not_lt fun z => h.2 _ z h3
    have h5 := Nat.mod_lt k hT
    have h6 : T ≤ (b.toNat + 1) * T := Nat.le_mul_of_pos_left _ (by omega)
    omega
def lowOf (f : Nat → Int) : Nat → Int
  | 0 => 0
  | m + 1 => if psum f (m + 1) < lowOf f m then psum f (m + 1) else lowOf f m
theorem lowOf_le (f : Nat → Int) : ∀ n, lowOf f n ≤ 0 ∧ (∀ m, m < n → lowOf f n ≤ psum f (m + 1)) ∧ (lowOf f n = 0 ∨ ∃ m, m < n ∧ lowOf f n = psum f (m + 1))
  | 0 => ⟨Int.le_refl _, fun _ h => absurd h (Nat.not_lt_zero _), .inl rfl⟩
  | n + 1 => by
    obtain ⟨h1, h2, h3⟩ := lowOf_le f n
    unfold lowOf
    by_cases h : psum f (n + 1) < lowOf f n
    · rw [if_pos h]
      refine ⟨by omega, fun m hm => ?_, .inr ⟨n, by omega, rfl⟩⟩
      by_cases e : m = n
      · rw [e]; exact Int.le_refl _
      · have := h2 m (by omega); omega
    · rw [if_neg h]
      refine ⟨h1, fun m hm => ?_, ?_⟩
      · by_cases e : m = n
        · rw [e]; omega
        · exact h2 m (by omega)
      · rcases h3 with h3 | ⟨m, hm, e⟩
        · exact .inl h3
        · exact .inr ⟨m, by omega, e⟩
theorem least_good {f : Nat → Int} {T : Nat} (hp : Per f T) (hT : 0 < T) (hw : 0 ≤ psum f T) (i : Nat) : ¬ lev (0 - lowOf f T) f i < 0 := by
  have ei : i = i / T * T + i % T := by rw [Nat.mul_comm]; exact (Nat.div_add_mod i T).symm
  rw [ei, lev_per hp]
  have h2 : 0 ≤ ((i / T : Nat) : Int) * psum f T := Int.mul_nonneg (Int.natCast_nonneg _) hw
  have h3 := (lowOf_le f T).2.1 (i % T) (Nat.mod_lt _ hT)
  unfold lev
  omega
theorem least_bad {f : Nat → Int} {T : Nat} (h : 0 ≤ 0 - lowOf f T - 1) : ∃ i, i < T ∧ lev (0 - lowOf f T - 1) f i < 0 := by
  rcases (lowOf_le f T).2.2 with z | ⟨m, hm, e⟩
  · omega
  · exact ⟨m, hm, by unfold lev; omega⟩
end K00P
end

section
namespace K00P
theorem net_per_of (a b : List Int) (T : Nat) (ha : a.length ∣ T) (hb : b.length ∣ T) : Per (net a b) T := by
  intro i
  unfold net
  obtain ⟨x, rfl⟩ := ha
  rw [Nat.add_mul_mod_self_left]
  obtain ⟨y, hy⟩ := hb
  rw [hy, Nat.add_mul_mod_self_left]
theorem net_lcm (a b : List Int) : Per (net a b) (Nat.lcm a.length b.length) := net_per_of _ _ _ (Nat.dvd_lcm_left _ _) (Nat.dvd_lcm_right _ _)
theorem net_mul (a b : List Int) : Per (net a b) (a.length * b.length) := net_per_of _ _ _ (Nat.dvd_mul_right _ _) (Nat.dvd_mul_left _ _)
theorem sum_range (f : Nat → Int) (n : Nat) : ((List.range n).map f).sum = psum f n := by
  induction n with
  | zero => rfl
  | succ n ih => rw [List.range_succ, List.map_append, List.sum_append, ih]; simp [psum]
theorem take_range (f : Nat → Int) {k n : Nat} (h : k ≤ n) : ((List.range n).map f).take k = (List.range k).map f := by
  rw [← List.map_take, List.take_range, Nat.min_eq_left h]
theorem span (b : Int) {f : Nat → Int} {T : Nat} (hp : Per f T) (m : Nat) : b + ((m / T : Nat) : Int) * psum f T + psum f (m % T) = b + psum f m := by
  have := hp.psum (m / T) (m % T)
  have e : m / T * T + m % T = m := by rw [Nat.mul_comm]; exact Nat.div_add_mod m T
  rw [e] at this
  omega
theorem psum_ge {f : Nat → Int} {c : Int} (h : ∀ i, c ≤ f i) (n : Nat) : c * n ≤ psum f n := by
  induction n with
  | zero => simp [psum]
  | succ n ih =>
    have := h n
    have e : c * ((n + 1 : Nat) : Int) = c * n + c := by rw [Int.natCast_add, Int.mul_add]; simp
    rw [e]; simp only [psum]; omega
theorem get_mem {P : Int → Prop} {a : List Int} (h : ∀ z ∈ a, P z) {i : Nat} (hi : i < a.length) : P (a[i]?.getD 0) := by
  rw [List.getElem?_eq_getElem hi]
  exact h _ (List.getElem_mem hi)
theorem net_bd {a b : List Int} {p q : Int} (ha : 0 < a.length) (hb : 0 < b.length) (h1 : ∀ z ∈ a, 0 ≤ z ∧ z ≤ p) (h2 : ∀ z ∈ b, 0 ≤ z ∧ z ≤ q) (i : Nat) : -q ≤ net a b i ∧ net a b i ≤ p := by
  have := get_mem h1 (Nat.mod_lt i ha)
  have := get_mem h2 (Nat.mod_lt i hb)
  unfold net
  omega
/-- with claims never above dues: never dry -/
theorem net_nonneg {f : Nat → Int} (h : ∀ i, 0 ≤ f i) {b : Int} (hb : 0 ≤ b) (i : Nat) : ¬ lev b f i < 0 := by
  have := psum_ge h (i + 1)
  unfold lev
  omega
theorem lcm_pos {m n : Nat} (hm : 1 ≤ m) (hn : 1 ≤ n) : 0 < Nat.lcm m n := Nat.lcm_pos hm hn
theorem lcm_le {m n : Nat} (hm : 1 ≤ m) (hn : 1 ≤ n) : Nat.lcm m n ≤ m * n := Nat.le_of_dvd (Nat.mul_pos hm hn) (Nat.lcm_dvd_mul m n)
/-- first within a bound -/
theorem first_in {P : Nat → Prop} {r s : Option Nat} {B : Nat} (h : IsFirst P r) (hb : ∀ k, r = some k → k < B) (h2 : IsFirst (fun i => i < B ∧ P i) s) : s = r := by
  refine IsFirst.uniq h2 ?_
  match r, h, hb with
  | none, h, _ => exact fun i z => h i z.2
  | some k, h, hb => exact ⟨⟨hb k rfl, h.1⟩, fun j hj z => h.2 j hj z.2⟩
end K00P
end

section
namespace K02P
open K00P (psum)
def updf (f : Nat → Int) (b : Nat) (v : Int) : Nat → Int := fun i => if i = b then v else f i
theorem updf_same (f : Nat → Int) (b : Nat) (v : Int) : updf f b v b = v := if_pos rfl
theorem updf_ne {f : Nat → Int} {b i : Nat} {v : Int} (h : i ≠ b) : updf f b v i = f i := if_neg h
theorem psum_congr {f g : Nat → Int} : ∀ {n : Nat}, (∀ i, i < n → f i = g i) → psum f n = psum g n
  | 0, _ => rfl
  | n + 1, h => by simp only [psum]; rw [psum_congr fun i hi => h i (by omega), h n (by omega)]
theorem psum_addf (f g : Nat → Int) : ∀ n, psum (fun i => f i + g i) n = psum f n + psum g n
  | 0 => rfl
  | n + 1 => by simp only [psum]; rw [psum_addf f g n]; omega
theorem psum_mul (f : Nat → Int) (c : Int) : ∀ n, psum (fun i => f i * c) n = psum f n * c
  | 0 => by simp [psum]
  | n + 1 => by simp only [psum]; rw [psum_mul f c n, Int.add_mul]
theorem psum_upd (f : Nat → Int) {b : Nat} (v : Int) : ∀ {n : Nat}, b < n → psum (updf f b v) n = psum f n + (v - f b)
  | n + 1, h => by
    simp only [psum]
    by_cases e : b = n
    · subst e
      rw [updf_same, psum_congr (g := f) fun i hi => updf_ne (by omega)]; omega
    · rw [psum_upd f v (by omega), updf_ne (by omega)]; omega
theorem psum_nonneg {f : Nat → Int} : ∀ {n : Nat}, (∀ i, i < n → 0 ≤ f i) → 0 ≤ psum f n
  | 0, _ => by simp [psum]
  | n + 1, h => by simp only [psum]; have := psum_nonneg (f := f) (n := n) fun i hi => h i (by omega); have := h n (by omega); omega
theorem psum_lt {f : Nat → Int} {c : Int} : ∀ {n : Nat}, (∀ i, i < n → f i < c) → psum f n + n ≤ c * n
  | 0, _ => by simp [psum]
  | n + 1, h => by
    simp only [psum]
    have := psum_lt (f := f) (n := n) fun i hi => h i (by omega)
    have := h n (by omega)
    have e : c * ((n + 1 : Nat) : Int) = c * n + c := by rw [Int.natCast_add, Int.mul_add]; simp
    rw [e]; omega

theorem lt_ne {a b : Int} (h : a ≤ b) (n : a ≠ b) : a < b := by omega
/-! ### rank in a sorted row -/
abbrev PI := Int × Int
def leP (p q : PI) : Bool := decide (p.1 < q.1 ∨ (p.1 = q.1 ∧ p.2 ≤ q.2))
def ltP (p q : PI) : Bool := decide (p.1 < q.1 ∨ (p.1 = q.1 ∧ p.2 < q.2))
theorem lt_not (p q : PI) : ltP p q = !leP q p := by
  unfold ltP leP
  rw [← decide_not]
  exact decide_eq_decide.mpr (by omega)
theorem le_self (p : PI) : leP p p = true := by simp [leP]
theorem le_anti {p q : PI} (h1 : leP p q = true) (h2 : leP q p = true) : p = q := by
  simp only [leP, decide_eq_true_eq] at h1 h2
  exact Prod.ext (by omega) (by omega)
theorem le_trans {p q r : PI} (h1 : leP p q = true) (h2 : leP q r = true) : leP p r = true := by
  simp only [leP, decide_eq_true_eq] at *; omega
theorem le_total (p q : PI) : (leP p q || leP q p) = true := by
  simp only [leP, Bool.or_eq_true, decide_eq_true_eq]; omega
theorem rank_take : ∀ (qs : List PI), qs.Pairwise (fun a b => leP a b = true) → qs.Nodup → ∀ (k : Nat) (p : PI), p ∈ qs → (p ∈ qs.take k ↔ qs.countP (fun q => ltP q p) < k)
  | [], _, _, _, _, h => by cases h
  | a :: t, hs, hn, k, p, hp => by
    rw [List.pairwise_cons] at hs
    rw [List.nodup_cons] at hn
    by_cases e : p = a
    · subst e
      have c0 : (p :: t).countP (fun q => ltP q p) = 0 := by
        rw [List.countP_eq_zero]
        intro q hq
        rw [lt_not]
        rcases List.mem_cons.mp hq with z | z
        · rw [z, le_self]; decide
        · rw [hs.1 q z]; decide
      rw [c0]
      cases k with
      | zero => simp
      | succ k => simp
    · have hpt : p ∈ t := (List.mem_cons.mp hp).resolve_left e
      have la : ltP a p = true := by
        rw [lt_not]
        cases hh : leP p a with
        | false => rfl
        | true => exact absurd (le_anti hh (hs.1 p hpt)) e
      rw [List.countP_cons, if_pos la]
      cases k with
      | zero => simp
      | succ k =>
        have ih := rank_take t hs.2 hn.2 k p hpt
        rw [List.take_succ_cons, List.mem_cons]
        constructor
        · rintro (z | z)
          · exact absurd z e
          · have := ih.1 z; omega
        · intro z
          exact .inr (ih.2 (by omega))
theorem count_take : ∀ (qs : List PI), qs.Nodup → ∀ k, k ≤ qs.length → qs.countP (fun q => decide (q ∈ qs.take k)) = k := by
  intro qs hn k hk
  have e := List.take_append_drop k qs
  have hd : ∀ q ∈ qs.drop k, q ∉ qs.take k := by
    intro q h1 h2
    rw [← e] at hn
    exact (List.nodup_append.mp hn).2.2 q h2 q h1 rfl
  calc qs.countP (fun q => decide (q ∈ qs.take k)) = (qs.take k ++ qs.drop k).countP (fun q => decide (q ∈ qs.take k)) := by rw [e]
    _ = (qs.take k).countP (fun q => decide (q ∈ qs.take k)) + (qs.drop k).countP (fun q => decide (q ∈ qs.take k)) := List.countP_append
    _ = k := by
      rw [List.countP_eq_length.mpr (fun a h => by simpa using h), List.countP_eq_zero.mpr (fun a h => by simpa using hd a h)]
      simp; omega
section
variable (g : Nat → Int) (n : Nat)
/-- the pairs (g i, i) -/
def prs : List PI := (List.range n).map fun i => (g i, (i : Int))
def srt : List PI := (prs g n).mergeSort leP
theorem srt_perm : (srt g n).Perm (prs g n) := List.mergeSort_perm _ _
theorem srt_len : (srt g n).length = n := by rw [(srt_perm g n).length_eq]; simp [prs]
theorem prs_nodup : (prs g n).Nodup := by
  unfold prs
  rw [List.Nodup, List.pairwise_map]
  exact List.nodup_range.imp fun h z => h (by have := congrArg Prod.snd z; simp only at this; omega)
theorem srt_nodup : (srt g n).Nodup := (srt_perm g n).nodup_iff.mpr (prs_nodup g n)
theorem srt_sorted : (srt g n).Pairwise (fun a b => leP a b = true) := List.pairwise_mergeSort (le := leP) (fun a b c => le_trans) le_total _
theorem mem_srt {i : Nat} (h : i < n) : (g i, (i : Int)) ∈ srt g n := (srt_perm g n).mem_iff.mpr (List.mem_map.mpr ⟨i, List.mem_range.mpr h, rfl⟩)
def rank (i : Nat) : Nat := ((List.range n).filter fun j => ltP (g j, (j : Int)) (g i, (i : Int))).length
theorem rank_iff (k : Nat) {i : Nat} (h : i < n) : (g i, (i : Int)) ∈ (srt g n).take k ↔ rank g n i < k := by
  rw [rank_take _ (srt_sorted g n) (srt_nodup g n) k _ (mem_srt g n h), (srt_perm g n).countP_eq, rank, ← List.countP_eq_length_filter]
  unfold prs
  rw [List.countP_map]
  rfl
theorem psum_ind (p : Nat → Bool) : ∀ n, psum (fun i => if p i = true then 1 else 0) n = ((List.range n).countP p : Nat)
  | 0 => rfl
  | n + 1 => by
    simp only [psum]
    rw [psum_ind p n, List.range_succ, List.countP_append]
    cases h : p n <;> simp [h]
theorem rank_count {k : Nat} (hk : k ≤ n) : psum (fun i => if rank g n i < k then 1 else 0) n = k := by
  have e : psum (fun i => if rank g n i < k then (1 : Int) else 0) n = psum (fun i => if decide ((g i, (i : Int)) ∈ (srt g n).take k) = true then 1 else 0) n := by
    refine psum_congr fun i hi => ?_
    have := rank_iff g n k hi
    by_cases z : rank g n i < k
    · rw [if_pos z, if_pos (by simpa using this.2 z)]
    · rw [if_neg z, if_neg (by simpa using fun q => z (this.1 q))]
  rw [e, psum_ind]
  have c := count_take (srt g n) (srt_nodup g n) k (by rw [srt_len]; exact hk)
  rw [(srt_perm g n).countP_eq] at c
  unfold prs at c
  rw [List.countP_map] at c
  exact congrArg _ c
end
/-! ### greatest remainders -/
section
variable (w : Nat → Int) (n : Nat) (u : Nat)
def quo (i : Nat) : Int := w i * u / psum w n
def rmd (i : Nat) : Int := 0 - w i * u % psum w n
def left : Int := u - psum (quo w n u) n
theorem left_bd (hn : 0 < n) (h : ∀ i, i < n → 1 ≤ w i) : 0 ≤ left w n u ∧ left w n u < n := by
  have hw : 0 < psum w n := by
    cases n with
    | zero => omega
    | succ n => simp only [psum]; have := psum_nonneg (f := w) (n := n) fun i hi => by have := h i (by omega); omega
                have := h n (by omega); omega
  have e : psum (fun i => w i * u) n = psum (fun i => quo w n u i * psum w n + w i * u % psum w n) n := psum_congr fun i _ => by
    unfold quo
    have := Int.mul_ediv_add_emod (w i * u) (psum w n)
    rw [Int.mul_comm (psum w n)] at this; omega
  rw [psum_addf, psum_mul, psum_mul] at e
  have r0 : 0 ≤ psum (fun i => w i * u % psum w n) n := psum_nonneg fun i _ => Int.emod_nonneg _ (by omega)
  have r1 := psum_lt (f := fun i => w i * u % psum w n) (c := psum w n) (n := n) fun i _ => Int.emod_lt_of_pos _ hw
  have el : left w n u * psum w n = psum (fun i => w i * u % psum w n) n := by
    unfold left
    rw [Int.sub_mul, Int.mul_comm (u : Int)]; omega
  have hn' : (1 : Int) ≤ n := by omega
  constructor
  · exact Int.le_of_mul_le_mul_right (by rw [el]; simpa using r0) hw
  · refine Int.lt_of_mul_lt_mul_right (a := psum w n) ?_ (by omega)
    rw [el, Int.mul_comm (n : Int)]; omega
def shR (i : Nat) : Int := quo w n u i + if (rank (rmd w n u) n i : Int) < left w n u then 1 else 0
theorem shR_sum (hn : 0 < n) (h : ∀ i, i < n → 1 ≤ w i) : psum (shR w n u) n = u := by
  obtain ⟨h1, h2⟩ := left_bd w n u hn h
  obtain ⟨k, hk⟩ : ∃ k : Nat, left w n u = k := ⟨(left w n u).toNat, by omega⟩
  unfold shR
  rw [psum_addf]
  have e : psum (fun i => if (rank (rmd w n u) n i : Int) < left w n u then (1 : Int) else 0) n = psum (fun i => if rank (rmd w n u) n i < k then 1 else 0) n := psum_congr fun i _ => by
    rw [hk]
    by_cases z : rank (rmd w n u) n i < k
    · rw [if_pos z, if_pos (by omega)]
    · rw [if_neg z, if_neg (by omega)]
  rw [e, rank_count _ _ (by omega), ← hk]
  unfold left; omega
end
/-! ### divisors -/
inductive Wy where
  | r | d | n | u
  deriving DecidableEq
def half (y : Wy) (k : Int) : Int := match y with
  | .d => 2 * k + 2
  | .n => 2 * k + 1
  | _ => 2 * k
theorem half_mono (y : Wy) {i j : Int} (h : i ≤ j) : half y i ≤ half y j := by cases y <;> simp only [half] <;> omega
theorem half_nonneg (y : Wy) {i : Int} (h : 0 ≤ i) : 0 ≤ half y i := by cases y <;> simp only [half] <;> omega
def better (w h : Nat → Int) (i b : Nat) : Bool := decide (w i * h b > w b * h i) || (decide (h i = 0) && (decide (h b = 0) && decide (w i > w b)))
theorem not_better {w h : Nat → Int} {i b : Nat} : better w h i b = false ↔ w i * h b ≤ w b * h i ∧ (h i = 0 → h b = 0 → w i ≤ w b) := by
  simp only [better, Bool.or_eq_false_iff, Bool.and_eq_false_iff, decide_eq_false_iff_not]
  constructor
  · rintro ⟨h1, h2⟩; exact ⟨by omega, fun a b => by rcases h2 with z | z | z <;> omega⟩
  · rintro ⟨h1, h2⟩
    refine ⟨by omega, ?_⟩
    by_cases a : h i = 0
    · by_cases b : h b = 0
      · exact .inr (.inr (by have := h2 a b; omega))
      · exact .inr (.inl b)
    · exact .inl a
def bst (w h : Nat → Int) : Nat → Nat
  | 0 => 0
  | k + 1 => if better w h (k + 1) (bst w h k) = true then k + 1 else bst w h k
theorem bst_le (w h : Nat → Int) : ∀ k, bst w h k ≤ k
  | 0 => Nat.le_refl _
  | k + 1 => by unfold bst; split; exact Nat.le_refl _; exact Nat.le_succ_of_le (bst_le w h k)
theorem nb_trans {w h : Nat → Int} {j b c : Nat} (wj : 1 ≤ w j) (hb : 0 ≤ h b) (hc : 0 ≤ h c) (hj : 0 ≤ h j) (wb : 1 ≤ w b) (wc : 1 ≤ w c)
    (h1 : better w h j b = false) (h2 : better w h c b = true) : better w h j c = false := by
  rw [not_better] at h1 ⊢
  obtain ⟨h1, h3⟩ := h1
  simp only [better, Bool.or_eq_true, Bool.and_eq_true, decide_eq_true_eq] at h2
  rcases h2 with h2 | ⟨c0, b0, h2⟩
  · have hbp : 0 < h b := by
      refine lt_ne hb fun z => ?_
      rw [← z, Int.mul_zero] at h2
      have : 0 ≤ w b * h c := Int.mul_nonneg (by omega) hc
      omega
    have hjp : 0 < h j := by
      refine lt_ne hj fun z => ?_
      rw [← z, Int.mul_zero] at h1
      have : 0 < w j * h b := Int.mul_pos (by omega) hbp
      omega
    refine ⟨?_, fun z => by omega⟩
    refine Int.le_of_mul_le_mul_right (a := h b) ?_ hbp
    have a1 : w j * h b * h c ≤ w b * h j * h c := Int.mul_le_mul_of_nonneg_right h1 hc
    have a2 : w b * h c * h j ≤ w c * h b * h j := Int.mul_le_mul_of_nonneg_right (by omega) hj
    rw [Int.mul_right_comm (w j), Int.mul_right_comm (w b)] at a1
    rw [Int.mul_right_comm (w c) (h b)] at a2
    omega
  · refine ⟨by rw [c0, Int.mul_zero]; exact Int.mul_nonneg (by omega) hj, fun z _ => ?_⟩
    have := h3 z b0
    omega
theorem bst_best {w h : Nat → Int} {n : Nat} (hw : ∀ i, i < n → 1 ≤ w i) (hh : ∀ i, i < n → 0 ≤ h i) : ∀ k, k < n → ∀ j, j ≤ k → better w h j (bst w h k) = false
  | 0, hk, j, hj => by
    obtain rfl : j = 0 := by omega
    rw [not_better]
    exact ⟨Int.le_refl _, fun _ _ => Int.le_refl _⟩
  | k + 1, hk, j, hj => by
    have ih := bst_best hw hh k (by omega)
    have lb := bst_le w h k
    unfold bst
    cases hbt : better w h (k + 1) (bst w h k) with
    | true =>
      rw [if_pos rfl]
      by_cases e : j = k + 1
      · subst e
        rw [not_better]
        exact ⟨Int.le_refl _, fun _ _ => Int.le_refl _⟩
      · exact nb_trans (hw _ (by omega)) (hh _ (by omega)) (hh _ (by omega)) (hh _ (by omega)) (hw _ (by omega)) (hw _ (by omega)) (ih j (by omega)) hbt
    | false =>
      rw [if_neg (by decide)]
      by_cases e : j = k + 1
      · subst e; exact hbt
      · exact ih j (by omega)
section
variable (y : Wy) (w : Nat → Int) (n : Nat)
def pos (f : Nat → Int) : Nat := bst w (fun i => half y (f i)) (n - 1)
def step (f : Nat → Int) : Nat → Int := updf f (pos y w n f) (f (pos y w n f) + 1)
def dv : Nat → Nat → Int
  | 0 => fun _ => 0
  | u + 1 => step y w n (dv u)
theorem pos_lt (hn : 0 < n) (f : Nat → Int) : pos y w n f < n := by
  have := bst_le w (fun i => half y (f i)) (n - 1)
  unfold pos; omega
theorem dv_nonneg : ∀ u i, 0 ≤ dv y w n u i
  | 0, i => Int.le_refl _
  | u + 1, i => by
    unfold dv step updf
    have := dv_nonneg u
    split
    · have := this (pos y w n (dv y w n u)); omega
    · exact this i
theorem dv_sum (hn : 0 < n) : ∀ u : Nat, psum (dv y w n u) n = u
  | 0 => by
    have : ∀ k, psum (fun _ => 0) k = 0 := fun k => by induction k with
      | zero => rfl
      | succ k ih => simp only [psum]; rw [ih]; rfl
    exact this n
  | u + 1 => by
    unfold dv step
    rw [psum_upd _ _ (pos_lt y w n hn _), dv_sum hn u]; omega
def Opt (f : Nat → Int) : Prop := ∀ i j, i < n → j < n → 0 < f i → 0 < half y (f i - 1) → 0 < half y (f j) ∧ w j * half y (f i - 1) ≤ w i * half y (f j)
theorem dv_opt (hn : 0 < n) (hw : ∀ i, i < n → 1 ≤ w i) : ∀ u, Opt y w n (dv y w n u)
  | 0 => fun i j _ _ h => absurd h (by show ¬ (0 : Int) < 0; omega)
  | u + 1 => by
    have ih := dv_opt hn hw u
    have nn := dv_nonneg y w n u
    have hb := pos_lt y w n hn (dv y w n u)
    have bb := bst_best (w := w) (h := fun i => half y (dv y w n u i)) (n := n) hw (fun i _ => half_nonneg y (nn i)) (n - 1) (by omega)
    show Opt y w n (step y w n (dv y w n u))
    change ∀ j, j ≤ n - 1 → better w (fun i => half y (dv y w n u i)) j (pos y w n (dv y w n u)) = false at bb
    unfold step
    generalize pos y w n (dv y w n u) = b at hb bb
    generalize dv y w n u = f at ih nn bb
    have mono : ∀ j, half y (f j) ≤ half y (updf f b (f b + 1) j) := fun j => half_mono y (by
      unfold updf
      split
      · rename_i h; rw [h]; omega
      · exact Int.le_refl _)
    intro i j hi hj h0 h1
    have wi := hw i hi
    by_cases e : i = b
    · subst e
      rw [updf_same] at h1 ⊢
      rw [Int.add_sub_cancel] at h1 ⊢
      have q := (not_better.1 (bb j (by omega))).1
      have pj : 0 < half y (f j) := by
        refine lt_ne (half_nonneg y (nn j)) fun z => ?_
        rw [← z, Int.mul_zero] at q
        have : 0 < w j * half y (f i) := Int.mul_pos (by have := hw j hj; omega) h1
        omega
      exact ⟨Int.lt_of_lt_of_le pj (mono j), Int.le_trans q (Int.mul_le_mul_of_nonneg_left (mono j) (by omega))⟩
    · rw [updf_ne e] at h0 h1 ⊢
      obtain ⟨q1, q2⟩ := ih i j hi hj h0 h1
      exact ⟨Int.lt_of_lt_of_le q1 (mono j), Int.le_trans q2 (Int.mul_le_mul_of_nonneg_left (mono j) (by omega))⟩
/-- the units of all -/
def S (u : Nat) : Nat → Int := match y with
  | .r => shR w n u
  | _ => dv y w n u
theorem S_sum (hn : 0 < n) (hw : ∀ i, i < n → 1 ≤ w i) (u : Nat) : psum (S y w n u) n = u := by
  cases y
  · exact shR_sum w n u hn hw
  · exact dv_sum _ w n hn u
  · exact dv_sum _ w n hn u
  · exact dv_sum _ w n hn u
end
/-- off one's quota -/
theorem off_iff {x t m : Int} (hm : 0 < m) : (¬ (t / m ≤ x ∧ x ≤ if t % m = 0 then t / m else t / m + 1)) ↔ (x * m ≤ t - m ∨ t + m ≤ x * m) := by
  have e := Int.mul_ediv_add_emod t m
  have r0 := Int.emod_nonneg t (by omega : m ≠ 0)
  have r1 := Int.emod_lt_of_pos t hm
  generalize t / m = q at *
  generalize t % m = r at *
  subst e
  have key : ∀ k : Int, (x ≤ k → x * m ≤ k * m) ∧ (k ≤ x → k * m ≤ x * m) := fun k => ⟨fun h => Int.mul_le_mul_of_nonneg_right h (by omega), fun h => Int.mul_le_mul_of_nonneg_right h (by omega)⟩
  have k1 := key (q - 1)
  have k2 := key q
  have k3 := key (q + 1)
  have k4 := key (q + 2)
  rw [Int.sub_mul] at k1
  rw [Int.add_mul] at k3 k4
  rw [Int.mul_comm m q]
  by_cases h : r = 0
  · rw [if_pos h]
    constructor
    · intro z; by_cases c : x ≤ q - 1
      · left; have := k1.1 c; omega
      · right; have := k3.2 (by omega); omega
    · rintro z ⟨z1, z2⟩
      have := k2.1 z2; have := k2.2 z1
      omega
  · rw [if_neg h]
    constructor
    · intro z; by_cases c : x ≤ q - 1
      · left; have := k1.1 c; omega
      · right; have := k4.2 (by omega); omega
    · rintro z ⟨z1, z2⟩
      have := k3.1 z2; have := k2.2 z1
      omega
end K02P
end

section
set_option maxRecDepth 100000
set_option linter.all false
set_option maxHeartbeats 1000000
namespace K02
open Mx PySem L2

theorem f0 : (fnsOf defs)[0]? = some ⟨1, 1, c_is_integer⟩ := rfl
theorem f1 : (fnsOf defs)[1]? = some ⟨4, 4, c_need_integer⟩ := rfl
theorem f14 : (fnsOf defs)[14]? = some ⟨2, 3, c__law_roll⟩ := rfl
def isI : D → Bool
  | .int _ => true
  | _ => false
theorem isI_eq (d : D) : (isiD .int d && !isiD .bool d) = isI d := by cases d <;> rfl
theorem e0_int (n : Nat) (i : Int) (m : Md) : sem (fnsOf defs) (n + 1) 0 [.s m (.int i)] = .ok false (.bool true) [.s m (.int i)] := by
  simp only [sem_succ, f0, runFn, c_is_integer, evS, ev, evA, argK, opD, old, isiD, List.length_cons, List.length_nil, List.replicate, List.append_nil, List.getElem?_cons_zero]
  cases m <;> rfl
theorem e1_ok (n : Nat) (i lo hi : Int) (nm : Str) (h1 : lo ≤ i) (h2 : i ≤ hi) (m0 : Md): sem (fnsOf defs) (n + 2) 1 [.s .fz (.int i), .s .fz (.str nm), .s .fz (.int lo), .s .fz (.int hi)] = .ok false .none [.s .fz (.int i), .s .fz (.str nm), .s .fz (.int lo), .s .fz (.int hi)] := by
  have a1 : ¬ i < lo := by omega
  have a2 : ¬ hi < i := by omega
  simp [sem_succ (n := n + 1), f1, runFn, c_need_integer, evS, ev, evA, argK, opD, old, ltD, cmpOpt, intCmp, e0_int, giveBack, a1, a2, outsOf]
def dice (a b c : Int) : D := .list [.int a, .int b, .int c]
theorem roll_ok (n : Nat) (a b c many : Int) (h1 : 0 < many) (h2 : many < 1000) (ha : 0 ≤ a) (hb : 0 ≤ b) (hb2 : b < 2147480009) (hc : 0 ≤ c) (hc2 : c < 1000000) :
    ∃ r a' b' c', 0 ≤ r ∧ r < many ∧ 0 ≤ a' ∧ 0 ≤ b' ∧ b' < 2147480009 ∧ 0 ≤ c' ∧ c' ≤ c + 1 ∧
    sem (fnsOf defs) (n + 1) 14 [.s .le (dice a b c), .s .fz (.int many)] = .ok false (.int r) [.s .le (dice a' b' c'), .s .fz (.int many)] := by
  have m1 : many < 1073741824 := by omega
  by_cases h : 0 < a
  · refine ⟨a % many, a / many, b, c, Int.emod_nonneg _ (by omega), Int.emod_lt_of_pos _ h1, Int.ediv_nonneg ha (by omega), hb, hb2, hc, by omega, ?_⟩
    simp [sem_succ, f14, runFn, c__law_roll, evS, ev, evA, argK, o_add, o_sub, o_mod, o_fdv, o_gt, o_int, o_mul, o_idxL, old, giveBack, outsOf, dice, h, h1, m1, idxD, Mx.ixN, setD, mutS, putS]
  · refine ⟨(b * 52501 + (c + 1) * (c + 1) * 1009 + 77) % 2147480009 / 211 % many, a, (b * 52501 + (c + 1) * (c + 1) * 1009 + 77) % 2147480009, c + 1, Int.emod_nonneg _ (by omega), Int.emod_lt_of_pos _ h1, ha, Int.emod_nonneg _ (by omega), Int.emod_lt_of_pos _ (by omega), by omega, by omega, ?_⟩
    have q2 : (c + 1).natAbs < 2 ^ 63 := by omega
    have q4 : (52501 : Int).natAbs < 2 ^ 63 := by decide
    have q5 : (1009 : Int).natAbs < 2 ^ 63 := by decide
    simp [sem_succ, f14, runFn, c__law_roll, evS, ev, evA, argK, o_add, o_sub, o_mod, o_fdv, o_gt, o_int, o_mul, o_idxL, old, giveBack, outsOf, dice, h, h1, m1, idxD, Mx.ixN, setD, mutS, putS, mulD_l q2, mulD_r q4, mulD_r q5, addD_int]
/-- dice after at most k more calls -/
def Dice (d : D) (k : Int) : Prop := ∃ a b c, d = dice a b c ∧ 0 ≤ a ∧ 0 ≤ b ∧ b < 2147480009 ∧ 0 ≤ c ∧ c ≤ k
theorem Dice.mono {d k k'} (h : Dice d k) (e : k ≤ k') : Dice d k' := by
  obtain ⟨a, b, c, r, h1, h2, h3, h4, h5⟩ := h
  exact ⟨a, b, c, r, h1, h2, h3, h4, by omega⟩
theorem roll (n : Nat) {d : D} {k : Int} (many : Int) (h : Dice d k) (hk : k < 1000000) (h1 : 0 < many) (h2 : many < 1000) :
    ∃ r d', 0 ≤ r ∧ r < many ∧ Dice d' (k + 1) ∧ sem (fnsOf defs) (n + 1) 14 [.s .le d, .s .fz (.int many)] = .ok false (.int r) [.s .le d', .s .fz (.int many)] := by
  obtain ⟨a, b, c, rfl, ha, hb, hb2, hc, hck⟩ := h
  obtain ⟨r, a', b', c', z1, z2, z3, z4, z5, z6, z7, e⟩ := roll_ok n a b c many h1 h2 ha hb hb2 hc (by omega)
  exact ⟨r, _, z1, z2, ⟨_, _, _, rfl, z3, z4, z5, z6, by omega⟩, e⟩
theorem f15 : (fnsOf defs)[15]? = some ⟨2, 2, c__law_pick⟩ := rfl
theorem pick (n : Nat) {d : D} {k : Int} (xs : List D) (h : Dice d k) (hk : k < 1000000) (h1 : 0 < xs.length) (h2 : xs.length < 1000) :
    ∃ x ∈ xs, ∃ d', Dice d' (k + 1) ∧ sem (fnsOf defs) (n + 2) 15 [.s .le d, .s .fz (.list xs)] = .ok false x [.s .le d', .s .fz (.list xs)] := by
  obtain ⟨r, d', r1, r2, hd, e⟩ := roll n xs.length h hk (by omega) (by omega)
  obtain ⟨j, rfl⟩ : ∃ j : Nat, r = (j : Int) := ⟨r.toNat, by omega⟩
  have hj : j < xs.length := by omega
  refine ⟨xs[j], List.getElem_mem hj, d', hd, ?_⟩
  rw [sem_succ, f15]
  simp [runFn, c__law_pick, evS, ev, evA, argK, o_lenL, e, o_idxL, giveBack, outsOf, idxD_nat hj, old]
theorem f13 : (fnsOf defs)[13]? = some ⟨2, 5, c__law_dice⟩ := rfl
theorem range_ok {T : Nat} (h : T ≤ 1000000) : -1152921504606846976 ≤ (T : Int) ∧ (T : Int) ≤ (line : Int) := ⟨by omega, by show (T : Int) ≤ ((sizeLine : Nat) : Int); rw [sizeLine_eq]; omega⟩
theorem len_ok {T : Nat} (h : T ≤ 1000000) : T ≤ line := by show T ≤ sizeLine; rw [sizeLine_eq]; omega
theorem cut_map (ns : List Int) (a b : Nat) : ∃ ms : List Int, ms.length ≤ ns.length ∧ cutD (ns.map .int) a b = ms.map .int :=
  ⟨(ns.drop a).take (b - a), by simp; omega, by unfold cutD; rw [List.map_take, List.map_drop]⟩
theorem dice_loop (F : FnSem) (ms : List Int) (s0 s1 s2 : Mx.Slot) (m0 : Int) (h0 : 0 ≤ m0) (h1 : m0 < 2147480009) : ∃ m cur, 0 ≤ m ∧ m < 2147480009 ∧ 
    forL (bindT (.one 4)) (evS F (.seq (.set 3 (.op .mod (.cons (.op .int (.cons (.op .add (.cons (.op .mul (.cons (.bor 3) (.cons (.cst (.int 48271)) .nil))) (.cons (.op .mod (.cons (.op .int (.cons (.bor 4) .nil)) (.cons (.cst (.int 2147480009)) .nil))) .nil))) .nil)) (.cons (.cst (.int 2147480009)) .nil)))) .skip)) (ms.map .int) [s0, s1, s2, .s .fz (.int m0), .no] = .nx [s0, s1, s2, .s .fz (.int m), cur] := by
  obtain ⟨ρ', ⟨m, cur, z0, z1, rfl⟩, e⟩ := forL_nx (bind := bindT (.one 4)) (body := evS F (.seq (.set 3 (.op .mod (.cons (.op .int (.cons (.op .add (.cons (.op .mul (.cons (.bor 3) (.cons (.cst (.int 48271)) .nil))) (.cons (.op .mod (.cons (.op .int (.cons (.bor 4) .nil)) (.cons (.cst (.int 2147480009)) .nil))) .nil))) .nil)) (.cons (.cst (.int 2147480009)) .nil)))) .skip)) (ms.map .int)
    (fun k ρ => ∃ (m : Int) (cur : Mx.Slot), 0 ≤ m ∧ m < 2147480009 ∧ ρ = [s0, s1, s2, .s .fz (.int m), cur])
    (fun k hk ρ hρ => by
      obtain ⟨m, cur, z0, z1, rfl⟩ := hρ
      rw [List.getElem_map]
      have q : (48271 : Int).natAbs < 2 ^ 63 := by decide
      refine ⟨_, [s0, s1, s2, .s .fz (.int ((m * 48271 + ms[k]'(by simpa using hk) % 2147480009) % 2147480009)), .s .fz (.int (ms[k]'(by simpa using hk)))], rfl, ?_, ⟨_, _, Int.emod_nonneg _ (by decide), Int.emod_lt_of_pos _ (by decide), rfl⟩⟩
      simp [Mx.runFn, Mx.outsOf, Mx.giveBack, Mx.argK, Mx.evA, Mx.putS, Mx.mutS, Mx.cmpOpt, Mx.ev.eq_1, Mx.ev.eq_2, Mx.ev.eq_3, Mx.ev.eq_4, Mx.ev.eq_5, Mx.ev.eq_6, Mx.ev.eq_7, Mx.ev.eq_8, Mx.ev.eq_9, Mx.ev.eq_10, Mx.ev.eq_11, Mx.ev.eq_12, Mx.ev.eq_13, Mx.ev.eq_14, Mx.ev.eq_16, Mx.ev.eq_19, Mx.ev.eq_20, Mx.ev.eq_21, Mx.ev.eq_22, Mx.ev.eq_23, Mx.ev.eq_24, Mx.ev.eq_25, Mx.evS.eq_1, Mx.evS.eq_2, Mx.evS.eq_3, Mx.evS.eq_4, Mx.evS.eq_5, Mx.evS.eq_6, Mx.evS.eq_7, Mx.evS.eq_8, Mx.evS.eq_9, Mx.evS.eq_10, Mx.evS.eq_11, Mx.evS.eq_12, Mx.evS.eq_13, Mx.evS.eq_14, Mx.evS.eq_17, Mx.evS.eq_18, Mx.evS.eq_19, Mx.evS.eq_20, Mx.o_add, Mx.o_sub, Mx.o_mul, Mx.o_neg, Mx.o_eq, Mx.o_ne, Mx.o_lt, Mx.o_le, Mx.o_gt, Mx.o_ge, Mx.o_isN, Mx.o_notN, Mx.o_idxL, Mx.o_idxT, Mx.o_slToL, Mx.o_lenL, Mx.o_lenT, Mx.o_min2, Mx.o_max2, Mx.o_abs, Mx.o_int, Mx.o_tupL, Mx.o_tupT, Mx.o_listL, Mx.o_listT, Mx.o_isi, Mx.addD_int, Mx.eqD_ii, Mx.old, Mx.o_mod, Mx.o_fdv, Mx.ix0, Mx.ix1, Mx.ix2, mulD_r q])
    [s0, s1, s2, .s .fz (.int m0), .no] ⟨_, _, h0, h1, rfl⟩
  exact ⟨m, cur, z0, z1, e⟩
theorem own_ok (F : FnSem) (ns : List Int) (k : Nat) (hk : k < 5) (s2 s3 s4 : Mx.Slot) : ∃ own : Int, ev F (.ife (.op .lt (.cons (.bor 1) (.cons (.op .len (.cons (.bor 0) .nil)) .nil))) (.op .idx (.cons (.bor 0) (.cons (.bor 1) .nil))) (.op .add (.cons (.op .mul (.cons (.cst (.int 733)) (.cons (.bor 1) .nil))) (.cons (.cst (.int 29)) .nil)))) [.s .fz (.list (ns.map .int)), .s .fz (.int k), s2, s3, s4] = .ok false (.int own) [.s .fz (.list (ns.map .int)), .s .fz (.int k), s2, s3, s4] := by
  by_cases h : k < ns.length
  · have q : idxD (ns.map .int) (k : Int) = some (.int ns[k]) := by rw [idxD_nat (by simpa using h)]; simp
    exact ⟨ns[k], by simp [Mx.runFn, Mx.outsOf, Mx.giveBack, Mx.argK, Mx.evA, Mx.putS, Mx.mutS, Mx.cmpOpt, Mx.ev.eq_1, Mx.ev.eq_2, Mx.ev.eq_3, Mx.ev.eq_4, Mx.ev.eq_5, Mx.ev.eq_6, Mx.ev.eq_7, Mx.ev.eq_8, Mx.ev.eq_9, Mx.ev.eq_10, Mx.ev.eq_11, Mx.ev.eq_12, Mx.ev.eq_13, Mx.ev.eq_14, Mx.ev.eq_16, Mx.ev.eq_19, Mx.ev.eq_20, Mx.ev.eq_21, Mx.ev.eq_22, Mx.ev.eq_23, Mx.ev.eq_24, Mx.ev.eq_25, Mx.evS.eq_1, Mx.evS.eq_2, Mx.evS.eq_3, Mx.evS.eq_4, Mx.evS.eq_5, Mx.evS.eq_6, Mx.evS.eq_7, Mx.evS.eq_8, Mx.evS.eq_9, Mx.evS.eq_10, Mx.evS.eq_11, Mx.evS.eq_12, Mx.evS.eq_13, Mx.evS.eq_14, Mx.evS.eq_17, Mx.evS.eq_18, Mx.evS.eq_19, Mx.evS.eq_20, Mx.o_add, Mx.o_sub, Mx.o_mul, Mx.o_neg, Mx.o_eq, Mx.o_ne, Mx.o_lt, Mx.o_le, Mx.o_gt, Mx.o_ge, Mx.o_isN, Mx.o_notN, Mx.o_idxL, Mx.o_idxT, Mx.o_slToL, Mx.o_lenL, Mx.o_lenT, Mx.o_min2, Mx.o_max2, Mx.o_abs, Mx.o_int, Mx.o_tupL, Mx.o_tupT, Mx.o_listL, Mx.o_listT, Mx.o_isi, Mx.addD_int, Mx.eqD_ii, Mx.old, Mx.o_mod, Mx.o_fdv, Mx.ix0, Mx.ix1, Mx.ix2, h, q]⟩
  · have q : (733 : Int).natAbs < 2 ^ 63 := by decide
    exact ⟨733 * k + 29, by simp [Mx.runFn, Mx.outsOf, Mx.giveBack, Mx.argK, Mx.evA, Mx.putS, Mx.mutS, Mx.cmpOpt, Mx.ev.eq_1, Mx.ev.eq_2, Mx.ev.eq_3, Mx.ev.eq_4, Mx.ev.eq_5, Mx.ev.eq_6, Mx.ev.eq_7, Mx.ev.eq_8, Mx.ev.eq_9, Mx.ev.eq_10, Mx.ev.eq_11, Mx.ev.eq_12, Mx.ev.eq_13, Mx.ev.eq_14, Mx.ev.eq_16, Mx.ev.eq_19, Mx.ev.eq_20, Mx.ev.eq_21, Mx.ev.eq_22, Mx.ev.eq_23, Mx.ev.eq_24, Mx.ev.eq_25, Mx.evS.eq_1, Mx.evS.eq_2, Mx.evS.eq_3, Mx.evS.eq_4, Mx.evS.eq_5, Mx.evS.eq_6, Mx.evS.eq_7, Mx.evS.eq_8, Mx.evS.eq_9, Mx.evS.eq_10, Mx.evS.eq_11, Mx.evS.eq_12, Mx.evS.eq_13, Mx.evS.eq_14, Mx.evS.eq_17, Mx.evS.eq_18, Mx.evS.eq_19, Mx.evS.eq_20, Mx.o_add, Mx.o_sub, Mx.o_mul, Mx.o_neg, Mx.o_eq, Mx.o_ne, Mx.o_lt, Mx.o_le, Mx.o_gt, Mx.o_ge, Mx.o_isN, Mx.o_notN, Mx.o_idxL, Mx.o_idxT, Mx.o_slToL, Mx.o_lenL, Mx.o_lenT, Mx.o_min2, Mx.o_max2, Mx.o_abs, Mx.o_int, Mx.o_tupL, Mx.o_tupT, Mx.o_listL, Mx.o_listT, Mx.o_isi, Mx.addD_int, Mx.eqD_ii, Mx.old, Mx.o_mod, Mx.o_fdv, Mx.ix0, Mx.ix1, Mx.ix2, h, mulD_l q]⟩
theorem dice_ok (n : Nat) (ns : List Int) (hn : ns.length ≤ 63) (k : Nat) (hk : k < 5) : ∃ d, Dice d 0 ∧
    sem (fnsOf defs) (n + 1) 13 [.s .fz (.list (ns.map .int)), .s .fz (.int k)] = .ok true d [.s .fz (.list (ns.map .int)), .s .fz (.int k)] := by
  obtain ⟨own, e1⟩ := own_ok (sem (fnsOf defs) n) ns k hk .no .no .no
  obtain ⟨ms, hms, ec⟩ := cut_map ns 0 (sIx (ns.map PyData.int).length 6)
  obtain ⟨m, cur, z0, z1, e2⟩ := dice_loop (sem (fnsOf defs) n) (ms ++ [own]) (.s .fz (.list (ns.map .int))) (.s .fz (.int k)) (.s .fz (.int own)) (990029 + 7907 * k) (by omega) (by omega)
  generalize hxs : ns.map PyData.int = xs at e1 ec e2
  have hl : (ms.map PyData.int).length + [PyData.int own].length ≤ line := len_ok (by simp; omega)
  have e3 := evS_for (F := sem (fnsOf defs) n) (tg := .one 4) (it := .iseq (.op .add (.cons (.op .slTo (.cons (.bor 0) (.cons (.cst (.int 6)) .nil))) (.cons (.lst (.cons (.var 2) .nil)) .nil)))) (ρ := [.s .fz (.list xs), .s .fz (.int k), .s .fz (.int own), .s .fz (.int (990029 + 7907 * k)), .no]) (ρ1 := [.s .fz (.list xs), .s .fz (.int k), .s .fz (.int own), .s .fz (.int (990029 + 7907 * k)), .no]) (fr := false) (ds := (ms ++ [own]).map .int) (by simp [Mx.runFn, Mx.outsOf, Mx.giveBack, Mx.argK, Mx.evA, Mx.putS, Mx.mutS, Mx.cmpOpt, Mx.ev.eq_1, Mx.ev.eq_2, Mx.ev.eq_3, Mx.ev.eq_4, Mx.ev.eq_5, Mx.ev.eq_6, Mx.ev.eq_7, Mx.ev.eq_8, Mx.ev.eq_9, Mx.ev.eq_10, Mx.ev.eq_11, Mx.ev.eq_12, Mx.ev.eq_13, Mx.ev.eq_14, Mx.ev.eq_16, Mx.ev.eq_19, Mx.ev.eq_20, Mx.ev.eq_21, Mx.ev.eq_22, Mx.ev.eq_23, Mx.ev.eq_24, Mx.ev.eq_25, Mx.evS.eq_1, Mx.evS.eq_2, Mx.evS.eq_3, Mx.evS.eq_4, Mx.evS.eq_5, Mx.evS.eq_6, Mx.evS.eq_7, Mx.evS.eq_8, Mx.evS.eq_9, Mx.evS.eq_10, Mx.evS.eq_11, Mx.evS.eq_12, Mx.evS.eq_13, Mx.evS.eq_14, Mx.evS.eq_17, Mx.evS.eq_18, Mx.evS.eq_19, Mx.evS.eq_20, Mx.o_add, Mx.o_sub, Mx.o_mul, Mx.o_neg, Mx.o_eq, Mx.o_ne, Mx.o_lt, Mx.o_le, Mx.o_gt, Mx.o_ge, Mx.o_isN, Mx.o_notN, Mx.o_idxL, Mx.o_idxT, Mx.o_slToL, Mx.o_lenL, Mx.o_lenT, Mx.o_min2, Mx.o_max2, Mx.o_abs, Mx.o_int, Mx.o_tupL, Mx.o_tupT, Mx.o_listL, Mx.o_listT, Mx.o_isi, Mx.addD_int, Mx.eqD_ii, Mx.old, Mx.o_mod, Mx.o_fdv, Mx.ix0, Mx.ix1, Mx.ix2, ec, addD_list hl, seqOf]) e2 rfl
  have q7 : (7907 : Int).natAbs < 2 ^ 63 := by decide
  have qp : opD .pow [.int 10, .int 16] = some (false, .int 10000000000000000) := by rw [o_pow, if_pos (by decide)]; rfl
  refine ⟨dice (if own < 0 ∨ 10000000000000000 ≤ own then (if own < 0 then -own else own) else 0) m 0, ⟨_, _, _, rfl, by split <;> (try split) <;> omega, z0, z1, by omega, by omega⟩, ?_⟩
  rw [sem_succ, f13]
  by_cases h1 : own < 0
  · simp [Mx.runFn, Mx.outsOf, Mx.giveBack, Mx.argK, Mx.evA, Mx.putS, Mx.mutS, Mx.cmpOpt, Mx.ev.eq_1, Mx.ev.eq_2, Mx.ev.eq_3, Mx.ev.eq_4, Mx.ev.eq_5, Mx.ev.eq_6, Mx.ev.eq_7, Mx.ev.eq_8, Mx.ev.eq_9, Mx.ev.eq_10, Mx.ev.eq_11, Mx.ev.eq_12, Mx.ev.eq_13, Mx.ev.eq_14, Mx.ev.eq_16, Mx.ev.eq_19, Mx.ev.eq_20, Mx.ev.eq_21, Mx.ev.eq_22, Mx.ev.eq_23, Mx.ev.eq_24, Mx.ev.eq_25, Mx.evS.eq_1, Mx.evS.eq_2, Mx.evS.eq_3, Mx.evS.eq_4, Mx.evS.eq_5, Mx.evS.eq_6, Mx.evS.eq_7, Mx.evS.eq_8, Mx.evS.eq_9, Mx.evS.eq_10, Mx.evS.eq_11, Mx.evS.eq_12, Mx.evS.eq_13, Mx.evS.eq_14, Mx.evS.eq_17, Mx.evS.eq_18, Mx.evS.eq_19, Mx.evS.eq_20, Mx.o_add, Mx.o_sub, Mx.o_mul, Mx.o_neg, Mx.o_eq, Mx.o_ne, Mx.o_lt, Mx.o_le, Mx.o_gt, Mx.o_ge, Mx.o_isN, Mx.o_notN, Mx.o_idxL, Mx.o_idxT, Mx.o_slToL, Mx.o_lenL, Mx.o_lenT, Mx.o_min2, Mx.o_max2, Mx.o_abs, Mx.o_int, Mx.o_tupL, Mx.o_tupT, Mx.o_listL, Mx.o_listT, Mx.o_isi, Mx.addD_int, Mx.eqD_ii, Mx.old, Mx.o_mod, Mx.o_fdv, Mx.ix0, Mx.ix1, Mx.ix2, c__law_dice, e1, e3, mulD_l q7, qp, h1, dice]
  · by_cases h2 : (10000000000000000 : Int) ≤ own
    · simp [Mx.runFn, Mx.outsOf, Mx.giveBack, Mx.argK, Mx.evA, Mx.putS, Mx.mutS, Mx.cmpOpt, Mx.ev.eq_1, Mx.ev.eq_2, Mx.ev.eq_3, Mx.ev.eq_4, Mx.ev.eq_5, Mx.ev.eq_6, Mx.ev.eq_7, Mx.ev.eq_8, Mx.ev.eq_9, Mx.ev.eq_10, Mx.ev.eq_11, Mx.ev.eq_12, Mx.ev.eq_13, Mx.ev.eq_14, Mx.ev.eq_16, Mx.ev.eq_19, Mx.ev.eq_20, Mx.ev.eq_21, Mx.ev.eq_22, Mx.ev.eq_23, Mx.ev.eq_24, Mx.ev.eq_25, Mx.evS.eq_1, Mx.evS.eq_2, Mx.evS.eq_3, Mx.evS.eq_4, Mx.evS.eq_5, Mx.evS.eq_6, Mx.evS.eq_7, Mx.evS.eq_8, Mx.evS.eq_9, Mx.evS.eq_10, Mx.evS.eq_11, Mx.evS.eq_12, Mx.evS.eq_13, Mx.evS.eq_14, Mx.evS.eq_17, Mx.evS.eq_18, Mx.evS.eq_19, Mx.evS.eq_20, Mx.o_add, Mx.o_sub, Mx.o_mul, Mx.o_neg, Mx.o_eq, Mx.o_ne, Mx.o_lt, Mx.o_le, Mx.o_gt, Mx.o_ge, Mx.o_isN, Mx.o_notN, Mx.o_idxL, Mx.o_idxT, Mx.o_slToL, Mx.o_lenL, Mx.o_lenT, Mx.o_min2, Mx.o_max2, Mx.o_abs, Mx.o_int, Mx.o_tupL, Mx.o_tupT, Mx.o_listL, Mx.o_listT, Mx.o_isi, Mx.addD_int, Mx.eqD_ii, Mx.old, Mx.o_mod, Mx.o_fdv, Mx.ix0, Mx.ix1, Mx.ix2, c__law_dice, e1, e3, mulD_l q7, qp, h1, h2, dice]
    · simp [Mx.runFn, Mx.outsOf, Mx.giveBack, Mx.argK, Mx.evA, Mx.putS, Mx.mutS, Mx.cmpOpt, Mx.ev.eq_1, Mx.ev.eq_2, Mx.ev.eq_3, Mx.ev.eq_4, Mx.ev.eq_5, Mx.ev.eq_6, Mx.ev.eq_7, Mx.ev.eq_8, Mx.ev.eq_9, Mx.ev.eq_10, Mx.ev.eq_11, Mx.ev.eq_12, Mx.ev.eq_13, Mx.ev.eq_14, Mx.ev.eq_16, Mx.ev.eq_19, Mx.ev.eq_20, Mx.ev.eq_21, Mx.ev.eq_22, Mx.ev.eq_23, Mx.ev.eq_24, Mx.ev.eq_25, Mx.evS.eq_1, Mx.evS.eq_2, Mx.evS.eq_3, Mx.evS.eq_4, Mx.evS.eq_5, Mx.evS.eq_6, Mx.evS.eq_7, Mx.evS.eq_8, Mx.evS.eq_9, Mx.evS.eq_10, Mx.evS.eq_11, Mx.evS.eq_12, Mx.evS.eq_13, Mx.evS.eq_14, Mx.evS.eq_17, Mx.evS.eq_18, Mx.evS.eq_19, Mx.evS.eq_20, Mx.o_add, Mx.o_sub, Mx.o_mul, Mx.o_neg, Mx.o_eq, Mx.o_ne, Mx.o_lt, Mx.o_le, Mx.o_gt, Mx.o_ge, Mx.o_isN, Mx.o_notN, Mx.o_idxL, Mx.o_idxT, Mx.o_slToL, Mx.o_lenL, Mx.o_lenT, Mx.o_min2, Mx.o_max2, Mx.o_abs, Mx.o_int, Mx.o_tupL, Mx.o_tupT, Mx.o_listL, Mx.o_listT, Mx.o_isi, Mx.addD_int, Mx.eqD_ii, Mx.old, Mx.o_mod, Mx.o_fdv, Mx.ix0, Mx.ix1, Mx.ix2, c__law_dice, e1, e3, mulD_l q7, qp, h1, h2, dice]
theorem e0_bool (n : Nat) (b : Bool) : sem (fnsOf defs) (n + 1) 0 [.s .fz (.bool b)] = .ok false (.bool false) [.s .fz (.bool b)] := by
  rw [sem_succ, f0]
  simp [Mx.runFn, Mx.outsOf, Mx.giveBack, Mx.argK, Mx.evA, Mx.putS, Mx.mutS, Mx.cmpOpt, Mx.ev.eq_1, Mx.ev.eq_2, Mx.ev.eq_3, Mx.ev.eq_4, Mx.ev.eq_5, Mx.ev.eq_6, Mx.ev.eq_7, Mx.ev.eq_8, Mx.ev.eq_9, Mx.ev.eq_10, Mx.ev.eq_11, Mx.ev.eq_12, Mx.ev.eq_13, Mx.ev.eq_14, Mx.ev.eq_16, Mx.ev.eq_19, Mx.ev.eq_20, Mx.ev.eq_21, Mx.ev.eq_22, Mx.ev.eq_23, Mx.ev.eq_24, Mx.ev.eq_25, Mx.evS.eq_1, Mx.evS.eq_2, Mx.evS.eq_3, Mx.evS.eq_4, Mx.evS.eq_5, Mx.evS.eq_6, Mx.evS.eq_7, Mx.evS.eq_8, Mx.evS.eq_9, Mx.evS.eq_10, Mx.evS.eq_11, Mx.evS.eq_12, Mx.evS.eq_13, Mx.evS.eq_14, Mx.evS.eq_17, Mx.evS.eq_18, Mx.evS.eq_19, Mx.evS.eq_20, Mx.o_add, Mx.o_sub, Mx.o_mul, Mx.o_neg, Mx.o_eq, Mx.o_ne, Mx.o_lt, Mx.o_le, Mx.o_gt, Mx.o_ge, Mx.o_isN, Mx.o_notN, Mx.o_idxL, Mx.o_idxT, Mx.o_slToL, Mx.o_lenL, Mx.o_lenT, Mx.o_min2, Mx.o_max2, Mx.o_abs, Mx.o_int, Mx.o_tupL, Mx.o_tupT, Mx.o_listL, Mx.o_listT, Mx.o_isi, Mx.addD_int, Mx.eqD_ii, Mx.old, Mx.o_mod, Mx.o_fdv, Mx.ix0, Mx.ix1, Mx.ix2, c_is_integer, isiD]
theorem e1_bad (n : Nat) (i lo hi : Int) (nm : Str) (hn : nm.length ≤ 1000) (h : i < lo ∨ hi < i) : sem (fnsOf defs) (n + 2) 1 [.s .fz (.int i), .s .fz (.str nm), .s .fz (.int lo), .s .fz (.int hi)] = .exc (.bad nm) := by
  rw [sem_succ, f1]
  by_cases h1 : i < lo
  · simp [Mx.runFn, Mx.outsOf, Mx.giveBack, Mx.argK, Mx.evA, Mx.putS, Mx.mutS, Mx.cmpOpt, Mx.ev.eq_1, Mx.ev.eq_2, Mx.ev.eq_3, Mx.ev.eq_4, Mx.ev.eq_5, Mx.ev.eq_6, Mx.ev.eq_7, Mx.ev.eq_8, Mx.ev.eq_9, Mx.ev.eq_10, Mx.ev.eq_11, Mx.ev.eq_12, Mx.ev.eq_13, Mx.ev.eq_14, Mx.ev.eq_16, Mx.ev.eq_19, Mx.ev.eq_20, Mx.ev.eq_21, Mx.ev.eq_22, Mx.ev.eq_23, Mx.ev.eq_24, Mx.ev.eq_25, Mx.evS.eq_1, Mx.evS.eq_2, Mx.evS.eq_3, Mx.evS.eq_4, Mx.evS.eq_5, Mx.evS.eq_6, Mx.evS.eq_7, Mx.evS.eq_8, Mx.evS.eq_9, Mx.evS.eq_10, Mx.evS.eq_11, Mx.evS.eq_12, Mx.evS.eq_13, Mx.evS.eq_14, Mx.evS.eq_17, Mx.evS.eq_18, Mx.evS.eq_19, Mx.evS.eq_20, Mx.o_add, Mx.o_sub, Mx.o_mul, Mx.o_neg, Mx.o_eq, Mx.o_ne, Mx.o_lt, Mx.o_le, Mx.o_gt, Mx.o_ge, Mx.o_isN, Mx.o_notN, Mx.o_idxL, Mx.o_idxT, Mx.o_slToL, Mx.o_lenL, Mx.o_lenT, Mx.o_min2, Mx.o_max2, Mx.o_abs, Mx.o_int, Mx.o_tupL, Mx.o_tupT, Mx.o_listL, Mx.o_listT, Mx.o_isi, Mx.addD_int, Mx.eqD_ii, Mx.old, Mx.o_mod, Mx.o_fdv, Mx.ix0, Mx.ix1, Mx.ix2, c_need_integer, e0_int, h1, hn]
  · have h2 := h.resolve_left h1
    simp [Mx.runFn, Mx.outsOf, Mx.giveBack, Mx.argK, Mx.evA, Mx.putS, Mx.mutS, Mx.cmpOpt, Mx.ev.eq_1, Mx.ev.eq_2, Mx.ev.eq_3, Mx.ev.eq_4, Mx.ev.eq_5, Mx.ev.eq_6, Mx.ev.eq_7, Mx.ev.eq_8, Mx.ev.eq_9, Mx.ev.eq_10, Mx.ev.eq_11, Mx.ev.eq_12, Mx.ev.eq_13, Mx.ev.eq_14, Mx.ev.eq_16, Mx.ev.eq_19, Mx.ev.eq_20, Mx.ev.eq_21, Mx.ev.eq_22, Mx.ev.eq_23, Mx.ev.eq_24, Mx.ev.eq_25, Mx.evS.eq_1, Mx.evS.eq_2, Mx.evS.eq_3, Mx.evS.eq_4, Mx.evS.eq_5, Mx.evS.eq_6, Mx.evS.eq_7, Mx.evS.eq_8, Mx.evS.eq_9, Mx.evS.eq_10, Mx.evS.eq_11, Mx.evS.eq_12, Mx.evS.eq_13, Mx.evS.eq_14, Mx.evS.eq_17, Mx.evS.eq_18, Mx.evS.eq_19, Mx.evS.eq_20, Mx.o_add, Mx.o_sub, Mx.o_mul, Mx.o_neg, Mx.o_eq, Mx.o_ne, Mx.o_lt, Mx.o_le, Mx.o_gt, Mx.o_ge, Mx.o_isN, Mx.o_notN, Mx.o_idxL, Mx.o_idxT, Mx.o_slToL, Mx.o_lenL, Mx.o_lenT, Mx.o_min2, Mx.o_max2, Mx.o_abs, Mx.o_int, Mx.o_tupL, Mx.o_tupT, Mx.o_listL, Mx.o_listT, Mx.o_isi, Mx.addD_int, Mx.eqD_ii, Mx.old, Mx.o_mod, Mx.o_fdv, Mx.ix0, Mx.ix1, Mx.ix2, c_need_integer, e0_int, h1, h2, hn]
end K02
end

section
set_option maxRecDepth 100000
set_option linter.all false
set_option maxHeartbeats 1000000
namespace K02
open Mx PySem L2
open K02P (Wy half updf S quo rmd shR rank dv pos step better bst)
open K00P (psum)
theorem f2 : (fnsOf defs)[2]? = some ⟨1, 2, c_are_weights⟩ := rfl
theorem f3 : (fnsOf defs)[3]? = some ⟨3, 3, c_need_share⟩ := rfl
theorem f4 : (fnsOf defs)[4]? = some ⟨2, 8, c_by_remainders⟩ := rfl
theorem f5 : (fnsOf defs)[5]? = some ⟨2, 2, c_next_claim⟩ := rfl
theorem f6 : (fnsOf defs)[6]? = some ⟨3, 9, c_by_divisors⟩ := rfl
theorem f7 : (fnsOf defs)[7]? = some ⟨3, 3, c_shared⟩ := rfl
theorem f8 : (fnsOf defs)[8]? = some ⟨3, 3, c_share⟩ := rfl
theorem f9 : (fnsOf defs)[9]? = some ⟨3, 6, c_losers_by_more⟩ := rfl
theorem f10 : (fnsOf defs)[10]? = some ⟨3, 4, c_first_loss⟩ := rfl
theorem f11 : (fnsOf defs)[11]? = some ⟨3, 9, c_off_quota⟩ := rfl
theorem f12 : (fnsOf defs)[12]? = some ⟨4, 5, c_least_units⟩ := rfl
theorem f16 : (fnsOf defs)[16]? = some ⟨2, 2, c__law_half⟩ := rfl
theorem f17 : (fnsOf defs)[17]? = some ⟨2, 2, c__law_ahead⟩ := rfl
theorem f18 : (fnsOf defs)[18]? = some ⟨3, 15, c__law_share⟩ := rfl
theorem f19 : (fnsOf defs)[19]? = some ⟨5, 6, c__law_early⟩ := rfl
theorem f20 : (fnsOf defs)[20]? = some ⟨1, 27, c__law_right⟩ := rfl
theorem f21 : (fnsOf defs)[21]? = some ⟨1, 2, c_law⟩ := rfl
/-! ### rows of numbers -/
def nsD (f : Nat → Int) (n : Nat) : List D := ((List.range n).map f).map .int
theorem nsD_len (f : Nat → Int) (n : Nat) : (nsD f n).length = n := by simp [nsD]
theorem nsD_get (f : Nat → Int) (n k : Nat) (h : k < (nsD f n).length) : (nsD f n)[k] = .int (f k) := by simp [nsD]
theorem nsD_idx (f : Nat → Int) {n k : Nat} (h : k < n) : idxD (nsD f n) (k : Int) = some (.int (f k)) := by
  rw [idxD_nat (by rw [nsD_len]; exact h), nsD_get]
theorem nsD_mem {f : Nat → Int} {n : Nat} {x : D} (h : x ∈ nsD f n) : ∃ i, i < n ∧ x = .int (f i) := by
  simp only [nsD, List.mem_map, List.mem_range] at h
  obtain ⟨a, ⟨i, hi, rfl⟩, rfl⟩ := h
  exact ⟨i, hi, rfl⟩
theorem nsD_sumL (f : Nat → Int) (n : Nat) : opD .sum [.list (nsD f n)] = some (false, .int (psum f n)) := by
  rw [o_sumL, nsD, intsOf_map, Option.bind_some, K00P.sum_range]; rfl
theorem nsD_sumT (f : Nat → Int) (n : Nat) : opD .sum [.tuple (nsD f n)] = some (false, .int (psum f n)) := by
  rw [o_sumT, nsD, intsOf_map, Option.bind_some, K00P.sum_range]; rfl
theorem nsD_set (f : Nat → Int) (n k : Nat) (v : Int) : (nsD f n).set k (.int v) = nsD (updf f k v) n := by
  refine List.ext_getElem (by simp [nsD]) fun i h1 h2 => ?_
  rw [List.getElem_set]
  have hi : i < n := by rw [nsD_len] at h2; exact h2
  rw [nsD_get]
  by_cases e : k = i
  · subst e; rw [if_pos rfl, nsD_get, K02P.updf_same]
  · rw [if_neg e, nsD_get, K02P.updf_ne (Ne.symm e)]
theorem nsD_setD (f : Nat → Int) {n k : Nat} (h : k < n) (v : Int) : setD (.list (nsD f n)) (.int (k : Int)) (.int v) = some (.list (nsD (updf f k v) n)) := by
  have h' : (k : Int) < (n : Int) := by omega
  simp only [setD, nsD_len, Mx.ixN]
  rw [if_pos (Int.natCast_nonneg _), if_pos h', Int.toNat_natCast, Option.map_some, nsD_set]
theorem nsD_congr {f g : Nat → Int} {n : Nat} (h : ∀ i, i < n → f i = g i) : nsD f n = nsD g n := by
  unfold nsD
  rw [List.map_congr_left fun i hi => h i (List.mem_range.mp hi)]
theorem nsD_snoc (f : Nat → Int) (n : Nat) : nsD f (n + 1) = nsD f n ++ [.int (f n)] := by simp [nsD, List.range_succ]
theorem nsD_rep (n : Nat) : repD [.int 0] (n : Int) = nsD (fun _ => 0) n := by
  unfold repD nsD
  rw [Int.toNat_natCast, List.map_map]
  induction n with
  | zero => rfl
  | succ n ih => rw [List.replicate_succ', List.flatten_append, ih, List.range_succ]; simp
/-! ### ways -/
def wyS : Wy → Str
  | .r => "remainders"
  | .d => "down"
  | .n => "nearest"
  | .u => "up"
def isR : Wy → Bool
  | .r => true
  | _ => false
def isDn : Wy → Bool
  | .d => true
  | _ => false
def isNr : Wy → Bool
  | .n => true
  | _ => false
theorem half_if (y : Wy) (k : Int) : half y k = if isDn y = true then 2 * k + 2 else if isNr y = true then 2 * k + 1 else 2 * k := by cases y <;> rfl
theorem eq_r (y : Wy) : eqD (.str (wyS y)) (.str "remainders") = some (isR y) := by cases y <;> decide +kernel
theorem eq_d (y : Wy) : eqD (.str (wyS y)) (.str "down") = some (isDn y) := by cases y <;> decide +kernel
theorem eq_n (y : Wy) : eqD (.str (wyS y)) (.str "nearest") = some (isNr y) := by cases y <;> decide +kernel
theorem in_w (y : Wy) : opD .nin [.str (wyS y), .tuple [.str "remainders", .str "down", .str "nearest", .str "up"]] = some (false, .bool false) := by
  have : inD (.str (wyS y)) [.str "remainders", .str "down", .str "nearest", .str "up"] = some true := by cases y <;> decide +kernel
  show cmpOpt ((inD _ _).map (!·)) = _
  rw [this]; rfl
theorem half_ok (m : Nat) (y : Wy) (k : Int) : sem (fnsOf defs) (m + 1) 16 [.s .fz (.int k), .s .fz (.str (wyS y))] = .ok false (.int (half y k)) [.s .fz (.int k), .s .fz (.str (wyS y))] := by
  have q : (2 : Int).natAbs < 2 ^ 63 := by decide
  rw [sem_succ, f16]
  rw [half_if]
  cases h1 : isDn y <;> cases h2 : isNr y <;> simp [Mx.runFn, Mx.outsOf, Mx.giveBack, Mx.argK, Mx.evA, Mx.putS, Mx.mutS, Mx.cmpOpt, Mx.ev.eq_1, Mx.ev.eq_2, Mx.ev.eq_3, Mx.ev.eq_4, Mx.ev.eq_5, Mx.ev.eq_6, Mx.ev.eq_7, Mx.ev.eq_8, Mx.ev.eq_9, Mx.ev.eq_10, Mx.ev.eq_11, Mx.ev.eq_12, Mx.ev.eq_13, Mx.ev.eq_14, Mx.ev.eq_16, Mx.ev.eq_19, Mx.ev.eq_20, Mx.ev.eq_21, Mx.ev.eq_22, Mx.ev.eq_23, Mx.ev.eq_24, Mx.ev.eq_25, Mx.evS.eq_1, Mx.evS.eq_2, Mx.evS.eq_3, Mx.evS.eq_4, Mx.evS.eq_5, Mx.evS.eq_6, Mx.evS.eq_7, Mx.evS.eq_8, Mx.evS.eq_9, Mx.evS.eq_10, Mx.evS.eq_11, Mx.evS.eq_12, Mx.evS.eq_13, Mx.evS.eq_14, Mx.evS.eq_17, Mx.evS.eq_18, Mx.evS.eq_19, Mx.evS.eq_20, Mx.o_add, Mx.o_sub, Mx.o_mul, Mx.o_neg, Mx.o_eq, Mx.o_ne, Mx.o_lt, Mx.o_le, Mx.o_gt, Mx.o_ge, Mx.o_isN, Mx.o_notN, Mx.o_idxL, Mx.o_idxT, Mx.o_slToL, Mx.o_lenL, Mx.o_lenT, Mx.o_min2, Mx.o_max2, Mx.o_abs, Mx.o_int, Mx.o_tupL, Mx.o_tupT, Mx.o_listL, Mx.o_listT, Mx.o_isi, Mx.addD_int, Mx.eqD_ii, Mx.old, Mx.o_mod, Mx.o_fdv, Mx.ix0, Mx.ix1, Mx.ix2, c__law_half, eq_d, eq_n, mulD_l q, h1, h2]
theorem claim_ok (m : Nat) (y : Wy) (k : Int) : sem (fnsOf defs) (m + 1) 5 [.s .fz (.int k), .s .fz (.str (wyS y))] = .ok false (.int (half y k)) [.s .fz (.int k), .s .fz (.str (wyS y))] := by
  have q : (2 : Int).natAbs < 2 ^ 63 := by decide
  rw [sem_succ, f5]
  rw [half_if]
  cases h1 : isDn y <;> cases h2 : isNr y <;> simp [Mx.runFn, Mx.outsOf, Mx.giveBack, Mx.argK, Mx.evA, Mx.putS, Mx.mutS, Mx.cmpOpt, Mx.ev.eq_1, Mx.ev.eq_2, Mx.ev.eq_3, Mx.ev.eq_4, Mx.ev.eq_5, Mx.ev.eq_6, Mx.ev.eq_7, Mx.ev.eq_8, Mx.ev.eq_9, Mx.ev.eq_10, Mx.ev.eq_11, Mx.ev.eq_12, Mx.ev.eq_13, Mx.ev.eq_14, Mx.ev.eq_16, Mx.ev.eq_19, Mx.ev.eq_20, Mx.ev.eq_21, Mx.ev.eq_22, Mx.ev.eq_23, Mx.ev.eq_24, Mx.ev.eq_25, Mx.evS.eq_1, Mx.evS.eq_2, Mx.evS.eq_3, Mx.evS.eq_4, Mx.evS.eq_5, Mx.evS.eq_6, Mx.evS.eq_7, Mx.evS.eq_8, Mx.evS.eq_9, Mx.evS.eq_10, Mx.evS.eq_11, Mx.evS.eq_12, Mx.evS.eq_13, Mx.evS.eq_14, Mx.evS.eq_17, Mx.evS.eq_18, Mx.evS.eq_19, Mx.evS.eq_20, Mx.o_add, Mx.o_sub, Mx.o_mul, Mx.o_neg, Mx.o_eq, Mx.o_ne, Mx.o_lt, Mx.o_le, Mx.o_gt, Mx.o_ge, Mx.o_isN, Mx.o_notN, Mx.o_idxL, Mx.o_idxT, Mx.o_slToL, Mx.o_lenL, Mx.o_lenT, Mx.o_min2, Mx.o_max2, Mx.o_abs, Mx.o_int, Mx.o_tupL, Mx.o_tupT, Mx.o_listL, Mx.o_listT, Mx.o_isi, Mx.addD_int, Mx.eqD_ii, Mx.old, Mx.o_mod, Mx.o_fdv, Mx.ix0, Mx.ix1, Mx.ix2, c_next_claim, eq_d, eq_n, mulD_l q, h1, h2]
theorem ahead_ok (m : Nat) {a b c d : Int} (x : D) (ha : 1 ≤ a) (ha2 : a ≤ 100000) (hc : 1 ≤ c) (hc2 : c ≤ 100000) (hb : 0 ≤ b) (hd : 0 ≤ d) : sem (fnsOf defs) (m + 1) 17 [.s .fz (.tuple [.int a, .int b]), .s .fz (.tuple [.int c, .int d, x])] =
    .ok false (.bool (decide (a * d > c * b) || (decide (b = 0) && (decide (d = 0) && decide (a > c))))) [.s .fz (.tuple [.int a, .int b]), .s .fz (.tuple [.int c, .int d, x])] := by
  have q1 : a.natAbs < 2 ^ 63 := by omega
  have q2 : c.natAbs < 2 ^ 63 := by omega
  rw [sem_succ, f17]
  by_cases b0 : b = 0
  · subst b0
    by_cases d0 : d = 0
    · subst d0
      simp [Mx.runFn, Mx.outsOf, Mx.giveBack, Mx.argK, Mx.evA, Mx.putS, Mx.mutS, Mx.cmpOpt, Mx.ev.eq_1, Mx.ev.eq_2, Mx.ev.eq_3, Mx.ev.eq_4, Mx.ev.eq_5, Mx.ev.eq_6, Mx.ev.eq_7, Mx.ev.eq_8, Mx.ev.eq_9, Mx.ev.eq_10, Mx.ev.eq_11, Mx.ev.eq_12, Mx.ev.eq_13, Mx.ev.eq_14, Mx.ev.eq_16, Mx.ev.eq_19, Mx.ev.eq_20, Mx.ev.eq_21, Mx.ev.eq_22, Mx.ev.eq_23, Mx.ev.eq_24, Mx.ev.eq_25, Mx.evS.eq_1, Mx.evS.eq_2, Mx.evS.eq_3, Mx.evS.eq_4, Mx.evS.eq_5, Mx.evS.eq_6, Mx.evS.eq_7, Mx.evS.eq_8, Mx.evS.eq_9, Mx.evS.eq_10, Mx.evS.eq_11, Mx.evS.eq_12, Mx.evS.eq_13, Mx.evS.eq_14, Mx.evS.eq_17, Mx.evS.eq_18, Mx.evS.eq_19, Mx.evS.eq_20, Mx.o_add, Mx.o_sub, Mx.o_mul, Mx.o_neg, Mx.o_eq, Mx.o_ne, Mx.o_lt, Mx.o_le, Mx.o_gt, Mx.o_ge, Mx.o_isN, Mx.o_notN, Mx.o_idxL, Mx.o_idxT, Mx.o_slToL, Mx.o_lenL, Mx.o_lenT, Mx.o_min2, Mx.o_max2, Mx.o_abs, Mx.o_int, Mx.o_tupL, Mx.o_tupT, Mx.o_listL, Mx.o_listT, Mx.o_isi, Mx.addD_int, Mx.eqD_ii, Mx.old, Mx.o_mod, Mx.o_fdv, Mx.ix0, Mx.ix1, Mx.ix2, c__law_ahead]
    · have dp : 0 < d := by omega
      have ap : 0 < a * d := Int.mul_pos (by omega) dp
      simp [Mx.runFn, Mx.outsOf, Mx.giveBack, Mx.argK, Mx.evA, Mx.putS, Mx.mutS, Mx.cmpOpt, Mx.ev.eq_1, Mx.ev.eq_2, Mx.ev.eq_3, Mx.ev.eq_4, Mx.ev.eq_5, Mx.ev.eq_6, Mx.ev.eq_7, Mx.ev.eq_8, Mx.ev.eq_9, Mx.ev.eq_10, Mx.ev.eq_11, Mx.ev.eq_12, Mx.ev.eq_13, Mx.ev.eq_14, Mx.ev.eq_16, Mx.ev.eq_19, Mx.ev.eq_20, Mx.ev.eq_21, Mx.ev.eq_22, Mx.ev.eq_23, Mx.ev.eq_24, Mx.ev.eq_25, Mx.evS.eq_1, Mx.evS.eq_2, Mx.evS.eq_3, Mx.evS.eq_4, Mx.evS.eq_5, Mx.evS.eq_6, Mx.evS.eq_7, Mx.evS.eq_8, Mx.evS.eq_9, Mx.evS.eq_10, Mx.evS.eq_11, Mx.evS.eq_12, Mx.evS.eq_13, Mx.evS.eq_14, Mx.evS.eq_17, Mx.evS.eq_18, Mx.evS.eq_19, Mx.evS.eq_20, Mx.o_add, Mx.o_sub, Mx.o_mul, Mx.o_neg, Mx.o_eq, Mx.o_ne, Mx.o_lt, Mx.o_le, Mx.o_gt, Mx.o_ge, Mx.o_isN, Mx.o_notN, Mx.o_idxL, Mx.o_idxT, Mx.o_slToL, Mx.o_lenL, Mx.o_lenT, Mx.o_min2, Mx.o_max2, Mx.o_abs, Mx.o_int, Mx.o_tupL, Mx.o_tupT, Mx.o_listL, Mx.o_listT, Mx.o_isi, Mx.addD_int, Mx.eqD_ii, Mx.old, Mx.o_mod, Mx.o_fdv, Mx.ix0, Mx.ix1, Mx.ix2, c__law_ahead, d0, dp, ap]
  · by_cases d0 : d = 0
    · subst d0
      have cp : 0 < c * b := Int.mul_pos (by omega) (by omega)
      have cp' : ¬ c * b < 0 := by omega
      simp [Mx.runFn, Mx.outsOf, Mx.giveBack, Mx.argK, Mx.evA, Mx.putS, Mx.mutS, Mx.cmpOpt, Mx.ev.eq_1, Mx.ev.eq_2, Mx.ev.eq_3, Mx.ev.eq_4, Mx.ev.eq_5, Mx.ev.eq_6, Mx.ev.eq_7, Mx.ev.eq_8, Mx.ev.eq_9, Mx.ev.eq_10, Mx.ev.eq_11, Mx.ev.eq_12, Mx.ev.eq_13, Mx.ev.eq_14, Mx.ev.eq_16, Mx.ev.eq_19, Mx.ev.eq_20, Mx.ev.eq_21, Mx.ev.eq_22, Mx.ev.eq_23, Mx.ev.eq_24, Mx.ev.eq_25, Mx.evS.eq_1, Mx.evS.eq_2, Mx.evS.eq_3, Mx.evS.eq_4, Mx.evS.eq_5, Mx.evS.eq_6, Mx.evS.eq_7, Mx.evS.eq_8, Mx.evS.eq_9, Mx.evS.eq_10, Mx.evS.eq_11, Mx.evS.eq_12, Mx.evS.eq_13, Mx.evS.eq_14, Mx.evS.eq_17, Mx.evS.eq_18, Mx.evS.eq_19, Mx.evS.eq_20, Mx.o_add, Mx.o_sub, Mx.o_mul, Mx.o_neg, Mx.o_eq, Mx.o_ne, Mx.o_lt, Mx.o_le, Mx.o_gt, Mx.o_ge, Mx.o_isN, Mx.o_notN, Mx.o_idxL, Mx.o_idxT, Mx.o_slToL, Mx.o_lenL, Mx.o_lenT, Mx.o_min2, Mx.o_max2, Mx.o_abs, Mx.o_int, Mx.o_tupL, Mx.o_tupT, Mx.o_listL, Mx.o_listT, Mx.o_isi, Mx.addD_int, Mx.eqD_ii, Mx.old, Mx.o_mod, Mx.o_fdv, Mx.ix0, Mx.ix1, Mx.ix2, c__law_ahead, b0, cp']
    · simp [Mx.runFn, Mx.outsOf, Mx.giveBack, Mx.argK, Mx.evA, Mx.putS, Mx.mutS, Mx.cmpOpt, Mx.ev.eq_1, Mx.ev.eq_2, Mx.ev.eq_3, Mx.ev.eq_4, Mx.ev.eq_5, Mx.ev.eq_6, Mx.ev.eq_7, Mx.ev.eq_8, Mx.ev.eq_9, Mx.ev.eq_10, Mx.ev.eq_11, Mx.ev.eq_12, Mx.ev.eq_13, Mx.ev.eq_14, Mx.ev.eq_16, Mx.ev.eq_19, Mx.ev.eq_20, Mx.ev.eq_21, Mx.ev.eq_22, Mx.ev.eq_23, Mx.ev.eq_24, Mx.ev.eq_25, Mx.evS.eq_1, Mx.evS.eq_2, Mx.evS.eq_3, Mx.evS.eq_4, Mx.evS.eq_5, Mx.evS.eq_6, Mx.evS.eq_7, Mx.evS.eq_8, Mx.evS.eq_9, Mx.evS.eq_10, Mx.evS.eq_11, Mx.evS.eq_12, Mx.evS.eq_13, Mx.evS.eq_14, Mx.evS.eq_17, Mx.evS.eq_18, Mx.evS.eq_19, Mx.evS.eq_20, Mx.o_add, Mx.o_sub, Mx.o_mul, Mx.o_neg, Mx.o_eq, Mx.o_ne, Mx.o_lt, Mx.o_le, Mx.o_gt, Mx.o_ge, Mx.o_isN, Mx.o_notN, Mx.o_idxL, Mx.o_idxT, Mx.o_slToL, Mx.o_lenL, Mx.o_lenT, Mx.o_min2, Mx.o_max2, Mx.o_abs, Mx.o_int, Mx.o_tupL, Mx.o_tupT, Mx.o_listL, Mx.o_listT, Mx.o_isi, Mx.addD_int, Mx.eqD_ii, Mx.old, Mx.o_mod, Mx.o_fdv, Mx.ix0, Mx.ix1, Mx.ix2, c__law_ahead, b0, d0, mulD_l q1, mulD_l q2]
end K02
end

section
set_option maxRecDepth 100000
set_option linter.all false
set_option maxHeartbeats 2000000
namespace K02
open Mx PySem L2
open K02P (Wy half updf S quo rmd shR rank dv pos step better bst)
open K00P (psum)
structure OkW (w : Nat → Int) (n : Nat) : Prop where
  n1 : 1 ≤ n
  n8 : n ≤ 8
  w1 : ∀ i, i < n → 1 ≤ w i
  w2 : ∀ i, i < n → w i ≤ 100000
abbrev tw (w : Nat → Int) (n : Nat) : D := .tuple (nsD w n)
theorem weights_ok (m : Nat) {w : Nat → Int} {n : Nat} (h : OkW w n) : sem (fnsOf defs) (m + 2) 2 [.s .fz (tw w n)] = .ok false (.bool true) [.s .fz (tw w n)] := by
  obtain ⟨ρ', ⟨cur, rfl⟩, e⟩ := allGL_true (clr := (wipeR · [1])) (bind := bindT (.one 1)) (elt := ev (sem (fnsOf defs) (m + 1)) (.and (.call 0 0 (.cons (.bor 1) .nil)) (.chn .le .le (.cst (.int 1)) (.var 1) (.glb "MOST_WEIGHT" (.int 100000)))))
    (I := fun ρ => ∃ cur, ρ = [.s .fz (tw w n), cur]) (nsD w n)
    (by
      intro x hx ρ ⟨cur, hρ⟩
      obtain ⟨i, hi, rfl⟩ := nsD_mem hx
      subst hρ
      exact ⟨_, [.s .fz (tw w n), .s .fz (.int (w i))], false, rfl, by simp [Mx.runFn, Mx.outsOf, Mx.giveBack, Mx.argK, Mx.evA, Mx.putS, Mx.mutS, Mx.cmpOpt, Mx.ev.eq_1, Mx.ev.eq_2, Mx.ev.eq_3, Mx.ev.eq_4, Mx.ev.eq_5, Mx.ev.eq_6, Mx.ev.eq_7, Mx.ev.eq_8, Mx.ev.eq_9, Mx.ev.eq_10, Mx.ev.eq_11, Mx.ev.eq_12, Mx.ev.eq_13, Mx.ev.eq_14, Mx.ev.eq_16, Mx.ev.eq_19, Mx.ev.eq_20, Mx.ev.eq_21, Mx.ev.eq_22, Mx.ev.eq_23, Mx.ev.eq_24, Mx.ev.eq_25, Mx.evS.eq_1, Mx.evS.eq_2, Mx.evS.eq_3, Mx.evS.eq_4, Mx.evS.eq_5, Mx.evS.eq_6, Mx.evS.eq_7, Mx.evS.eq_8, Mx.evS.eq_9, Mx.evS.eq_10, Mx.evS.eq_11, Mx.evS.eq_12, Mx.evS.eq_13, Mx.evS.eq_14, Mx.evS.eq_17, Mx.evS.eq_18, Mx.evS.eq_19, Mx.evS.eq_20, Mx.o_add, Mx.o_sub, Mx.o_mul, Mx.o_neg, Mx.o_eq, Mx.o_ne, Mx.o_lt, Mx.o_le, Mx.o_gt, Mx.o_ge, Mx.o_isN, Mx.o_notN, Mx.o_idxL, Mx.o_idxT, Mx.o_slToL, Mx.o_lenL, Mx.o_lenT, Mx.o_min2, Mx.o_max2, Mx.o_abs, Mx.o_int, Mx.o_tupL, Mx.o_tupT, Mx.o_listL, Mx.o_listT, Mx.o_isi, Mx.addD_int, Mx.eqD_ii, Mx.old, Mx.o_mod, Mx.o_fdv, Mx.ix0, Mx.ix1, Mx.ix2, wipeR, e0_int, h.w1 i hi, h.w2 i hi], ⟨_, rfl⟩⟩) [.s .fz (tw w n), .no] ⟨_, rfl⟩
  have ha := ev_allg (F := sem (fnsOf defs) (m + 1)) (it := .iseq (.bor 0)) (own := [1]) (ρ := [.s .fz (tw w n), .no]) (fr := false) (ds := nsD w n) (ρ1 := [.s .fz (tw w n), .no]) (ρ3 := [.s .fz (tw w n), .no]) (by simp [Mx.runFn, Mx.outsOf, Mx.giveBack, Mx.argK, Mx.evA, Mx.putS, Mx.mutS, Mx.cmpOpt, Mx.ev.eq_1, Mx.ev.eq_2, Mx.ev.eq_3, Mx.ev.eq_4, Mx.ev.eq_5, Mx.ev.eq_6, Mx.ev.eq_7, Mx.ev.eq_8, Mx.ev.eq_9, Mx.ev.eq_10, Mx.ev.eq_11, Mx.ev.eq_12, Mx.ev.eq_13, Mx.ev.eq_14, Mx.ev.eq_16, Mx.ev.eq_19, Mx.ev.eq_20, Mx.ev.eq_21, Mx.ev.eq_22, Mx.ev.eq_23, Mx.ev.eq_24, Mx.ev.eq_25, Mx.evS.eq_1, Mx.evS.eq_2, Mx.evS.eq_3, Mx.evS.eq_4, Mx.evS.eq_5, Mx.evS.eq_6, Mx.evS.eq_7, Mx.evS.eq_8, Mx.evS.eq_9, Mx.evS.eq_10, Mx.evS.eq_11, Mx.evS.eq_12, Mx.evS.eq_13, Mx.evS.eq_14, Mx.evS.eq_17, Mx.evS.eq_18, Mx.evS.eq_19, Mx.evS.eq_20, Mx.o_add, Mx.o_sub, Mx.o_mul, Mx.o_neg, Mx.o_eq, Mx.o_ne, Mx.o_lt, Mx.o_le, Mx.o_gt, Mx.o_ge, Mx.o_isN, Mx.o_notN, Mx.o_idxL, Mx.o_idxT, Mx.o_slToL, Mx.o_lenL, Mx.o_lenT, Mx.o_min2, Mx.o_max2, Mx.o_abs, Mx.o_int, Mx.o_tupL, Mx.o_tupT, Mx.o_listL, Mx.o_listT, Mx.o_isi, Mx.addD_int, Mx.eqD_ii, Mx.old, Mx.o_mod, Mx.o_fdv, Mx.ix0, Mx.ix1, Mx.ix2, seqOf]) rfl e rfl
  simp [backR] at ha
  have h1' : (1 : Int) ≤ n := by have := h.n1; omega
  have h1'' : 1 ≤ n := h.n1
  have h2' : (n : Int) ≤ 8 := by have := h.n8; omega
  have hl : opD .len [tw w n] = some (false, .int n) := by rw [o_lenT, nsD_len]
  rw [sem_succ, f2]
  simp [Mx.runFn, Mx.outsOf, Mx.giveBack, Mx.argK, Mx.evA, Mx.putS, Mx.mutS, Mx.cmpOpt, Mx.ev.eq_1, Mx.ev.eq_2, Mx.ev.eq_3, Mx.ev.eq_4, Mx.ev.eq_5, Mx.ev.eq_6, Mx.ev.eq_7, Mx.ev.eq_8, Mx.ev.eq_9, Mx.ev.eq_10, Mx.ev.eq_11, Mx.ev.eq_12, Mx.ev.eq_13, Mx.ev.eq_14, Mx.ev.eq_16, Mx.ev.eq_19, Mx.ev.eq_20, Mx.ev.eq_21, Mx.ev.eq_22, Mx.ev.eq_23, Mx.ev.eq_24, Mx.ev.eq_25, Mx.evS.eq_1, Mx.evS.eq_2, Mx.evS.eq_3, Mx.evS.eq_4, Mx.evS.eq_5, Mx.evS.eq_6, Mx.evS.eq_7, Mx.evS.eq_8, Mx.evS.eq_9, Mx.evS.eq_10, Mx.evS.eq_11, Mx.evS.eq_12, Mx.evS.eq_13, Mx.evS.eq_14, Mx.evS.eq_17, Mx.evS.eq_18, Mx.evS.eq_19, Mx.evS.eq_20, Mx.o_add, Mx.o_sub, Mx.o_mul, Mx.o_neg, Mx.o_eq, Mx.o_ne, Mx.o_lt, Mx.o_le, Mx.o_gt, Mx.o_ge, Mx.o_isN, Mx.o_notN, Mx.o_idxL, Mx.o_idxT, Mx.o_slToL, Mx.o_lenL, Mx.o_lenT, Mx.o_min2, Mx.o_max2, Mx.o_abs, Mx.o_int, Mx.o_tupL, Mx.o_tupT, Mx.o_listL, Mx.o_listT, Mx.o_isi, Mx.addD_int, Mx.eqD_ii, Mx.old, Mx.o_mod, Mx.o_fdv, Mx.ix0, Mx.ix1, Mx.ix2, c_are_weights, hl, isiD, h1', h1'', h2', ha]
theorem units_ok (m : Nat) {b : Int} (h0 : 0 ≤ b) (h1 : b ≤ 500) : sem (fnsOf defs) (m + 2) 1 [.s .fz (.int b), .s .fz (.str "units"), .s .fz (.int 0), .s .fz (.int 500)] = .ok false .none [.s .fz (.int b), .s .fz (.str "units"), .s .fz (.int 0), .s .fz (.int 500)] := e1_ok m b 0 500 "units" h0 h1 .fz
theorem need_ok (m : Nat) {w : Nat → Int} {n : Nat} (h : OkW w n) {u : Nat} (hu : u ≤ 500) (y : Wy) : sem (fnsOf defs) (m + 3) 3 [.s .fz (tw w n), .s .fz (.int u), .s .fz (.str (wyS y))] = .ok false .none [.s .fz (tw w n), .s .fz (.int u), .s .fz (.str (wyS y))] := by
  rw [sem_succ, f3]
  simp [Mx.runFn, Mx.outsOf, Mx.giveBack, Mx.argK, Mx.evA, Mx.putS, Mx.mutS, Mx.cmpOpt, Mx.ev.eq_1, Mx.ev.eq_2, Mx.ev.eq_3, Mx.ev.eq_4, Mx.ev.eq_5, Mx.ev.eq_6, Mx.ev.eq_7, Mx.ev.eq_8, Mx.ev.eq_9, Mx.ev.eq_10, Mx.ev.eq_11, Mx.ev.eq_12, Mx.ev.eq_13, Mx.ev.eq_14, Mx.ev.eq_16, Mx.ev.eq_19, Mx.ev.eq_20, Mx.ev.eq_21, Mx.ev.eq_22, Mx.ev.eq_23, Mx.ev.eq_24, Mx.ev.eq_25, Mx.evS.eq_1, Mx.evS.eq_2, Mx.evS.eq_3, Mx.evS.eq_4, Mx.evS.eq_5, Mx.evS.eq_6, Mx.evS.eq_7, Mx.evS.eq_8, Mx.evS.eq_9, Mx.evS.eq_10, Mx.evS.eq_11, Mx.evS.eq_12, Mx.evS.eq_13, Mx.evS.eq_14, Mx.evS.eq_17, Mx.evS.eq_18, Mx.evS.eq_19, Mx.evS.eq_20, Mx.o_add, Mx.o_sub, Mx.o_mul, Mx.o_neg, Mx.o_eq, Mx.o_ne, Mx.o_lt, Mx.o_le, Mx.o_gt, Mx.o_ge, Mx.o_isN, Mx.o_notN, Mx.o_idxL, Mx.o_idxT, Mx.o_slToL, Mx.o_lenL, Mx.o_lenT, Mx.o_min2, Mx.o_max2, Mx.o_abs, Mx.o_int, Mx.o_tupL, Mx.o_tupT, Mx.o_listL, Mx.o_listT, Mx.o_isi, Mx.addD_int, Mx.eqD_ii, Mx.old, Mx.o_mod, Mx.o_fdv, Mx.ix0, Mx.ix1, Mx.ix2, c_need_share, weights_ok m h, units_ok m (b := u) (by omega) (by omega), in_w]
theorem inner_ok (m : Nat) {w : Nat → Int} {n : Nat} (h : OkW w n) (y : Wy) (f : Nat → Int) (s1 s4 s6 s7 s8 : Mx.Slot) : ∃ s6' s7' s8', 
    evS (sem (fnsOf defs) (m + 1)) (.for1 (.one 6) (.irng2 (.cst (.int 1)) (.op .len (.cons (.bor 0) .nil))) (.seq (.set 7 (.call 5 0 (.cons (.op .idx (.cons (.bor 3) (.cons (.bor 6) .nil))) (.cons (.bor 2) .nil))))
    (.seq (.set 8 (.call 5 0 (.cons (.op .idx (.cons (.bor 3) (.cons (.bor 5) .nil))) (.cons (.bor 2) .nil))))
    (.seq (.ifs (.op .gt (.cons (.op .mul (.cons (.op .idx (.cons (.bor 0) (.cons (.bor 6) .nil))) (.cons (.bor 8) .nil))) (.cons (.op .mul (.cons (.op .idx (.cons (.bor 0) (.cons (.bor 5) .nil))) (.cons (.bor 7) .nil))) .nil))) (.seq (.set 5 (.var 6))
     .skip) (.seq (.ifs (.and (.op .eq (.cons (.bor 7) (.cons (.cst (.int 0)) .nil))) (.and (.op .eq (.cons (.bor 8) (.cons (.cst (.int 0)) .nil))) (.op .gt (.cons (.op .idx (.cons (.bor 0) (.cons (.bor 6) .nil))) (.cons (.op .idx (.cons (.bor 0) (.cons (.bor 5) .nil))) .nil))))) (.seq (.set 5 (.var 6))
      .skip) .skip)
     .skip))
    .skip)))) [.s .fz (tw w n), s1, .s .fz (.str (wyS y)), .s .ow (.list (nsD f n)), s4, .s .fz (.int 0), s6, s7, s8] =
      .nx [.s .fz (tw w n), s1, .s .fz (.str (wyS y)), .s .ow (.list (nsD f n)), s4, .s .fz (.int (pos y w n f : Nat)), s6', s7', s8'] := by
  have n1 := h.n1
  have n8 := h.n8
  obtain ⟨ρ', ⟨s6', s7', s8', rfl⟩, e⟩ := forL_nx (bind := bindT (.one 6)) (body := evS (sem (fnsOf defs) (m + 1)) (.seq (.set 7 (.call 5 0 (.cons (.op .idx (.cons (.bor 3) (.cons (.bor 6) .nil))) (.cons (.bor 2) .nil))))
    (.seq (.set 8 (.call 5 0 (.cons (.op .idx (.cons (.bor 3) (.cons (.bor 5) .nil))) (.cons (.bor 2) .nil))))
    (.seq (.ifs (.op .gt (.cons (.op .mul (.cons (.op .idx (.cons (.bor 0) (.cons (.bor 6) .nil))) (.cons (.bor 8) .nil))) (.cons (.op .mul (.cons (.op .idx (.cons (.bor 0) (.cons (.bor 5) .nil))) (.cons (.bor 7) .nil))) .nil))) (.seq (.set 5 (.var 6))
     .skip) (.seq (.ifs (.and (.op .eq (.cons (.bor 7) (.cons (.cst (.int 0)) .nil))) (.and (.op .eq (.cons (.bor 8) (.cons (.cst (.int 0)) .nil))) (.op .gt (.cons (.op .idx (.cons (.bor 0) (.cons (.bor 6) .nil))) (.cons (.op .idx (.cons (.bor 0) (.cons (.bor 5) .nil))) .nil))))) (.seq (.set 5 (.var 6))
      .skip) .skip)
     .skip))
    .skip)))) ((List.range (n - 1)).map fun k : Nat => .int (1 + (k : Int)))
    (fun k ρ => ∃ s6 s7 s8, ρ = [.s .fz (tw w n), s1, .s .fz (.str (wyS y)), .s .ow (.list (nsD f n)), s4, .s .fz (.int (bst w (fun i => half y (f i)) k : Nat)), s6, s7, s8])
    (fun k hk ρ hρ => by
      obtain ⟨s6, s7, s8, rfl⟩ := hρ
      rw [List.getElem_map, List.getElem_range]
      have hk' : k < n - 1 := by simpa using hk
      have lb := K02P.bst_le w (fun i => half y (f i)) k
      have ek : (1 : Int) + (k : Int) = ((k + 1 : Nat) : Int) := by omega
      rw [ek]
      have i1 : idxD (nsD w n) (((k + 1 : Nat) : Int)) = some (.int (w (k + 1))) := nsD_idx w (by omega)
      have i2 : idxD (nsD f n) (((k + 1 : Nat) : Int)) = some (.int (f (k + 1))) := nsD_idx f (by omega)
      have w1 := h.w1 (k + 1) (by omega)
      have w2 := h.w2 (k + 1) (by omega)
      have nx : bst w (fun i => half y (f i)) (k + 1) = if better w (fun i => half y (f i)) (k + 1) (bst w (fun i => half y (f i)) k) = true then k + 1 else bst w (fun i => half y (f i)) k := rfl
      rw [nx]
      generalize bst w (fun i => half y (f i)) k = b at lb
      have i3 : idxD (nsD w n) ((b : Nat) : Int) = some (.int (w b)) := nsD_idx w (by omega)
      have i4 : idxD (nsD f n) ((b : Nat) : Int) = some (.int (f b)) := nsD_idx f (by omega)
      have w3 := h.w1 b (by omega)
      have w4 := h.w2 b (by omega)
      have q1 : (w (k + 1)).natAbs < 2 ^ 63 := by omega
      have q2 : (w b).natAbs < 2 ^ 63 := by omega
      have fin : ∀ X : Nat, (better w (fun i => half y (f i)) (k + 1) b = true → X = k + 1) → (better w (fun i => half y (f i)) (k + 1) b = false → X = b) → (if better w (fun i => half y (f i)) (k + 1) b = true then k + 1 else b) = X := fun X h1 h2 => by
        cases hb : better w (fun i => half y (f i)) (k + 1) b with
        | true => rw [if_pos rfl, h1 hb]
        | false => rw [if_neg (by decide), h2 hb]
      by_cases c1 : w (k + 1) * half y (f b) > w b * half y (f (k + 1))
      · rw [fin (k + 1) (fun _ => rfl) (fun z => by simp only [better, decide_eq_true c1, Bool.true_or] at z; cases z)]
        generalize ((k + 1 : Nat) : Int) = K at i1 i2
        refine ⟨_, [.s .fz (tw w n), s1, .s .fz (.str (wyS y)), .s .ow (.list (nsD f n)), s4, .s .fz (.int K), .s .fz (.int K), .s .fz (.int (half y (f (k + 1)))), .s .fz (.int (half y (f b)))], rfl, ?_, ⟨_, _, _, rfl⟩⟩
        simp [Mx.runFn, Mx.outsOf, Mx.giveBack, Mx.argK, Mx.evA, Mx.putS, Mx.mutS, Mx.cmpOpt, Mx.ev.eq_1, Mx.ev.eq_2, Mx.ev.eq_3, Mx.ev.eq_4, Mx.ev.eq_5, Mx.ev.eq_6, Mx.ev.eq_7, Mx.ev.eq_8, Mx.ev.eq_9, Mx.ev.eq_10, Mx.ev.eq_11, Mx.ev.eq_12, Mx.ev.eq_13, Mx.ev.eq_14, Mx.ev.eq_16, Mx.ev.eq_19, Mx.ev.eq_20, Mx.ev.eq_21, Mx.ev.eq_22, Mx.ev.eq_23, Mx.ev.eq_24, Mx.ev.eq_25, Mx.evS.eq_1, Mx.evS.eq_2, Mx.evS.eq_3, Mx.evS.eq_4, Mx.evS.eq_5, Mx.evS.eq_6, Mx.evS.eq_7, Mx.evS.eq_8, Mx.evS.eq_9, Mx.evS.eq_10, Mx.evS.eq_11, Mx.evS.eq_12, Mx.evS.eq_13, Mx.evS.eq_14, Mx.evS.eq_17, Mx.evS.eq_18, Mx.evS.eq_19, Mx.evS.eq_20, Mx.o_add, Mx.o_sub, Mx.o_mul, Mx.o_neg, Mx.o_eq, Mx.o_ne, Mx.o_lt, Mx.o_le, Mx.o_gt, Mx.o_ge, Mx.o_isN, Mx.o_notN, Mx.o_idxL, Mx.o_idxT, Mx.o_slToL, Mx.o_lenL, Mx.o_lenT, Mx.o_min2, Mx.o_max2, Mx.o_abs, Mx.o_int, Mx.o_tupL, Mx.o_tupT, Mx.o_listL, Mx.o_listT, Mx.o_isi, Mx.addD_int, Mx.eqD_ii, Mx.old, Mx.o_mod, Mx.o_fdv, Mx.ix0, Mx.ix1, Mx.ix2, i1, i2, i3, i4, claim_ok, mulD_l q1, mulD_l q2, c1]
      · by_cases c2 : half y (f (k + 1)) = 0 ∧ half y (f b) = 0 ∧ w (k + 1) > w b
        · rw [fin (k + 1) (fun _ => rfl) (fun z => by simp only [better, decide_eq_true c2.1, decide_eq_true c2.2.1, decide_eq_true c2.2.2, Bool.and_self, Bool.or_true] at z; cases z)]
          generalize ((k + 1 : Nat) : Int) = K at i1 i2
          refine ⟨_, [.s .fz (tw w n), s1, .s .fz (.str (wyS y)), .s .ow (.list (nsD f n)), s4, .s .fz (.int K), .s .fz (.int K), .s .fz (.int (half y (f (k + 1)))), .s .fz (.int (half y (f b)))], rfl, ?_, ⟨_, _, _, rfl⟩⟩
          obtain ⟨d1, d2, d3⟩ := c2
          simp [Mx.runFn, Mx.outsOf, Mx.giveBack, Mx.argK, Mx.evA, Mx.putS, Mx.mutS, Mx.cmpOpt, Mx.ev.eq_1, Mx.ev.eq_2, Mx.ev.eq_3, Mx.ev.eq_4, Mx.ev.eq_5, Mx.ev.eq_6, Mx.ev.eq_7, Mx.ev.eq_8, Mx.ev.eq_9, Mx.ev.eq_10, Mx.ev.eq_11, Mx.ev.eq_12, Mx.ev.eq_13, Mx.ev.eq_14, Mx.ev.eq_16, Mx.ev.eq_19, Mx.ev.eq_20, Mx.ev.eq_21, Mx.ev.eq_22, Mx.ev.eq_23, Mx.ev.eq_24, Mx.ev.eq_25, Mx.evS.eq_1, Mx.evS.eq_2, Mx.evS.eq_3, Mx.evS.eq_4, Mx.evS.eq_5, Mx.evS.eq_6, Mx.evS.eq_7, Mx.evS.eq_8, Mx.evS.eq_9, Mx.evS.eq_10, Mx.evS.eq_11, Mx.evS.eq_12, Mx.evS.eq_13, Mx.evS.eq_14, Mx.evS.eq_17, Mx.evS.eq_18, Mx.evS.eq_19, Mx.evS.eq_20, Mx.o_add, Mx.o_sub, Mx.o_mul, Mx.o_neg, Mx.o_eq, Mx.o_ne, Mx.o_lt, Mx.o_le, Mx.o_gt, Mx.o_ge, Mx.o_isN, Mx.o_notN, Mx.o_idxL, Mx.o_idxT, Mx.o_slToL, Mx.o_lenL, Mx.o_lenT, Mx.o_min2, Mx.o_max2, Mx.o_abs, Mx.o_int, Mx.o_tupL, Mx.o_tupT, Mx.o_listL, Mx.o_listT, Mx.o_isi, Mx.addD_int, Mx.eqD_ii, Mx.old, Mx.o_mod, Mx.o_fdv, Mx.ix0, Mx.ix1, Mx.ix2, i1, i2, i3, i4, claim_ok, mulD_l q1, mulD_l q2, c1, d1, d2, d3]
        · rw [fin b (fun z => by
            simp only [better, decide_eq_false c1, Bool.false_or, Bool.and_eq_true, decide_eq_true_eq] at z
            exact absurd z c2) (fun _ => rfl)]
          generalize ((k + 1 : Nat) : Int) = K at i1 i2
          refine ⟨_, [.s .fz (tw w n), s1, .s .fz (.str (wyS y)), .s .ow (.list (nsD f n)), s4, .s .fz (.int b), .s .fz (.int K), .s .fz (.int (half y (f (k + 1)))), .s .fz (.int (half y (f b)))], rfl, ?_, ⟨_, _, _, rfl⟩⟩
          by_cases d1 : half y (f (k + 1)) = 0
          · by_cases d2 : half y (f b) = 0
            · have d3 : ¬ w b < w (k + 1) := fun z => c2 ⟨d1, d2, z⟩
              simp [Mx.runFn, Mx.outsOf, Mx.giveBack, Mx.argK, Mx.evA, Mx.putS, Mx.mutS, Mx.cmpOpt, Mx.ev.eq_1, Mx.ev.eq_2, Mx.ev.eq_3, Mx.ev.eq_4, Mx.ev.eq_5, Mx.ev.eq_6, Mx.ev.eq_7, Mx.ev.eq_8, Mx.ev.eq_9, Mx.ev.eq_10, Mx.ev.eq_11, Mx.ev.eq_12, Mx.ev.eq_13, Mx.ev.eq_14, Mx.ev.eq_16, Mx.ev.eq_19, Mx.ev.eq_20, Mx.ev.eq_21, Mx.ev.eq_22, Mx.ev.eq_23, Mx.ev.eq_24, Mx.ev.eq_25, Mx.evS.eq_1, Mx.evS.eq_2, Mx.evS.eq_3, Mx.evS.eq_4, Mx.evS.eq_5, Mx.evS.eq_6, Mx.evS.eq_7, Mx.evS.eq_8, Mx.evS.eq_9, Mx.evS.eq_10, Mx.evS.eq_11, Mx.evS.eq_12, Mx.evS.eq_13, Mx.evS.eq_14, Mx.evS.eq_17, Mx.evS.eq_18, Mx.evS.eq_19, Mx.evS.eq_20, Mx.o_add, Mx.o_sub, Mx.o_mul, Mx.o_neg, Mx.o_eq, Mx.o_ne, Mx.o_lt, Mx.o_le, Mx.o_gt, Mx.o_ge, Mx.o_isN, Mx.o_notN, Mx.o_idxL, Mx.o_idxT, Mx.o_slToL, Mx.o_lenL, Mx.o_lenT, Mx.o_min2, Mx.o_max2, Mx.o_abs, Mx.o_int, Mx.o_tupL, Mx.o_tupT, Mx.o_listL, Mx.o_listT, Mx.o_isi, Mx.addD_int, Mx.eqD_ii, Mx.old, Mx.o_mod, Mx.o_fdv, Mx.ix0, Mx.ix1, Mx.ix2, i1, i2, i3, i4, claim_ok, mulD_l q1, mulD_l q2, c1, d1, d2, d3]
            · have c1' : ¬ 0 < w (k + 1) * half y (f b) := by rw [d1, Int.mul_zero] at c1; exact c1
              simp [Mx.runFn, Mx.outsOf, Mx.giveBack, Mx.argK, Mx.evA, Mx.putS, Mx.mutS, Mx.cmpOpt, Mx.ev.eq_1, Mx.ev.eq_2, Mx.ev.eq_3, Mx.ev.eq_4, Mx.ev.eq_5, Mx.ev.eq_6, Mx.ev.eq_7, Mx.ev.eq_8, Mx.ev.eq_9, Mx.ev.eq_10, Mx.ev.eq_11, Mx.ev.eq_12, Mx.ev.eq_13, Mx.ev.eq_14, Mx.ev.eq_16, Mx.ev.eq_19, Mx.ev.eq_20, Mx.ev.eq_21, Mx.ev.eq_22, Mx.ev.eq_23, Mx.ev.eq_24, Mx.ev.eq_25, Mx.evS.eq_1, Mx.evS.eq_2, Mx.evS.eq_3, Mx.evS.eq_4, Mx.evS.eq_5, Mx.evS.eq_6, Mx.evS.eq_7, Mx.evS.eq_8, Mx.evS.eq_9, Mx.evS.eq_10, Mx.evS.eq_11, Mx.evS.eq_12, Mx.evS.eq_13, Mx.evS.eq_14, Mx.evS.eq_17, Mx.evS.eq_18, Mx.evS.eq_19, Mx.evS.eq_20, Mx.o_add, Mx.o_sub, Mx.o_mul, Mx.o_neg, Mx.o_eq, Mx.o_ne, Mx.o_lt, Mx.o_le, Mx.o_gt, Mx.o_ge, Mx.o_isN, Mx.o_notN, Mx.o_idxL, Mx.o_idxT, Mx.o_slToL, Mx.o_lenL, Mx.o_lenT, Mx.o_min2, Mx.o_max2, Mx.o_abs, Mx.o_int, Mx.o_tupL, Mx.o_tupT, Mx.o_listL, Mx.o_listT, Mx.o_isi, Mx.addD_int, Mx.eqD_ii, Mx.old, Mx.o_mod, Mx.o_fdv, Mx.ix0, Mx.ix1, Mx.ix2, i1, i2, i3, i4, claim_ok, mulD_l q1, mulD_l q2, c1', d1, d2]
          · simp [Mx.runFn, Mx.outsOf, Mx.giveBack, Mx.argK, Mx.evA, Mx.putS, Mx.mutS, Mx.cmpOpt, Mx.ev.eq_1, Mx.ev.eq_2, Mx.ev.eq_3, Mx.ev.eq_4, Mx.ev.eq_5, Mx.ev.eq_6, Mx.ev.eq_7, Mx.ev.eq_8, Mx.ev.eq_9, Mx.ev.eq_10, Mx.ev.eq_11, Mx.ev.eq_12, Mx.ev.eq_13, Mx.ev.eq_14, Mx.ev.eq_16, Mx.ev.eq_19, Mx.ev.eq_20, Mx.ev.eq_21, Mx.ev.eq_22, Mx.ev.eq_23, Mx.ev.eq_24, Mx.ev.eq_25, Mx.evS.eq_1, Mx.evS.eq_2, Mx.evS.eq_3, Mx.evS.eq_4, Mx.evS.eq_5, Mx.evS.eq_6, Mx.evS.eq_7, Mx.evS.eq_8, Mx.evS.eq_9, Mx.evS.eq_10, Mx.evS.eq_11, Mx.evS.eq_12, Mx.evS.eq_13, Mx.evS.eq_14, Mx.evS.eq_17, Mx.evS.eq_18, Mx.evS.eq_19, Mx.evS.eq_20, Mx.o_add, Mx.o_sub, Mx.o_mul, Mx.o_neg, Mx.o_eq, Mx.o_ne, Mx.o_lt, Mx.o_le, Mx.o_gt, Mx.o_ge, Mx.o_isN, Mx.o_notN, Mx.o_idxL, Mx.o_idxT, Mx.o_slToL, Mx.o_lenL, Mx.o_lenT, Mx.o_min2, Mx.o_max2, Mx.o_abs, Mx.o_int, Mx.o_tupL, Mx.o_tupT, Mx.o_listL, Mx.o_listT, Mx.o_isi, Mx.addD_int, Mx.eqD_ii, Mx.old, Mx.o_mod, Mx.o_fdv, Mx.ix0, Mx.ix1, Mx.ix2, i1, i2, i3, i4, claim_ok, mulD_l q1, mulD_l q2, c1, d1])
    [.s .fz (tw w n), s1, .s .fz (.str (wyS y)), .s .ow (.list (nsD f n)), s4, .s .fz (.int 0), s6, s7, s8] ⟨s6, s7, s8, rfl⟩
  have c1 : (n : Int) ≤ 1152921504606846976 := by omega
  have r1 := range_ok (T := n) (by omega)
  have hl : opD .len [tw w n] = some (false, .int n) := by rw [o_lenT, nsD_len]
  have et : ((n : Int) - 1).toNat = n - 1 := by omega
  simp only [List.length_map, List.length_range] at e
  exact ⟨s6', s7', s8', evS_for (fr := false) (by simp [Mx.runFn, Mx.outsOf, Mx.giveBack, Mx.argK, Mx.evA, Mx.putS, Mx.mutS, Mx.cmpOpt, Mx.ev.eq_1, Mx.ev.eq_2, Mx.ev.eq_3, Mx.ev.eq_4, Mx.ev.eq_5, Mx.ev.eq_6, Mx.ev.eq_7, Mx.ev.eq_8, Mx.ev.eq_9, Mx.ev.eq_10, Mx.ev.eq_11, Mx.ev.eq_12, Mx.ev.eq_13, Mx.ev.eq_14, Mx.ev.eq_16, Mx.ev.eq_19, Mx.ev.eq_20, Mx.ev.eq_21, Mx.ev.eq_22, Mx.ev.eq_23, Mx.ev.eq_24, Mx.ev.eq_25, Mx.evS.eq_1, Mx.evS.eq_2, Mx.evS.eq_3, Mx.evS.eq_4, Mx.evS.eq_5, Mx.evS.eq_6, Mx.evS.eq_7, Mx.evS.eq_8, Mx.evS.eq_9, Mx.evS.eq_10, Mx.evS.eq_11, Mx.evS.eq_12, Mx.evS.eq_13, Mx.evS.eq_14, Mx.evS.eq_17, Mx.evS.eq_18, Mx.evS.eq_19, Mx.evS.eq_20, Mx.o_add, Mx.o_sub, Mx.o_mul, Mx.o_neg, Mx.o_eq, Mx.o_ne, Mx.o_lt, Mx.o_le, Mx.o_gt, Mx.o_ge, Mx.o_isN, Mx.o_notN, Mx.o_idxL, Mx.o_idxT, Mx.o_slToL, Mx.o_lenL, Mx.o_lenT, Mx.o_min2, Mx.o_max2, Mx.o_abs, Mx.o_int, Mx.o_tupL, Mx.o_tupT, Mx.o_listL, Mx.o_listT, Mx.o_isi, Mx.addD_int, Mx.eqD_ii, Mx.old, Mx.o_mod, Mx.o_fdv, Mx.ix0, Mx.ix1, Mx.ix2, hl, r1, et]) e rfl⟩
theorem rep_ok {n : Nat} (h : n ≤ 8) {x : D} : -(2 ^ 62) ≤ (n : Int) ∧ (n : Int) < 2 ^ 62 ∧ [x].length * (n : Int).toNat ≤ line := by
  refine ⟨by omega, by omega, ?_⟩
  rw [Int.toNat_natCast]
  exact len_ok (by simp; omega)
theorem rep0 (F : FnSem) {w : Nat → Int} {n : Nat} (h : n ≤ 8) (rest : Rho) : ev F (.rep (.lst (.cons (.cst (.int 0)) .nil)) (.op .len (.cons (.bor 0) .nil))) (.s .fz (tw w n) :: rest) = .ok true (.list (nsD (fun _ => 0) n)) (.s .fz (tw w n) :: rest) := by
  have er := ev_rep (F := F) (a := .lst (.cons (.cst (.int 0)) .nil)) (n := .op .len (.cons (.bor 0) .nil)) (ρ := .s .fz (tw w n) :: rest) (ρ1 := .s .fz (tw w n) :: rest) (ρ2 := .s .fz (tw w n) :: rest) (ds := [.int 0]) (k := n) (fr := false) (by simp [Mx.runFn, Mx.outsOf, Mx.giveBack, Mx.argK, Mx.evA, Mx.putS, Mx.mutS, Mx.cmpOpt, Mx.ev.eq_1, Mx.ev.eq_2, Mx.ev.eq_3, Mx.ev.eq_4, Mx.ev.eq_5, Mx.ev.eq_6, Mx.ev.eq_7, Mx.ev.eq_8, Mx.ev.eq_9, Mx.ev.eq_10, Mx.ev.eq_11, Mx.ev.eq_12, Mx.ev.eq_13, Mx.ev.eq_14, Mx.ev.eq_16, Mx.ev.eq_19, Mx.ev.eq_20, Mx.ev.eq_21, Mx.ev.eq_22, Mx.ev.eq_23, Mx.ev.eq_24, Mx.ev.eq_25, Mx.evS.eq_1, Mx.evS.eq_2, Mx.evS.eq_3, Mx.evS.eq_4, Mx.evS.eq_5, Mx.evS.eq_6, Mx.evS.eq_7, Mx.evS.eq_8, Mx.evS.eq_9, Mx.evS.eq_10, Mx.evS.eq_11, Mx.evS.eq_12, Mx.evS.eq_13, Mx.evS.eq_14, Mx.evS.eq_17, Mx.evS.eq_18, Mx.evS.eq_19, Mx.evS.eq_20, Mx.o_add, Mx.o_sub, Mx.o_mul, Mx.o_neg, Mx.o_eq, Mx.o_ne, Mx.o_lt, Mx.o_le, Mx.o_gt, Mx.o_ge, Mx.o_isN, Mx.o_notN, Mx.o_idxL, Mx.o_idxT, Mx.o_slToL, Mx.o_lenL, Mx.o_lenT, Mx.o_min2, Mx.o_max2, Mx.o_abs, Mx.o_int, Mx.o_tupL, Mx.o_tupT, Mx.o_listL, Mx.o_listT, Mx.o_isi, Mx.addD_int, Mx.eqD_ii, Mx.old, Mx.o_mod, Mx.o_fdv, Mx.ix0, Mx.ix1, Mx.ix2]) (by simp [Mx.runFn, Mx.outsOf, Mx.giveBack, Mx.argK, Mx.evA, Mx.putS, Mx.mutS, Mx.cmpOpt, Mx.ev.eq_1, Mx.ev.eq_2, Mx.ev.eq_3, Mx.ev.eq_4, Mx.ev.eq_5, Mx.ev.eq_6, Mx.ev.eq_7, Mx.ev.eq_8, Mx.ev.eq_9, Mx.ev.eq_10, Mx.ev.eq_11, Mx.ev.eq_12, Mx.ev.eq_13, Mx.ev.eq_14, Mx.ev.eq_16, Mx.ev.eq_19, Mx.ev.eq_20, Mx.ev.eq_21, Mx.ev.eq_22, Mx.ev.eq_23, Mx.ev.eq_24, Mx.ev.eq_25, Mx.evS.eq_1, Mx.evS.eq_2, Mx.evS.eq_3, Mx.evS.eq_4, Mx.evS.eq_5, Mx.evS.eq_6, Mx.evS.eq_7, Mx.evS.eq_8, Mx.evS.eq_9, Mx.evS.eq_10, Mx.evS.eq_11, Mx.evS.eq_12, Mx.evS.eq_13, Mx.evS.eq_14, Mx.evS.eq_17, Mx.evS.eq_18, Mx.evS.eq_19, Mx.evS.eq_20, Mx.o_add, Mx.o_sub, Mx.o_mul, Mx.o_neg, Mx.o_eq, Mx.o_ne, Mx.o_lt, Mx.o_le, Mx.o_gt, Mx.o_ge, Mx.o_isN, Mx.o_notN, Mx.o_idxL, Mx.o_idxT, Mx.o_slToL, Mx.o_lenL, Mx.o_lenT, Mx.o_min2, Mx.o_max2, Mx.o_abs, Mx.o_int, Mx.o_tupL, Mx.o_tupT, Mx.o_listL, Mx.o_listT, Mx.o_isi, Mx.addD_int, Mx.eqD_ii, Mx.old, Mx.o_mod, Mx.o_fdv, Mx.ix0, Mx.ix1, Mx.ix2, nsD_len]) (rep_ok h)
  rw [nsD_rep] at er
  exact er
theorem agi_idx {f : Nat → Int} {n b : Nat} (h : b < n) : idxD (nsD f n) (b : Int) = some (.int (f b)) := nsD_idx f h
/-- by_divisors -/
theorem div_loop (m : Nat) {w : Nat → Int} {n : Nat} (h : OkW w n) (y : Wy) (u : Nat) (hu : u ≤ 1000) : ∃ s4 s5 s6 s7 s8, evS (sem (fnsOf defs) (m + 1)) c_by_divisors [.s .fz (tw w n), .s .fz (.int u), .s .fz (.str (wyS y)), .no, .no, .no, .no, .no, .no] = .rt true (.list (nsD (dv y w n u) n)) [.s .fz (tw w n), .s .fz (.int u), .s .fz (.str (wyS y)), .no, s4, s5, s6, s7, s8] := by
  obtain ⟨ρ', ⟨s4, s5, s6, s7, s8, rfl⟩, e⟩ := forL_nx (bind := bindT (.one 4)) (body := evS (sem (fnsOf defs) (m + 1)) (.seq (.set 5 (.cst (.int 0)))
   (.seq (.for1 (.one 6) (.irng2 (.cst (.int 1)) (.op .len (.cons (.bor 0) .nil))) (.seq (.set 7 (.call 5 0 (.cons (.op .idx (.cons (.bor 3) (.cons (.bor 6) .nil))) (.cons (.bor 2) .nil))))
    (.seq (.set 8 (.call 5 0 (.cons (.op .idx (.cons (.bor 3) (.cons (.bor 5) .nil))) (.cons (.bor 2) .nil))))
    (.seq (.ifs (.op .gt (.cons (.op .mul (.cons (.op .idx (.cons (.bor 0) (.cons (.bor 6) .nil))) (.cons (.bor 8) .nil))) (.cons (.op .mul (.cons (.op .idx (.cons (.bor 0) (.cons (.bor 5) .nil))) (.cons (.bor 7) .nil))) .nil))) (.seq (.set 5 (.var 6))
     .skip) (.seq (.ifs (.and (.op .eq (.cons (.bor 7) (.cons (.cst (.int 0)) .nil))) (.and (.op .eq (.cons (.bor 8) (.cons (.cst (.int 0)) .nil))) (.op .gt (.cons (.op .idx (.cons (.bor 0) (.cons (.bor 6) .nil))) (.cons (.op .idx (.cons (.bor 0) (.cons (.bor 5) .nil))) .nil))))) (.seq (.set 5 (.var 6))
      .skip) .skip)
     .skip))
    .skip))))
   (.seq (.agi 3 (.var 5) .add (.cst (.int 1)))
   .skip)))) ((List.range u).map fun k : Nat => .int (k : Int))
    (fun k ρ => ∃ s4 s5 s6 s7 s8, ρ = [.s .fz (tw w n), .s .fz (.int u), .s .fz (.str (wyS y)), .s .ow (.list (nsD (dv y w n k) n)), s4, s5, s6, s7, s8])
    (fun k hk ρ hρ => by
      obtain ⟨s4, s5, s6, s7, s8, rfl⟩ := hρ
      obtain ⟨t6, t7, t8, ei⟩ := inner_ok m h y (dv y w n k) (.s .fz (.int u)) (.s .fz (((List.range u).map fun k : Nat => PyData.int (k : Int))[k])) s6 s7 s8
      have hp := K02P.pos_lt y w n h.n1 (dv y w n k)
      have nx : dv y w n (k + 1) = updf (dv y w n k) (pos y w n (dv y w n k)) (dv y w n k (pos y w n (dv y w n k)) + 1) := rfl
      rw [nx]
      generalize pos y w n (dv y w n k) = b at hp ei
      have i1 := nsD_idx (dv y w n k) hp
      have i2 := nsD_setD (dv y w n k) hp (dv y w n k b + 1)
      refine ⟨_, [.s .fz (tw w n), .s .fz (.int u), .s .fz (.str (wyS y)), .s .ow (.list (nsD (updf (dv y w n k) b (dv y w n k b + 1)) n)), .s .fz (((List.range u).map fun k : Nat => PyData.int (k : Int))[k]), .s .fz (.int b), t6, t7, t8], rfl, ?_, ⟨_, _, _, _, _, rfl⟩⟩
      generalize ((List.range u).map fun k : Nat => PyData.int (k : Int))[k] = kk at ei
      simp [Mx.runFn, Mx.outsOf, Mx.giveBack, Mx.argK, Mx.evA, Mx.putS, Mx.mutS, Mx.cmpOpt, Mx.ev.eq_1, Mx.ev.eq_2, Mx.ev.eq_3, Mx.ev.eq_4, Mx.ev.eq_5, Mx.ev.eq_6, Mx.ev.eq_7, Mx.ev.eq_8, Mx.ev.eq_9, Mx.ev.eq_10, Mx.ev.eq_11, Mx.ev.eq_12, Mx.ev.eq_13, Mx.ev.eq_14, Mx.ev.eq_16, Mx.ev.eq_19, Mx.ev.eq_20, Mx.ev.eq_21, Mx.ev.eq_22, Mx.ev.eq_23, Mx.ev.eq_24, Mx.ev.eq_25, Mx.evS.eq_1, Mx.evS.eq_2, Mx.evS.eq_3, Mx.evS.eq_4, Mx.evS.eq_5, Mx.evS.eq_6, Mx.evS.eq_7, Mx.evS.eq_8, Mx.evS.eq_9, Mx.evS.eq_10, Mx.evS.eq_11, Mx.evS.eq_12, Mx.evS.eq_13, Mx.evS.eq_14, Mx.evS.eq_17, Mx.evS.eq_18, Mx.evS.eq_19, Mx.evS.eq_20, Mx.o_add, Mx.o_sub, Mx.o_mul, Mx.o_neg, Mx.o_eq, Mx.o_ne, Mx.o_lt, Mx.o_le, Mx.o_gt, Mx.o_ge, Mx.o_isN, Mx.o_notN, Mx.o_idxL, Mx.o_idxT, Mx.o_slToL, Mx.o_lenL, Mx.o_lenT, Mx.o_min2, Mx.o_max2, Mx.o_abs, Mx.o_int, Mx.o_tupL, Mx.o_tupT, Mx.o_listL, Mx.o_listT, Mx.o_isi, Mx.addD_int, Mx.eqD_ii, Mx.old, Mx.o_mod, Mx.o_fdv, Mx.ix0, Mx.ix1, Mx.ix2, ei, i1, i2])
    [.s .fz (tw w n), .s .fz (.int u), .s .fz (.str (wyS y)), .s .ow (.list (nsD (fun _ => 0) n)), .no, .no, .no, .no, .no] ⟨_, _, _, _, _, rfl⟩
  have ri := range_ok (T := u) (by omega)
  simp only [List.length_map, List.length_range] at e
  have e' := evS_for (it := .irng (.var 1)) (ρ := [.s .fz (tw w n), .s .fz (.int u), .s .fz (.str (wyS y)), .s .ow (.list (nsD (fun _ => 0) n)), .no, .no, .no, .no, .no]) (ρ1 := [.s .fz (tw w n), .s .fz (.int u), .s .fz (.str (wyS y)), .s .ow (.list (nsD (fun _ => 0) n)), .no, .no, .no, .no, .no]) (fr := false) (by simp [Mx.runFn, Mx.outsOf, Mx.giveBack, Mx.argK, Mx.evA, Mx.putS, Mx.mutS, Mx.cmpOpt, Mx.ev.eq_1, Mx.ev.eq_2, Mx.ev.eq_3, Mx.ev.eq_4, Mx.ev.eq_5, Mx.ev.eq_6, Mx.ev.eq_7, Mx.ev.eq_8, Mx.ev.eq_9, Mx.ev.eq_10, Mx.ev.eq_11, Mx.ev.eq_12, Mx.ev.eq_13, Mx.ev.eq_14, Mx.ev.eq_16, Mx.ev.eq_19, Mx.ev.eq_20, Mx.ev.eq_21, Mx.ev.eq_22, Mx.ev.eq_23, Mx.ev.eq_24, Mx.ev.eq_25, Mx.evS.eq_1, Mx.evS.eq_2, Mx.evS.eq_3, Mx.evS.eq_4, Mx.evS.eq_5, Mx.evS.eq_6, Mx.evS.eq_7, Mx.evS.eq_8, Mx.evS.eq_9, Mx.evS.eq_10, Mx.evS.eq_11, Mx.evS.eq_12, Mx.evS.eq_13, Mx.evS.eq_14, Mx.evS.eq_17, Mx.evS.eq_18, Mx.evS.eq_19, Mx.evS.eq_20, Mx.o_add, Mx.o_sub, Mx.o_mul, Mx.o_neg, Mx.o_eq, Mx.o_ne, Mx.o_lt, Mx.o_le, Mx.o_gt, Mx.o_ge, Mx.o_isN, Mx.o_notN, Mx.o_idxL, Mx.o_idxT, Mx.o_slToL, Mx.o_lenL, Mx.o_lenT, Mx.o_min2, Mx.o_max2, Mx.o_abs, Mx.o_int, Mx.o_tupL, Mx.o_tupT, Mx.o_listL, Mx.o_listT, Mx.o_isi, Mx.addD_int, Mx.eqD_ii, Mx.old, Mx.o_mod, Mx.o_fdv, Mx.ix0, Mx.ix1, Mx.ix2, ri]) e rfl
  have hl : opD .len [tw w n] = some (false, .int n) := by rw [o_lenT, nsD_len]
  have e1 : evS (sem (fnsOf defs) (m + 1)) (.set 3 (.rep (.lst (.cons (.cst (.int 0)) .nil)) (.op .len (.cons (.bor 0) .nil)))) [.s .fz (tw w n), .s .fz (.int u), .s .fz (.str (wyS y)), .no, .no, .no, .no, .no, .no] = .nx [.s .fz (tw w n), .s .fz (.int u), .s .fz (.str (wyS y)), .s .ow (.list (nsD (fun _ => 0) n)), .no, .no, .no, .no, .no] := by
    simp [Mx.runFn, Mx.outsOf, Mx.giveBack, Mx.argK, Mx.evA, Mx.putS, Mx.mutS, Mx.cmpOpt, Mx.ev.eq_1, Mx.ev.eq_2, Mx.ev.eq_3, Mx.ev.eq_4, Mx.ev.eq_5, Mx.ev.eq_6, Mx.ev.eq_7, Mx.ev.eq_8, Mx.ev.eq_9, Mx.ev.eq_10, Mx.ev.eq_11, Mx.ev.eq_12, Mx.ev.eq_13, Mx.ev.eq_14, Mx.ev.eq_16, Mx.ev.eq_19, Mx.ev.eq_20, Mx.ev.eq_21, Mx.ev.eq_22, Mx.ev.eq_23, Mx.ev.eq_24, Mx.ev.eq_25, Mx.evS.eq_1, Mx.evS.eq_2, Mx.evS.eq_3, Mx.evS.eq_4, Mx.evS.eq_5, Mx.evS.eq_6, Mx.evS.eq_7, Mx.evS.eq_8, Mx.evS.eq_9, Mx.evS.eq_10, Mx.evS.eq_11, Mx.evS.eq_12, Mx.evS.eq_13, Mx.evS.eq_14, Mx.evS.eq_17, Mx.evS.eq_18, Mx.evS.eq_19, Mx.evS.eq_20, Mx.o_add, Mx.o_sub, Mx.o_mul, Mx.o_neg, Mx.o_eq, Mx.o_ne, Mx.o_lt, Mx.o_le, Mx.o_gt, Mx.o_ge, Mx.o_isN, Mx.o_notN, Mx.o_idxL, Mx.o_idxT, Mx.o_slToL, Mx.o_lenL, Mx.o_lenT, Mx.o_min2, Mx.o_max2, Mx.o_abs, Mx.o_int, Mx.o_tupL, Mx.o_tupT, Mx.o_listL, Mx.o_listT, Mx.o_isi, Mx.addD_int, Mx.eqD_ii, Mx.old, Mx.o_mod, Mx.o_fdv, Mx.ix0, Mx.ix1, Mx.ix2, rep0 _ h.n8]
  refine ⟨s4, s5, s6, s7, s8, ?_⟩
  refine evS_seq e1 (evS_seq e' ?_)
  simp [Mx.runFn, Mx.outsOf, Mx.giveBack, Mx.argK, Mx.evA, Mx.putS, Mx.mutS, Mx.cmpOpt, Mx.ev.eq_1, Mx.ev.eq_2, Mx.ev.eq_3, Mx.ev.eq_4, Mx.ev.eq_5, Mx.ev.eq_6, Mx.ev.eq_7, Mx.ev.eq_8, Mx.ev.eq_9, Mx.ev.eq_10, Mx.ev.eq_11, Mx.ev.eq_12, Mx.ev.eq_13, Mx.ev.eq_14, Mx.ev.eq_16, Mx.ev.eq_19, Mx.ev.eq_20, Mx.ev.eq_21, Mx.ev.eq_22, Mx.ev.eq_23, Mx.ev.eq_24, Mx.ev.eq_25, Mx.evS.eq_1, Mx.evS.eq_2, Mx.evS.eq_3, Mx.evS.eq_4, Mx.evS.eq_5, Mx.evS.eq_6, Mx.evS.eq_7, Mx.evS.eq_8, Mx.evS.eq_9, Mx.evS.eq_10, Mx.evS.eq_11, Mx.evS.eq_12, Mx.evS.eq_13, Mx.evS.eq_14, Mx.evS.eq_17, Mx.evS.eq_18, Mx.evS.eq_19, Mx.evS.eq_20, Mx.o_add, Mx.o_sub, Mx.o_mul, Mx.o_neg, Mx.o_eq, Mx.o_ne, Mx.o_lt, Mx.o_le, Mx.o_gt, Mx.o_ge, Mx.o_isN, Mx.o_notN, Mx.o_idxL, Mx.o_idxT, Mx.o_slToL, Mx.o_lenL, Mx.o_lenT, Mx.o_min2, Mx.o_max2, Mx.o_abs, Mx.o_int, Mx.o_tupL, Mx.o_tupT, Mx.o_listL, Mx.o_listT, Mx.o_isi, Mx.addD_int, Mx.eqD_ii, Mx.old, Mx.o_mod, Mx.o_fdv, Mx.ix0, Mx.ix1, Mx.ix2]
theorem div_ok (m : Nat) {w : Nat → Int} {n : Nat} (h : OkW w n) (y : Wy) (u : Nat) (hu : u ≤ 1000) : sem (fnsOf defs) (m + 2) 6 [.s .fz (tw w n), .s .fz (.int u), .s .fz (.str (wyS y))] = .ok true (.list (nsD (dv y w n u) n)) [.s .fz (tw w n), .s .fz (.int u), .s .fz (.str (wyS y))] := by
  obtain ⟨s4, s5, s6, s7, s8, e⟩ := div_loop m h y u hu
  rw [sem_succ, f6]
  exact runFn_rt rfl e rfl
end K02
end

section
set_option maxRecDepth 100000
set_option linter.all false
set_option maxHeartbeats 2000000
namespace K02
open Mx PySem L2
open K02P (Wy half updf S quo rmd shR rank dv pos step better bst)
open K00P (psum)
def ls1 : Sc := (.unp [5, 6] (.tup (.cons (.op .lrng (.cons (.op .len (.cons (.bor 0) .nil)) .nil)) (.cons (.op .sum (.cons (.bor 0) .nil)) .nil))))
def ls2 : Sc := (.ifs (.op .eq (.cons (.bor 2) (.cons (.cst (.str "remainders")) .nil))) (.seq (.set 3 (.comp (.op .fdv (.cons (.op .mul (.cons (.bor 14) (.cons (.bor 1) .nil))) (.cons (.bor 6) .nil))) (.one 14) [14] (.iseq (.bor 0)) .nil))
   (.seq (.set 7 (.op .sub (.cons (.bor 1) (.cons (.op .sum (.cons (.bor 3) .nil)) .nil))))
   (.seq (.for1 (.one 8) (.iseq (.bor 5)) (.seq (.set 10 (.op .mod (.cons (.op .mul (.cons (.op .idx (.cons (.bor 0) (.cons (.bor 8) .nil))) (.cons (.bor 1) .nil))) (.cons (.bor 6) .nil))))
    (.seq (.set 11 (.comp (.var 13) (.one 13) [13] (.iseq (.bor 5)) (.op .lt (.cons (.tup (.cons (.op .sub (.cons (.cst (.int 0)) (.cons (.op .mod (.cons (.op .mul (.cons (.op .idx (.cons (.bor 0) (.cons (.bor 13) .nil))) (.cons (.bor 1) .nil))) (.cons (.bor 6) .nil))) .nil))) (.cons (.var 13) .nil))) (.cons (.tup (.cons (.op .sub (.cons (.cst (.int 0)) (.cons (.bor 10) .nil))) (.cons (.var 8) .nil))) .nil)))))
    (.seq (.sti 3 (.var 8) (.op .add (.cons (.op .idx (.cons (.bor 3) (.cons (.bor 8) .nil))) (.cons (.ife (.op .lt (.cons (.op .len (.cons (.bor 11) .nil)) (.cons (.bor 7) .nil))) (.cst (.int 1)) (.cst (.int 0))) .nil))))
    .skip))))
   (.seq (.rown 3)
   .skip)))) .skip)
def ls3 : Sc := (.set 3 (.rep (.lst (.cons (.cst (.int 0)) .nil)) (.op .len (.cons (.bor 0) .nil))))
def ls4 : Sc := (.for1 (.one 4) (.irng (.var 1)) (.seq (.set 9 (.cst .none))
   (.seq (.for1 (.one 8) (.iseq (.bor 5)) (.seq (.set 12 (.call 16 0 (.cons (.op .idx (.cons (.bor 3) (.cons (.bor 8) .nil))) (.cons (.bor 2) .nil))))
    (.seq (.set 13 (.tup (.cons (.op .idx (.cons (.bor 0) (.cons (.bor 8) .nil))) (.cons (.var 12) .nil))))
    (.seq (.ifs (.or (.op .isN (.cons (.bor 9) .nil)) (.call 17 0 (.cons (.bor 13) (.cons (.bor 9) .nil)))) (.seq (.set 9 (.op .add (.cons (.bor 13) (.cons (.tup (.cons (.var 8) .nil)) .nil))))
     .skip) .skip)
    .skip))))
   (.seq (.sti 3 (.op .idx (.cons (.bor 9) (.cons (.cst (.int 2)) .nil))) (.op .add (.cons (.op .idx (.cons (.bor 3) (.cons (.op .idx (.cons (.bor 9) (.cons (.cst (.int 2)) .nil))) .nil))) (.cons (.cst (.int 1)) .nil))))
   .skip))))
def ls5 : Sc := (.rown 3)
theorem ls_eq : c__law_share = .seq ls1 (.seq ls2 (.seq ls3 (.seq ls4 (.seq ls5 (.skip))))) := rfl


def bestD (w h : Nat → Int) : Nat → D
  | 0 => .none
  | k + 1 => .tuple [.int (w (bst w h k)), .int (h (bst w h k)), .int (bst w h k : Nat)]
theorem isN_best (w h : Nat → Int) (k : Nat) : isNoD (bestD w h k) = decide (k = 0) := by cases k <;> rfl
theorem ls_inner (m : Nat) {w : Nat → Int} {n : Nat} (h : OkW w n) (y : Wy) (f : Nat → Int) (hf : ∀ i, 0 ≤ f i) (u : Nat) (s4 s6 s8 s12 s13 : Mx.Slot) : ∃ s8' s12' s13',
    evS (sem (fnsOf defs) (m + 1)) (.for1 (.one 8) (.iseq (.bor 5)) (.seq (.set 12 (.call 16 0 (.cons (.op .idx (.cons (.bor 3) (.cons (.bor 8) .nil))) (.cons (.bor 2) .nil))))
    (.seq (.set 13 (.tup (.cons (.op .idx (.cons (.bor 0) (.cons (.bor 8) .nil))) (.cons (.var 12) .nil))))
    (.seq (.ifs (.or (.op .isN (.cons (.bor 9) .nil)) (.call 17 0 (.cons (.bor 13) (.cons (.bor 9) .nil)))) (.seq (.set 9 (.op .add (.cons (.bor 13) (.cons (.tup (.cons (.var 8) .nil)) .nil))))
     .skip) .skip)
    .skip)))) [.s .fz (tw w n), .s .fz (.int u), .s .fz (.str (wyS y)), .s .ow (.list (nsD f n)), s4, .s .fz (.list (nsD (fun k => (k : Int)) n)), s6, .no, s8, .s .fz (.none), .no, .no, s12, s13, .no] = .nx [.s .fz (tw w n), .s .fz (.int u), .s .fz (.str (wyS y)), .s .ow (.list (nsD f n)), s4, .s .fz (.list (nsD (fun k => (k : Int)) n)), s6, .no, s8', .s .fz (bestD w (fun i => half y (f i)) n), .no, .no, s12', s13', .no] := by
  have n1 := h.n1
  have n8 := h.n8
  obtain ⟨ρ', ⟨s8', s12', s13', rfl⟩, e⟩ := forL_nx (bind := bindT (.one 8)) (body := evS (sem (fnsOf defs) (m + 1)) (.seq (.set 12 (.call 16 0 (.cons (.op .idx (.cons (.bor 3) (.cons (.bor 8) .nil))) (.cons (.bor 2) .nil))))
    (.seq (.set 13 (.tup (.cons (.op .idx (.cons (.bor 0) (.cons (.bor 8) .nil))) (.cons (.var 12) .nil))))
    (.seq (.ifs (.or (.op .isN (.cons (.bor 9) .nil)) (.call 17 0 (.cons (.bor 13) (.cons (.bor 9) .nil)))) (.seq (.set 9 (.op .add (.cons (.bor 13) (.cons (.tup (.cons (.var 8) .nil)) .nil))))
     .skip) .skip)
    .skip)))) (nsD (fun k => (k : Int)) n)
    (fun k ρ => ∃ s8 s12 s13, ρ = [.s .fz (tw w n), .s .fz (.int u), .s .fz (.str (wyS y)), .s .ow (.list (nsD f n)), s4, .s .fz (.list (nsD (fun k => (k : Int)) n)), s6, .no, s8, .s .fz (bestD w (fun i => half y (f i)) k), .no, .no, s12, s13, .no])
    (fun k hk ρ hρ => by
      obtain ⟨s8, s12, s13, rfl⟩ := hρ
      have hk' : k < n := by rw [nsD_len] at hk; exact hk
      rw [nsD_get]
      have i1 : idxD (nsD w n) (k : Int) = some (.int (w k)) := nsD_idx w hk'
      have i2 : idxD (nsD f n) (k : Int) = some (.int (f k)) := nsD_idx f hk'
      have ad : ∀ a b c : D, addD (.tuple [a, b]) (.tuple [c]) = some (false, .tuple [a, b, c]) := fun a b c => by
        have : 3 ≤ line := len_ok (T := 3) (by omega)
        simp [addD, old, this]
      generalize hns : nsD (fun k => (k : Int)) n = ms
      cases k with
      | zero =>
        refine ⟨_, [.s .fz (tw w n), .s .fz (.int u), .s .fz (.str (wyS y)), .s .ow (.list (nsD f n)), s4, .s .fz (.list (ms)), s6, .no, .s .fz (.int (0 : Nat)), .s .fz (bestD w (fun i => half y (f i)) 1), .no, .no, .s .fz (.int (half y (f 0))), .s .fz (.tuple [.int (w 0), .int (half y (f 0))]), .no], rfl, ?_, ⟨_, _, _, rfl⟩⟩
        simp only [Int.ofNat_zero, Int.natCast_zero] at i1 i2 ⊢
        simp [Mx.runFn, Mx.outsOf, Mx.giveBack, Mx.argK, Mx.evA, Mx.putS, Mx.mutS, Mx.cmpOpt, Mx.ev.eq_1, Mx.ev.eq_2, Mx.ev.eq_3, Mx.ev.eq_4, Mx.ev.eq_5, Mx.ev.eq_6, Mx.ev.eq_7, Mx.ev.eq_8, Mx.ev.eq_9, Mx.ev.eq_10, Mx.ev.eq_11, Mx.ev.eq_12, Mx.ev.eq_13, Mx.ev.eq_14, Mx.ev.eq_16, Mx.ev.eq_19, Mx.ev.eq_20, Mx.ev.eq_21, Mx.ev.eq_22, Mx.ev.eq_23, Mx.ev.eq_24, Mx.ev.eq_25, Mx.evS.eq_1, Mx.evS.eq_2, Mx.evS.eq_3, Mx.evS.eq_4, Mx.evS.eq_5, Mx.evS.eq_6, Mx.evS.eq_7, Mx.evS.eq_8, Mx.evS.eq_9, Mx.evS.eq_10, Mx.evS.eq_11, Mx.evS.eq_12, Mx.evS.eq_13, Mx.evS.eq_14, Mx.evS.eq_17, Mx.evS.eq_18, Mx.evS.eq_19, Mx.evS.eq_20, Mx.o_add, Mx.o_sub, Mx.o_mul, Mx.o_neg, Mx.o_eq, Mx.o_ne, Mx.o_lt, Mx.o_le, Mx.o_gt, Mx.o_ge, Mx.o_isN, Mx.o_notN, Mx.o_idxL, Mx.o_idxT, Mx.o_slToL, Mx.o_lenL, Mx.o_lenT, Mx.o_min2, Mx.o_max2, Mx.o_abs, Mx.o_int, Mx.o_tupL, Mx.o_tupT, Mx.o_listL, Mx.o_listT, Mx.o_isi, Mx.addD_int, Mx.eqD_ii, Mx.old, Mx.o_mod, Mx.o_fdv, Mx.ix0, Mx.ix1, Mx.ix2, i1, i2, half_ok, bestD, isNoD, ad, bst]
      | succ k =>
        have lb := K02P.bst_le w (fun i => half y (f i)) k
        have ea := ahead_ok m (.int (bst w (fun i => half y (f i)) k : Nat)) (h.w1 (k + 1) hk') (h.w2 (k + 1) hk') (h.w1 _ (by omega : bst w (fun i => half y (f i)) k < n)) (h.w2 _ (by omega : bst w (fun i => half y (f i)) k < n)) (K02P.half_nonneg y (hf (k + 1))) (K02P.half_nonneg y (hf (bst w (fun i => half y (f i)) k)))
        have eb : (decide (w (k + 1) * half y (f (bst w (fun i => half y (f i)) k)) > w (bst w (fun i => half y (f i)) k) * half y (f (k + 1))) || (decide (half y (f (k + 1)) = 0) && (decide (half y (f (bst w (fun i => half y (f i)) k)) = 0) && decide (w (k + 1) > w (bst w (fun i => half y (f i)) k))))) = better w (fun i => half y (f i)) (k + 1) (bst w (fun i => half y (f i)) k) := rfl
        rw [eb] at ea
        have hd : bestD w (fun i => half y (f i)) (k + 1) = .tuple [.int (w (bst w (fun i => half y (f i)) k)), .int (half y (f (bst w (fun i => half y (f i)) k))), .int (bst w (fun i => half y (f i)) k : Nat)] := rfl
        have hd2 : bestD w (fun i => half y (f i)) (k + 1 + 1) = if better w (fun i => half y (f i)) (k + 1) (bst w (fun i => half y (f i)) k) = true then .tuple [.int (w (k + 1)), .int (half y (f (k + 1))), .int (k + 1 : Nat)] else bestD w (fun i => half y (f i)) (k + 1) := by
          unfold bestD
          simp only [bst]
          split <;> rfl
        rw [← hd] at ea
        refine ⟨_, [.s .fz (tw w n), .s .fz (.int u), .s .fz (.str (wyS y)), .s .ow (.list (nsD f n)), s4, .s .fz (.list (ms)), s6, .no, .s .fz (.int (k + 1 : Nat)), .s .fz (bestD w (fun i => half y (f i)) (k + 1 + 1)), .no, .no, .s .fz (.int (half y (f (k + 1)))), .s .fz (.tuple [.int (w (k + 1)), .int (half y (f (k + 1)))]), .no], rfl, ?_, ⟨_, _, _, rfl⟩⟩
        rw [hd2]
        have hnn : isNoD (bestD w (fun i => half y (f i)) (k + 1)) = false := rfl
        generalize bestD w (fun i => half y (f i)) (k + 1) = B at ea hnn
        generalize ((k + 1 : Nat) : Int) = K at i1 i2
        cases hb : better w (fun i => half y (f i)) (k + 1) (bst w (fun i => half y (f i)) k) with
        | true =>
          rw [hb] at ea
          rw [if_pos rfl]
          simp [Mx.runFn, Mx.outsOf, Mx.giveBack, Mx.argK, Mx.evA, Mx.putS, Mx.mutS, Mx.cmpOpt, Mx.ev.eq_1, Mx.ev.eq_2, Mx.ev.eq_3, Mx.ev.eq_4, Mx.ev.eq_5, Mx.ev.eq_6, Mx.ev.eq_7, Mx.ev.eq_8, Mx.ev.eq_9, Mx.ev.eq_10, Mx.ev.eq_11, Mx.ev.eq_12, Mx.ev.eq_13, Mx.ev.eq_14, Mx.ev.eq_16, Mx.ev.eq_19, Mx.ev.eq_20, Mx.ev.eq_21, Mx.ev.eq_22, Mx.ev.eq_23, Mx.ev.eq_24, Mx.ev.eq_25, Mx.evS.eq_1, Mx.evS.eq_2, Mx.evS.eq_3, Mx.evS.eq_4, Mx.evS.eq_5, Mx.evS.eq_6, Mx.evS.eq_7, Mx.evS.eq_8, Mx.evS.eq_9, Mx.evS.eq_10, Mx.evS.eq_11, Mx.evS.eq_12, Mx.evS.eq_13, Mx.evS.eq_14, Mx.evS.eq_17, Mx.evS.eq_18, Mx.evS.eq_19, Mx.evS.eq_20, Mx.o_add, Mx.o_sub, Mx.o_mul, Mx.o_neg, Mx.o_eq, Mx.o_ne, Mx.o_lt, Mx.o_le, Mx.o_gt, Mx.o_ge, Mx.o_isN, Mx.o_notN, Mx.o_idxL, Mx.o_idxT, Mx.o_slToL, Mx.o_lenL, Mx.o_lenT, Mx.o_min2, Mx.o_max2, Mx.o_abs, Mx.o_int, Mx.o_tupL, Mx.o_tupT, Mx.o_listL, Mx.o_listT, Mx.o_isi, Mx.addD_int, Mx.eqD_ii, Mx.old, Mx.o_mod, Mx.o_fdv, Mx.ix0, Mx.ix1, Mx.ix2, i1, i2, half_ok, hnn, ad, ea]
        | false =>
          rw [hb] at ea
          rw [if_neg (by decide)]
          simp [Mx.runFn, Mx.outsOf, Mx.giveBack, Mx.argK, Mx.evA, Mx.putS, Mx.mutS, Mx.cmpOpt, Mx.ev.eq_1, Mx.ev.eq_2, Mx.ev.eq_3, Mx.ev.eq_4, Mx.ev.eq_5, Mx.ev.eq_6, Mx.ev.eq_7, Mx.ev.eq_8, Mx.ev.eq_9, Mx.ev.eq_10, Mx.ev.eq_11, Mx.ev.eq_12, Mx.ev.eq_13, Mx.ev.eq_14, Mx.ev.eq_16, Mx.ev.eq_19, Mx.ev.eq_20, Mx.ev.eq_21, Mx.ev.eq_22, Mx.ev.eq_23, Mx.ev.eq_24, Mx.ev.eq_25, Mx.evS.eq_1, Mx.evS.eq_2, Mx.evS.eq_3, Mx.evS.eq_4, Mx.evS.eq_5, Mx.evS.eq_6, Mx.evS.eq_7, Mx.evS.eq_8, Mx.evS.eq_9, Mx.evS.eq_10, Mx.evS.eq_11, Mx.evS.eq_12, Mx.evS.eq_13, Mx.evS.eq_14, Mx.evS.eq_17, Mx.evS.eq_18, Mx.evS.eq_19, Mx.evS.eq_20, Mx.o_add, Mx.o_sub, Mx.o_mul, Mx.o_neg, Mx.o_eq, Mx.o_ne, Mx.o_lt, Mx.o_le, Mx.o_gt, Mx.o_ge, Mx.o_isN, Mx.o_notN, Mx.o_idxL, Mx.o_idxT, Mx.o_slToL, Mx.o_lenL, Mx.o_lenT, Mx.o_min2, Mx.o_max2, Mx.o_abs, Mx.o_int, Mx.o_tupL, Mx.o_tupT, Mx.o_listL, Mx.o_listT, Mx.o_isi, Mx.addD_int, Mx.eqD_ii, Mx.old, Mx.o_mod, Mx.o_fdv, Mx.ix0, Mx.ix1, Mx.ix2, i1, i2, half_ok, hnn, ad, ea])
    [.s .fz (tw w n), .s .fz (.int u), .s .fz (.str (wyS y)), .s .ow (.list (nsD f n)), s4, .s .fz (.list (nsD (fun k => (k : Int)) n)), s6, .no, s8, .s .fz (.none), .no, .no, s12, s13, .no] ⟨_, _, _, rfl⟩
  rw [nsD_len] at e
  exact ⟨s8', s12', s13', evS_for (fr := false) (ds := nsD (fun k => (k : Int)) n) (ρ1 := [.s .fz (tw w n), .s .fz (.int u), .s .fz (.str (wyS y)), .s .ow (.list (nsD f n)), s4, .s .fz (.list (nsD (fun k => (k : Int)) n)), s6, .no, s8, .s .fz (.none), .no, .no, s12, s13, .no]) (by simp [Mx.runFn, Mx.outsOf, Mx.giveBack, Mx.argK, Mx.evA, Mx.putS, Mx.mutS, Mx.cmpOpt, Mx.ev.eq_1, Mx.ev.eq_2, Mx.ev.eq_3, Mx.ev.eq_4, Mx.ev.eq_5, Mx.ev.eq_6, Mx.ev.eq_7, Mx.ev.eq_8, Mx.ev.eq_9, Mx.ev.eq_10, Mx.ev.eq_11, Mx.ev.eq_12, Mx.ev.eq_13, Mx.ev.eq_14, Mx.ev.eq_16, Mx.ev.eq_19, Mx.ev.eq_20, Mx.ev.eq_21, Mx.ev.eq_22, Mx.ev.eq_23, Mx.ev.eq_24, Mx.ev.eq_25, Mx.evS.eq_1, Mx.evS.eq_2, Mx.evS.eq_3, Mx.evS.eq_4, Mx.evS.eq_5, Mx.evS.eq_6, Mx.evS.eq_7, Mx.evS.eq_8, Mx.evS.eq_9, Mx.evS.eq_10, Mx.evS.eq_11, Mx.evS.eq_12, Mx.evS.eq_13, Mx.evS.eq_14, Mx.evS.eq_17, Mx.evS.eq_18, Mx.evS.eq_19, Mx.evS.eq_20, Mx.o_add, Mx.o_sub, Mx.o_mul, Mx.o_neg, Mx.o_eq, Mx.o_ne, Mx.o_lt, Mx.o_le, Mx.o_gt, Mx.o_ge, Mx.o_isN, Mx.o_notN, Mx.o_idxL, Mx.o_idxT, Mx.o_slToL, Mx.o_lenL, Mx.o_lenT, Mx.o_min2, Mx.o_max2, Mx.o_abs, Mx.o_int, Mx.o_tupL, Mx.o_tupT, Mx.o_listL, Mx.o_listT, Mx.o_isi, Mx.addD_int, Mx.eqD_ii, Mx.old, Mx.o_mod, Mx.o_fdv, Mx.ix0, Mx.ix1, Mx.ix2, seqOf]) e rfl⟩

theorem ls4_ok (m : Nat) {w : Nat → Int} {n : Nat} (h : OkW w n) (y : Wy) (u : Nat) (hu : u ≤ 1000) : ∃ s4 s8 s9 s12 s13, evS (sem (fnsOf defs) (m + 1)) ls4 [.s .fz (tw w n), .s .fz (.int u), .s .fz (.str (wyS y)), .s .ow (.list (nsD (dv y w n 0) n)), .no, .s .fz (.list (nsD (fun k => (k : Int)) n)), .s .fz (.int (psum w n)), .no, .no, .no, .no, .no, .no, .no, .no] = .nx [.s .fz (tw w n), .s .fz (.int u), .s .fz (.str (wyS y)), .s .ow (.list (nsD (dv y w n u) n)), s4, .s .fz (.list (nsD (fun k => (k : Int)) n)), .s .fz (.int (psum w n)), .no, s8, s9, .no, .no, s12, s13, .no] := by
  obtain ⟨ρ', ⟨s4, s8, s9, s12, s13, rfl⟩, e⟩ := forL_nx (bind := bindT (.one 4)) (body := evS (sem (fnsOf defs) (m + 1)) (.seq (.set 9 (.cst .none))
   (.seq (.for1 (.one 8) (.iseq (.bor 5)) (.seq (.set 12 (.call 16 0 (.cons (.op .idx (.cons (.bor 3) (.cons (.bor 8) .nil))) (.cons (.bor 2) .nil))))
    (.seq (.set 13 (.tup (.cons (.op .idx (.cons (.bor 0) (.cons (.bor 8) .nil))) (.cons (.var 12) .nil))))
    (.seq (.ifs (.or (.op .isN (.cons (.bor 9) .nil)) (.call 17 0 (.cons (.bor 13) (.cons (.bor 9) .nil)))) (.seq (.set 9 (.op .add (.cons (.bor 13) (.cons (.tup (.cons (.var 8) .nil)) .nil))))
     .skip) .skip)
    .skip))))
   (.seq (.sti 3 (.op .idx (.cons (.bor 9) (.cons (.cst (.int 2)) .nil))) (.op .add (.cons (.op .idx (.cons (.bor 3) (.cons (.op .idx (.cons (.bor 9) (.cons (.cst (.int 2)) .nil))) .nil))) (.cons (.cst (.int 1)) .nil))))
   .skip)))) ((List.range u).map fun k : Nat => .int (k : Int))
    (fun k ρ => ∃ s4 s8 s9 s12 s13, ρ = [.s .fz (tw w n), .s .fz (.int u), .s .fz (.str (wyS y)), .s .ow (.list (nsD (dv y w n k) n)), s4, .s .fz (.list (nsD (fun k => (k : Int)) n)), .s .fz (.int (psum w n)), .no, s8, s9, .no, .no, s12, s13, .no])
    (fun k hk ρ hρ => by
      obtain ⟨s4, s8, s9, s12, s13, rfl⟩ := hρ
      obtain ⟨t8, t12, t13, ei⟩ := ls_inner m h y (dv y w n k) (K02P.dv_nonneg y w n k) u (.s .fz (((List.range u).map fun k : Nat => PyData.int (k : Int))[k])) (.s .fz (.int (psum w n))) s8 s12 s13
      have hp := K02P.pos_lt y w n h.n1 (dv y w n k)
      have nx : dv y w n (k + 1) = updf (dv y w n k) (pos y w n (dv y w n k)) (dv y w n k (pos y w n (dv y w n k)) + 1) := rfl
      have hb : bestD w (fun i => half y (dv y w n k i)) n = .tuple [.int (w (pos y w n (dv y w n k))), .int (half y (dv y w n k (pos y w n (dv y w n k)))), .int (pos y w n (dv y w n k) : Nat)] := by
        obtain ⟨n', rfl⟩ : ∃ n', n = n' + 1 := ⟨n - 1, by have := h.n1; omega⟩
        rfl
      rw [nx]
      rw [hb] at ei
      generalize pos y w n (dv y w n k) = b at hp ei
      have i1 := nsD_idx (dv y w n k) hp
      have i2 := nsD_setD (dv y w n k) hp (dv y w n k b + 1)
      refine ⟨_, [.s .fz (tw w n), .s .fz (.int u), .s .fz (.str (wyS y)), .s .ow (.list (nsD (updf (dv y w n k) b (dv y w n k b + 1)) n)), .s .fz (((List.range u).map fun k : Nat => PyData.int (k : Int))[k]), .s .fz (.list (nsD (fun k => (k : Int)) n)), .s .fz (.int (psum w n)), .no, t8, .s .fz (.tuple [.int (w b), .int (half y (dv y w n k b)), .int b]), .no, .no, t12, t13, .no], rfl, ?_, ⟨_, _, _, _, _, rfl⟩⟩
      generalize ((List.range u).map fun k : Nat => PyData.int (k : Int))[k] = kk at ei
      simp [Mx.runFn, Mx.outsOf, Mx.giveBack, Mx.argK, Mx.evA, Mx.putS, Mx.mutS, Mx.cmpOpt, Mx.ev.eq_1, Mx.ev.eq_2, Mx.ev.eq_3, Mx.ev.eq_4, Mx.ev.eq_5, Mx.ev.eq_6, Mx.ev.eq_7, Mx.ev.eq_8, Mx.ev.eq_9, Mx.ev.eq_10, Mx.ev.eq_11, Mx.ev.eq_12, Mx.ev.eq_13, Mx.ev.eq_14, Mx.ev.eq_16, Mx.ev.eq_19, Mx.ev.eq_20, Mx.ev.eq_21, Mx.ev.eq_22, Mx.ev.eq_23, Mx.ev.eq_24, Mx.ev.eq_25, Mx.evS.eq_1, Mx.evS.eq_2, Mx.evS.eq_3, Mx.evS.eq_4, Mx.evS.eq_5, Mx.evS.eq_6, Mx.evS.eq_7, Mx.evS.eq_8, Mx.evS.eq_9, Mx.evS.eq_10, Mx.evS.eq_11, Mx.evS.eq_12, Mx.evS.eq_13, Mx.evS.eq_14, Mx.evS.eq_17, Mx.evS.eq_18, Mx.evS.eq_19, Mx.evS.eq_20, Mx.o_add, Mx.o_sub, Mx.o_mul, Mx.o_neg, Mx.o_eq, Mx.o_ne, Mx.o_lt, Mx.o_le, Mx.o_gt, Mx.o_ge, Mx.o_isN, Mx.o_notN, Mx.o_idxL, Mx.o_idxT, Mx.o_slToL, Mx.o_lenL, Mx.o_lenT, Mx.o_min2, Mx.o_max2, Mx.o_abs, Mx.o_int, Mx.o_tupL, Mx.o_tupT, Mx.o_listL, Mx.o_listT, Mx.o_isi, Mx.addD_int, Mx.eqD_ii, Mx.old, Mx.o_mod, Mx.o_fdv, Mx.ix0, Mx.ix1, Mx.ix2, ei, i1, i2])
    [.s .fz (tw w n), .s .fz (.int u), .s .fz (.str (wyS y)), .s .ow (.list (nsD (dv y w n 0) n)), .no, .s .fz (.list (nsD (fun k => (k : Int)) n)), .s .fz (.int (psum w n)), .no, .no, .no, .no, .no, .no, .no, .no] ⟨_, _, _, _, _, rfl⟩
  have ri := range_ok (T := u) (by omega)
  simp only [List.length_map, List.length_range] at e
  exact ⟨s4, s8, s9, s12, s13, evS_for (ρ1 := [.s .fz (tw w n), .s .fz (.int u), .s .fz (.str (wyS y)), .s .ow (.list (nsD (dv y w n 0) n)), .no, .s .fz (.list (nsD (fun k => (k : Int)) n)), .s .fz (.int (psum w n)), .no, .no, .no, .no, .no, .no, .no, .no]) (fr := false) (by simp [Mx.runFn, Mx.outsOf, Mx.giveBack, Mx.argK, Mx.evA, Mx.putS, Mx.mutS, Mx.cmpOpt, Mx.ev.eq_1, Mx.ev.eq_2, Mx.ev.eq_3, Mx.ev.eq_4, Mx.ev.eq_5, Mx.ev.eq_6, Mx.ev.eq_7, Mx.ev.eq_8, Mx.ev.eq_9, Mx.ev.eq_10, Mx.ev.eq_11, Mx.ev.eq_12, Mx.ev.eq_13, Mx.ev.eq_14, Mx.ev.eq_16, Mx.ev.eq_19, Mx.ev.eq_20, Mx.ev.eq_21, Mx.ev.eq_22, Mx.ev.eq_23, Mx.ev.eq_24, Mx.ev.eq_25, Mx.evS.eq_1, Mx.evS.eq_2, Mx.evS.eq_3, Mx.evS.eq_4, Mx.evS.eq_5, Mx.evS.eq_6, Mx.evS.eq_7, Mx.evS.eq_8, Mx.evS.eq_9, Mx.evS.eq_10, Mx.evS.eq_11, Mx.evS.eq_12, Mx.evS.eq_13, Mx.evS.eq_14, Mx.evS.eq_17, Mx.evS.eq_18, Mx.evS.eq_19, Mx.evS.eq_20, Mx.o_add, Mx.o_sub, Mx.o_mul, Mx.o_neg, Mx.o_eq, Mx.o_ne, Mx.o_lt, Mx.o_le, Mx.o_gt, Mx.o_ge, Mx.o_isN, Mx.o_notN, Mx.o_idxL, Mx.o_idxT, Mx.o_slToL, Mx.o_lenL, Mx.o_lenT, Mx.o_min2, Mx.o_max2, Mx.o_abs, Mx.o_int, Mx.o_tupL, Mx.o_tupT, Mx.o_listL, Mx.o_listT, Mx.o_isi, Mx.addD_int, Mx.eqD_ii, Mx.old, Mx.o_mod, Mx.o_fdv, Mx.ix0, Mx.ix1, Mx.ix2, ri]) e rfl⟩
theorem ls1_ok (F : FnSem) {w : Nat → Int} {n : Nat} (h : OkW w n) (y : Wy) (u : Nat) : evS F ls1 [.s .fz (tw w n), .s .fz (.int u), .s .fz (.str (wyS y)), .no, .no, .no, .no, .no, .no, .no, .no, .no, .no, .no, .no] = .nx [.s .fz (tw w n), .s .fz (.int u), .s .fz (.str (wyS y)), .no, .no, .s .fz (.list (nsD (fun k => (k : Int)) n)), .s .fz (.int (psum w n)), .no, .no, .no, .no, .no, .no, .no, .no] := by
  have n8 := h.n8
  have hr := o_lrng (i := n) ⟨by omega, (range_ok (T := n) (by omega)).2⟩
  have e1 : ((List.range (n : Int).toNat).map fun k : Nat => PyData.int (k : Int)) = nsD (fun k => (k : Int)) n := by
    rw [Int.toNat_natCast, nsD, List.map_map]; rfl
  rw [e1] at hr
  simp [Mx.runFn, Mx.outsOf, Mx.giveBack, Mx.argK, Mx.evA, Mx.putS, Mx.mutS, Mx.cmpOpt, Mx.ev.eq_1, Mx.ev.eq_2, Mx.ev.eq_3, Mx.ev.eq_4, Mx.ev.eq_5, Mx.ev.eq_6, Mx.ev.eq_7, Mx.ev.eq_8, Mx.ev.eq_9, Mx.ev.eq_10, Mx.ev.eq_11, Mx.ev.eq_12, Mx.ev.eq_13, Mx.ev.eq_14, Mx.ev.eq_16, Mx.ev.eq_19, Mx.ev.eq_20, Mx.ev.eq_21, Mx.ev.eq_22, Mx.ev.eq_23, Mx.ev.eq_24, Mx.ev.eq_25, Mx.evS.eq_1, Mx.evS.eq_2, Mx.evS.eq_3, Mx.evS.eq_4, Mx.evS.eq_5, Mx.evS.eq_6, Mx.evS.eq_7, Mx.evS.eq_8, Mx.evS.eq_9, Mx.evS.eq_10, Mx.evS.eq_11, Mx.evS.eq_12, Mx.evS.eq_13, Mx.evS.eq_14, Mx.evS.eq_17, Mx.evS.eq_18, Mx.evS.eq_19, Mx.evS.eq_20, Mx.o_add, Mx.o_sub, Mx.o_mul, Mx.o_neg, Mx.o_eq, Mx.o_ne, Mx.o_lt, Mx.o_le, Mx.o_gt, Mx.o_ge, Mx.o_isN, Mx.o_notN, Mx.o_idxL, Mx.o_idxT, Mx.o_slToL, Mx.o_lenL, Mx.o_lenT, Mx.o_min2, Mx.o_max2, Mx.o_abs, Mx.o_int, Mx.o_tupL, Mx.o_tupT, Mx.o_listL, Mx.o_listT, Mx.o_isi, Mx.addD_int, Mx.eqD_ii, Mx.old, Mx.o_mod, Mx.o_fdv, Mx.ix0, Mx.ix1, Mx.ix2, ls1, nsD_len, hr, nsD_sumT, bindT]
/-- the law's own share by divisors -/
theorem lsD_ok (m : Nat) {w : Nat → Int} {n : Nat} (h : OkW w n) (y : Wy) (hy : isR y = false) (u : Nat) (hu : u ≤ 1000) : sem (fnsOf defs) (m + 2) 18 [.s .fz (tw w n), .s .fz (.int u), .s .fz (.str (wyS y))] = .ok true (.list (nsD (dv y w n u) n)) [.s .fz (tw w n), .s .fz (.int u), .s .fz (.str (wyS y))] := by
  obtain ⟨s4, s8, s9, s12, s13, e4⟩ := ls4_ok m h y u hu
  have e2 : evS (sem (fnsOf defs) (m + 1)) ls2 [.s .fz (tw w n), .s .fz (.int u), .s .fz (.str (wyS y)), .no, .no, .s .fz (.list (nsD (fun k => (k : Int)) n)), .s .fz (.int (psum w n)), .no, .no, .no, .no, .no, .no, .no, .no] = .nx [.s .fz (tw w n), .s .fz (.int u), .s .fz (.str (wyS y)), .no, .no, .s .fz (.list (nsD (fun k => (k : Int)) n)), .s .fz (.int (psum w n)), .no, .no, .no, .no, .no, .no, .no, .no] := by
    simp [Mx.runFn, Mx.outsOf, Mx.giveBack, Mx.argK, Mx.evA, Mx.putS, Mx.mutS, Mx.cmpOpt, Mx.ev.eq_1, Mx.ev.eq_2, Mx.ev.eq_3, Mx.ev.eq_4, Mx.ev.eq_5, Mx.ev.eq_6, Mx.ev.eq_7, Mx.ev.eq_8, Mx.ev.eq_9, Mx.ev.eq_10, Mx.ev.eq_11, Mx.ev.eq_12, Mx.ev.eq_13, Mx.ev.eq_14, Mx.ev.eq_16, Mx.ev.eq_19, Mx.ev.eq_20, Mx.ev.eq_21, Mx.ev.eq_22, Mx.ev.eq_23, Mx.ev.eq_24, Mx.ev.eq_25, Mx.evS.eq_1, Mx.evS.eq_2, Mx.evS.eq_3, Mx.evS.eq_4, Mx.evS.eq_5, Mx.evS.eq_6, Mx.evS.eq_7, Mx.evS.eq_8, Mx.evS.eq_9, Mx.evS.eq_10, Mx.evS.eq_11, Mx.evS.eq_12, Mx.evS.eq_13, Mx.evS.eq_14, Mx.evS.eq_17, Mx.evS.eq_18, Mx.evS.eq_19, Mx.evS.eq_20, Mx.o_add, Mx.o_sub, Mx.o_mul, Mx.o_neg, Mx.o_eq, Mx.o_ne, Mx.o_lt, Mx.o_le, Mx.o_gt, Mx.o_ge, Mx.o_isN, Mx.o_notN, Mx.o_idxL, Mx.o_idxT, Mx.o_slToL, Mx.o_lenL, Mx.o_lenT, Mx.o_min2, Mx.o_max2, Mx.o_abs, Mx.o_int, Mx.o_tupL, Mx.o_tupT, Mx.o_listL, Mx.o_listT, Mx.o_isi, Mx.addD_int, Mx.eqD_ii, Mx.old, Mx.o_mod, Mx.o_fdv, Mx.ix0, Mx.ix1, Mx.ix2, ls2, eq_r, hy]
  have e3 : evS (sem (fnsOf defs) (m + 1)) ls3 [.s .fz (tw w n), .s .fz (.int u), .s .fz (.str (wyS y)), .no, .no, .s .fz (.list (nsD (fun k => (k : Int)) n)), .s .fz (.int (psum w n)), .no, .no, .no, .no, .no, .no, .no, .no] = .nx [.s .fz (tw w n), .s .fz (.int u), .s .fz (.str (wyS y)), .s .ow (.list (nsD (dv y w n 0) n)), .no, .s .fz (.list (nsD (fun k => (k : Int)) n)), .s .fz (.int (psum w n)), .no, .no, .no, .no, .no, .no, .no, .no] := by
    simp [Mx.runFn, Mx.outsOf, Mx.giveBack, Mx.argK, Mx.evA, Mx.putS, Mx.mutS, Mx.cmpOpt, Mx.ev.eq_1, Mx.ev.eq_2, Mx.ev.eq_3, Mx.ev.eq_4, Mx.ev.eq_5, Mx.ev.eq_6, Mx.ev.eq_7, Mx.ev.eq_8, Mx.ev.eq_9, Mx.ev.eq_10, Mx.ev.eq_11, Mx.ev.eq_12, Mx.ev.eq_13, Mx.ev.eq_14, Mx.ev.eq_16, Mx.ev.eq_19, Mx.ev.eq_20, Mx.ev.eq_21, Mx.ev.eq_22, Mx.ev.eq_23, Mx.ev.eq_24, Mx.ev.eq_25, Mx.evS.eq_1, Mx.evS.eq_2, Mx.evS.eq_3, Mx.evS.eq_4, Mx.evS.eq_5, Mx.evS.eq_6, Mx.evS.eq_7, Mx.evS.eq_8, Mx.evS.eq_9, Mx.evS.eq_10, Mx.evS.eq_11, Mx.evS.eq_12, Mx.evS.eq_13, Mx.evS.eq_14, Mx.evS.eq_17, Mx.evS.eq_18, Mx.evS.eq_19, Mx.evS.eq_20, Mx.o_add, Mx.o_sub, Mx.o_mul, Mx.o_neg, Mx.o_eq, Mx.o_ne, Mx.o_lt, Mx.o_le, Mx.o_gt, Mx.o_ge, Mx.o_isN, Mx.o_notN, Mx.o_idxL, Mx.o_idxT, Mx.o_slToL, Mx.o_lenL, Mx.o_lenT, Mx.o_min2, Mx.o_max2, Mx.o_abs, Mx.o_int, Mx.o_tupL, Mx.o_tupT, Mx.o_listL, Mx.o_listT, Mx.o_isi, Mx.addD_int, Mx.eqD_ii, Mx.old, Mx.o_mod, Mx.o_fdv, Mx.ix0, Mx.ix1, Mx.ix2, ls3, rep0 _ h.n8]
    rfl
  have tot : evS (sem (fnsOf defs) (m + 1)) c__law_share [.s .fz (tw w n), .s .fz (.int u), .s .fz (.str (wyS y)), .no, .no, .no, .no, .no, .no, .no, .no, .no, .no, .no, .no] = .rt true (.list (nsD (dv y w n u) n)) [.s .fz (tw w n), .s .fz (.int u), .s .fz (.str (wyS y)), .no, s4, .s .fz (.list (nsD (fun k => (k : Int)) n)), .s .fz (.int (psum w n)), .no, s8, s9, .no, .no, s12, s13, .no] := by
    rw [ls_eq]
    refine evS_seq (ls1_ok _ h y u) (evS_seq e2 (evS_seq e3 (evS_seq e4 ?_)))
    simp [Mx.runFn, Mx.outsOf, Mx.giveBack, Mx.argK, Mx.evA, Mx.putS, Mx.mutS, Mx.cmpOpt, Mx.ev.eq_1, Mx.ev.eq_2, Mx.ev.eq_3, Mx.ev.eq_4, Mx.ev.eq_5, Mx.ev.eq_6, Mx.ev.eq_7, Mx.ev.eq_8, Mx.ev.eq_9, Mx.ev.eq_10, Mx.ev.eq_11, Mx.ev.eq_12, Mx.ev.eq_13, Mx.ev.eq_14, Mx.ev.eq_16, Mx.ev.eq_19, Mx.ev.eq_20, Mx.ev.eq_21, Mx.ev.eq_22, Mx.ev.eq_23, Mx.ev.eq_24, Mx.ev.eq_25, Mx.evS.eq_1, Mx.evS.eq_2, Mx.evS.eq_3, Mx.evS.eq_4, Mx.evS.eq_5, Mx.evS.eq_6, Mx.evS.eq_7, Mx.evS.eq_8, Mx.evS.eq_9, Mx.evS.eq_10, Mx.evS.eq_11, Mx.evS.eq_12, Mx.evS.eq_13, Mx.evS.eq_14, Mx.evS.eq_17, Mx.evS.eq_18, Mx.evS.eq_19, Mx.evS.eq_20, Mx.o_add, Mx.o_sub, Mx.o_mul, Mx.o_neg, Mx.o_eq, Mx.o_ne, Mx.o_lt, Mx.o_le, Mx.o_gt, Mx.o_ge, Mx.o_isN, Mx.o_notN, Mx.o_idxL, Mx.o_idxT, Mx.o_slToL, Mx.o_lenL, Mx.o_lenT, Mx.o_min2, Mx.o_max2, Mx.o_abs, Mx.o_int, Mx.o_tupL, Mx.o_tupT, Mx.o_listL, Mx.o_listT, Mx.o_isi, Mx.addD_int, Mx.eqD_ii, Mx.old, Mx.o_mod, Mx.o_fdv, Mx.ix0, Mx.ix1, Mx.ix2, ls5]
  rw [sem_succ, f18]
  exact runFn_rt rfl tot rfl
end K02
end

section
set_option maxRecDepth 100000
set_option linter.all false
set_option maxHeartbeats 2000000
namespace K02
open Mx PySem L2
open K02P (Wy half updf S quo rmd shR rank dv pos step better bst prs srt)
open K00P (psum)
def prD (p : Int × Int) : D := .tuple [.int p.1, .int p.2]
theorem le_prD (a b : Int × Int) : K02P.leP a b = W.dataLe false id (prD a) (prD b) := by
  have e := congrFun (congrFun (W.dataLe_ii (fun p : Int × Int => p.1) (fun p => p.2)) a) b
  exact e.symm
theorem sort_prs (g : Nat → Int) (n : Nat) : opD .sorted [.list ((prs g n).map prD)] = some (true, .list ((srt g n).map prD)) := by
  have ok : sortOk ((prs g n).map prD) = true := by
    have al : ∀ a b : Int × Int, W.alike (prD a) (prD b) = true := fun a b => rfl
    have c0 : ∀ a : Int × Int, (prD a).canLay0 = true := fun a => rfl
    have dp : ∀ a : Int × Int, (prD a).depth ≤ 60 := fun a => by simp [prD, PyData.depth, PyData.depthAll]
    unfold sortOk
    rw [Bool.and_eq_true]
    refine ⟨?_, ?_⟩
    · rw [List.all_eq_true]
      intro x hx
      obtain ⟨a, _, rfl⟩ := List.mem_map.mp hx
      rw [Bool.and_eq_true, Bool.and_eq_true]
      refine ⟨⟨?_, c0 a⟩, by simpa using dp a⟩
      rw [List.all_eq_true]
      intro y hy
      obtain ⟨b, _, rfl⟩ := List.mem_map.mp hy
      exact al a b
    · rw [Bool.or_eq_true]
      left
      rw [List.all_eq_true]
      intro x hx
      obtain ⟨a, _, rfl⟩ := List.mem_map.mp hx
      rfl
  show (sortD _).bind _ = _
  unfold sortD
  rw [if_pos ok, Option.bind_some]
  show some (true, PyData.list _) = _
  rw [srt, ← List.map_mergeSort (r := K02P.leP) (s := W.dataLe false id) (f := prD) (l := prs g n) fun a _ b _ => le_prD a b]
/-- an element's own sum -/
def quoD (u W : Int) : D → D
  | .int z => .int (z * u / W)
  | _ => .none
theorem quo_map (w : Nat → Int) (n u : Nat) : (nsD w n).map (quoD u (psum w n)) = nsD (quo w n u) n := by simp [nsD, quoD, quo]
theorem whole_bd {w : Nat → Int} {n : Nat} (h : OkW w n) : 0 < psum w n ∧ psum w n < 1073741824 := by
  have h0 := K00P.psum_ge (f := fun i => if i < n then w i else 1) (c := 1) (fun i => by
    by_cases hi : i < n
    · rw [if_pos hi]; exact h.w1 i hi
    · rw [if_neg hi]; exact Int.le_refl _) n
  have h1 := K02P.psum_lt (f := w) (c := 100001) (n := n) fun i hi => by have := h.w2 i hi; omega
  have e : psum (fun i => if i < n then w i else 1) n = psum w n := K02P.psum_congr fun i hi => if_pos hi
  rw [e] at h0
  have n1 := h.n1
  have n8 := h.n8
  constructor
  · have : (1 : Int) * n = n := Int.one_mul _
    omega
  · omega
/-- found by whole parts: by_remainders' row, and the law's -/
theorem quo_comp (F : FnSem) {w : Nat → Int} {n : Nat} (h : OkW w n) {u : Nat} (hu : u ≤ 1000) (s2 s3 s4 s5 s6 : Mx.Slot) : 
    ev F (.comp (.op .fdv (.cons (.op .mul (.cons (.bor 7) (.cons (.bor 1) .nil))) (.cons (.bor 2) .nil))) (.one 7) [7] (.iseq (.bor 0)) .nil) [.s .fz (tw w n), .s .fz (.int u), .s .fz (.int (psum w n)), s3, s4, s5, s6, .no] = .ok true (.list (nsD (quo w n u) n)) [.s .fz (tw w n), .s .fz (.int u), .s .fz (.int (psum w n)), s3, s4, s5, s6, .no] := by
  have hw := whole_bd h
  have hm : ((u : Nat) : Int).natAbs < 2 ^ 63 := by omega
  obtain ⟨ρ', ⟨cur, rfl⟩, e⟩ := compL_map (clr := (wipeR · [7])) (bind := bindT (.one 7)) (cond := fun ρ => .ok false (.bool true) ρ) (elt := ev F (.op .fdv (.cons (.op .mul (.cons (.bor 7) (.cons (.bor 1) .nil))) (.cons (.bor 2) .nil)))) (f := quoD u (psum w n)) (I := fun ρ => ∃ cur, ρ = [.s .fz (tw w n), .s .fz (.int u), .s .fz (.int (psum w n)), s3, s4, s5, s6, cur]) (nsD w n)
    (by
      intro x hx ρ ⟨cur, hρ⟩
      obtain ⟨i, hi, rfl⟩ := nsD_mem hx
      subst hρ
      refine ⟨_, _, _, false, false, rfl, rfl, ?_, ⟨.s .fz (.int (w i)), rfl⟩⟩
      simp [Mx.runFn, Mx.outsOf, Mx.giveBack, Mx.argK, Mx.evA, Mx.putS, Mx.mutS, Mx.cmpOpt, Mx.ev.eq_1, Mx.ev.eq_2, Mx.ev.eq_3, Mx.ev.eq_4, Mx.ev.eq_5, Mx.ev.eq_6, Mx.ev.eq_7, Mx.ev.eq_8, Mx.ev.eq_9, Mx.ev.eq_10, Mx.ev.eq_11, Mx.ev.eq_12, Mx.ev.eq_13, Mx.ev.eq_14, Mx.ev.eq_16, Mx.ev.eq_19, Mx.ev.eq_20, Mx.ev.eq_21, Mx.ev.eq_22, Mx.ev.eq_23, Mx.ev.eq_24, Mx.ev.eq_25, Mx.evS.eq_1, Mx.evS.eq_2, Mx.evS.eq_3, Mx.evS.eq_4, Mx.evS.eq_5, Mx.evS.eq_6, Mx.evS.eq_7, Mx.evS.eq_8, Mx.evS.eq_9, Mx.evS.eq_10, Mx.evS.eq_11, Mx.evS.eq_12, Mx.evS.eq_13, Mx.evS.eq_14, Mx.evS.eq_17, Mx.evS.eq_18, Mx.evS.eq_19, Mx.evS.eq_20, Mx.o_add, Mx.o_sub, Mx.o_mul, Mx.o_neg, Mx.o_eq, Mx.o_ne, Mx.o_lt, Mx.o_le, Mx.o_gt, Mx.o_ge, Mx.o_isN, Mx.o_notN, Mx.o_idxL, Mx.o_idxT, Mx.o_slToL, Mx.o_lenL, Mx.o_lenT, Mx.o_min2, Mx.o_max2, Mx.o_abs, Mx.o_int, Mx.o_tupL, Mx.o_tupT, Mx.o_listL, Mx.o_listT, Mx.o_isi, Mx.addD_int, Mx.eqD_ii, Mx.old, Mx.o_mod, Mx.o_fdv, Mx.ix0, Mx.ix1, Mx.ix2, wipeR, mulD_r hm, o_fdv hw, quoD, hw.1, hw.2]) [.s .fz (tw w n), .s .fz (.int u), .s .fz (.int (psum w n)), s3, s4, s5, s6, .no] ⟨_, rfl⟩
  rw [quo_map] at e
  have q := ev_comp (F := F) (own := [7]) (it := .iseq (.bor 0)) (cond := .nil) (ρ := [.s .fz (tw w n), .s .fz (.int u), .s .fz (.int (psum w n)), s3, s4, s5, s6, .no]) (fr := false) (ds := nsD w n) (ρ1 := [.s .fz (tw w n), .s .fz (.int u), .s .fz (.int (psum w n)), s3, s4, s5, s6, .no]) (ρ3 := [.s .fz (tw w n), .s .fz (.int u), .s .fz (.int (psum w n)), s3, s4, s5, s6, .no]) (by simp [Mx.runFn, Mx.outsOf, Mx.giveBack, Mx.argK, Mx.evA, Mx.putS, Mx.mutS, Mx.cmpOpt, Mx.ev.eq_1, Mx.ev.eq_2, Mx.ev.eq_3, Mx.ev.eq_4, Mx.ev.eq_5, Mx.ev.eq_6, Mx.ev.eq_7, Mx.ev.eq_8, Mx.ev.eq_9, Mx.ev.eq_10, Mx.ev.eq_11, Mx.ev.eq_12, Mx.ev.eq_13, Mx.ev.eq_14, Mx.ev.eq_16, Mx.ev.eq_19, Mx.ev.eq_20, Mx.ev.eq_21, Mx.ev.eq_22, Mx.ev.eq_23, Mx.ev.eq_24, Mx.ev.eq_25, Mx.evS.eq_1, Mx.evS.eq_2, Mx.evS.eq_3, Mx.evS.eq_4, Mx.evS.eq_5, Mx.evS.eq_6, Mx.evS.eq_7, Mx.evS.eq_8, Mx.evS.eq_9, Mx.evS.eq_10, Mx.evS.eq_11, Mx.evS.eq_12, Mx.evS.eq_13, Mx.evS.eq_14, Mx.evS.eq_17, Mx.evS.eq_18, Mx.evS.eq_19, Mx.evS.eq_20, Mx.o_add, Mx.o_sub, Mx.o_mul, Mx.o_neg, Mx.o_eq, Mx.o_ne, Mx.o_lt, Mx.o_le, Mx.o_gt, Mx.o_ge, Mx.o_isN, Mx.o_notN, Mx.o_idxL, Mx.o_idxT, Mx.o_slToL, Mx.o_lenL, Mx.o_lenT, Mx.o_min2, Mx.o_max2, Mx.o_abs, Mx.o_int, Mx.o_tupL, Mx.o_tupT, Mx.o_listL, Mx.o_listT, Mx.o_isi, Mx.addD_int, Mx.eqD_ii, Mx.old, Mx.o_mod, Mx.o_fdv, Mx.ix0, Mx.ix1, Mx.ix2, seqOf]) rfl (by rw [nsD_len]; exact len_ok (by have := h.n8; omega)) e rfl
  simp only [backR] at q
  exact q
def rmdD (w : Nat → Int) (n u : Nat) : D → D
  | .int i => prD (rmd w n u i.toNat, i)
  | _ => .none
theorem rmd_map (w : Nat → Int) (n u : Nat) : ((List.range n).map fun k : Nat => PyData.int (k : Int)).map (rmdD w n u) = (prs (rmd w n u) n).map prD := by
  unfold prs
  rw [List.map_map, List.map_map]
  exact List.map_congr_left fun i _ => by simp [rmdD]
theorem rmd_comp (F : FnSem) {w : Nat → Int} {n : Nat} (h : OkW w n) {u : Nat} (hu : u ≤ 1000) (s3 s4 s5 s7 : Mx.Slot) : 
    ev F (.comp (.tup (.cons (.op .sub (.cons (.cst (.int 0)) (.cons (.op .mod (.cons (.op .mul (.cons (.op .idx (.cons (.bor 0) (.cons (.bor 6) .nil))) (.cons (.bor 1) .nil))) (.cons (.bor 2) .nil))) .nil))) (.cons (.var 6) .nil))) (.one 6) [6] (.irng (.op .len (.cons (.bor 0) .nil))) .nil) [.s .fz (tw w n), .s .fz (.int u), .s .fz (.int (psum w n)), s3, s4, s5, .no, s7] = .ok true (.list ((prs (rmd w n u) n).map prD)) [.s .fz (tw w n), .s .fz (.int u), .s .fz (.int (psum w n)), s3, s4, s5, .no, s7] := by
  have hw := whole_bd h
  have hm : ((u : Nat) : Int).natAbs < 2 ^ 63 := by omega
  obtain ⟨ρ', ⟨cur, rfl⟩, e⟩ := compL_map (clr := (wipeR · [6])) (bind := bindT (.one 6)) (cond := fun ρ => .ok false (.bool true) ρ) (elt := ev F (.tup (.cons (.op .sub (.cons (.cst (.int 0)) (.cons (.op .mod (.cons (.op .mul (.cons (.op .idx (.cons (.bor 0) (.cons (.bor 6) .nil))) (.cons (.bor 1) .nil))) (.cons (.bor 2) .nil))) .nil))) (.cons (.var 6) .nil)))) (f := rmdD w n u) (I := fun ρ => ∃ cur, ρ = [.s .fz (tw w n), .s .fz (.int u), .s .fz (.int (psum w n)), s3, s4, s5, cur, s7]) ((List.range n).map fun k : Nat => PyData.int (k : Int))
    (by
      intro x hx ρ ⟨cur, hρ⟩
      obtain ⟨i, hi, rfl⟩ := List.mem_map.mp hx
      have hi' := List.mem_range.mp hi
      subst hρ
      have i1 := nsD_idx w hi'
      refine ⟨_, _, _, false, false, rfl, rfl, ?_, ⟨.s .fz (.int i), rfl⟩⟩
      simp [Mx.runFn, Mx.outsOf, Mx.giveBack, Mx.argK, Mx.evA, Mx.putS, Mx.mutS, Mx.cmpOpt, Mx.ev.eq_1, Mx.ev.eq_2, Mx.ev.eq_3, Mx.ev.eq_4, Mx.ev.eq_5, Mx.ev.eq_6, Mx.ev.eq_7, Mx.ev.eq_8, Mx.ev.eq_9, Mx.ev.eq_10, Mx.ev.eq_11, Mx.ev.eq_12, Mx.ev.eq_13, Mx.ev.eq_14, Mx.ev.eq_16, Mx.ev.eq_19, Mx.ev.eq_20, Mx.ev.eq_21, Mx.ev.eq_22, Mx.ev.eq_23, Mx.ev.eq_24, Mx.ev.eq_25, Mx.evS.eq_1, Mx.evS.eq_2, Mx.evS.eq_3, Mx.evS.eq_4, Mx.evS.eq_5, Mx.evS.eq_6, Mx.evS.eq_7, Mx.evS.eq_8, Mx.evS.eq_9, Mx.evS.eq_10, Mx.evS.eq_11, Mx.evS.eq_12, Mx.evS.eq_13, Mx.evS.eq_14, Mx.evS.eq_17, Mx.evS.eq_18, Mx.evS.eq_19, Mx.evS.eq_20, Mx.o_add, Mx.o_sub, Mx.o_mul, Mx.o_neg, Mx.o_eq, Mx.o_ne, Mx.o_lt, Mx.o_le, Mx.o_gt, Mx.o_ge, Mx.o_isN, Mx.o_notN, Mx.o_idxL, Mx.o_idxT, Mx.o_slToL, Mx.o_lenL, Mx.o_lenT, Mx.o_min2, Mx.o_max2, Mx.o_abs, Mx.o_int, Mx.o_tupL, Mx.o_tupT, Mx.o_listL, Mx.o_listT, Mx.o_isi, Mx.addD_int, Mx.eqD_ii, Mx.old, Mx.o_mod, Mx.o_fdv, Mx.ix0, Mx.ix1, Mx.ix2, wipeR, i1, mulD_r hm, hw.1, rmdD, prD, rmd]) [.s .fz (tw w n), .s .fz (.int u), .s .fz (.int (psum w n)), s3, s4, s5, .no, s7] ⟨_, rfl⟩
  rw [rmd_map] at e
  have n8 := h.n8
  have ri := range_ok (T := n) (by omega)
  have q := ev_comp (F := F) (own := [6]) (it := .irng (.op .len (.cons (.bor 0) .nil))) (cond := .nil) (ρ := [.s .fz (tw w n), .s .fz (.int u), .s .fz (.int (psum w n)), s3, s4, s5, .no, s7]) (fr := false) (ds := (List.range n).map fun k : Nat => PyData.int (k : Int)) (ρ1 := [.s .fz (tw w n), .s .fz (.int u), .s .fz (.int (psum w n)), s3, s4, s5, .no, s7]) (ρ3 := [.s .fz (tw w n), .s .fz (.int u), .s .fz (.int (psum w n)), s3, s4, s5, .no, s7]) (by simp [Mx.runFn, Mx.outsOf, Mx.giveBack, Mx.argK, Mx.evA, Mx.putS, Mx.mutS, Mx.cmpOpt, Mx.ev.eq_1, Mx.ev.eq_2, Mx.ev.eq_3, Mx.ev.eq_4, Mx.ev.eq_5, Mx.ev.eq_6, Mx.ev.eq_7, Mx.ev.eq_8, Mx.ev.eq_9, Mx.ev.eq_10, Mx.ev.eq_11, Mx.ev.eq_12, Mx.ev.eq_13, Mx.ev.eq_14, Mx.ev.eq_16, Mx.ev.eq_19, Mx.ev.eq_20, Mx.ev.eq_21, Mx.ev.eq_22, Mx.ev.eq_23, Mx.ev.eq_24, Mx.ev.eq_25, Mx.evS.eq_1, Mx.evS.eq_2, Mx.evS.eq_3, Mx.evS.eq_4, Mx.evS.eq_5, Mx.evS.eq_6, Mx.evS.eq_7, Mx.evS.eq_8, Mx.evS.eq_9, Mx.evS.eq_10, Mx.evS.eq_11, Mx.evS.eq_12, Mx.evS.eq_13, Mx.evS.eq_14, Mx.evS.eq_17, Mx.evS.eq_18, Mx.evS.eq_19, Mx.evS.eq_20, Mx.o_add, Mx.o_sub, Mx.o_mul, Mx.o_neg, Mx.o_eq, Mx.o_ne, Mx.o_lt, Mx.o_le, Mx.o_gt, Mx.o_ge, Mx.o_isN, Mx.o_notN, Mx.o_idxL, Mx.o_idxT, Mx.o_slToL, Mx.o_lenL, Mx.o_lenT, Mx.o_min2, Mx.o_max2, Mx.o_abs, Mx.o_int, Mx.o_tupL, Mx.o_tupT, Mx.o_listL, Mx.o_listT, Mx.o_isi, Mx.addD_int, Mx.eqD_ii, Mx.old, Mx.o_mod, Mx.o_fdv, Mx.ix0, Mx.ix1, Mx.ix2, nsD_len, ri]) rfl (by simpa using len_ok (T := n) (by omega)) e rfl
  simp only [backR] at q
  exact q
end K02
end

section
set_option maxRecDepth 100000
set_option linter.all false
set_option maxHeartbeats 2000000
namespace K02
open Mx PySem L2
open K02P (Wy half updf S quo rmd shR rank dv pos step better bst prs srt)
open K00P (psum)
/-- a row with one more for those of a row of pairs -/
def bump (f g : Nat → Int) (qs : List (Int × Int)) : Nat → Int := fun i => f i + if (g i, (i : Int)) ∈ qs then 1 else 0
theorem bump_step {f g : Nat → Int} {qs : List (Int × Int)} (hn : qs.Nodup) {j : Nat} (hj : j < qs.length) {i0 : Nat} (e : qs[j] = (g i0, (i0 : Int))) : updf (bump f g (qs.take j)) i0 (bump f g (qs.take j) i0 + 1) = bump f g (qs.take (j + 1)) := by
  have h1 : qs.take (j + 1) = qs.take j ++ [(g i0, (i0 : Int))] := by rw [List.take_succ_eq_append_getElem hj, e]
  have h2 : (g i0, (i0 : Int)) ∉ qs.take j := by
    intro z
    have ea := List.take_append_drop j qs
    rw [← ea] at hn
    refine (List.nodup_append.mp hn).2.2 _ z _ ?_ rfl
    rw [List.drop_eq_getElem_cons hj, e]
    exact List.mem_cons_self
  funext i
  unfold updf bump
  rw [h1]
  by_cases h : i = i0
  · subst h
    rw [if_pos rfl, if_neg h2, if_pos (by simp)]; omega
  · rw [if_neg h]
    by_cases z : (g i, (i : Int)) ∈ qs.take j
    · rw [if_pos z, if_pos (by simp [z])]
    · rw [if_neg z, if_neg]
      intro q
      rcases List.mem_append.mp q with q | q
      · exact z q
      · simp only [List.mem_singleton, Prod.mk.injEq] at q
        exact h (by have := q.2; omega)
theorem srt_mem {g : Nat → Int} {n : Nat} {p : Int × Int} (h : p ∈ srt g n) : ∃ i, i < n ∧ p = (g i, (i : Int)) := by
  have := (K02P.srt_perm g n).mem_iff.mp h
  unfold prs at this
  obtain ⟨i, hi, rfl⟩ := List.mem_map.mp this
  exact ⟨i, List.mem_range.mp hi, rfl⟩
theorem bump_shR {w : Nat → Int} {n : Nat} (h : OkW w n) (u : Nat) {k : Nat} (hk : K02P.left w n u = k) : nsD (bump (quo w n u) (rmd w n u) ((srt (rmd w n u) n).take k)) n = nsD (shR w n u) n := by
  refine nsD_congr fun i hi => ?_
  unfold bump shR
  have := K02P.rank_iff (rmd w n u) n k hi
  rw [hk]
  by_cases z : rank (rmd w n u) n i < k
  · rw [if_pos (this.2 z), if_pos (by omega)]
  · rw [if_neg (fun q => z (this.1 q)), if_neg (by omega)]
theorem bump_loop (F : FnSem) {g f : Nat → Int} {n : Nat} (k : Nat) (s0 s1 s2 s4 s5 s6 s7 : Mx.Slot) : ∃ s5' s6', forL (bindT (.tup [5, 6])) (evS F (.seq (.agi 3 (.var 6) .add (.cst (.int 1))) .skip)) (((srt g n).take k).map prD) [s0, s1, s2, .s .ow (.list (nsD f n)), s4, s5, s6, s7] =
    .nx [s0, s1, s2, .s .ow (.list (nsD (bump f g ((srt g n).take k)) n)), s4, s5', s6', s7] := by
  have hn : ((srt g n).take k).Nodup := (K02P.srt_nodup g n).sublist (List.take_sublist _ _)
  have hm : ∀ p ∈ (srt g n).take k, ∃ i, i < n ∧ p = (g i, (i : Int)) := fun p hp => srt_mem (List.mem_of_mem_take hp)
  generalize (srt g n).take k = qs at hn hm
  have b0 : nsD f n = nsD (bump f g (qs.take 0)) n := nsD_congr fun i _ => by simp [bump]
  rw [b0]
  obtain ⟨ρ', ⟨s5', s6', rfl⟩, e⟩ := forL_nx (bind := bindT (.tup [5, 6])) (body := evS F (.seq (.agi 3 (.var 6) .add (.cst (.int 1))) .skip)) (qs.map prD)
    (fun j ρ => ∃ s5 s6, ρ = [s0, s1, s2, .s .ow (.list (nsD (bump f g (qs.take j)) n)), s4, s5, s6, s7])
    (fun j hj ρ hρ => by
      obtain ⟨s5, s6, rfl⟩ := hρ
      have hj' : j < qs.length := by simpa using hj
      rw [List.getElem_map]
      obtain ⟨i0, hi0, e0⟩ := hm _ (List.getElem_mem hj')
      rw [e0, ← bump_step hn hj' e0]
      have i1 := nsD_idx (bump f g (qs.take j)) hi0
      have i2 := nsD_setD (bump f g (qs.take j)) hi0 (bump f g (qs.take j) i0 + 1)
      refine ⟨_, [s0, s1, s2, .s .ow (.list (nsD (updf (bump f g (qs.take j)) i0 (bump f g (qs.take j) i0 + 1)) n)), s4, .s .fz (.int (g i0)), .s .fz (.int i0), s7], rfl, ?_, ⟨_, _, rfl⟩⟩
      simp [Mx.runFn, Mx.outsOf, Mx.giveBack, Mx.argK, Mx.evA, Mx.putS, Mx.mutS, Mx.cmpOpt, Mx.ev.eq_1, Mx.ev.eq_2, Mx.ev.eq_3, Mx.ev.eq_4, Mx.ev.eq_5, Mx.ev.eq_6, Mx.ev.eq_7, Mx.ev.eq_8, Mx.ev.eq_9, Mx.ev.eq_10, Mx.ev.eq_11, Mx.ev.eq_12, Mx.ev.eq_13, Mx.ev.eq_14, Mx.ev.eq_16, Mx.ev.eq_19, Mx.ev.eq_20, Mx.ev.eq_21, Mx.ev.eq_22, Mx.ev.eq_23, Mx.ev.eq_24, Mx.ev.eq_25, Mx.evS.eq_1, Mx.evS.eq_2, Mx.evS.eq_3, Mx.evS.eq_4, Mx.evS.eq_5, Mx.evS.eq_6, Mx.evS.eq_7, Mx.evS.eq_8, Mx.evS.eq_9, Mx.evS.eq_10, Mx.evS.eq_11, Mx.evS.eq_12, Mx.evS.eq_13, Mx.evS.eq_14, Mx.evS.eq_17, Mx.evS.eq_18, Mx.evS.eq_19, Mx.evS.eq_20, Mx.o_add, Mx.o_sub, Mx.o_mul, Mx.o_neg, Mx.o_eq, Mx.o_ne, Mx.o_lt, Mx.o_le, Mx.o_gt, Mx.o_ge, Mx.o_isN, Mx.o_notN, Mx.o_idxL, Mx.o_idxT, Mx.o_slToL, Mx.o_lenL, Mx.o_lenT, Mx.o_min2, Mx.o_max2, Mx.o_abs, Mx.o_int, Mx.o_tupL, Mx.o_tupT, Mx.o_listL, Mx.o_listT, Mx.o_isi, Mx.addD_int, Mx.eqD_ii, Mx.old, Mx.o_mod, Mx.o_fdv, Mx.ix0, Mx.ix1, Mx.ix2, i1, i2]) [s0, s1, s2, .s .ow (.list (nsD (bump f g (qs.take 0)) n)), s4, s5, s6, s7] ⟨_, _, rfl⟩
  rw [List.length_map, List.take_length] at e
  exact ⟨s5', s6', e⟩
/-- by_remainders -/
theorem rem_ok (m : Nat) {w : Nat → Int} {n : Nat} (h : OkW w n) {u : Nat} (hu : u ≤ 1000) : sem (fnsOf defs) (m + 1) 4 [.s .fz (tw w n), .s .fz (.int u)] = .ok true (.list (nsD (shR w n u) n)) [.s .fz (tw w n), .s .fz (.int u)] := by
  obtain ⟨l0, l1⟩ := K02P.left_bd w n u h.n1 h.w1
  obtain ⟨k, hk⟩ : ∃ k : Nat, K02P.left w n u = k := ⟨(K02P.left w n u).toNat, by omega⟩
  obtain ⟨s5, s6, e⟩ := bump_loop (sem (fnsOf defs) m) (g := rmd w n u) (f := quo w n u) (n := n) k (.s .fz (tw w n)) (.s .fz (.int u)) (.s .fz (.int (psum w n))) (.s .ow (.list ((srt (rmd w n u) n).map prD))) .no .no .no
  rw [bump_shR h u hk] at e
  have e1 := quo_comp (sem (fnsOf defs) m) h hu (.s .fz (.int (psum w n))) .no .no .no .no
  have e2 := rmd_comp (sem (fnsOf defs) m) h hu (.s .ow (.list (nsD (quo w n u) n))) .no .no .no
  have e3 := sort_prs (rmd w n u) n
  have ls : (srt (rmd w n u) n).length = n := K02P.srt_len _ _
  have e4 : cutD ((srt (rmd w n u) n).map prD) 0 (sIx ((srt (rmd w n u) n).map prD).length ((u : Int) - psum (quo w n u) n)) = ((srt (rmd w n u) n).take k).map prD := by
    have : (u : Int) - psum (quo w n u) n = k := hk
    rw [this, List.length_map, ls]
    unfold cutD sIx
    rw [if_pos (Int.natCast_nonneg _), Int.toNat_natCast, List.drop_zero, Nat.sub_zero, ← List.map_take, Nat.min_eq_left (by omega)]
  have hs1 := nsD_sumT w n
  have hs2 := nsD_sumL (quo w n u) n
  have e4' : opD .slTo [.list ((srt (rmd w n u) n).map prD), .int ((u : Int) - psum (quo w n u) n)] = some (true, .list (((srt (rmd w n u) n).take k).map prD)) := by rw [o_slToL, e4]
  have st1 : evS (sem (fnsOf defs) m) (.set 2 (.op .sum (.cons (.bor 0) .nil))) [.s .fz (tw w n), .s .fz (.int u), .no, .no, .no, .no, .no, .no] = .nx [.s .fz (tw w n), .s .fz (.int u), .s .fz (.int (psum w n)), .no, .no, .no, .no, .no] := by simp [Mx.runFn, Mx.outsOf, Mx.giveBack, Mx.argK, Mx.evA, Mx.putS, Mx.mutS, Mx.cmpOpt, Mx.ev.eq_1, Mx.ev.eq_2, Mx.ev.eq_3, Mx.ev.eq_4, Mx.ev.eq_5, Mx.ev.eq_6, Mx.ev.eq_7, Mx.ev.eq_8, Mx.ev.eq_9, Mx.ev.eq_10, Mx.ev.eq_11, Mx.ev.eq_12, Mx.ev.eq_13, Mx.ev.eq_14, Mx.ev.eq_16, Mx.ev.eq_19, Mx.ev.eq_20, Mx.ev.eq_21, Mx.ev.eq_22, Mx.ev.eq_23, Mx.ev.eq_24, Mx.ev.eq_25, Mx.evS.eq_1, Mx.evS.eq_2, Mx.evS.eq_3, Mx.evS.eq_4, Mx.evS.eq_5, Mx.evS.eq_6, Mx.evS.eq_7, Mx.evS.eq_8, Mx.evS.eq_9, Mx.evS.eq_10, Mx.evS.eq_11, Mx.evS.eq_12, Mx.evS.eq_13, Mx.evS.eq_14, Mx.evS.eq_17, Mx.evS.eq_18, Mx.evS.eq_19, Mx.evS.eq_20, Mx.o_add, Mx.o_sub, Mx.o_mul, Mx.o_neg, Mx.o_eq, Mx.o_ne, Mx.o_lt, Mx.o_le, Mx.o_gt, Mx.o_ge, Mx.o_isN, Mx.o_notN, Mx.o_idxL, Mx.o_idxT, Mx.o_slToL, Mx.o_lenL, Mx.o_lenT, Mx.o_min2, Mx.o_max2, Mx.o_abs, Mx.o_int, Mx.o_tupL, Mx.o_tupT, Mx.o_listL, Mx.o_listT, Mx.o_isi, Mx.addD_int, Mx.eqD_ii, Mx.old, Mx.o_mod, Mx.o_fdv, Mx.ix0, Mx.ix1, Mx.ix2, hs1]
  have st2 : evS (sem (fnsOf defs) m) (.set 3 (.comp (.op .fdv (.cons (.op .mul (.cons (.bor 7) (.cons (.bor 1) .nil))) (.cons (.bor 2) .nil))) (.one 7) [7] (.iseq (.bor 0)) .nil)) [.s .fz (tw w n), .s .fz (.int u), .s .fz (.int (psum w n)), .no, .no, .no, .no, .no] = .nx [.s .fz (tw w n), .s .fz (.int u), .s .fz (.int (psum w n)), .s .ow (.list (nsD (quo w n u) n)), .no, .no, .no, .no] := by simp [Mx.runFn, Mx.outsOf, Mx.giveBack, Mx.argK, Mx.evA, Mx.putS, Mx.mutS, Mx.cmpOpt, Mx.ev.eq_1, Mx.ev.eq_2, Mx.ev.eq_3, Mx.ev.eq_4, Mx.ev.eq_5, Mx.ev.eq_6, Mx.ev.eq_7, Mx.ev.eq_8, Mx.ev.eq_9, Mx.ev.eq_10, Mx.ev.eq_11, Mx.ev.eq_12, Mx.ev.eq_13, Mx.ev.eq_14, Mx.ev.eq_16, Mx.ev.eq_19, Mx.ev.eq_20, Mx.ev.eq_21, Mx.ev.eq_22, Mx.ev.eq_23, Mx.ev.eq_24, Mx.ev.eq_25, Mx.evS.eq_1, Mx.evS.eq_2, Mx.evS.eq_3, Mx.evS.eq_4, Mx.evS.eq_5, Mx.evS.eq_6, Mx.evS.eq_7, Mx.evS.eq_8, Mx.evS.eq_9, Mx.evS.eq_10, Mx.evS.eq_11, Mx.evS.eq_12, Mx.evS.eq_13, Mx.evS.eq_14, Mx.evS.eq_17, Mx.evS.eq_18, Mx.evS.eq_19, Mx.evS.eq_20, Mx.o_add, Mx.o_sub, Mx.o_mul, Mx.o_neg, Mx.o_eq, Mx.o_ne, Mx.o_lt, Mx.o_le, Mx.o_gt, Mx.o_ge, Mx.o_isN, Mx.o_notN, Mx.o_idxL, Mx.o_idxT, Mx.o_slToL, Mx.o_lenL, Mx.o_lenT, Mx.o_min2, Mx.o_max2, Mx.o_abs, Mx.o_int, Mx.o_tupL, Mx.o_tupT, Mx.o_listL, Mx.o_listT, Mx.o_isi, Mx.addD_int, Mx.eqD_ii, Mx.old, Mx.o_mod, Mx.o_fdv, Mx.ix0, Mx.ix1, Mx.ix2, e1]
  generalize hq : nsD (quo w n u) n = qd at e1 e2 hs2 e st2
  generalize (srt (rmd w n u) n).map prD = rs at e3 e4' e
  generalize ((srt (rmd w n u) n).take k).map prD = rk at e4' e
  generalize (prs (rmd w n u) n).map prD = ps at e2 e3
  have st3 : evS (sem (fnsOf defs) m) (.set 4 (.op .sorted (.cons (.comp (.tup (.cons (.op .sub (.cons (.cst (.int 0)) (.cons (.op .mod (.cons (.op .mul (.cons (.op .idx (.cons (.bor 0) (.cons (.bor 6) .nil))) (.cons (.bor 1) .nil))) (.cons (.bor 2) .nil))) .nil))) (.cons (.var 6) .nil))) (.one 6) [6] (.irng (.op .len (.cons (.bor 0) .nil))) .nil) .nil))) [.s .fz (tw w n), .s .fz (.int u), .s .fz (.int (psum w n)), .s .ow (.list qd), .no, .no, .no, .no] = .nx [.s .fz (tw w n), .s .fz (.int u), .s .fz (.int (psum w n)), .s .ow (.list qd), .s .ow (.list rs), .no, .no, .no] := by simp [Mx.runFn, Mx.outsOf, Mx.giveBack, Mx.argK, Mx.evA, Mx.putS, Mx.mutS, Mx.cmpOpt, Mx.ev.eq_1, Mx.ev.eq_2, Mx.ev.eq_3, Mx.ev.eq_4, Mx.ev.eq_5, Mx.ev.eq_6, Mx.ev.eq_7, Mx.ev.eq_8, Mx.ev.eq_9, Mx.ev.eq_10, Mx.ev.eq_11, Mx.ev.eq_12, Mx.ev.eq_13, Mx.ev.eq_14, Mx.ev.eq_16, Mx.ev.eq_19, Mx.ev.eq_20, Mx.ev.eq_21, Mx.ev.eq_22, Mx.ev.eq_23, Mx.ev.eq_24, Mx.ev.eq_25, Mx.evS.eq_1, Mx.evS.eq_2, Mx.evS.eq_3, Mx.evS.eq_4, Mx.evS.eq_5, Mx.evS.eq_6, Mx.evS.eq_7, Mx.evS.eq_8, Mx.evS.eq_9, Mx.evS.eq_10, Mx.evS.eq_11, Mx.evS.eq_12, Mx.evS.eq_13, Mx.evS.eq_14, Mx.evS.eq_17, Mx.evS.eq_18, Mx.evS.eq_19, Mx.evS.eq_20, Mx.o_add, Mx.o_sub, Mx.o_mul, Mx.o_neg, Mx.o_eq, Mx.o_ne, Mx.o_lt, Mx.o_le, Mx.o_gt, Mx.o_ge, Mx.o_isN, Mx.o_notN, Mx.o_idxL, Mx.o_idxT, Mx.o_slToL, Mx.o_lenL, Mx.o_lenT, Mx.o_min2, Mx.o_max2, Mx.o_abs, Mx.o_int, Mx.o_tupL, Mx.o_tupT, Mx.o_listL, Mx.o_listT, Mx.o_isi, Mx.addD_int, Mx.eqD_ii, Mx.old, Mx.o_mod, Mx.o_fdv, Mx.ix0, Mx.ix1, Mx.ix2, e2, e3]
  have st4 := evS_for (F := sem (fnsOf defs) m) (tg := .tup [5, 6]) (it := .iseq (.op .slTo (.cons (.bor 4) (.cons (.op .sub (.cons (.bor 1) (.cons (.op .sum (.cons (.bor 3) .nil)) .nil))) .nil)))) (ρ := [.s .fz (tw w n), .s .fz (.int u), .s .fz (.int (psum w n)), .s .ow (.list qd), .s .ow (.list rs), .no, .no, .no]) (ρ1 := [.s .fz (tw w n), .s .fz (.int u), .s .fz (.int (psum w n)), .s .ow (.list qd), .s .ow (.list rs), .no, .no, .no]) (fr := false) (ds := rk) (by
    have o4 : cutD rs 0 (sIx rs.length ((u : Int) - psum (quo w n u) n)) = rk := by
      have := e4'
      rw [o_slToL] at this
      exact PyData.list.inj (Prod.mk.inj (Option.some.inj this)).2
    simp [Mx.runFn, Mx.outsOf, Mx.giveBack, Mx.argK, Mx.evA, Mx.putS, Mx.mutS, Mx.cmpOpt, Mx.ev.eq_1, Mx.ev.eq_2, Mx.ev.eq_3, Mx.ev.eq_4, Mx.ev.eq_5, Mx.ev.eq_6, Mx.ev.eq_7, Mx.ev.eq_8, Mx.ev.eq_9, Mx.ev.eq_10, Mx.ev.eq_11, Mx.ev.eq_12, Mx.ev.eq_13, Mx.ev.eq_14, Mx.ev.eq_16, Mx.ev.eq_19, Mx.ev.eq_20, Mx.ev.eq_21, Mx.ev.eq_22, Mx.ev.eq_23, Mx.ev.eq_24, Mx.ev.eq_25, Mx.evS.eq_1, Mx.evS.eq_2, Mx.evS.eq_3, Mx.evS.eq_4, Mx.evS.eq_5, Mx.evS.eq_6, Mx.evS.eq_7, Mx.evS.eq_8, Mx.evS.eq_9, Mx.evS.eq_10, Mx.evS.eq_11, Mx.evS.eq_12, Mx.evS.eq_13, Mx.evS.eq_14, Mx.evS.eq_17, Mx.evS.eq_18, Mx.evS.eq_19, Mx.evS.eq_20, Mx.o_add, Mx.o_sub, Mx.o_mul, Mx.o_neg, Mx.o_eq, Mx.o_ne, Mx.o_lt, Mx.o_le, Mx.o_gt, Mx.o_ge, Mx.o_isN, Mx.o_notN, Mx.o_idxL, Mx.o_idxT, Mx.o_slToL, Mx.o_lenL, Mx.o_lenT, Mx.o_min2, Mx.o_max2, Mx.o_abs, Mx.o_int, Mx.o_tupL, Mx.o_tupT, Mx.o_listL, Mx.o_listT, Mx.o_isi, Mx.addD_int, Mx.eqD_ii, Mx.old, Mx.o_mod, Mx.o_fdv, Mx.ix0, Mx.ix1, Mx.ix2, hs2, o4, seqOf]) e rfl
  have tot : evS (sem (fnsOf defs) m) c_by_remainders [.s .fz (tw w n), .s .fz (.int u), .no, .no, .no, .no, .no, .no] = .rt true (.list (nsD (shR w n u) n)) [.s .fz (tw w n), .s .fz (.int u), .s .fz (.int (psum w n)), .no, .s .ow (.list rs), s5, s6, .no] := by
    refine evS_seq st1 (evS_seq st2 (evS_seq st3 (evS_seq st4 ?_)))
    simp [Mx.runFn, Mx.outsOf, Mx.giveBack, Mx.argK, Mx.evA, Mx.putS, Mx.mutS, Mx.cmpOpt, Mx.ev.eq_1, Mx.ev.eq_2, Mx.ev.eq_3, Mx.ev.eq_4, Mx.ev.eq_5, Mx.ev.eq_6, Mx.ev.eq_7, Mx.ev.eq_8, Mx.ev.eq_9, Mx.ev.eq_10, Mx.ev.eq_11, Mx.ev.eq_12, Mx.ev.eq_13, Mx.ev.eq_14, Mx.ev.eq_16, Mx.ev.eq_19, Mx.ev.eq_20, Mx.ev.eq_21, Mx.ev.eq_22, Mx.ev.eq_23, Mx.ev.eq_24, Mx.ev.eq_25, Mx.evS.eq_1, Mx.evS.eq_2, Mx.evS.eq_3, Mx.evS.eq_4, Mx.evS.eq_5, Mx.evS.eq_6, Mx.evS.eq_7, Mx.evS.eq_8, Mx.evS.eq_9, Mx.evS.eq_10, Mx.evS.eq_11, Mx.evS.eq_12, Mx.evS.eq_13, Mx.evS.eq_14, Mx.evS.eq_17, Mx.evS.eq_18, Mx.evS.eq_19, Mx.evS.eq_20, Mx.o_add, Mx.o_sub, Mx.o_mul, Mx.o_neg, Mx.o_eq, Mx.o_ne, Mx.o_lt, Mx.o_le, Mx.o_gt, Mx.o_ge, Mx.o_isN, Mx.o_notN, Mx.o_idxL, Mx.o_idxT, Mx.o_slToL, Mx.o_lenL, Mx.o_lenT, Mx.o_min2, Mx.o_max2, Mx.o_abs, Mx.o_int, Mx.o_tupL, Mx.o_tupT, Mx.o_listL, Mx.o_listT, Mx.o_isi, Mx.addD_int, Mx.eqD_ii, Mx.old, Mx.o_mod, Mx.o_fdv, Mx.ix0, Mx.ix1, Mx.ix2]
  rw [sem_succ, f4]
  exact runFn_rt rfl tot rfl
end K02
end

section
set_option maxRecDepth 100000
set_option linter.all false
set_option maxHeartbeats 2000000
namespace K02
open Mx PySem L2
open K02P (Wy half updf S quo rmd shR rank dv pos step better bst prs srt)
open K00P (psum)

theorem quo_comp2 (F : FnSem) {w : Nat → Int} {n : Nat} (h : OkW w n) {u : Nat} (hu : u ≤ 1000) : 
    ev F (.comp (.op .fdv (.cons (.op .mul (.cons (.bor 14) (.cons (.bor 1) .nil))) (.cons (.bor 6) .nil))) (.one 14) [14] (.iseq (.bor 0)) .nil) [.s .fz (tw w n), .s .fz (.int u), .s .fz (.str "remainders"), .no, .no, .s .fz (.list (nsD (fun k => (k : Int)) n)), .s .fz (.int (psum w n)), .no, .no, .no, .no, .no, .no, .no, .no] = .ok true (.list (nsD (quo w n u) n)) [.s .fz (tw w n), .s .fz (.int u), .s .fz (.str "remainders"), .no, .no, .s .fz (.list (nsD (fun k => (k : Int)) n)), .s .fz (.int (psum w n)), .no, .no, .no, .no, .no, .no, .no, .no] := by
  have hw := whole_bd h
  have hm : ((u : Nat) : Int).natAbs < 2 ^ 63 := by omega
  obtain ⟨ρ', ⟨cur, rfl⟩, e⟩ := compL_map (clr := (wipeR · [14])) (bind := bindT (.one 14)) (cond := fun ρ => .ok false (.bool true) ρ) (elt := ev F (.op .fdv (.cons (.op .mul (.cons (.bor 14) (.cons (.bor 1) .nil))) (.cons (.bor 6) .nil)))) (f := quoD u (psum w n)) (I := fun ρ => ∃ cur, ρ = [.s .fz (tw w n), .s .fz (.int u), .s .fz (.str "remainders"), .no, .no, .s .fz (.list (nsD (fun k => (k : Int)) n)), .s .fz (.int (psum w n)), .no, .no, .no, .no, .no, .no, .no, cur]) (nsD w n)
    (by
      intro x hx ρ ⟨cur, hρ⟩
      obtain ⟨i, hi, rfl⟩ := nsD_mem hx
      subst hρ
      refine ⟨_, _, _, false, false, rfl, rfl, ?_, ⟨.s .fz (.int (w i)), rfl⟩⟩
      simp [Mx.runFn, Mx.outsOf, Mx.giveBack, Mx.argK, Mx.evA, Mx.putS, Mx.mutS, Mx.cmpOpt, Mx.ev.eq_1, Mx.ev.eq_2, Mx.ev.eq_3, Mx.ev.eq_4, Mx.ev.eq_5, Mx.ev.eq_6, Mx.ev.eq_7, Mx.ev.eq_8, Mx.ev.eq_9, Mx.ev.eq_10, Mx.ev.eq_11, Mx.ev.eq_12, Mx.ev.eq_13, Mx.ev.eq_14, Mx.ev.eq_16, Mx.ev.eq_19, Mx.ev.eq_20, Mx.ev.eq_21, Mx.ev.eq_22, Mx.ev.eq_23, Mx.ev.eq_24, Mx.ev.eq_25, Mx.evS.eq_1, Mx.evS.eq_2, Mx.evS.eq_3, Mx.evS.eq_4, Mx.evS.eq_5, Mx.evS.eq_6, Mx.evS.eq_7, Mx.evS.eq_8, Mx.evS.eq_9, Mx.evS.eq_10, Mx.evS.eq_11, Mx.evS.eq_12, Mx.evS.eq_13, Mx.evS.eq_14, Mx.evS.eq_17, Mx.evS.eq_18, Mx.evS.eq_19, Mx.evS.eq_20, Mx.o_add, Mx.o_sub, Mx.o_mul, Mx.o_neg, Mx.o_eq, Mx.o_ne, Mx.o_lt, Mx.o_le, Mx.o_gt, Mx.o_ge, Mx.o_isN, Mx.o_notN, Mx.o_idxL, Mx.o_idxT, Mx.o_slToL, Mx.o_lenL, Mx.o_lenT, Mx.o_min2, Mx.o_max2, Mx.o_abs, Mx.o_int, Mx.o_tupL, Mx.o_tupT, Mx.o_listL, Mx.o_listT, Mx.o_isi, Mx.addD_int, Mx.eqD_ii, Mx.old, Mx.o_mod, Mx.o_fdv, Mx.ix0, Mx.ix1, Mx.ix2, wipeR, mulD_r hm, o_fdv hw, quoD, hw.1, hw.2]) [.s .fz (tw w n), .s .fz (.int u), .s .fz (.str "remainders"), .no, .no, .s .fz (.list (nsD (fun k => (k : Int)) n)), .s .fz (.int (psum w n)), .no, .no, .no, .no, .no, .no, .no, .no] ⟨_, rfl⟩
  rw [quo_map] at e
  have q := ev_comp (F := F) (own := [14]) (it := .iseq (.bor 0)) (cond := .nil) (ρ := [.s .fz (tw w n), .s .fz (.int u), .s .fz (.str "remainders"), .no, .no, .s .fz (.list (nsD (fun k => (k : Int)) n)), .s .fz (.int (psum w n)), .no, .no, .no, .no, .no, .no, .no, .no]) (fr := false) (ds := nsD w n) (ρ1 := [.s .fz (tw w n), .s .fz (.int u), .s .fz (.str "remainders"), .no, .no, .s .fz (.list (nsD (fun k => (k : Int)) n)), .s .fz (.int (psum w n)), .no, .no, .no, .no, .no, .no, .no, .no]) (ρ3 := [.s .fz (tw w n), .s .fz (.int u), .s .fz (.str "remainders"), .no, .no, .s .fz (.list (nsD (fun k => (k : Int)) n)), .s .fz (.int (psum w n)), .no, .no, .no, .no, .no, .no, .no, .no]) (by simp [Mx.runFn, Mx.outsOf, Mx.giveBack, Mx.argK, Mx.evA, Mx.putS, Mx.mutS, Mx.cmpOpt, Mx.ev.eq_1, Mx.ev.eq_2, Mx.ev.eq_3, Mx.ev.eq_4, Mx.ev.eq_5, Mx.ev.eq_6, Mx.ev.eq_7, Mx.ev.eq_8, Mx.ev.eq_9, Mx.ev.eq_10, Mx.ev.eq_11, Mx.ev.eq_12, Mx.ev.eq_13, Mx.ev.eq_14, Mx.ev.eq_16, Mx.ev.eq_19, Mx.ev.eq_20, Mx.ev.eq_21, Mx.ev.eq_22, Mx.ev.eq_23, Mx.ev.eq_24, Mx.ev.eq_25, Mx.evS.eq_1, Mx.evS.eq_2, Mx.evS.eq_3, Mx.evS.eq_4, Mx.evS.eq_5, Mx.evS.eq_6, Mx.evS.eq_7, Mx.evS.eq_8, Mx.evS.eq_9, Mx.evS.eq_10, Mx.evS.eq_11, Mx.evS.eq_12, Mx.evS.eq_13, Mx.evS.eq_14, Mx.evS.eq_17, Mx.evS.eq_18, Mx.evS.eq_19, Mx.evS.eq_20, Mx.o_add, Mx.o_sub, Mx.o_mul, Mx.o_neg, Mx.o_eq, Mx.o_ne, Mx.o_lt, Mx.o_le, Mx.o_gt, Mx.o_ge, Mx.o_isN, Mx.o_notN, Mx.o_idxL, Mx.o_idxT, Mx.o_slToL, Mx.o_lenL, Mx.o_lenT, Mx.o_min2, Mx.o_max2, Mx.o_abs, Mx.o_int, Mx.o_tupL, Mx.o_tupT, Mx.o_listL, Mx.o_listT, Mx.o_isi, Mx.addD_int, Mx.eqD_ii, Mx.old, Mx.o_mod, Mx.o_fdv, Mx.ix0, Mx.ix1, Mx.ix2, seqOf]) rfl (by rw [nsD_len]; exact len_ok (by have := h.n8; omega)) e rfl
  simp only [backR] at q
  exact q
/-- whose remainder is ahead -/
def ahD (w : Nat → Int) (n u at_ : Nat) : D → Bool
  | .int j => K02P.ltP (rmd w n u j.toNat, j) (rmd w n u at_, (at_ : Int))
  | _ => false
theorem o_ltT (a b c d : Int) : ltD (.tuple [.int a, .int b]) (.tuple [.int c, .int d]) = some (K02P.ltP (a, b) (c, d)) := by
  simp only [ltD, intsOf, Option.map_some, HT.lexLt, K02P.ltP]
  by_cases h : a = c
  · subst h
    by_cases h2 : b = d
    · subst h2; simp
    · simp [h2]
  · simp [h]
theorem ah_len (w : Nat → Int) (n u at_ : Nat) : (((nsD (fun k => (k : Int)) n).filter (ahD w n u at_)).map fun x => x).length = rank (rmd w n u) n at_ := by
  unfold rank nsD
  rw [List.map_map, List.length_map, List.filter_map, List.length_map]
  congr 1

theorem ah_comp (F : FnSem) {w : Nat → Int} {n : Nat} (h : OkW w n) {u : Nat} (hu : u ≤ 1000) {a : Nat} (ha : a < n) (s3 s7 s11 : Mx.Slot) :
    ev F (.comp (.var 13) (.one 13) [13] (.iseq (.bor 5)) (.op .lt (.cons (.tup (.cons (.op .sub (.cons (.cst (.int 0)) (.cons (.op .mod (.cons (.op .mul (.cons (.op .idx (.cons (.bor 0) (.cons (.bor 13) .nil))) (.cons (.bor 1) .nil))) (.cons (.bor 6) .nil))) .nil))) (.cons (.var 13) .nil))) (.cons (.tup (.cons (.op .sub (.cons (.cst (.int 0)) (.cons (.bor 10) .nil))) (.cons (.var 8) .nil))) .nil)))) [.s .fz (tw w n), .s .fz (.int u), .s .fz (.str "remainders"), s3, .no, .s .fz (.list (nsD (fun k => (k : Int)) n)), .s .fz (.int (psum w n)), s7, .s .fz (.int a), .no, .s .fz (.int (w a * u % psum w n)), s11, .no, .no, .no] = .ok true (.list (((nsD (fun k => (k : Int)) n).filter (ahD w n u a)).map fun x => x)) [.s .fz (tw w n), .s .fz (.int u), .s .fz (.str "remainders"), s3, .no, .s .fz (.list (nsD (fun k => (k : Int)) n)), .s .fz (.int (psum w n)), s7, .s .fz (.int a), .no, .s .fz (.int (w a * u % psum w n)), s11, .no, .no, .no] := by
  have hw := whole_bd h
  have hm : ((u : Nat) : Int).natAbs < 2 ^ 63 := by omega
  obtain ⟨ρ', ⟨cur, rfl⟩, e⟩ := compL_filter (clr := (wipeR · [13])) (bind := bindT (.one 13)) (cond := fun ρ => if isNil (.op .lt (.cons (.tup (.cons (.op .sub (.cons (.cst (.int 0)) (.cons (.op .mod (.cons (.op .mul (.cons (.op .idx (.cons (.bor 0) (.cons (.bor 13) .nil))) (.cons (.bor 1) .nil))) (.cons (.bor 6) .nil))) .nil))) (.cons (.var 13) .nil))) (.cons (.tup (.cons (.op .sub (.cons (.cst (.int 0)) (.cons (.bor 10) .nil))) (.cons (.var 8) .nil))) .nil))) then .ok false (.bool true) ρ else ev F (.op .lt (.cons (.tup (.cons (.op .sub (.cons (.cst (.int 0)) (.cons (.op .mod (.cons (.op .mul (.cons (.op .idx (.cons (.bor 0) (.cons (.bor 13) .nil))) (.cons (.bor 1) .nil))) (.cons (.bor 6) .nil))) .nil))) (.cons (.var 13) .nil))) (.cons (.tup (.cons (.op .sub (.cons (.cst (.int 0)) (.cons (.bor 10) .nil))) (.cons (.var 8) .nil))) .nil))) ρ) (elt := ev F (.var 13)) (f := fun x => x) (p := ahD w n u a) (I := fun ρ => ∃ cur, ρ = [.s .fz (tw w n), .s .fz (.int u), .s .fz (.str "remainders"), s3, .no, .s .fz (.list (nsD (fun k => (k : Int)) n)), .s .fz (.int (psum w n)), s7, .s .fz (.int a), .no, .s .fz (.int (w a * u % psum w n)), s11, .no, cur, .no]) (nsD (fun k => (k : Int)) n)
    (by
      intro x hx ρ ⟨cur, hρ⟩
      obtain ⟨i, hi, rfl⟩ := nsD_mem hx
      subst hρ
      have i1 := nsD_idx w hi
      refine ⟨_, [.s .fz (tw w n), .s .fz (.int u), .s .fz (.str "remainders"), s3, .no, .s .fz (.list (nsD (fun k => (k : Int)) n)), .s .fz (.int (psum w n)), s7, .s .fz (.int a), .no, .s .fz (.int (w a * u % psum w n)), s11, .no, .s .fz (.int i), .no], false, rfl, ?_, ⟨_, rfl⟩, fun _ => ⟨[.s .fz (tw w n), .s .fz (.int u), .s .fz (.str "remainders"), s3, .no, .s .fz (.list (nsD (fun k => (k : Int)) n)), .s .fz (.int (psum w n)), s7, .s .fz (.int a), .no, .s .fz (.int (w a * u % psum w n)), s11, .no, .s .fz (.int i), .no], false, by simp [Mx.runFn, Mx.outsOf, Mx.giveBack, Mx.argK, Mx.evA, Mx.putS, Mx.mutS, Mx.cmpOpt, Mx.ev.eq_1, Mx.ev.eq_2, Mx.ev.eq_3, Mx.ev.eq_4, Mx.ev.eq_5, Mx.ev.eq_6, Mx.ev.eq_7, Mx.ev.eq_8, Mx.ev.eq_9, Mx.ev.eq_10, Mx.ev.eq_11, Mx.ev.eq_12, Mx.ev.eq_13, Mx.ev.eq_14, Mx.ev.eq_16, Mx.ev.eq_19, Mx.ev.eq_20, Mx.ev.eq_21, Mx.ev.eq_22, Mx.ev.eq_23, Mx.ev.eq_24, Mx.ev.eq_25, Mx.evS.eq_1, Mx.evS.eq_2, Mx.evS.eq_3, Mx.evS.eq_4, Mx.evS.eq_5, Mx.evS.eq_6, Mx.evS.eq_7, Mx.evS.eq_8, Mx.evS.eq_9, Mx.evS.eq_10, Mx.evS.eq_11, Mx.evS.eq_12, Mx.evS.eq_13, Mx.evS.eq_14, Mx.evS.eq_17, Mx.evS.eq_18, Mx.evS.eq_19, Mx.evS.eq_20, Mx.o_add, Mx.o_sub, Mx.o_mul, Mx.o_neg, Mx.o_eq, Mx.o_ne, Mx.o_lt, Mx.o_le, Mx.o_gt, Mx.o_ge, Mx.o_isN, Mx.o_notN, Mx.o_idxL, Mx.o_idxT, Mx.o_slToL, Mx.o_lenL, Mx.o_lenT, Mx.o_min2, Mx.o_max2, Mx.o_abs, Mx.o_int, Mx.o_tupL, Mx.o_tupT, Mx.o_listL, Mx.o_listT, Mx.o_isi, Mx.addD_int, Mx.eqD_ii, Mx.old, Mx.o_mod, Mx.o_fdv, Mx.ix0, Mx.ix1, Mx.ix2], _, rfl⟩⟩
      have e0 : ∀ p q : D, opD .lt [p, q] = cmpOpt (ltD p q) := fun _ _ => rfl
      simp only [isNil]
      generalize nsD (fun k => (k : Int)) n = ms
      simp [Mx.runFn, Mx.outsOf, Mx.giveBack, Mx.argK, Mx.evA, Mx.putS, Mx.mutS, Mx.cmpOpt, Mx.ev.eq_1, Mx.ev.eq_2, Mx.ev.eq_3, Mx.ev.eq_4, Mx.ev.eq_5, Mx.ev.eq_6, Mx.ev.eq_7, Mx.ev.eq_8, Mx.ev.eq_9, Mx.ev.eq_10, Mx.ev.eq_11, Mx.ev.eq_12, Mx.ev.eq_13, Mx.ev.eq_14, Mx.ev.eq_16, Mx.ev.eq_19, Mx.ev.eq_20, Mx.ev.eq_21, Mx.ev.eq_22, Mx.ev.eq_23, Mx.ev.eq_24, Mx.ev.eq_25, Mx.evS.eq_1, Mx.evS.eq_2, Mx.evS.eq_3, Mx.evS.eq_4, Mx.evS.eq_5, Mx.evS.eq_6, Mx.evS.eq_7, Mx.evS.eq_8, Mx.evS.eq_9, Mx.evS.eq_10, Mx.evS.eq_11, Mx.evS.eq_12, Mx.evS.eq_13, Mx.evS.eq_14, Mx.evS.eq_17, Mx.evS.eq_18, Mx.evS.eq_19, Mx.evS.eq_20, Mx.o_add, Mx.o_sub, Mx.o_mul, Mx.o_neg, Mx.o_eq, Mx.o_ne, Mx.o_lt, Mx.o_le, Mx.o_gt, Mx.o_ge, Mx.o_isN, Mx.o_notN, Mx.o_idxL, Mx.o_idxT, Mx.o_slToL, Mx.o_lenL, Mx.o_lenT, Mx.o_min2, Mx.o_max2, Mx.o_abs, Mx.o_int, Mx.o_tupL, Mx.o_tupT, Mx.o_listL, Mx.o_listT, Mx.o_isi, Mx.addD_int, Mx.eqD_ii, Mx.old, Mx.o_mod, Mx.o_fdv, Mx.ix0, Mx.ix1, Mx.ix2, wipeR, i1, mulD_r hm, hw.1, e0, o_ltT, ahD, rmd]) [.s .fz (tw w n), .s .fz (.int u), .s .fz (.str "remainders"), s3, .no, .s .fz (.list (nsD (fun k => (k : Int)) n)), .s .fz (.int (psum w n)), s7, .s .fz (.int a), .no, .s .fz (.int (w a * u % psum w n)), s11, .no, .no, .no] ⟨_, rfl⟩
  have q := ev_comp (F := F) (own := [13]) (it := .iseq (.bor 5)) (cond := (.op .lt (.cons (.tup (.cons (.op .sub (.cons (.cst (.int 0)) (.cons (.op .mod (.cons (.op .mul (.cons (.op .idx (.cons (.bor 0) (.cons (.bor 13) .nil))) (.cons (.bor 1) .nil))) (.cons (.bor 6) .nil))) .nil))) (.cons (.var 13) .nil))) (.cons (.tup (.cons (.op .sub (.cons (.cst (.int 0)) (.cons (.bor 10) .nil))) (.cons (.var 8) .nil))) .nil)))) (ρ := [.s .fz (tw w n), .s .fz (.int u), .s .fz (.str "remainders"), s3, .no, .s .fz (.list (nsD (fun k => (k : Int)) n)), .s .fz (.int (psum w n)), s7, .s .fz (.int a), .no, .s .fz (.int (w a * u % psum w n)), s11, .no, .no, .no]) (fr := false) (ds := nsD (fun k => (k : Int)) n) (ρ1 := [.s .fz (tw w n), .s .fz (.int u), .s .fz (.str "remainders"), s3, .no, .s .fz (.list (nsD (fun k => (k : Int)) n)), .s .fz (.int (psum w n)), s7, .s .fz (.int a), .no, .s .fz (.int (w a * u % psum w n)), s11, .no, .no, .no]) (ρ3 := [.s .fz (tw w n), .s .fz (.int u), .s .fz (.str "remainders"), s3, .no, .s .fz (.list (nsD (fun k => (k : Int)) n)), .s .fz (.int (psum w n)), s7, .s .fz (.int a), .no, .s .fz (.int (w a * u % psum w n)), s11, .no, .no, .no]) (by simp [Mx.runFn, Mx.outsOf, Mx.giveBack, Mx.argK, Mx.evA, Mx.putS, Mx.mutS, Mx.cmpOpt, Mx.ev.eq_1, Mx.ev.eq_2, Mx.ev.eq_3, Mx.ev.eq_4, Mx.ev.eq_5, Mx.ev.eq_6, Mx.ev.eq_7, Mx.ev.eq_8, Mx.ev.eq_9, Mx.ev.eq_10, Mx.ev.eq_11, Mx.ev.eq_12, Mx.ev.eq_13, Mx.ev.eq_14, Mx.ev.eq_16, Mx.ev.eq_19, Mx.ev.eq_20, Mx.ev.eq_21, Mx.ev.eq_22, Mx.ev.eq_23, Mx.ev.eq_24, Mx.ev.eq_25, Mx.evS.eq_1, Mx.evS.eq_2, Mx.evS.eq_3, Mx.evS.eq_4, Mx.evS.eq_5, Mx.evS.eq_6, Mx.evS.eq_7, Mx.evS.eq_8, Mx.evS.eq_9, Mx.evS.eq_10, Mx.evS.eq_11, Mx.evS.eq_12, Mx.evS.eq_13, Mx.evS.eq_14, Mx.evS.eq_17, Mx.evS.eq_18, Mx.evS.eq_19, Mx.evS.eq_20, Mx.o_add, Mx.o_sub, Mx.o_mul, Mx.o_neg, Mx.o_eq, Mx.o_ne, Mx.o_lt, Mx.o_le, Mx.o_gt, Mx.o_ge, Mx.o_isN, Mx.o_notN, Mx.o_idxL, Mx.o_idxT, Mx.o_slToL, Mx.o_lenL, Mx.o_lenT, Mx.o_min2, Mx.o_max2, Mx.o_abs, Mx.o_int, Mx.o_tupL, Mx.o_tupT, Mx.o_listL, Mx.o_listT, Mx.o_isi, Mx.addD_int, Mx.eqD_ii, Mx.old, Mx.o_mod, Mx.o_fdv, Mx.ix0, Mx.ix1, Mx.ix2, seqOf]) rfl (by rw [nsD_len]; exact len_ok (by have := h.n8; omega)) e rfl
  simp only [backR] at q
  exact q
theorem lsr_loop (F : FnSem) {w : Nat → Int} {n : Nat} (h : OkW w n) {u : Nat} (hu : u ≤ 1000) {k : Nat} (hk : K02P.left w n u = k) : ∃ s8 s10 s11, 
    evS F (.for1 (.one 8) (.iseq (.bor 5)) (.seq (.set 10 (.op .mod (.cons (.op .mul (.cons (.op .idx (.cons (.bor 0) (.cons (.bor 8) .nil))) (.cons (.bor 1) .nil))) (.cons (.bor 6) .nil))))
    (.seq (.set 11 (.comp (.var 13) (.one 13) [13] (.iseq (.bor 5)) (.op .lt (.cons (.tup (.cons (.op .sub (.cons (.cst (.int 0)) (.cons (.op .mod (.cons (.op .mul (.cons (.op .idx (.cons (.bor 0) (.cons (.bor 13) .nil))) (.cons (.bor 1) .nil))) (.cons (.bor 6) .nil))) .nil))) (.cons (.var 13) .nil))) (.cons (.tup (.cons (.op .sub (.cons (.cst (.int 0)) (.cons (.bor 10) .nil))) (.cons (.var 8) .nil))) .nil)))))
    (.seq (.sti 3 (.var 8) (.op .add (.cons (.op .idx (.cons (.bor 3) (.cons (.bor 8) .nil))) (.cons (.ife (.op .lt (.cons (.op .len (.cons (.bor 11) .nil)) (.cons (.bor 7) .nil))) (.cst (.int 1)) (.cst (.int 0))) .nil))))
    .skip)))) [.s .fz (tw w n), .s .fz (.int u), .s .fz (.str "remainders"), .s .ow (.list (nsD (quo w n u) n)), .no, .s .fz (.list (nsD (fun k => (k : Int)) n)), .s .fz (.int (psum w n)), .s .fz (.int k), .no, .no, .no, .no, .no, .no, .no] = .nx [.s .fz (tw w n), .s .fz (.int u), .s .fz (.str "remainders"), .s .ow (.list (nsD (shR w n u) n)), .no, .s .fz (.list (nsD (fun k => (k : Int)) n)), .s .fz (.int (psum w n)), .s .fz (.int k), s8, .no, s10, s11, .no, .no, .no] := by
  obtain ⟨ρ', ⟨s8, s10, s11, rfl⟩, e⟩ := forL_nx (bind := bindT (.one 8)) (body := evS F (.seq (.set 10 (.op .mod (.cons (.op .mul (.cons (.op .idx (.cons (.bor 0) (.cons (.bor 8) .nil))) (.cons (.bor 1) .nil))) (.cons (.bor 6) .nil))))
    (.seq (.set 11 (.comp (.var 13) (.one 13) [13] (.iseq (.bor 5)) (.op .lt (.cons (.tup (.cons (.op .sub (.cons (.cst (.int 0)) (.cons (.op .mod (.cons (.op .mul (.cons (.op .idx (.cons (.bor 0) (.cons (.bor 13) .nil))) (.cons (.bor 1) .nil))) (.cons (.bor 6) .nil))) .nil))) (.cons (.var 13) .nil))) (.cons (.tup (.cons (.op .sub (.cons (.cst (.int 0)) (.cons (.bor 10) .nil))) (.cons (.var 8) .nil))) .nil)))))
    (.seq (.sti 3 (.var 8) (.op .add (.cons (.op .idx (.cons (.bor 3) (.cons (.bor 8) .nil))) (.cons (.ife (.op .lt (.cons (.op .len (.cons (.bor 11) .nil)) (.cons (.bor 7) .nil))) (.cst (.int 1)) (.cst (.int 0))) .nil))))
    .skip)))) (nsD (fun k => (k : Int)) n)
    (fun j ρ => ∃ s8 s10 s11, ρ = [.s .fz (tw w n), .s .fz (.int u), .s .fz (.str "remainders"), .s .ow (.list (nsD (fun i => if i < j then shR w n u i else quo w n u i) n)), .no, .s .fz (.list (nsD (fun k => (k : Int)) n)), .s .fz (.int (psum w n)), .s .fz (.int k), s8, .no, s10, s11, .no, .no, .no])
    (fun j hj ρ hρ => by
      obtain ⟨s8, s10, s11, rfl⟩ := hρ
      have hj' : j < n := by rw [nsD_len] at hj; exact hj
      rw [nsD_get]
      have hw := whole_bd h
      have hm : ((u : Nat) : Int).natAbs < 2 ^ 63 := by omega
      have i1 := nsD_idx w hj'
      have i2 := nsD_idx (fun i => if i < j then shR w n u i else quo w n u i) hj'
      have i3 := nsD_setD (fun i => if i < j then shR w n u i else quo w n u i) hj' (shR w n u j)
      have nx : nsD (updf (fun i => if i < j then shR w n u i else quo w n u i) j (shR w n u j)) n = nsD (fun i => if i < j + 1 then shR w n u i else quo w n u i) n := nsD_congr fun i hi => by
        unfold updf
        by_cases e1 : i = j
        · rw [if_pos e1, if_pos (by omega), e1]
        · rw [if_neg e1]
          show (if i < j then shR w n u i else quo w n u i) = _
          by_cases e2 : i < j
          · rw [if_pos e2, if_pos (by omega)]
          · rw [if_neg e2, if_neg (by omega)]
      rw [nx] at i3
      have vj : (if j < j then shR w n u j else quo w n u j) = quo w n u j := if_neg (Nat.lt_irrefl j)
      simp only [vj] at i2
      generalize nsD (fun i => if i < j then shR w n u i else quo w n u i) n = f1 at i2 i3
      generalize nsD (fun i => if i < j + 1 then shR w n u i else quo w n u i) n = f2 at i3
      have ec := ah_comp F h hu hj' (.s .ow (.list f1)) (.s .fz (.int k)) s11
      have hl := ah_len w n u j
      generalize ((nsD (fun k => (k : Int)) n).filter (ahD w n u j)).map (fun x => x) = al at ec hl
      have hs : shR w n u j = quo w n u j + if (rank (rmd w n u) n j : Int) < k then 1 else 0 := by unfold shR; rw [hk]
      refine ⟨_, [.s .fz (tw w n), .s .fz (.int u), .s .fz (.str "remainders"), .s .ow (.list f2), .no, .s .fz (.list (nsD (fun k => (k : Int)) n)), .s .fz (.int (psum w n)), .s .fz (.int k), .s .fz (.int j), .no, .s .fz (.int (w j * u % psum w n)), .s .ow (.list al), .no, .no, .no], rfl, ?_, ⟨_, _, _, rfl⟩⟩
      by_cases z : rank (rmd w n u) n j < k
      · have z' : (rank (rmd w n u) n j : Int) < k := by omega
        rw [if_pos z'] at hs
        rw [hs] at i3
        simp [Mx.runFn, Mx.outsOf, Mx.giveBack, Mx.argK, Mx.evA, Mx.putS, Mx.mutS, Mx.cmpOpt, Mx.ev.eq_1, Mx.ev.eq_2, Mx.ev.eq_3, Mx.ev.eq_4, Mx.ev.eq_5, Mx.ev.eq_6, Mx.ev.eq_7, Mx.ev.eq_8, Mx.ev.eq_9, Mx.ev.eq_10, Mx.ev.eq_11, Mx.ev.eq_12, Mx.ev.eq_13, Mx.ev.eq_14, Mx.ev.eq_16, Mx.ev.eq_19, Mx.ev.eq_20, Mx.ev.eq_21, Mx.ev.eq_22, Mx.ev.eq_23, Mx.ev.eq_24, Mx.ev.eq_25, Mx.evS.eq_1, Mx.evS.eq_2, Mx.evS.eq_3, Mx.evS.eq_4, Mx.evS.eq_5, Mx.evS.eq_6, Mx.evS.eq_7, Mx.evS.eq_8, Mx.evS.eq_9, Mx.evS.eq_10, Mx.evS.eq_11, Mx.evS.eq_12, Mx.evS.eq_13, Mx.evS.eq_14, Mx.evS.eq_17, Mx.evS.eq_18, Mx.evS.eq_19, Mx.evS.eq_20, Mx.o_add, Mx.o_sub, Mx.o_mul, Mx.o_neg, Mx.o_eq, Mx.o_ne, Mx.o_lt, Mx.o_le, Mx.o_gt, Mx.o_ge, Mx.o_isN, Mx.o_notN, Mx.o_idxL, Mx.o_idxT, Mx.o_slToL, Mx.o_lenL, Mx.o_lenT, Mx.o_min2, Mx.o_max2, Mx.o_abs, Mx.o_int, Mx.o_tupL, Mx.o_tupT, Mx.o_listL, Mx.o_listT, Mx.o_isi, Mx.addD_int, Mx.eqD_ii, Mx.old, Mx.o_mod, Mx.o_fdv, Mx.ix0, Mx.ix1, Mx.ix2, i1, i2, mulD_r hm, hw.1, ec, hl, z, i3]
      · have z' : ¬ (rank (rmd w n u) n j : Int) < k := by omega
        rw [if_neg z', Int.add_zero] at hs
        rw [hs] at i3
        simp [Mx.runFn, Mx.outsOf, Mx.giveBack, Mx.argK, Mx.evA, Mx.putS, Mx.mutS, Mx.cmpOpt, Mx.ev.eq_1, Mx.ev.eq_2, Mx.ev.eq_3, Mx.ev.eq_4, Mx.ev.eq_5, Mx.ev.eq_6, Mx.ev.eq_7, Mx.ev.eq_8, Mx.ev.eq_9, Mx.ev.eq_10, Mx.ev.eq_11, Mx.ev.eq_12, Mx.ev.eq_13, Mx.ev.eq_14, Mx.ev.eq_16, Mx.ev.eq_19, Mx.ev.eq_20, Mx.ev.eq_21, Mx.ev.eq_22, Mx.ev.eq_23, Mx.ev.eq_24, Mx.ev.eq_25, Mx.evS.eq_1, Mx.evS.eq_2, Mx.evS.eq_3, Mx.evS.eq_4, Mx.evS.eq_5, Mx.evS.eq_6, Mx.evS.eq_7, Mx.evS.eq_8, Mx.evS.eq_9, Mx.evS.eq_10, Mx.evS.eq_11, Mx.evS.eq_12, Mx.evS.eq_13, Mx.evS.eq_14, Mx.evS.eq_17, Mx.evS.eq_18, Mx.evS.eq_19, Mx.evS.eq_20, Mx.o_add, Mx.o_sub, Mx.o_mul, Mx.o_neg, Mx.o_eq, Mx.o_ne, Mx.o_lt, Mx.o_le, Mx.o_gt, Mx.o_ge, Mx.o_isN, Mx.o_notN, Mx.o_idxL, Mx.o_idxT, Mx.o_slToL, Mx.o_lenL, Mx.o_lenT, Mx.o_min2, Mx.o_max2, Mx.o_abs, Mx.o_int, Mx.o_tupL, Mx.o_tupT, Mx.o_listL, Mx.o_listT, Mx.o_isi, Mx.addD_int, Mx.eqD_ii, Mx.old, Mx.o_mod, Mx.o_fdv, Mx.ix0, Mx.ix1, Mx.ix2, i1, i2, mulD_r hm, hw.1, ec, hl, z, i3])
    [.s .fz (tw w n), .s .fz (.int u), .s .fz (.str "remainders"), .s .ow (.list (nsD (quo w n u) n)), .no, .s .fz (.list (nsD (fun k => (k : Int)) n)), .s .fz (.int (psum w n)), .s .fz (.int k), .no, .no, .no, .no, .no, .no, .no] ⟨_, _, _, by rw [nsD_congr (f := fun i => if i < 0 then shR w n u i else quo w n u i) (g := quo w n u) fun i _ => if_neg (Nat.not_lt_zero i)]⟩
  rw [nsD_len, nsD_congr (f := fun i => if i < n then shR w n u i else quo w n u i) (g := shR w n u) fun i hi => if_pos hi] at e
  exact ⟨s8, s10, s11, evS_for (fr := false) (ds := nsD (fun k => (k : Int)) n) (ρ1 := [.s .fz (tw w n), .s .fz (.int u), .s .fz (.str "remainders"), .s .ow (.list (nsD (quo w n u) n)), .no, .s .fz (.list (nsD (fun k => (k : Int)) n)), .s .fz (.int (psum w n)), .s .fz (.int k), .no, .no, .no, .no, .no, .no, .no]) (by simp [Mx.runFn, Mx.outsOf, Mx.giveBack, Mx.argK, Mx.evA, Mx.putS, Mx.mutS, Mx.cmpOpt, Mx.ev.eq_1, Mx.ev.eq_2, Mx.ev.eq_3, Mx.ev.eq_4, Mx.ev.eq_5, Mx.ev.eq_6, Mx.ev.eq_7, Mx.ev.eq_8, Mx.ev.eq_9, Mx.ev.eq_10, Mx.ev.eq_11, Mx.ev.eq_12, Mx.ev.eq_13, Mx.ev.eq_14, Mx.ev.eq_16, Mx.ev.eq_19, Mx.ev.eq_20, Mx.ev.eq_21, Mx.ev.eq_22, Mx.ev.eq_23, Mx.ev.eq_24, Mx.ev.eq_25, Mx.evS.eq_1, Mx.evS.eq_2, Mx.evS.eq_3, Mx.evS.eq_4, Mx.evS.eq_5, Mx.evS.eq_6, Mx.evS.eq_7, Mx.evS.eq_8, Mx.evS.eq_9, Mx.evS.eq_10, Mx.evS.eq_11, Mx.evS.eq_12, Mx.evS.eq_13, Mx.evS.eq_14, Mx.evS.eq_17, Mx.evS.eq_18, Mx.evS.eq_19, Mx.evS.eq_20, Mx.o_add, Mx.o_sub, Mx.o_mul, Mx.o_neg, Mx.o_eq, Mx.o_ne, Mx.o_lt, Mx.o_le, Mx.o_gt, Mx.o_ge, Mx.o_isN, Mx.o_notN, Mx.o_idxL, Mx.o_idxT, Mx.o_slToL, Mx.o_lenL, Mx.o_lenT, Mx.o_min2, Mx.o_max2, Mx.o_abs, Mx.o_int, Mx.o_tupL, Mx.o_tupT, Mx.o_listL, Mx.o_listT, Mx.o_isi, Mx.addD_int, Mx.eqD_ii, Mx.old, Mx.o_mod, Mx.o_fdv, Mx.ix0, Mx.ix1, Mx.ix2, seqOf]) e rfl⟩
/-- the law's own share by remainders -/
theorem lsR_ok (m : Nat) {w : Nat → Int} {n : Nat} (h : OkW w n) {u : Nat} (hu : u ≤ 1000) : sem (fnsOf defs) (m + 1) 18 [.s .fz (tw w n), .s .fz (.int u), .s .fz (.str "remainders")] = .ok true (.list (nsD (shR w n u) n)) [.s .fz (tw w n), .s .fz (.int u), .s .fz (.str "remainders")] := by
  obtain ⟨l0, l1⟩ := K02P.left_bd w n u h.n1 h.w1
  obtain ⟨k, hk⟩ : ∃ k : Nat, K02P.left w n u = k := ⟨(K02P.left w n u).toNat, by omega⟩
  obtain ⟨s8, s10, s11, e3⟩ := lsr_loop (sem (fnsOf defs) m) h hu hk
  have e1 := quo_comp2 (sem (fnsOf defs) m) h hu
  have hs2 := nsD_sumL (quo w n u) n
  have hk2 : (u : Int) - psum (quo w n u) n = k := hk
  have q : eqD (.str "remainders") (.str "remainders") = some true := eq_r .r
  have e2 : evS (sem (fnsOf defs) m) ls2 [.s .fz (tw w n), .s .fz (.int u), .s .fz (.str "remainders"), .no, .no, .s .fz (.list (nsD (fun k => (k : Int)) n)), .s .fz (.int (psum w n)), .no, .no, .no, .no, .no, .no, .no, .no] = .rt true (.list (nsD (shR w n u) n)) [.s .fz (tw w n), .s .fz (.int u), .s .fz (.str "remainders"), .no, .no, .s .fz (.list (nsD (fun k => (k : Int)) n)), .s .fz (.int (psum w n)), .s .fz (.int k), s8, .no, s10, s11, .no, .no, .no] := by
    generalize hq : nsD (quo w n u) n = qd at e1 hs2 e3
    simp [Mx.runFn, Mx.outsOf, Mx.giveBack, Mx.argK, Mx.evA, Mx.putS, Mx.mutS, Mx.cmpOpt, Mx.ev.eq_1, Mx.ev.eq_2, Mx.ev.eq_3, Mx.ev.eq_4, Mx.ev.eq_5, Mx.ev.eq_6, Mx.ev.eq_7, Mx.ev.eq_8, Mx.ev.eq_9, Mx.ev.eq_10, Mx.ev.eq_11, Mx.ev.eq_12, Mx.ev.eq_13, Mx.ev.eq_14, Mx.ev.eq_16, Mx.ev.eq_19, Mx.ev.eq_20, Mx.ev.eq_21, Mx.ev.eq_22, Mx.ev.eq_23, Mx.ev.eq_24, Mx.ev.eq_25, Mx.evS.eq_1, Mx.evS.eq_2, Mx.evS.eq_3, Mx.evS.eq_4, Mx.evS.eq_5, Mx.evS.eq_6, Mx.evS.eq_7, Mx.evS.eq_8, Mx.evS.eq_9, Mx.evS.eq_10, Mx.evS.eq_11, Mx.evS.eq_12, Mx.evS.eq_13, Mx.evS.eq_14, Mx.evS.eq_17, Mx.evS.eq_18, Mx.evS.eq_19, Mx.evS.eq_20, Mx.o_add, Mx.o_sub, Mx.o_mul, Mx.o_neg, Mx.o_eq, Mx.o_ne, Mx.o_lt, Mx.o_le, Mx.o_gt, Mx.o_ge, Mx.o_isN, Mx.o_notN, Mx.o_idxL, Mx.o_idxT, Mx.o_slToL, Mx.o_lenL, Mx.o_lenT, Mx.o_min2, Mx.o_max2, Mx.o_abs, Mx.o_int, Mx.o_tupL, Mx.o_tupT, Mx.o_listL, Mx.o_listT, Mx.o_isi, Mx.addD_int, Mx.eqD_ii, Mx.old, Mx.o_mod, Mx.o_fdv, Mx.ix0, Mx.ix1, Mx.ix2, ls2, q, e1, hs2, hk2, e3]
  have tot : evS (sem (fnsOf defs) m) c__law_share [.s .fz (tw w n), .s .fz (.int u), .s .fz (.str "remainders"), .no, .no, .no, .no, .no, .no, .no, .no, .no, .no, .no, .no] = .rt true (.list (nsD (shR w n u) n)) [.s .fz (tw w n), .s .fz (.int u), .s .fz (.str "remainders"), .no, .no, .s .fz (.list (nsD (fun k => (k : Int)) n)), .s .fz (.int (psum w n)), .s .fz (.int k), s8, .no, s10, s11, .no, .no, .no] := by
    rw [ls_eq]
    refine evS_seq (ls1_ok _ h .r u) ?_
    rw [evS.eq_2]
    show (match evS (sem (fnsOf defs) m) ls2 [.s .fz (tw w n), .s .fz (.int u), .s .fz (.str "remainders"), .no, .no, .s .fz (.list (nsD (fun k => (k : Int)) n)), .s .fz (.int (psum w n)), .no, .no, .no, .no, .no, .no, .no, .no] with | .nx ρ' => _ | r => r) = _
    rw [e2]
  rw [sem_succ, f18]
  exact runFn_rt rfl tot rfl
end K02
end

section
set_option maxRecDepth 100000
set_option linter.all false
set_option maxHeartbeats 2000000
namespace K02
open Mx PySem L2
open K02P (Wy half updf S quo rmd shR rank dv pos step better bst prs srt)
open K00P (psum)
theorem S_r (w : Nat → Int) (n u : Nat) : S .r w n u = shR w n u := rfl
theorem S_d {y : Wy} (h : isR y = false) (w : Nat → Int) (n u : Nat) : S y w n u = dv y w n u := by cases y <;> first | rfl | cases h
theorem isR_eq {y : Wy} (h : isR y = true) : y = .r := by cases y <;> first | rfl | cases h
theorem lsh_ok (m : Nat) {w : Nat → Int} {n : Nat} (h : OkW w n) (y : Wy) {u : Nat} (hu : u ≤ 1000) : sem (fnsOf defs) (m + 2) 18 [.s .fz (tw w n), .s .fz (.int u), .s .fz (.str (wyS y))] = .ok true (.list (nsD (S y w n u) n)) [.s .fz (tw w n), .s .fz (.int u), .s .fz (.str (wyS y))] := by
  cases hy : isR y with
  | true => obtain rfl := isR_eq hy; exact lsR_ok (m + 1) h hu
  | false => rw [S_d hy]; exact lsD_ok m h y hy u hu
theorem shd_k2 {F : FnSem} {W U : D} {z : Str} {d : D} (q : eqD (.str z) (.str "remainders") = some false) (e2 : F 6 [.s .fz W, .s .fz U, .s .fz (.str z)] = .ok true d [.s .fz W, .s .fz U, .s .fz (.str z)]) : evS F c_shared [.s .fz W, .s .fz U, .s .fz (.str z)] = .rt true d [.s .fz W, .s .fz U, .s .fz (.str z)] := by
  simp [Mx.runFn, Mx.outsOf, Mx.giveBack, Mx.argK, Mx.evA, Mx.putS, Mx.mutS, Mx.cmpOpt, Mx.ev.eq_1, Mx.ev.eq_2, Mx.ev.eq_3, Mx.ev.eq_4, Mx.ev.eq_5, Mx.ev.eq_6, Mx.ev.eq_7, Mx.ev.eq_8, Mx.ev.eq_9, Mx.ev.eq_10, Mx.ev.eq_11, Mx.ev.eq_12, Mx.ev.eq_13, Mx.ev.eq_14, Mx.ev.eq_16, Mx.ev.eq_19, Mx.ev.eq_20, Mx.ev.eq_21, Mx.ev.eq_22, Mx.ev.eq_23, Mx.ev.eq_24, Mx.ev.eq_25, Mx.evS.eq_1, Mx.evS.eq_2, Mx.evS.eq_3, Mx.evS.eq_4, Mx.evS.eq_5, Mx.evS.eq_6, Mx.evS.eq_7, Mx.evS.eq_8, Mx.evS.eq_9, Mx.evS.eq_10, Mx.evS.eq_11, Mx.evS.eq_12, Mx.evS.eq_13, Mx.evS.eq_14, Mx.evS.eq_17, Mx.evS.eq_18, Mx.evS.eq_19, Mx.evS.eq_20, Mx.o_add, Mx.o_sub, Mx.o_mul, Mx.o_neg, Mx.o_eq, Mx.o_ne, Mx.o_lt, Mx.o_le, Mx.o_gt, Mx.o_ge, Mx.o_isN, Mx.o_notN, Mx.o_idxL, Mx.o_idxT, Mx.o_slToL, Mx.o_lenL, Mx.o_lenT, Mx.o_min2, Mx.o_max2, Mx.o_abs, Mx.o_int, Mx.o_tupL, Mx.o_tupT, Mx.o_listL, Mx.o_listT, Mx.o_isi, Mx.addD_int, Mx.eqD_ii, Mx.old, Mx.o_mod, Mx.o_fdv, Mx.ix0, Mx.ix1, Mx.ix2, c_shared, q, e2]
theorem shd_k1 {F : FnSem} {W U : D} {z : Str} {d : D} (q : eqD (.str z) (.str "remainders") = some true) (e2 : F 4 [.s .fz W, .s .fz U] = .ok true d [.s .fz W, .s .fz U]) : evS F c_shared [.s .fz W, .s .fz U, .s .fz (.str z)] = .rt true d [.s .fz W, .s .fz U, .s .fz (.str z)] := by
  simp [Mx.runFn, Mx.outsOf, Mx.giveBack, Mx.argK, Mx.evA, Mx.putS, Mx.mutS, Mx.cmpOpt, Mx.ev.eq_1, Mx.ev.eq_2, Mx.ev.eq_3, Mx.ev.eq_4, Mx.ev.eq_5, Mx.ev.eq_6, Mx.ev.eq_7, Mx.ev.eq_8, Mx.ev.eq_9, Mx.ev.eq_10, Mx.ev.eq_11, Mx.ev.eq_12, Mx.ev.eq_13, Mx.ev.eq_14, Mx.ev.eq_16, Mx.ev.eq_19, Mx.ev.eq_20, Mx.ev.eq_21, Mx.ev.eq_22, Mx.ev.eq_23, Mx.ev.eq_24, Mx.ev.eq_25, Mx.evS.eq_1, Mx.evS.eq_2, Mx.evS.eq_3, Mx.evS.eq_4, Mx.evS.eq_5, Mx.evS.eq_6, Mx.evS.eq_7, Mx.evS.eq_8, Mx.evS.eq_9, Mx.evS.eq_10, Mx.evS.eq_11, Mx.evS.eq_12, Mx.evS.eq_13, Mx.evS.eq_14, Mx.evS.eq_17, Mx.evS.eq_18, Mx.evS.eq_19, Mx.evS.eq_20, Mx.o_add, Mx.o_sub, Mx.o_mul, Mx.o_neg, Mx.o_eq, Mx.o_ne, Mx.o_lt, Mx.o_le, Mx.o_gt, Mx.o_ge, Mx.o_isN, Mx.o_notN, Mx.o_idxL, Mx.o_idxT, Mx.o_slToL, Mx.o_lenL, Mx.o_lenT, Mx.o_min2, Mx.o_max2, Mx.o_abs, Mx.o_int, Mx.o_tupL, Mx.o_tupT, Mx.o_listL, Mx.o_listT, Mx.o_isi, Mx.addD_int, Mx.eqD_ii, Mx.old, Mx.o_mod, Mx.o_fdv, Mx.ix0, Mx.ix1, Mx.ix2, c_shared, q, e2]
theorem shd_ok (m : Nat) {w : Nat → Int} {n : Nat} (h : OkW w n) (y : Wy) {u : Nat} (hu : u ≤ 1000) : sem (fnsOf defs) (m + 3) 7 [.s .fz (tw w n), .s .fz (.int u), .s .fz (.str (wyS y))] = .ok true (.list (nsD (S y w n u) n)) [.s .fz (tw w n), .s .fz (.int u), .s .fz (.str (wyS y))] := by
  have e1 : sem (fnsOf defs) (m + 2) 4 _ = _ := rem_ok (m + 1) h hu
  have e2 := div_ok m h y u hu
  have q := eq_r y
  rw [sem_succ, f7]
  generalize sem (fnsOf defs) (m + 2) = F at e1 e2 ⊢
  have tot : evS F c_shared [.s .fz (tw w n), .s .fz (.int u), .s .fz (.str (wyS y))] = .rt true (.list (nsD (S y w n u) n)) [.s .fz (tw w n), .s .fz (.int u), .s .fz (.str (wyS y))] := by
    cases hy : isR y with
    | true =>
      obtain rfl := isR_eq hy
      rw [S_r]
      have q : eqD (.str (wyS .r)) (.str "remainders") = some true := eq_r .r
      generalize wyS .r = z at q
      exact shd_k1 q e1
    | false =>
      rw [S_d hy]
      rw [hy] at q
      generalize wyS y = z at q e2
      exact shd_k2 q e2
  exact runFn_rt rfl tot rfl
theorem share_ok (m : Nat) {w : Nat → Int} {n : Nat} (h : OkW w n) (y : Wy) {u : Nat} (hu : u ≤ 500) : sem (fnsOf defs) (m + 4) 8 [.s .fz (tw w n), .s .fz (.int u), .s .fz (.str (wyS y))] = .ok false (.tuple (nsD (S y w n u) n)) [.s .fz (tw w n), .s .fz (.int u), .s .fz (.str (wyS y))] := by
  have e1 := need_ok m h hu y
  have e2 := shd_ok m h y (u := u) (by omega)
  rw [sem_succ, f8]
  have e1 : sem (fnsOf defs) (m + 3) 3 _ = _ := e1
  generalize sem (fnsOf defs) (m + 3) = F at e1 e2 ⊢
  simp [Mx.runFn, Mx.outsOf, Mx.giveBack, Mx.argK, Mx.evA, Mx.putS, Mx.mutS, Mx.cmpOpt, Mx.ev.eq_1, Mx.ev.eq_2, Mx.ev.eq_3, Mx.ev.eq_4, Mx.ev.eq_5, Mx.ev.eq_6, Mx.ev.eq_7, Mx.ev.eq_8, Mx.ev.eq_9, Mx.ev.eq_10, Mx.ev.eq_11, Mx.ev.eq_12, Mx.ev.eq_13, Mx.ev.eq_14, Mx.ev.eq_16, Mx.ev.eq_19, Mx.ev.eq_20, Mx.ev.eq_21, Mx.ev.eq_22, Mx.ev.eq_23, Mx.ev.eq_24, Mx.ev.eq_25, Mx.evS.eq_1, Mx.evS.eq_2, Mx.evS.eq_3, Mx.evS.eq_4, Mx.evS.eq_5, Mx.evS.eq_6, Mx.evS.eq_7, Mx.evS.eq_8, Mx.evS.eq_9, Mx.evS.eq_10, Mx.evS.eq_11, Mx.evS.eq_12, Mx.evS.eq_13, Mx.evS.eq_14, Mx.evS.eq_17, Mx.evS.eq_18, Mx.evS.eq_19, Mx.evS.eq_20, Mx.o_add, Mx.o_sub, Mx.o_mul, Mx.o_neg, Mx.o_eq, Mx.o_ne, Mx.o_lt, Mx.o_le, Mx.o_gt, Mx.o_ge, Mx.o_isN, Mx.o_notN, Mx.o_idxL, Mx.o_idxT, Mx.o_slToL, Mx.o_lenL, Mx.o_lenT, Mx.o_min2, Mx.o_max2, Mx.o_abs, Mx.o_int, Mx.o_tupL, Mx.o_tupT, Mx.o_listL, Mx.o_listT, Mx.o_isi, Mx.addD_int, Mx.eqD_ii, Mx.old, Mx.o_mod, Mx.o_fdv, Mx.ix0, Mx.ix1, Mx.ix2, c_share, e1, e2]
abbrev ids (n : Nat) : List D := nsD (fun k => (k : Int)) n
theorem ids_range (n : Nat) : ((List.range n).map fun k : Nat => PyData.int (k : Int)) = ids n := by unfold ids nsD; rw [List.map_map]; rfl
/-- who has fewer -/
def losP (f g : Nat → Int) : D → Bool
  | .int j => decide (g j.toNat < f j.toNat)
  | _ => false
def losL (f g : Nat → Int) (n : Nat) : List D := ((ids n).filter (losP f g)).map fun x => x
def Loss (f g : Nat → Int) (n : Nat) : Prop := ∃ i, i < n ∧ g i < f i
theorem los_len (f g : Nat → Int) (n : Nat) : 0 < (losL f g n).length ↔ Loss f g n := by
  unfold losL
  rw [List.length_map, List.length_pos_iff_exists_mem]
  constructor
  · rintro ⟨x, hx⟩
    rw [List.mem_filter] at hx
    obtain ⟨i, hi, rfl⟩ := nsD_mem hx.1
    exact ⟨i, hi, by simpa [losP] using hx.2⟩
  · rintro ⟨i, hi, h⟩
    refine ⟨.int i, List.mem_filter.mpr ⟨?_, by simpa [losP] using h⟩⟩
    have : i < (ids n).length := by rw [nsD_len]; exact hi
    have e := nsD_get (fun k => (k : Int)) n i this
    rw [← e]; exact List.getElem_mem this
theorem losers_ok (m : Nat) {w : Nat → Int} {n : Nat} (h : OkW w n) (y : Wy) {u : Nat} (hu : u ≤ 500) : sem (fnsOf defs) (m + 4) 9 [.s .fz (tw w n), .s .fz (.int u), .s .fz (.str (wyS y))] = .ok false (.tuple (losL (S y w n u) (S y w n (u + 1)) n)) [.s .fz (tw w n), .s .fz (.int u), .s .fz (.str (wyS y))] := by
  have e1 := need_ok m h hu y
  have e2 := shd_ok m h y (u := u) (by omega)
  have e3 := shd_ok m h y (u := u + 1) (by omega)
  have ec : ((u + 1 : Nat) : Int) = (u : Int) + 1 := by omega
  rw [ec] at e3
  have n8 := h.n8
  have ri := range_ok (T := n) (by omega)
  have hr := ids_range n
  generalize S y w n u = f at e2
  generalize S y w n (u + 1) = g at e3
  obtain ⟨ρ', ⟨cur, rfl⟩, e⟩ := compL_filter (clr := (wipeR · [5])) (bind := bindT (.one 5)) (cond := fun ρ => if isNil (.op .lt (.cons (.op .idx (.cons (.bor 4) (.cons (.bor 5) .nil))) (.cons (.op .idx (.cons (.bor 3) (.cons (.bor 5) .nil))) .nil))) then .ok false (.bool true) ρ else ev (sem (fnsOf defs) (m + 3)) (.op .lt (.cons (.op .idx (.cons (.bor 4) (.cons (.bor 5) .nil))) (.cons (.op .idx (.cons (.bor 3) (.cons (.bor 5) .nil))) .nil))) ρ) (elt := ev (sem (fnsOf defs) (m + 3)) (.var 5)) (f := fun x => x) (p := losP f g) (I := fun ρ => ∃ cur, ρ = [.s .fz (tw w n), .s .fz (.int u), .s .fz (.str (wyS y)), .s .ow (.list (nsD f n)), .s .ow (.list (nsD g n)), cur]) (ids n)
    (by
      intro x hx ρ ⟨cur, hρ⟩
      obtain ⟨i, hi, rfl⟩ := nsD_mem hx
      subst hρ
      have i1 := nsD_idx f hi
      have i2 := nsD_idx g hi
      refine ⟨_, [.s .fz (tw w n), .s .fz (.int u), .s .fz (.str (wyS y)), .s .ow (.list (nsD f n)), .s .ow (.list (nsD g n)), .s .fz (.int i)], false, rfl, ?_, ⟨_, rfl⟩, fun _ => ⟨[.s .fz (tw w n), .s .fz (.int u), .s .fz (.str (wyS y)), .s .ow (.list (nsD f n)), .s .ow (.list (nsD g n)), .s .fz (.int i)], false, by simp [Mx.runFn, Mx.outsOf, Mx.giveBack, Mx.argK, Mx.evA, Mx.putS, Mx.mutS, Mx.cmpOpt, Mx.ev.eq_1, Mx.ev.eq_2, Mx.ev.eq_3, Mx.ev.eq_4, Mx.ev.eq_5, Mx.ev.eq_6, Mx.ev.eq_7, Mx.ev.eq_8, Mx.ev.eq_9, Mx.ev.eq_10, Mx.ev.eq_11, Mx.ev.eq_12, Mx.ev.eq_13, Mx.ev.eq_14, Mx.ev.eq_16, Mx.ev.eq_19, Mx.ev.eq_20, Mx.ev.eq_21, Mx.ev.eq_22, Mx.ev.eq_23, Mx.ev.eq_24, Mx.ev.eq_25, Mx.evS.eq_1, Mx.evS.eq_2, Mx.evS.eq_3, Mx.evS.eq_4, Mx.evS.eq_5, Mx.evS.eq_6, Mx.evS.eq_7, Mx.evS.eq_8, Mx.evS.eq_9, Mx.evS.eq_10, Mx.evS.eq_11, Mx.evS.eq_12, Mx.evS.eq_13, Mx.evS.eq_14, Mx.evS.eq_17, Mx.evS.eq_18, Mx.evS.eq_19, Mx.evS.eq_20, Mx.o_add, Mx.o_sub, Mx.o_mul, Mx.o_neg, Mx.o_eq, Mx.o_ne, Mx.o_lt, Mx.o_le, Mx.o_gt, Mx.o_ge, Mx.o_isN, Mx.o_notN, Mx.o_idxL, Mx.o_idxT, Mx.o_slToL, Mx.o_lenL, Mx.o_lenT, Mx.o_min2, Mx.o_max2, Mx.o_abs, Mx.o_int, Mx.o_tupL, Mx.o_tupT, Mx.o_listL, Mx.o_listT, Mx.o_isi, Mx.addD_int, Mx.eqD_ii, Mx.old, Mx.o_mod, Mx.o_fdv, Mx.ix0, Mx.ix1, Mx.ix2], _, rfl⟩⟩
      simp only [isNil]
      simp [Mx.runFn, Mx.outsOf, Mx.giveBack, Mx.argK, Mx.evA, Mx.putS, Mx.mutS, Mx.cmpOpt, Mx.ev.eq_1, Mx.ev.eq_2, Mx.ev.eq_3, Mx.ev.eq_4, Mx.ev.eq_5, Mx.ev.eq_6, Mx.ev.eq_7, Mx.ev.eq_8, Mx.ev.eq_9, Mx.ev.eq_10, Mx.ev.eq_11, Mx.ev.eq_12, Mx.ev.eq_13, Mx.ev.eq_14, Mx.ev.eq_16, Mx.ev.eq_19, Mx.ev.eq_20, Mx.ev.eq_21, Mx.ev.eq_22, Mx.ev.eq_23, Mx.ev.eq_24, Mx.ev.eq_25, Mx.evS.eq_1, Mx.evS.eq_2, Mx.evS.eq_3, Mx.evS.eq_4, Mx.evS.eq_5, Mx.evS.eq_6, Mx.evS.eq_7, Mx.evS.eq_8, Mx.evS.eq_9, Mx.evS.eq_10, Mx.evS.eq_11, Mx.evS.eq_12, Mx.evS.eq_13, Mx.evS.eq_14, Mx.evS.eq_17, Mx.evS.eq_18, Mx.evS.eq_19, Mx.evS.eq_20, Mx.o_add, Mx.o_sub, Mx.o_mul, Mx.o_neg, Mx.o_eq, Mx.o_ne, Mx.o_lt, Mx.o_le, Mx.o_gt, Mx.o_ge, Mx.o_isN, Mx.o_notN, Mx.o_idxL, Mx.o_idxT, Mx.o_slToL, Mx.o_lenL, Mx.o_lenT, Mx.o_min2, Mx.o_max2, Mx.o_abs, Mx.o_int, Mx.o_tupL, Mx.o_tupT, Mx.o_listL, Mx.o_listT, Mx.o_isi, Mx.addD_int, Mx.eqD_ii, Mx.old, Mx.o_mod, Mx.o_fdv, Mx.ix0, Mx.ix1, Mx.ix2, wipeR, i1, i2, losP]) [.s .fz (tw w n), .s .fz (.int u), .s .fz (.str (wyS y)), .s .ow (.list (nsD f n)), .s .ow (.list (nsD g n)), .no] ⟨_, rfl⟩
  have q := ev_comp (F := sem (fnsOf defs) (m + 3)) (own := [5]) (it := .irng (.op .len (.cons (.bor 0) .nil))) (cond := .op .lt (.cons (.op .idx (.cons (.bor 4) (.cons (.bor 5) .nil))) (.cons (.op .idx (.cons (.bor 3) (.cons (.bor 5) .nil))) .nil))) (ρ := [.s .fz (tw w n), .s .fz (.int u), .s .fz (.str (wyS y)), .s .ow (.list (nsD f n)), .s .ow (.list (nsD g n)), .no]) (fr := false) (ds := ids n) (ρ1 := [.s .fz (tw w n), .s .fz (.int u), .s .fz (.str (wyS y)), .s .ow (.list (nsD f n)), .s .ow (.list (nsD g n)), .no]) (ρ3 := [.s .fz (tw w n), .s .fz (.int u), .s .fz (.str (wyS y)), .s .ow (.list (nsD f n)), .s .ow (.list (nsD g n)), .no]) (by simp [Mx.runFn, Mx.outsOf, Mx.giveBack, Mx.argK, Mx.evA, Mx.putS, Mx.mutS, Mx.cmpOpt, Mx.ev.eq_1, Mx.ev.eq_2, Mx.ev.eq_3, Mx.ev.eq_4, Mx.ev.eq_5, Mx.ev.eq_6, Mx.ev.eq_7, Mx.ev.eq_8, Mx.ev.eq_9, Mx.ev.eq_10, Mx.ev.eq_11, Mx.ev.eq_12, Mx.ev.eq_13, Mx.ev.eq_14, Mx.ev.eq_16, Mx.ev.eq_19, Mx.ev.eq_20, Mx.ev.eq_21, Mx.ev.eq_22, Mx.ev.eq_23, Mx.ev.eq_24, Mx.ev.eq_25, Mx.evS.eq_1, Mx.evS.eq_2, Mx.evS.eq_3, Mx.evS.eq_4, Mx.evS.eq_5, Mx.evS.eq_6, Mx.evS.eq_7, Mx.evS.eq_8, Mx.evS.eq_9, Mx.evS.eq_10, Mx.evS.eq_11, Mx.evS.eq_12, Mx.evS.eq_13, Mx.evS.eq_14, Mx.evS.eq_17, Mx.evS.eq_18, Mx.evS.eq_19, Mx.evS.eq_20, Mx.o_add, Mx.o_sub, Mx.o_mul, Mx.o_neg, Mx.o_eq, Mx.o_ne, Mx.o_lt, Mx.o_le, Mx.o_gt, Mx.o_ge, Mx.o_isN, Mx.o_notN, Mx.o_idxL, Mx.o_idxT, Mx.o_slToL, Mx.o_lenL, Mx.o_lenT, Mx.o_min2, Mx.o_max2, Mx.o_abs, Mx.o_int, Mx.o_tupL, Mx.o_tupT, Mx.o_listL, Mx.o_listT, Mx.o_isi, Mx.addD_int, Mx.eqD_ii, Mx.old, Mx.o_mod, Mx.o_fdv, Mx.ix0, Mx.ix1, Mx.ix2, nsD_len, ri, hr]) rfl (by rw [nsD_len]; exact len_ok (T := n) (by omega)) e rfl
  simp only [backR] at q
  change _ = Res.ok true (.list (losL f g n)) [.s .fz (tw w n), .s .fz (.int u), .s .fz (.str (wyS y)), .s .ow (.list (nsD f n)), .s .ow (.list (nsD g n)), .no] at q
  rw [sem_succ, f9]
  simp [Mx.runFn, Mx.outsOf, Mx.giveBack, Mx.argK, Mx.evA, Mx.putS, Mx.mutS, Mx.cmpOpt, Mx.ev.eq_1, Mx.ev.eq_2, Mx.ev.eq_3, Mx.ev.eq_4, Mx.ev.eq_5, Mx.ev.eq_6, Mx.ev.eq_7, Mx.ev.eq_8, Mx.ev.eq_9, Mx.ev.eq_10, Mx.ev.eq_11, Mx.ev.eq_12, Mx.ev.eq_13, Mx.ev.eq_14, Mx.ev.eq_16, Mx.ev.eq_19, Mx.ev.eq_20, Mx.ev.eq_21, Mx.ev.eq_22, Mx.ev.eq_23, Mx.ev.eq_24, Mx.ev.eq_25, Mx.evS.eq_1, Mx.evS.eq_2, Mx.evS.eq_3, Mx.evS.eq_4, Mx.evS.eq_5, Mx.evS.eq_6, Mx.evS.eq_7, Mx.evS.eq_8, Mx.evS.eq_9, Mx.evS.eq_10, Mx.evS.eq_11, Mx.evS.eq_12, Mx.evS.eq_13, Mx.evS.eq_14, Mx.evS.eq_17, Mx.evS.eq_18, Mx.evS.eq_19, Mx.evS.eq_20, Mx.o_add, Mx.o_sub, Mx.o_mul, Mx.o_neg, Mx.o_eq, Mx.o_ne, Mx.o_lt, Mx.o_le, Mx.o_gt, Mx.o_ge, Mx.o_isN, Mx.o_notN, Mx.o_idxL, Mx.o_idxT, Mx.o_slToL, Mx.o_lenL, Mx.o_lenT, Mx.o_min2, Mx.o_max2, Mx.o_abs, Mx.o_int, Mx.o_tupL, Mx.o_tupT, Mx.o_listL, Mx.o_listT, Mx.o_isi, Mx.addD_int, Mx.eqD_ii, Mx.old, Mx.o_mod, Mx.o_fdv, Mx.ix0, Mx.ix1, Mx.ix2, c_losers_by_more, e1, e2, e3, q]
end K02
end

section
set_option maxRecDepth 100000
set_option linter.all false
set_option maxHeartbeats 2000000
namespace K02
open Mx PySem L2
open K02P (Wy half updf S quo rmd shR rank dv pos step better bst prs srt)
open K00P (psum IsFirst)
def encO : Option Nat → D
  | none => .none
  | some k => .int k
/-- a loop that looks for the first -/
theorem first_loop {F : FnSem} {tgi : Nat} {b : Sc} {N : Nat} {P : Nat → Prop} {st : Mx.Slot → Rho} (hb : ∀ k, k < N → ∀ cur, ∃ ρ1, bindT (.one tgi) (.int (k : Int)) (st cur) = some ρ1 ∧ ((P k ∧ evS F b ρ1 = .rt false (.int (k : Int)) (st (.s .fz (.int (k : Int))))) ∨ (¬ P k ∧ evS F b ρ1 = .nx (st (.s .fz (.int (k : Int))))))) (c0 : Mx.Slot) :
    ∃ o cur, IsFirst (fun k => k < N ∧ P k) o ∧ forL (bindT (.one tgi)) (evS F b) ((List.range N).map fun k : Nat => .int (k : Int)) (st c0) = (match o with | none => .nx (st cur) | some k => .rt false (.int (k : Int)) (st cur)) := by
  rcases forL_or (R := fun fr x ρ => fr = false ∧ ∃ k : Nat, x = .int k ∧ k < N ∧ P k ∧ (∀ j, j < k → ¬ P j) ∧ ∃ cur, ρ = st cur) ((List.range N).map fun k : Nat => .int (k : Int)) (fun k ρ => (∃ cur, ρ = st cur) ∧ ∀ j, j < k → ¬ P j)
    (fun k hk ρ hρ => by
      obtain ⟨⟨cur, rfl⟩, hj⟩ := hρ
      rw [List.getElem_map, List.getElem_range]
      have hk' : k < N := by simpa using hk
      obtain ⟨ρ1, e1, h⟩ := hb k hk' cur
      refine ⟨ρ1, e1, ?_⟩
      rcases h with ⟨p, e⟩ | ⟨p, e⟩
      · exact .inr ⟨_, _, _, e, rfl, k, rfl, hk', p, hj, _, rfl⟩
      · refine .inl ⟨_, e, ⟨_, rfl⟩, fun j hjk => ?_⟩
        by_cases z : j = k
        · rw [z]; exact p
        · exact hj j (by omega)) (st c0) ⟨⟨_, rfl⟩, fun j h => absurd h (Nat.not_lt_zero _)⟩ with ⟨ρ', ⟨⟨cur, rfl⟩, hj⟩, e⟩ | ⟨fr, x, ρ', ⟨rfl, k, rfl, hk, p, hj, cur, rfl⟩, e⟩
  · refine ⟨none, cur, fun i z => ?_, e⟩
    rw [List.length_map, List.length_range] at hj
    exact hj i z.1 z.2
  · exact ⟨some k, cur, ⟨⟨hk, p⟩, fun j hjk z => hj j hjk z.2⟩, e⟩
theorem fl_body {F : FnSem} {W x3 : D} {M y : D} {xs : List D} (c : F 9 [.s .fz W, .s .fz x3, .s .fz y] = .ok false (.tuple xs) [.s .fz W, .s .fz x3, .s .fz y]) :
    evS F (.seq (.ifs (.op .gt (.cons (.op .len (.cons (.call 9 0 (.cons (.bor 0) (.cons (.bor 3) (.cons (.bor 2) .nil)))) .nil)) (.cons (.cst (.int 0)) .nil))) (.seq (.rown 3) .skip) .skip) .skip) [.s .fz W, .s .fz M, .s .fz y, .s .fz x3] = if 0 < xs.length then .rt false x3 [.s .fz W, .s .fz M, .s .fz y, .s .fz x3] else .nx [.s .fz W, .s .fz M, .s .fz y, .s .fz x3] := by
  by_cases h : 0 < xs.length
  · rw [if_pos h]
    simp [Mx.runFn, Mx.outsOf, Mx.giveBack, Mx.argK, Mx.evA, Mx.putS, Mx.mutS, Mx.cmpOpt, Mx.ev.eq_1, Mx.ev.eq_2, Mx.ev.eq_3, Mx.ev.eq_4, Mx.ev.eq_5, Mx.ev.eq_6, Mx.ev.eq_7, Mx.ev.eq_8, Mx.ev.eq_9, Mx.ev.eq_10, Mx.ev.eq_11, Mx.ev.eq_12, Mx.ev.eq_13, Mx.ev.eq_14, Mx.ev.eq_16, Mx.ev.eq_19, Mx.ev.eq_20, Mx.ev.eq_21, Mx.ev.eq_22, Mx.ev.eq_23, Mx.ev.eq_24, Mx.ev.eq_25, Mx.evS.eq_1, Mx.evS.eq_2, Mx.evS.eq_3, Mx.evS.eq_4, Mx.evS.eq_5, Mx.evS.eq_6, Mx.evS.eq_7, Mx.evS.eq_8, Mx.evS.eq_9, Mx.evS.eq_10, Mx.evS.eq_11, Mx.evS.eq_12, Mx.evS.eq_13, Mx.evS.eq_14, Mx.evS.eq_17, Mx.evS.eq_18, Mx.evS.eq_19, Mx.evS.eq_20, Mx.o_add, Mx.o_sub, Mx.o_mul, Mx.o_neg, Mx.o_eq, Mx.o_ne, Mx.o_lt, Mx.o_le, Mx.o_gt, Mx.o_ge, Mx.o_isN, Mx.o_notN, Mx.o_idxL, Mx.o_idxT, Mx.o_slToL, Mx.o_lenL, Mx.o_lenT, Mx.o_min2, Mx.o_max2, Mx.o_abs, Mx.o_int, Mx.o_tupL, Mx.o_tupT, Mx.o_listL, Mx.o_listT, Mx.o_isi, Mx.addD_int, Mx.eqD_ii, Mx.old, Mx.o_mod, Mx.o_fdv, Mx.ix0, Mx.ix1, Mx.ix2, c, h]
  · rw [if_neg h]
    have h' : xs = [] := by cases xs <;> simp_all
    subst h'
    simp [Mx.runFn, Mx.outsOf, Mx.giveBack, Mx.argK, Mx.evA, Mx.putS, Mx.mutS, Mx.cmpOpt, Mx.ev.eq_1, Mx.ev.eq_2, Mx.ev.eq_3, Mx.ev.eq_4, Mx.ev.eq_5, Mx.ev.eq_6, Mx.ev.eq_7, Mx.ev.eq_8, Mx.ev.eq_9, Mx.ev.eq_10, Mx.ev.eq_11, Mx.ev.eq_12, Mx.ev.eq_13, Mx.ev.eq_14, Mx.ev.eq_16, Mx.ev.eq_19, Mx.ev.eq_20, Mx.ev.eq_21, Mx.ev.eq_22, Mx.ev.eq_23, Mx.ev.eq_24, Mx.ev.eq_25, Mx.evS.eq_1, Mx.evS.eq_2, Mx.evS.eq_3, Mx.evS.eq_4, Mx.evS.eq_5, Mx.evS.eq_6, Mx.evS.eq_7, Mx.evS.eq_8, Mx.evS.eq_9, Mx.evS.eq_10, Mx.evS.eq_11, Mx.evS.eq_12, Mx.evS.eq_13, Mx.evS.eq_14, Mx.evS.eq_17, Mx.evS.eq_18, Mx.evS.eq_19, Mx.evS.eq_20, Mx.o_add, Mx.o_sub, Mx.o_mul, Mx.o_neg, Mx.o_eq, Mx.o_ne, Mx.o_lt, Mx.o_le, Mx.o_gt, Mx.o_ge, Mx.o_isN, Mx.o_notN, Mx.o_idxL, Mx.o_idxT, Mx.o_slToL, Mx.o_lenL, Mx.o_lenT, Mx.o_min2, Mx.o_max2, Mx.o_abs, Mx.o_int, Mx.o_tupL, Mx.o_tupT, Mx.o_listL, Mx.o_listT, Mx.o_isi, Mx.addD_int, Mx.eqD_ii, Mx.old, Mx.o_mod, Mx.o_fdv, Mx.ix0, Mx.ix1, Mx.ix2, c]
theorem fl_it {F : FnSem} {W y : D} {i : Int} {T : Nat} (e : i + 1 = T) (h : T ≤ 1000000) (s3 : Mx.Slot) : ev F (.irng (.op .add (.cons (.bor 1) (.cons (.cst (.int 1)) .nil)))) [.s .fz W, .s .fz (.int i), .s .fz y, s3] = .ok false (.list ((List.range T).map fun k : Nat => .int (k : Int))) [.s .fz W, .s .fz (.int i), .s .fz y, s3] := by
  have ri := range_ok h
  simp [Mx.runFn, Mx.outsOf, Mx.giveBack, Mx.argK, Mx.evA, Mx.putS, Mx.mutS, Mx.cmpOpt, Mx.ev.eq_1, Mx.ev.eq_2, Mx.ev.eq_3, Mx.ev.eq_4, Mx.ev.eq_5, Mx.ev.eq_6, Mx.ev.eq_7, Mx.ev.eq_8, Mx.ev.eq_9, Mx.ev.eq_10, Mx.ev.eq_11, Mx.ev.eq_12, Mx.ev.eq_13, Mx.ev.eq_14, Mx.ev.eq_16, Mx.ev.eq_19, Mx.ev.eq_20, Mx.ev.eq_21, Mx.ev.eq_22, Mx.ev.eq_23, Mx.ev.eq_24, Mx.ev.eq_25, Mx.evS.eq_1, Mx.evS.eq_2, Mx.evS.eq_3, Mx.evS.eq_4, Mx.evS.eq_5, Mx.evS.eq_6, Mx.evS.eq_7, Mx.evS.eq_8, Mx.evS.eq_9, Mx.evS.eq_10, Mx.evS.eq_11, Mx.evS.eq_12, Mx.evS.eq_13, Mx.evS.eq_14, Mx.evS.eq_17, Mx.evS.eq_18, Mx.evS.eq_19, Mx.evS.eq_20, Mx.o_add, Mx.o_sub, Mx.o_mul, Mx.o_neg, Mx.o_eq, Mx.o_ne, Mx.o_lt, Mx.o_le, Mx.o_gt, Mx.o_ge, Mx.o_isN, Mx.o_notN, Mx.o_idxL, Mx.o_idxT, Mx.o_slToL, Mx.o_lenL, Mx.o_lenT, Mx.o_min2, Mx.o_max2, Mx.o_abs, Mx.o_int, Mx.o_tupL, Mx.o_tupT, Mx.o_listL, Mx.o_listT, Mx.o_isi, Mx.addD_int, Mx.eqD_ii, Mx.old, Mx.o_mod, Mx.o_fdv, Mx.ix0, Mx.ix1, Mx.ix2, e, ri]
theorem fl_ok (m : Nat) {w : Nat → Int} {n : Nat} (h : OkW w n) (y : Wy) {M : Nat} (hM : M ≤ 400) : ∃ o, IsFirst (fun k => k < M + 1 ∧ Loss (S y w n k) (S y w n (k + 1)) n) o ∧ sem (fnsOf defs) (m + 5) 10 [.s .fz (tw w n), .s .fz (.int M), .s .fz (.str (wyS y))] = .ok false (encO o) [.s .fz (tw w n), .s .fz (.int M), .s .fz (.str (wyS y))] := by
  have e1 : sem (fnsOf defs) (m + 4) 3 _ = _ := need_ok (m + 1) h (u := M) (by omega) y
  have e2 := fun k (hk : k < M + 1) => losers_ok m h y (u := k) (by omega)
  rw [sem_succ, f10]
  generalize sem (fnsOf defs) (m + 4) = F at e1 e2 ⊢
  obtain ⟨o, cur, ho, el⟩ := first_loop (F := F) (tgi := 3) (b := .seq (.ifs (.op .gt (.cons (.op .len (.cons (.call 9 0 (.cons (.bor 0) (.cons (.bor 3) (.cons (.bor 2) .nil)))) .nil)) (.cons (.cst (.int 0)) .nil))) (.seq (.rown 3) .skip) .skip) .skip) (N := M + 1) (P := fun k => Loss (S y w n k) (S y w n (k + 1)) n) (st := fun c => [.s .fz (tw w n), .s .fz (.int M), .s .fz (.str (wyS y)), c])
    (fun k hk cur => by
      refine ⟨_, rfl, ?_⟩
      have hb := fl_body (M := .int M) (e2 k hk)
      by_cases p : Loss (S y w n k) (S y w n (k + 1)) n
      · rw [if_pos ((los_len _ _ _).2 p)] at hb
        exact .inl ⟨p, hb⟩
      · rw [if_neg (fun z => p ((los_len _ _ _).1 z))] at hb
        exact .inr ⟨p, hb⟩) .no
  refine ⟨o, ho, ?_⟩
  have it := fl_it (F := F) (W := tw w n) (y := .str (wyS y)) (i := M) (T := M + 1) (by omega) (by omega) .no
  have st1 : evS F (.ex (.call 3 0 (.cons (.bor 0) (.cons (.bor 1) (.cons (.bor 2) .nil))))) [.s .fz (tw w n), .s .fz (.int M), .s .fz (.str (wyS y)), .no] = .nx [.s .fz (tw w n), .s .fz (.int M), .s .fz (.str (wyS y)), .no] := by
    generalize wyS y = z at e1 ⊢
    generalize tw w n = W at e1 ⊢
    generalize PyData.int (M : Int) = U at e1 ⊢
    simp [Mx.runFn, Mx.outsOf, Mx.giveBack, Mx.argK, Mx.evA, Mx.putS, Mx.mutS, Mx.cmpOpt, Mx.ev.eq_1, Mx.ev.eq_2, Mx.ev.eq_3, Mx.ev.eq_4, Mx.ev.eq_5, Mx.ev.eq_6, Mx.ev.eq_7, Mx.ev.eq_8, Mx.ev.eq_9, Mx.ev.eq_10, Mx.ev.eq_11, Mx.ev.eq_12, Mx.ev.eq_13, Mx.ev.eq_14, Mx.ev.eq_16, Mx.ev.eq_19, Mx.ev.eq_20, Mx.ev.eq_21, Mx.ev.eq_22, Mx.ev.eq_23, Mx.ev.eq_24, Mx.ev.eq_25, Mx.evS.eq_1, Mx.evS.eq_2, Mx.evS.eq_3, Mx.evS.eq_4, Mx.evS.eq_5, Mx.evS.eq_6, Mx.evS.eq_7, Mx.evS.eq_8, Mx.evS.eq_9, Mx.evS.eq_10, Mx.evS.eq_11, Mx.evS.eq_12, Mx.evS.eq_13, Mx.evS.eq_14, Mx.evS.eq_17, Mx.evS.eq_18, Mx.evS.eq_19, Mx.evS.eq_20, Mx.o_add, Mx.o_sub, Mx.o_mul, Mx.o_neg, Mx.o_eq, Mx.o_ne, Mx.o_lt, Mx.o_le, Mx.o_gt, Mx.o_ge, Mx.o_isN, Mx.o_notN, Mx.o_idxL, Mx.o_idxT, Mx.o_slToL, Mx.o_lenL, Mx.o_lenT, Mx.o_min2, Mx.o_max2, Mx.o_abs, Mx.o_int, Mx.o_tupL, Mx.o_tupT, Mx.o_listL, Mx.o_listT, Mx.o_isi, Mx.addD_int, Mx.eqD_ii, Mx.old, Mx.o_mod, Mx.o_fdv, Mx.ix0, Mx.ix1, Mx.ix2, e1]
  cases o with
  | none =>
    have tot : evS F c_first_loss [.s .fz (tw w n), .s .fz (.int M), .s .fz (.str (wyS y)), .no] = .rt false .none [.s .fz (tw w n), .s .fz (.int M), .s .fz (.str (wyS y)), cur] := by
      refine evS_seq st1 (evS_seq (evS_for it el rfl) ?_)
      simp [Mx.runFn, Mx.outsOf, Mx.giveBack, Mx.argK, Mx.evA, Mx.putS, Mx.mutS, Mx.cmpOpt, Mx.ev.eq_1, Mx.ev.eq_2, Mx.ev.eq_3, Mx.ev.eq_4, Mx.ev.eq_5, Mx.ev.eq_6, Mx.ev.eq_7, Mx.ev.eq_8, Mx.ev.eq_9, Mx.ev.eq_10, Mx.ev.eq_11, Mx.ev.eq_12, Mx.ev.eq_13, Mx.ev.eq_14, Mx.ev.eq_16, Mx.ev.eq_19, Mx.ev.eq_20, Mx.ev.eq_21, Mx.ev.eq_22, Mx.ev.eq_23, Mx.ev.eq_24, Mx.ev.eq_25, Mx.evS.eq_1, Mx.evS.eq_2, Mx.evS.eq_3, Mx.evS.eq_4, Mx.evS.eq_5, Mx.evS.eq_6, Mx.evS.eq_7, Mx.evS.eq_8, Mx.evS.eq_9, Mx.evS.eq_10, Mx.evS.eq_11, Mx.evS.eq_12, Mx.evS.eq_13, Mx.evS.eq_14, Mx.evS.eq_17, Mx.evS.eq_18, Mx.evS.eq_19, Mx.evS.eq_20, Mx.o_add, Mx.o_sub, Mx.o_mul, Mx.o_neg, Mx.o_eq, Mx.o_ne, Mx.o_lt, Mx.o_le, Mx.o_gt, Mx.o_ge, Mx.o_isN, Mx.o_notN, Mx.o_idxL, Mx.o_idxT, Mx.o_slToL, Mx.o_lenL, Mx.o_lenT, Mx.o_min2, Mx.o_max2, Mx.o_abs, Mx.o_int, Mx.o_tupL, Mx.o_tupT, Mx.o_listL, Mx.o_listT, Mx.o_isi, Mx.addD_int, Mx.eqD_ii, Mx.old, Mx.o_mod, Mx.o_fdv, Mx.ix0, Mx.ix1, Mx.ix2]
    exact runFn_rt rfl tot rfl
  | some k =>
    have tot : evS F c_first_loss [.s .fz (tw w n), .s .fz (.int M), .s .fz (.str (wyS y)), .no] = .rt false (.int k) [.s .fz (tw w n), .s .fz (.int M), .s .fz (.str (wyS y)), cur] := by
      refine evS_seq st1 ?_
      rw [evS.eq_2, evS_for_rt it el rfl]
    exact runFn_rt rfl tot rfl
end K02
end

section
set_option maxRecDepth 100000
set_option linter.all false
set_option maxHeartbeats 2000000
namespace K02
open Mx PySem L2
open K02P (Wy half updf S quo rmd shR rank dv pos step better bst prs srt)
open K00P (psum IsFirst)
theorem lu_body {F : FnSem} {W y : D} {xs : List D} {k a v z : Int} (c : F 7 [.s .fz W, .s .fz (.int k), .s .fz y] = .ok true (.list xs) [.s .fz W, .s .fz (.int k), .s .fz y]) (i1 : idxD xs a = some (.int v)) :
    evS F (.seq (.ifs (.op .ge (.cons (.op .idx (.cons (.call 7 0 (.cons (.bor 0) (.cons (.bor 4) (.cons (.bor 3) .nil)))) (.cons (.bor 1) .nil))) (.cons (.bor 2) .nil))) (.seq (.rown 4) .skip) .skip) .skip) [.s .fz W, .s .fz (.int a), .s .fz (.int z), .s .fz y, .s .fz (.int k)] = if z ≤ v then .rt false (.int k) [.s .fz W, .s .fz (.int a), .s .fz (.int z), .s .fz y, .s .fz (.int k)] else .nx [.s .fz W, .s .fz (.int a), .s .fz (.int z), .s .fz y, .s .fz (.int k)] := by
  by_cases h : z ≤ v
  · rw [if_pos h]
    simp [Mx.runFn, Mx.outsOf, Mx.giveBack, Mx.argK, Mx.evA, Mx.putS, Mx.mutS, Mx.cmpOpt, Mx.ev.eq_1, Mx.ev.eq_2, Mx.ev.eq_3, Mx.ev.eq_4, Mx.ev.eq_5, Mx.ev.eq_6, Mx.ev.eq_7, Mx.ev.eq_8, Mx.ev.eq_9, Mx.ev.eq_10, Mx.ev.eq_11, Mx.ev.eq_12, Mx.ev.eq_13, Mx.ev.eq_14, Mx.ev.eq_16, Mx.ev.eq_19, Mx.ev.eq_20, Mx.ev.eq_21, Mx.ev.eq_22, Mx.ev.eq_23, Mx.ev.eq_24, Mx.ev.eq_25, Mx.evS.eq_1, Mx.evS.eq_2, Mx.evS.eq_3, Mx.evS.eq_4, Mx.evS.eq_5, Mx.evS.eq_6, Mx.evS.eq_7, Mx.evS.eq_8, Mx.evS.eq_9, Mx.evS.eq_10, Mx.evS.eq_11, Mx.evS.eq_12, Mx.evS.eq_13, Mx.evS.eq_14, Mx.evS.eq_17, Mx.evS.eq_18, Mx.evS.eq_19, Mx.evS.eq_20, Mx.o_add, Mx.o_sub, Mx.o_mul, Mx.o_neg, Mx.o_eq, Mx.o_ne, Mx.o_lt, Mx.o_le, Mx.o_gt, Mx.o_ge, Mx.o_isN, Mx.o_notN, Mx.o_idxL, Mx.o_idxT, Mx.o_slToL, Mx.o_lenL, Mx.o_lenT, Mx.o_min2, Mx.o_max2, Mx.o_abs, Mx.o_int, Mx.o_tupL, Mx.o_tupT, Mx.o_listL, Mx.o_listT, Mx.o_isi, Mx.addD_int, Mx.eqD_ii, Mx.old, Mx.o_mod, Mx.o_fdv, Mx.ix0, Mx.ix1, Mx.ix2, c, h, i1]
  · rw [if_neg h]
    simp [Mx.runFn, Mx.outsOf, Mx.giveBack, Mx.argK, Mx.evA, Mx.putS, Mx.mutS, Mx.cmpOpt, Mx.ev.eq_1, Mx.ev.eq_2, Mx.ev.eq_3, Mx.ev.eq_4, Mx.ev.eq_5, Mx.ev.eq_6, Mx.ev.eq_7, Mx.ev.eq_8, Mx.ev.eq_9, Mx.ev.eq_10, Mx.ev.eq_11, Mx.ev.eq_12, Mx.ev.eq_13, Mx.ev.eq_14, Mx.ev.eq_16, Mx.ev.eq_19, Mx.ev.eq_20, Mx.ev.eq_21, Mx.ev.eq_22, Mx.ev.eq_23, Mx.ev.eq_24, Mx.ev.eq_25, Mx.evS.eq_1, Mx.evS.eq_2, Mx.evS.eq_3, Mx.evS.eq_4, Mx.evS.eq_5, Mx.evS.eq_6, Mx.evS.eq_7, Mx.evS.eq_8, Mx.evS.eq_9, Mx.evS.eq_10, Mx.evS.eq_11, Mx.evS.eq_12, Mx.evS.eq_13, Mx.evS.eq_14, Mx.evS.eq_17, Mx.evS.eq_18, Mx.evS.eq_19, Mx.evS.eq_20, Mx.o_add, Mx.o_sub, Mx.o_mul, Mx.o_neg, Mx.o_eq, Mx.o_ne, Mx.o_lt, Mx.o_le, Mx.o_gt, Mx.o_ge, Mx.o_isN, Mx.o_notN, Mx.o_idxL, Mx.o_idxT, Mx.o_slToL, Mx.o_lenL, Mx.o_lenT, Mx.o_min2, Mx.o_max2, Mx.o_abs, Mx.o_int, Mx.o_tupL, Mx.o_tupT, Mx.o_listL, Mx.o_listT, Mx.o_isi, Mx.addD_int, Mx.eqD_ii, Mx.old, Mx.o_mod, Mx.o_fdv, Mx.ix0, Mx.ix1, Mx.ix2, c, h, i1]
theorem lu_it {F : FnSem} (ρ : Rho) : ev F (.irng (.op .add (.cons (.glb "MOST_UNITS" (.int 500)) (.cons (.cst (.int 1)) .nil)))) ρ = .ok false (.list ((List.range 501).map fun k : Nat => .int (k : Int))) ρ := by
  have ri := range_ok (T := 501) (by omega)
  have ri' : -1152921504606846976 ≤ (501 : Int) ∧ (501 : Int) ≤ (line : Int) := ri
  generalize hr : (List.range 501).map (fun k : Nat => PyData.int (k : Int)) = xs
  simp [Mx.runFn, Mx.outsOf, Mx.giveBack, Mx.argK, Mx.evA, Mx.putS, Mx.mutS, Mx.cmpOpt, Mx.ev.eq_1, Mx.ev.eq_2, Mx.ev.eq_3, Mx.ev.eq_4, Mx.ev.eq_5, Mx.ev.eq_6, Mx.ev.eq_7, Mx.ev.eq_8, Mx.ev.eq_9, Mx.ev.eq_10, Mx.ev.eq_11, Mx.ev.eq_12, Mx.ev.eq_13, Mx.ev.eq_14, Mx.ev.eq_16, Mx.ev.eq_19, Mx.ev.eq_20, Mx.ev.eq_21, Mx.ev.eq_22, Mx.ev.eq_23, Mx.ev.eq_24, Mx.ev.eq_25, Mx.evS.eq_1, Mx.evS.eq_2, Mx.evS.eq_3, Mx.evS.eq_4, Mx.evS.eq_5, Mx.evS.eq_6, Mx.evS.eq_7, Mx.evS.eq_8, Mx.evS.eq_9, Mx.evS.eq_10, Mx.evS.eq_11, Mx.evS.eq_12, Mx.evS.eq_13, Mx.evS.eq_14, Mx.evS.eq_17, Mx.evS.eq_18, Mx.evS.eq_19, Mx.evS.eq_20, Mx.o_add, Mx.o_sub, Mx.o_mul, Mx.o_neg, Mx.o_eq, Mx.o_ne, Mx.o_lt, Mx.o_le, Mx.o_gt, Mx.o_ge, Mx.o_isN, Mx.o_notN, Mx.o_idxL, Mx.o_idxT, Mx.o_slToL, Mx.o_lenL, Mx.o_lenT, Mx.o_min2, Mx.o_max2, Mx.o_abs, Mx.o_int, Mx.o_tupL, Mx.o_tupT, Mx.o_listL, Mx.o_listT, Mx.o_isi, Mx.addD_int, Mx.eqD_ii, Mx.old, Mx.o_mod, Mx.o_fdv, Mx.ix0, Mx.ix1, Mx.ix2, ri'.2]
  exact hr
theorem lu_ok (m : Nat) {w : Nat → Int} {n : Nat} (h : OkW w n) (y : Wy) {a z : Nat} (ha : a < n) (hz : z ≤ 500) : ∃ o, IsFirst (fun k => k < 501 ∧ (z : Int) ≤ S y w n k a) o ∧ sem (fnsOf defs) (m + 4) 12 [.s .fz (tw w n), .s .fz (.int a), .s .fz (.int z), .s .fz (.str (wyS y))] = .ok false (encO o) [.s .fz (tw w n), .s .fz (.int a), .s .fz (.int z), .s .fz (.str (wyS y))] := by
  have e1 : sem (fnsOf defs) (m + 3) 2 _ = _ := weights_ok (m + 1) h
  have e2 : sem (fnsOf defs) (m + 3) 1 _ = _ := e1_ok (m + 1) (a : Int) 0 ((n : Int) - 1) "member" (by omega) (by omega) .fz
  have e3 : sem (fnsOf defs) (m + 3) 1 _ = _ := e1_ok (m + 1) (z : Int) 0 500 "wanted" (by omega) (by omega) .fz
  have e4 := fun k (hk : k < 501) => shd_ok m h y (u := k) (by omega)
  have e5 := in_w y
  have hl : opD .len [tw w n] = some (false, .int n) := by rw [o_lenT, nsD_len]
  rw [sem_succ, f12]
  generalize sem (fnsOf defs) (m + 3) = F at e1 e2 e3 e4 ⊢
  obtain ⟨o, cur, ho, el⟩ := first_loop (F := F) (tgi := 4) (b := .seq (.ifs (.op .ge (.cons (.op .idx (.cons (.call 7 0 (.cons (.bor 0) (.cons (.bor 4) (.cons (.bor 3) .nil)))) (.cons (.bor 1) .nil))) (.cons (.bor 2) .nil))) (.seq (.rown 4) .skip) .skip) .skip) (N := 501) (P := fun k => (z : Int) ≤ S y w n k a) (st := fun c => [.s .fz (tw w n), .s .fz (.int a), .s .fz (.int z), .s .fz (.str (wyS y)), c])
    (fun k hk cur => by
      refine ⟨_, rfl, ?_⟩
      have hb := lu_body (z := z) (e4 k hk) (nsD_idx (S y w n k) ha)
      by_cases p : (z : Int) ≤ S y w n k a
      · rw [if_pos p] at hb
        exact .inl ⟨p, hb⟩
      · rw [if_neg p] at hb
        exact .inr ⟨p, hb⟩) .no
  refine ⟨o, ho, ?_⟩
  have it := lu_it (F := F) [.s .fz (tw w n), .s .fz (.int a), .s .fz (.int z), .s .fz (.str (wyS y)), .no]
  generalize (List.range 501).map (fun k : Nat => PyData.int (k : Int)) = rs at el it
  generalize wyS y = wy at e1 e2 e3 e5 el it ⊢
  have st1 : evS F (.ifs (.not (.call 2 0 (.cons (.bor 0) .nil))) (.seq (.rais (.cst (.str "weights"))) .skip) .skip) [.s .fz (tw w n), .s .fz (.int a), .s .fz (.int z), .s .fz (.str wy), .no] = .nx [.s .fz (tw w n), .s .fz (.int a), .s .fz (.int z), .s .fz (.str wy), .no] := by
    simp [Mx.runFn, Mx.outsOf, Mx.giveBack, Mx.argK, Mx.evA, Mx.putS, Mx.mutS, Mx.cmpOpt, Mx.ev.eq_1, Mx.ev.eq_2, Mx.ev.eq_3, Mx.ev.eq_4, Mx.ev.eq_5, Mx.ev.eq_6, Mx.ev.eq_7, Mx.ev.eq_8, Mx.ev.eq_9, Mx.ev.eq_10, Mx.ev.eq_11, Mx.ev.eq_12, Mx.ev.eq_13, Mx.ev.eq_14, Mx.ev.eq_16, Mx.ev.eq_19, Mx.ev.eq_20, Mx.ev.eq_21, Mx.ev.eq_22, Mx.ev.eq_23, Mx.ev.eq_24, Mx.ev.eq_25, Mx.evS.eq_1, Mx.evS.eq_2, Mx.evS.eq_3, Mx.evS.eq_4, Mx.evS.eq_5, Mx.evS.eq_6, Mx.evS.eq_7, Mx.evS.eq_8, Mx.evS.eq_9, Mx.evS.eq_10, Mx.evS.eq_11, Mx.evS.eq_12, Mx.evS.eq_13, Mx.evS.eq_14, Mx.evS.eq_17, Mx.evS.eq_18, Mx.evS.eq_19, Mx.evS.eq_20, Mx.o_add, Mx.o_sub, Mx.o_mul, Mx.o_neg, Mx.o_eq, Mx.o_ne, Mx.o_lt, Mx.o_le, Mx.o_gt, Mx.o_ge, Mx.o_isN, Mx.o_notN, Mx.o_idxL, Mx.o_idxT, Mx.o_slToL, Mx.o_lenL, Mx.o_lenT, Mx.o_min2, Mx.o_max2, Mx.o_abs, Mx.o_int, Mx.o_tupL, Mx.o_tupT, Mx.o_listL, Mx.o_listT, Mx.o_isi, Mx.addD_int, Mx.eqD_ii, Mx.old, Mx.o_mod, Mx.o_fdv, Mx.ix0, Mx.ix1, Mx.ix2, e1]
  have st2 : evS F (.ex (.call 1 0 (.cons (.bor 1) (.cons (.cst (.str "member")) (.cons (.cst (.int 0)) (.cons (.op .sub (.cons (.op .len (.cons (.bor 0) .nil)) (.cons (.cst (.int 1)) .nil))) .nil)))))) [.s .fz (tw w n), .s .fz (.int a), .s .fz (.int z), .s .fz (.str wy), .no] = .nx [.s .fz (tw w n), .s .fz (.int a), .s .fz (.int z), .s .fz (.str wy), .no] := by
    simp [Mx.runFn, Mx.outsOf, Mx.giveBack, Mx.argK, Mx.evA, Mx.putS, Mx.mutS, Mx.cmpOpt, Mx.ev.eq_1, Mx.ev.eq_2, Mx.ev.eq_3, Mx.ev.eq_4, Mx.ev.eq_5, Mx.ev.eq_6, Mx.ev.eq_7, Mx.ev.eq_8, Mx.ev.eq_9, Mx.ev.eq_10, Mx.ev.eq_11, Mx.ev.eq_12, Mx.ev.eq_13, Mx.ev.eq_14, Mx.ev.eq_16, Mx.ev.eq_19, Mx.ev.eq_20, Mx.ev.eq_21, Mx.ev.eq_22, Mx.ev.eq_23, Mx.ev.eq_24, Mx.ev.eq_25, Mx.evS.eq_1, Mx.evS.eq_2, Mx.evS.eq_3, Mx.evS.eq_4, Mx.evS.eq_5, Mx.evS.eq_6, Mx.evS.eq_7, Mx.evS.eq_8, Mx.evS.eq_9, Mx.evS.eq_10, Mx.evS.eq_11, Mx.evS.eq_12, Mx.evS.eq_13, Mx.evS.eq_14, Mx.evS.eq_17, Mx.evS.eq_18, Mx.evS.eq_19, Mx.evS.eq_20, Mx.o_add, Mx.o_sub, Mx.o_mul, Mx.o_neg, Mx.o_eq, Mx.o_ne, Mx.o_lt, Mx.o_le, Mx.o_gt, Mx.o_ge, Mx.o_isN, Mx.o_notN, Mx.o_idxL, Mx.o_idxT, Mx.o_slToL, Mx.o_lenL, Mx.o_lenT, Mx.o_min2, Mx.o_max2, Mx.o_abs, Mx.o_int, Mx.o_tupL, Mx.o_tupT, Mx.o_listL, Mx.o_listT, Mx.o_isi, Mx.addD_int, Mx.eqD_ii, Mx.old, Mx.o_mod, Mx.o_fdv, Mx.ix0, Mx.ix1, Mx.ix2, nsD_len, e2]
  have st3 : evS F (.ex (.call 1 0 (.cons (.bor 2) (.cons (.cst (.str "wanted")) (.cons (.cst (.int 0)) (.cons (.glb "MOST_UNITS" (.int 500)) .nil)))))) [.s .fz (tw w n), .s .fz (.int a), .s .fz (.int z), .s .fz (.str wy), .no] = .nx [.s .fz (tw w n), .s .fz (.int a), .s .fz (.int z), .s .fz (.str wy), .no] := by
    simp [Mx.runFn, Mx.outsOf, Mx.giveBack, Mx.argK, Mx.evA, Mx.putS, Mx.mutS, Mx.cmpOpt, Mx.ev.eq_1, Mx.ev.eq_2, Mx.ev.eq_3, Mx.ev.eq_4, Mx.ev.eq_5, Mx.ev.eq_6, Mx.ev.eq_7, Mx.ev.eq_8, Mx.ev.eq_9, Mx.ev.eq_10, Mx.ev.eq_11, Mx.ev.eq_12, Mx.ev.eq_13, Mx.ev.eq_14, Mx.ev.eq_16, Mx.ev.eq_19, Mx.ev.eq_20, Mx.ev.eq_21, Mx.ev.eq_22, Mx.ev.eq_23, Mx.ev.eq_24, Mx.ev.eq_25, Mx.evS.eq_1, Mx.evS.eq_2, Mx.evS.eq_3, Mx.evS.eq_4, Mx.evS.eq_5, Mx.evS.eq_6, Mx.evS.eq_7, Mx.evS.eq_8, Mx.evS.eq_9, Mx.evS.eq_10, Mx.evS.eq_11, Mx.evS.eq_12, Mx.evS.eq_13, Mx.evS.eq_14, Mx.evS.eq_17, Mx.evS.eq_18, Mx.evS.eq_19, Mx.evS.eq_20, Mx.o_add, Mx.o_sub, Mx.o_mul, Mx.o_neg, Mx.o_eq, Mx.o_ne, Mx.o_lt, Mx.o_le, Mx.o_gt, Mx.o_ge, Mx.o_isN, Mx.o_notN, Mx.o_idxL, Mx.o_idxT, Mx.o_slToL, Mx.o_lenL, Mx.o_lenT, Mx.o_min2, Mx.o_max2, Mx.o_abs, Mx.o_int, Mx.o_tupL, Mx.o_tupT, Mx.o_listL, Mx.o_listT, Mx.o_isi, Mx.addD_int, Mx.eqD_ii, Mx.old, Mx.o_mod, Mx.o_fdv, Mx.ix0, Mx.ix1, Mx.ix2, e3]
  have st4 : evS F (.ifs (.op .nin (.cons (.bor 3) (.cons (.glb "WAYS" (.tuple [(.str "remainders"), (.str "down"), (.str "nearest"), (.str "up")])) .nil))) (.seq (.rais (.cst (.str "way"))) .skip) .skip) [.s .fz (tw w n), .s .fz (.int a), .s .fz (.int z), .s .fz (.str wy), .no] = .nx [.s .fz (tw w n), .s .fz (.int a), .s .fz (.int z), .s .fz (.str wy), .no] := by
    simp [Mx.runFn, Mx.outsOf, Mx.giveBack, Mx.argK, Mx.evA, Mx.putS, Mx.mutS, Mx.cmpOpt, Mx.ev.eq_1, Mx.ev.eq_2, Mx.ev.eq_3, Mx.ev.eq_4, Mx.ev.eq_5, Mx.ev.eq_6, Mx.ev.eq_7, Mx.ev.eq_8, Mx.ev.eq_9, Mx.ev.eq_10, Mx.ev.eq_11, Mx.ev.eq_12, Mx.ev.eq_13, Mx.ev.eq_14, Mx.ev.eq_16, Mx.ev.eq_19, Mx.ev.eq_20, Mx.ev.eq_21, Mx.ev.eq_22, Mx.ev.eq_23, Mx.ev.eq_24, Mx.ev.eq_25, Mx.evS.eq_1, Mx.evS.eq_2, Mx.evS.eq_3, Mx.evS.eq_4, Mx.evS.eq_5, Mx.evS.eq_6, Mx.evS.eq_7, Mx.evS.eq_8, Mx.evS.eq_9, Mx.evS.eq_10, Mx.evS.eq_11, Mx.evS.eq_12, Mx.evS.eq_13, Mx.evS.eq_14, Mx.evS.eq_17, Mx.evS.eq_18, Mx.evS.eq_19, Mx.evS.eq_20, Mx.o_add, Mx.o_sub, Mx.o_mul, Mx.o_neg, Mx.o_eq, Mx.o_ne, Mx.o_lt, Mx.o_le, Mx.o_gt, Mx.o_ge, Mx.o_isN, Mx.o_notN, Mx.o_idxL, Mx.o_idxT, Mx.o_slToL, Mx.o_lenL, Mx.o_lenT, Mx.o_min2, Mx.o_max2, Mx.o_abs, Mx.o_int, Mx.o_tupL, Mx.o_tupT, Mx.o_listL, Mx.o_listT, Mx.o_isi, Mx.addD_int, Mx.eqD_ii, Mx.old, Mx.o_mod, Mx.o_fdv, Mx.ix0, Mx.ix1, Mx.ix2, e5]
  cases o with
  | none =>
    have tot : evS F c_least_units [.s .fz (tw w n), .s .fz (.int a), .s .fz (.int z), .s .fz (.str wy), .no] = .rt false .none [.s .fz (tw w n), .s .fz (.int a), .s .fz (.int z), .s .fz (.str wy), cur] := by
      refine evS_seq st1 (evS_seq st2 (evS_seq st3 (evS_seq st4 (evS_seq (evS_for it el rfl) ?_))))
      simp [Mx.runFn, Mx.outsOf, Mx.giveBack, Mx.argK, Mx.evA, Mx.putS, Mx.mutS, Mx.cmpOpt, Mx.ev.eq_1, Mx.ev.eq_2, Mx.ev.eq_3, Mx.ev.eq_4, Mx.ev.eq_5, Mx.ev.eq_6, Mx.ev.eq_7, Mx.ev.eq_8, Mx.ev.eq_9, Mx.ev.eq_10, Mx.ev.eq_11, Mx.ev.eq_12, Mx.ev.eq_13, Mx.ev.eq_14, Mx.ev.eq_16, Mx.ev.eq_19, Mx.ev.eq_20, Mx.ev.eq_21, Mx.ev.eq_22, Mx.ev.eq_23, Mx.ev.eq_24, Mx.ev.eq_25, Mx.evS.eq_1, Mx.evS.eq_2, Mx.evS.eq_3, Mx.evS.eq_4, Mx.evS.eq_5, Mx.evS.eq_6, Mx.evS.eq_7, Mx.evS.eq_8, Mx.evS.eq_9, Mx.evS.eq_10, Mx.evS.eq_11, Mx.evS.eq_12, Mx.evS.eq_13, Mx.evS.eq_14, Mx.evS.eq_17, Mx.evS.eq_18, Mx.evS.eq_19, Mx.evS.eq_20, Mx.o_add, Mx.o_sub, Mx.o_mul, Mx.o_neg, Mx.o_eq, Mx.o_ne, Mx.o_lt, Mx.o_le, Mx.o_gt, Mx.o_ge, Mx.o_isN, Mx.o_notN, Mx.o_idxL, Mx.o_idxT, Mx.o_slToL, Mx.o_lenL, Mx.o_lenT, Mx.o_min2, Mx.o_max2, Mx.o_abs, Mx.o_int, Mx.o_tupL, Mx.o_tupT, Mx.o_listL, Mx.o_listT, Mx.o_isi, Mx.addD_int, Mx.eqD_ii, Mx.old, Mx.o_mod, Mx.o_fdv, Mx.ix0, Mx.ix1, Mx.ix2]
    exact runFn_rt rfl tot rfl
  | some k =>
    have tot : evS F c_least_units [.s .fz (tw w n), .s .fz (.int a), .s .fz (.int z), .s .fz (.str wy), .no] = .rt false (.int k) [.s .fz (tw w n), .s .fz (.int a), .s .fz (.int z), .s .fz (.str wy), cur] := by
      refine evS_seq st1 (evS_seq st2 (evS_seq st3 (evS_seq st4 ?_)))
      rw [evS.eq_2, evS_for_rt it el rfl]
    exact runFn_rt rfl tot rfl
/-- whether a member has enough with fewer units -/
theorem pos_filter {p : D → Bool} {f : D → D} {ds : List D} : 0 < ((ds.filter p).map f).length ↔ ∃ d ∈ ds, p d = true := by
  rw [List.length_map, List.length_pos_iff_exists_mem]
  exact ⟨fun ⟨d, h⟩ => ⟨d, (List.mem_filter.mp h).1, (List.mem_filter.mp h).2⟩, fun ⟨d, h1, h2⟩ => ⟨d, List.mem_filter.mpr ⟨h1, h2⟩⟩⟩
def enP (y : Wy) (w : Nat → Int) (n a z : Nat) : D → Bool
  | .int k => decide ((z : Int) ≤ S y w n k.toNat a)
  | _ => false
theorem early_ok (m : Nat) {w : Nat → Int} {n : Nat} (h : OkW w n) (y : Wy) {L a z : Nat} (ha : a < n) (hL : L ≤ 900) : ∃ b : Bool, (b = true ↔ ∃ k, k < L ∧ (z : Int) ≤ S y w n k a) ∧ sem (fnsOf defs) (m + 3) 19 [.s .fz (tw w n), .s .fz (.int L), .s .fz (.str (wyS y)), .s .fz (.int a), .s .fz (.int z)] = .ok false (.bool b) [.s .fz (tw w n), .s .fz (.int L), .s .fz (.str (wyS y)), .s .fz (.int a), .s .fz (.int z)] := by
  have e4 := fun k (hk : k < L) => lsh_ok m h y (u := k) (by omega)
  rw [sem_succ, f19]
  generalize sem (fnsOf defs) (m + 2) = F at e4 ⊢
  generalize hwy : wyS y = wy at e4 ⊢
  obtain ⟨ρ', ⟨cur, rfl⟩, e⟩ := compL_filter (clr := (wipeR · [5])) (bind := bindT (.one 5)) (cond := fun ρ => if isNil (.op .ge (.cons (.op .idx (.cons (.call 18 0 (.cons (.bor 0) (.cons (.bor 5) (.cons (.bor 2) .nil)))) (.cons (.bor 3) .nil))) (.cons (.bor 4) .nil))) then .ok false (.bool true) ρ else ev F (.op .ge (.cons (.op .idx (.cons (.call 18 0 (.cons (.bor 0) (.cons (.bor 5) (.cons (.bor 2) .nil)))) (.cons (.bor 3) .nil))) (.cons (.bor 4) .nil))) ρ) (elt := ev F (.cst (.int 1))) (f := fun _ => .int 1) (p := enP y w n a z) (I := fun ρ => ∃ cur, ρ = [.s .fz (tw w n), .s .fz (.int L), .s .fz (.str wy), .s .fz (.int a), .s .fz (.int z), cur]) ((List.range L).map fun k : Nat => .int (k : Int))
    (by
      intro x hx ρ ⟨cur, hρ⟩
      obtain ⟨i, hi, rfl⟩ := List.mem_map.mp hx
      have hi' := List.mem_range.mp hi
      subst hρ
      have c := e4 i hi'
      have i1 := nsD_idx (S y w n i) ha
      have hp : enP y w n a z (.int (i : Int)) = decide ((z : Int) ≤ S y w n i a) := rfl
      refine ⟨_, [.s .fz (tw w n), .s .fz (.int L), .s .fz (.str wy), .s .fz (.int a), .s .fz (.int z), .s .fz (.int i)], false, rfl, ?_, ⟨_, rfl⟩, fun _ => ⟨[.s .fz (tw w n), .s .fz (.int L), .s .fz (.str wy), .s .fz (.int a), .s .fz (.int z), .s .fz (.int i)], false, by simp [Mx.runFn, Mx.outsOf, Mx.giveBack, Mx.argK, Mx.evA, Mx.putS, Mx.mutS, Mx.cmpOpt, Mx.ev.eq_1, Mx.ev.eq_2, Mx.ev.eq_3, Mx.ev.eq_4, Mx.ev.eq_5, Mx.ev.eq_6, Mx.ev.eq_7, Mx.ev.eq_8, Mx.ev.eq_9, Mx.ev.eq_10, Mx.ev.eq_11, Mx.ev.eq_12, Mx.ev.eq_13, Mx.ev.eq_14, Mx.ev.eq_16, Mx.ev.eq_19, Mx.ev.eq_20, Mx.ev.eq_21, Mx.ev.eq_22, Mx.ev.eq_23, Mx.ev.eq_24, Mx.ev.eq_25, Mx.evS.eq_1, Mx.evS.eq_2, Mx.evS.eq_3, Mx.evS.eq_4, Mx.evS.eq_5, Mx.evS.eq_6, Mx.evS.eq_7, Mx.evS.eq_8, Mx.evS.eq_9, Mx.evS.eq_10, Mx.evS.eq_11, Mx.evS.eq_12, Mx.evS.eq_13, Mx.evS.eq_14, Mx.evS.eq_17, Mx.evS.eq_18, Mx.evS.eq_19, Mx.evS.eq_20, Mx.o_add, Mx.o_sub, Mx.o_mul, Mx.o_neg, Mx.o_eq, Mx.o_ne, Mx.o_lt, Mx.o_le, Mx.o_gt, Mx.o_ge, Mx.o_isN, Mx.o_notN, Mx.o_idxL, Mx.o_idxT, Mx.o_slToL, Mx.o_lenL, Mx.o_lenT, Mx.o_min2, Mx.o_max2, Mx.o_abs, Mx.o_int, Mx.o_tupL, Mx.o_tupT, Mx.o_listL, Mx.o_listT, Mx.o_isi, Mx.addD_int, Mx.eqD_ii, Mx.old, Mx.o_mod, Mx.o_fdv, Mx.ix0, Mx.ix1, Mx.ix2], _, rfl⟩⟩
      rw [hp]
      generalize nsD (S y w n i) n = xs at c i1
      simp only [isNil]
      simp [Mx.runFn, Mx.outsOf, Mx.giveBack, Mx.argK, Mx.evA, Mx.putS, Mx.mutS, Mx.cmpOpt, Mx.ev.eq_1, Mx.ev.eq_2, Mx.ev.eq_3, Mx.ev.eq_4, Mx.ev.eq_5, Mx.ev.eq_6, Mx.ev.eq_7, Mx.ev.eq_8, Mx.ev.eq_9, Mx.ev.eq_10, Mx.ev.eq_11, Mx.ev.eq_12, Mx.ev.eq_13, Mx.ev.eq_14, Mx.ev.eq_16, Mx.ev.eq_19, Mx.ev.eq_20, Mx.ev.eq_21, Mx.ev.eq_22, Mx.ev.eq_23, Mx.ev.eq_24, Mx.ev.eq_25, Mx.evS.eq_1, Mx.evS.eq_2, Mx.evS.eq_3, Mx.evS.eq_4, Mx.evS.eq_5, Mx.evS.eq_6, Mx.evS.eq_7, Mx.evS.eq_8, Mx.evS.eq_9, Mx.evS.eq_10, Mx.evS.eq_11, Mx.evS.eq_12, Mx.evS.eq_13, Mx.evS.eq_14, Mx.evS.eq_17, Mx.evS.eq_18, Mx.evS.eq_19, Mx.evS.eq_20, Mx.o_add, Mx.o_sub, Mx.o_mul, Mx.o_neg, Mx.o_eq, Mx.o_ne, Mx.o_lt, Mx.o_le, Mx.o_gt, Mx.o_ge, Mx.o_isN, Mx.o_notN, Mx.o_idxL, Mx.o_idxT, Mx.o_slToL, Mx.o_lenL, Mx.o_lenT, Mx.o_min2, Mx.o_max2, Mx.o_abs, Mx.o_int, Mx.o_tupL, Mx.o_tupT, Mx.o_listL, Mx.o_listT, Mx.o_isi, Mx.addD_int, Mx.eqD_ii, Mx.old, Mx.o_mod, Mx.o_fdv, Mx.ix0, Mx.ix1, Mx.ix2, wipeR, c, i1]) [.s .fz (tw w n), .s .fz (.int L), .s .fz (.str wy), .s .fz (.int a), .s .fz (.int z), .no] ⟨_, rfl⟩
  have ri := range_ok (T := L) (by omega)
  have q := ev_comp (F := F) (own := [5]) (it := .irng (.var 1)) (cond := .op .ge (.cons (.op .idx (.cons (.call 18 0 (.cons (.bor 0) (.cons (.bor 5) (.cons (.bor 2) .nil)))) (.cons (.bor 3) .nil))) (.cons (.bor 4) .nil))) (ρ := [.s .fz (tw w n), .s .fz (.int L), .s .fz (.str wy), .s .fz (.int a), .s .fz (.int z), .no]) (fr := false) (ρ1 := [.s .fz (tw w n), .s .fz (.int L), .s .fz (.str wy), .s .fz (.int a), .s .fz (.int z), .no]) (ρ3 := [.s .fz (tw w n), .s .fz (.int L), .s .fz (.str wy), .s .fz (.int a), .s .fz (.int z), .no]) (by simp [Mx.runFn, Mx.outsOf, Mx.giveBack, Mx.argK, Mx.evA, Mx.putS, Mx.mutS, Mx.cmpOpt, Mx.ev.eq_1, Mx.ev.eq_2, Mx.ev.eq_3, Mx.ev.eq_4, Mx.ev.eq_5, Mx.ev.eq_6, Mx.ev.eq_7, Mx.ev.eq_8, Mx.ev.eq_9, Mx.ev.eq_10, Mx.ev.eq_11, Mx.ev.eq_12, Mx.ev.eq_13, Mx.ev.eq_14, Mx.ev.eq_16, Mx.ev.eq_19, Mx.ev.eq_20, Mx.ev.eq_21, Mx.ev.eq_22, Mx.ev.eq_23, Mx.ev.eq_24, Mx.ev.eq_25, Mx.evS.eq_1, Mx.evS.eq_2, Mx.evS.eq_3, Mx.evS.eq_4, Mx.evS.eq_5, Mx.evS.eq_6, Mx.evS.eq_7, Mx.evS.eq_8, Mx.evS.eq_9, Mx.evS.eq_10, Mx.evS.eq_11, Mx.evS.eq_12, Mx.evS.eq_13, Mx.evS.eq_14, Mx.evS.eq_17, Mx.evS.eq_18, Mx.evS.eq_19, Mx.evS.eq_20, Mx.o_add, Mx.o_sub, Mx.o_mul, Mx.o_neg, Mx.o_eq, Mx.o_ne, Mx.o_lt, Mx.o_le, Mx.o_gt, Mx.o_ge, Mx.o_isN, Mx.o_notN, Mx.o_idxL, Mx.o_idxT, Mx.o_slToL, Mx.o_lenL, Mx.o_lenT, Mx.o_min2, Mx.o_max2, Mx.o_abs, Mx.o_int, Mx.o_tupL, Mx.o_tupT, Mx.o_listL, Mx.o_listT, Mx.o_isi, Mx.addD_int, Mx.eqD_ii, Mx.old, Mx.o_mod, Mx.o_fdv, Mx.ix0, Mx.ix1, Mx.ix2, ri]) rfl (by simpa using len_ok (T := L) (by omega)) e rfl
  simp only [backR] at q
  have pf := pos_filter (p := enP y w n a z) (f := fun _ => .int 1) (ds := (List.range L).map fun k : Nat => .int (k : Int))
  generalize ((((List.range L).map fun k : Nat => PyData.int (k : Int)).filter (enP y w n a z)).map fun _ => PyData.int 1) = xs at q pf
  refine ⟨decide (0 < xs.length), ?_, ?_⟩
  · rw [decide_eq_true_eq, pf]
    constructor
    · rintro ⟨d, hd, hp⟩
      obtain ⟨i, hi, rfl⟩ := List.mem_map.mp hd
      exact ⟨i, List.mem_range.mp hi, by simpa [enP] using hp⟩
    · rintro ⟨k, hk, hp⟩
      exact ⟨.int k, List.mem_map.mpr ⟨k, List.mem_range.mpr hk, rfl⟩, by simpa [enP] using hp⟩
  · have q : ev F (.comp (.cst (.int 1)) (.one 5) [5] (.irng (.var 1)) (.op .ge (.cons (.op .idx (.cons (.call 18 0 (.cons (.bor 0) (.cons (.bor 5) (.cons (.bor 2) .nil)))) (.cons (.bor 3) .nil))) (.cons (.bor 4) .nil)))) [.s .fz (tw w n), .s .fz (.int L), .s .fz (.str wy), .s .fz (.int a), .s .fz (.int z), .no] = .ok true (.list xs) [.s .fz (tw w n), .s .fz (.int L), .s .fz (.str wy), .s .fz (.int a), .s .fz (.int z), .no] := q
    have tot : evS F c__law_early [.s .fz (tw w n), .s .fz (.int L), .s .fz (.str wy), .s .fz (.int a), .s .fz (.int z), .no] = .rt false (.bool (decide (0 < xs.length))) [.s .fz (tw w n), .s .fz (.int L), .s .fz (.str wy), .s .fz (.int a), .s .fz (.int z), .no] := by
      simp [Mx.runFn, Mx.outsOf, Mx.giveBack, Mx.argK, Mx.evA, Mx.putS, Mx.mutS, Mx.cmpOpt, Mx.ev.eq_1, Mx.ev.eq_2, Mx.ev.eq_3, Mx.ev.eq_4, Mx.ev.eq_5, Mx.ev.eq_6, Mx.ev.eq_7, Mx.ev.eq_8, Mx.ev.eq_9, Mx.ev.eq_10, Mx.ev.eq_11, Mx.ev.eq_12, Mx.ev.eq_13, Mx.ev.eq_14, Mx.ev.eq_16, Mx.ev.eq_19, Mx.ev.eq_20, Mx.ev.eq_21, Mx.ev.eq_22, Mx.ev.eq_23, Mx.ev.eq_24, Mx.ev.eq_25, Mx.evS.eq_1, Mx.evS.eq_2, Mx.evS.eq_3, Mx.evS.eq_4, Mx.evS.eq_5, Mx.evS.eq_6, Mx.evS.eq_7, Mx.evS.eq_8, Mx.evS.eq_9, Mx.evS.eq_10, Mx.evS.eq_11, Mx.evS.eq_12, Mx.evS.eq_13, Mx.evS.eq_14, Mx.evS.eq_17, Mx.evS.eq_18, Mx.evS.eq_19, Mx.evS.eq_20, Mx.o_add, Mx.o_sub, Mx.o_mul, Mx.o_neg, Mx.o_eq, Mx.o_ne, Mx.o_lt, Mx.o_le, Mx.o_gt, Mx.o_ge, Mx.o_isN, Mx.o_notN, Mx.o_idxL, Mx.o_idxT, Mx.o_slToL, Mx.o_lenL, Mx.o_lenT, Mx.o_min2, Mx.o_max2, Mx.o_abs, Mx.o_int, Mx.o_tupL, Mx.o_tupT, Mx.o_listL, Mx.o_listT, Mx.o_isi, Mx.addD_int, Mx.eqD_ii, Mx.old, Mx.o_mod, Mx.o_fdv, Mx.ix0, Mx.ix1, Mx.ix2, c__law_early, q]
    exact runFn_rt rfl tot rfl
end K02
end

section
set_option maxRecDepth 100000
set_option linter.all false
set_option maxHeartbeats 2000000
namespace K02
open Mx PySem L2
open K02P (Wy half updf S quo rmd shR rank dv pos step better bst prs srt)
open K00P (psum IsFirst)
/-- off one's quota -/
def offB (x t W : Int) : Bool := decide (¬ (t / W ≤ x ∧ x ≤ if t % W = 0 then t / W else t / W + 1))
def offL (f w : Nat → Int) (u : Nat) (W : Int) : Nat → List D
  | 0 => []
  | k + 1 => if offB (f k) (w k * u) W = true then offL f w u W k ++ [.int k] else offL f w u W k
theorem offL_len (f w : Nat → Int) (u : Nat) (W : Int) : ∀ k, (offL f w u W k).length ≤ k
  | 0 => Nat.le_refl _
  | k + 1 => by
    have := offL_len f w u W k
    unfold offL
    split
    · rw [List.length_append]; simp; omega
    · omega
theorem oq_body {F : FnSem} {w f : Nat → Int} {n u k : Nat} {W : Int} {xs : List D} {wy : D} (hk : k < n) (hW : 0 < W ∧ W < 1073741824) (hu : ((u : Nat) : Int).natAbs < 2 ^ 63) (hl : xs.length < line) (s7 s8 : Mx.Slot) : ∃ s7' s8',
    evS F (.seq (.set 7 (.op .fdv (.cons (.op .mul (.cons (.op .idx (.cons (.bor 0) (.cons (.bor 6) .nil))) (.cons (.bor 1) .nil))) (.cons (.bor 3) .nil))))
   (.seq (.set 8 (.ife (.op .eq (.cons (.op .mod (.cons (.op .mul (.cons (.op .idx (.cons (.bor 0) (.cons (.bor 6) .nil))) (.cons (.bor 1) .nil))) (.cons (.bor 3) .nil))) (.cons (.cst (.int 0)) .nil))) (.var 7) (.op .add (.cons (.bor 7) (.cons (.cst (.int 1)) .nil)))))
   (.seq (.ifs (.not (.chn .le .le (.var 7) (.op .idx (.cons (.bor 5) (.cons (.bor 6) .nil))) (.var 8))) (.seq (.app 4 (.var 6))
    .skip) .skip)
   .skip))) [.s .fz (tw w n), .s .fz (.int u), .s .fz wy, .s .fz (.int W), .s .ow (.list xs), .s .ow (.list (nsD f n)), .s .fz (.int k), s7, s8] =
    .nx [.s .fz (tw w n), .s .fz (.int u), .s .fz wy, .s .fz (.int W), .s .ow (.list (if offB (f k) (w k * u) W = true then xs ++ [.int k] else xs)), .s .ow (.list (nsD f n)), .s .fz (.int k), s7', s8'] := by
  have i1 := nsD_idx w hk
  have i2 := nsD_idx f hk
  refine ⟨.s .fz (.int (w k * u / W)), .s .fz (.int (if w k * u % W = 0 then w k * u / W else w k * u / W + 1)), ?_⟩
  generalize ((k : Nat) : Int) = K at i1 i2
  generalize w k = a at i1
  generalize f k = x at i2
  generalize ht : a * (u : Int) = t
  have hm : mulD (.int a) (.int u) = some (false, .int t) := by rw [← ht]; exact mulD_r hu
  generalize ((u : Nat) : Int) = U at hm
  by_cases r0 : t % W = 0
  · simp only [if_pos r0]
    by_cases c1 : t / W ≤ x
    · by_cases c2 : x ≤ t / W
      · have ob : offB x t W = false := by unfold offB; rw [if_pos r0]; simp [c1, c2]
        simp [Mx.runFn, Mx.outsOf, Mx.giveBack, Mx.argK, Mx.evA, Mx.putS, Mx.mutS, Mx.cmpOpt, Mx.ev.eq_1, Mx.ev.eq_2, Mx.ev.eq_3, Mx.ev.eq_4, Mx.ev.eq_5, Mx.ev.eq_6, Mx.ev.eq_7, Mx.ev.eq_8, Mx.ev.eq_9, Mx.ev.eq_10, Mx.ev.eq_11, Mx.ev.eq_12, Mx.ev.eq_13, Mx.ev.eq_14, Mx.ev.eq_16, Mx.ev.eq_19, Mx.ev.eq_20, Mx.ev.eq_21, Mx.ev.eq_22, Mx.ev.eq_23, Mx.ev.eq_24, Mx.ev.eq_25, Mx.evS.eq_1, Mx.evS.eq_2, Mx.evS.eq_3, Mx.evS.eq_4, Mx.evS.eq_5, Mx.evS.eq_6, Mx.evS.eq_7, Mx.evS.eq_8, Mx.evS.eq_9, Mx.evS.eq_10, Mx.evS.eq_11, Mx.evS.eq_12, Mx.evS.eq_13, Mx.evS.eq_14, Mx.evS.eq_17, Mx.evS.eq_18, Mx.evS.eq_19, Mx.evS.eq_20, Mx.o_add, Mx.o_sub, Mx.o_mul, Mx.o_neg, Mx.o_eq, Mx.o_ne, Mx.o_lt, Mx.o_le, Mx.o_gt, Mx.o_ge, Mx.o_isN, Mx.o_notN, Mx.o_idxL, Mx.o_idxT, Mx.o_slToL, Mx.o_lenL, Mx.o_lenT, Mx.o_min2, Mx.o_max2, Mx.o_abs, Mx.o_int, Mx.o_tupL, Mx.o_tupT, Mx.o_listL, Mx.o_listT, Mx.o_isi, Mx.addD_int, Mx.eqD_ii, Mx.old, Mx.o_mod, Mx.o_fdv, Mx.ix0, Mx.ix1, Mx.ix2, i1, i2, hm, o_fdv hW, hW.1, hW.2, r0, c1, c2, ob]
      · have ob : offB x t W = true := by unfold offB; rw [if_pos r0]; simp [c1, c2]
        simp [Mx.runFn, Mx.outsOf, Mx.giveBack, Mx.argK, Mx.evA, Mx.putS, Mx.mutS, Mx.cmpOpt, Mx.ev.eq_1, Mx.ev.eq_2, Mx.ev.eq_3, Mx.ev.eq_4, Mx.ev.eq_5, Mx.ev.eq_6, Mx.ev.eq_7, Mx.ev.eq_8, Mx.ev.eq_9, Mx.ev.eq_10, Mx.ev.eq_11, Mx.ev.eq_12, Mx.ev.eq_13, Mx.ev.eq_14, Mx.ev.eq_16, Mx.ev.eq_19, Mx.ev.eq_20, Mx.ev.eq_21, Mx.ev.eq_22, Mx.ev.eq_23, Mx.ev.eq_24, Mx.ev.eq_25, Mx.evS.eq_1, Mx.evS.eq_2, Mx.evS.eq_3, Mx.evS.eq_4, Mx.evS.eq_5, Mx.evS.eq_6, Mx.evS.eq_7, Mx.evS.eq_8, Mx.evS.eq_9, Mx.evS.eq_10, Mx.evS.eq_11, Mx.evS.eq_12, Mx.evS.eq_13, Mx.evS.eq_14, Mx.evS.eq_17, Mx.evS.eq_18, Mx.evS.eq_19, Mx.evS.eq_20, Mx.o_add, Mx.o_sub, Mx.o_mul, Mx.o_neg, Mx.o_eq, Mx.o_ne, Mx.o_lt, Mx.o_le, Mx.o_gt, Mx.o_ge, Mx.o_isN, Mx.o_notN, Mx.o_idxL, Mx.o_idxT, Mx.o_slToL, Mx.o_lenL, Mx.o_lenT, Mx.o_min2, Mx.o_max2, Mx.o_abs, Mx.o_int, Mx.o_tupL, Mx.o_tupT, Mx.o_listL, Mx.o_listT, Mx.o_isi, Mx.addD_int, Mx.eqD_ii, Mx.old, Mx.o_mod, Mx.o_fdv, Mx.ix0, Mx.ix1, Mx.ix2, i1, i2, hm, o_fdv hW, hW.1, hW.2, r0, c1, c2, ob, hl]
    · have ob : offB x t W = true := by unfold offB; rw [if_pos r0]; simp [c1]
      simp [Mx.runFn, Mx.outsOf, Mx.giveBack, Mx.argK, Mx.evA, Mx.putS, Mx.mutS, Mx.cmpOpt, Mx.ev.eq_1, Mx.ev.eq_2, Mx.ev.eq_3, Mx.ev.eq_4, Mx.ev.eq_5, Mx.ev.eq_6, Mx.ev.eq_7, Mx.ev.eq_8, Mx.ev.eq_9, Mx.ev.eq_10, Mx.ev.eq_11, Mx.ev.eq_12, Mx.ev.eq_13, Mx.ev.eq_14, Mx.ev.eq_16, Mx.ev.eq_19, Mx.ev.eq_20, Mx.ev.eq_21, Mx.ev.eq_22, Mx.ev.eq_23, Mx.ev.eq_24, Mx.ev.eq_25, Mx.evS.eq_1, Mx.evS.eq_2, Mx.evS.eq_3, Mx.evS.eq_4, Mx.evS.eq_5, Mx.evS.eq_6, Mx.evS.eq_7, Mx.evS.eq_8, Mx.evS.eq_9, Mx.evS.eq_10, Mx.evS.eq_11, Mx.evS.eq_12, Mx.evS.eq_13, Mx.evS.eq_14, Mx.evS.eq_17, Mx.evS.eq_18, Mx.evS.eq_19, Mx.evS.eq_20, Mx.o_add, Mx.o_sub, Mx.o_mul, Mx.o_neg, Mx.o_eq, Mx.o_ne, Mx.o_lt, Mx.o_le, Mx.o_gt, Mx.o_ge, Mx.o_isN, Mx.o_notN, Mx.o_idxL, Mx.o_idxT, Mx.o_slToL, Mx.o_lenL, Mx.o_lenT, Mx.o_min2, Mx.o_max2, Mx.o_abs, Mx.o_int, Mx.o_tupL, Mx.o_tupT, Mx.o_listL, Mx.o_listT, Mx.o_isi, Mx.addD_int, Mx.eqD_ii, Mx.old, Mx.o_mod, Mx.o_fdv, Mx.ix0, Mx.ix1, Mx.ix2, i1, i2, hm, o_fdv hW, hW.1, hW.2, r0, c1, ob, hl]
  · simp only [if_neg r0]
    by_cases c1 : t / W ≤ x
    · by_cases c2 : x ≤ t / W + 1
      · have ob : offB x t W = false := by unfold offB; rw [if_neg r0]; simp [c1, c2]
        simp [Mx.runFn, Mx.outsOf, Mx.giveBack, Mx.argK, Mx.evA, Mx.putS, Mx.mutS, Mx.cmpOpt, Mx.ev.eq_1, Mx.ev.eq_2, Mx.ev.eq_3, Mx.ev.eq_4, Mx.ev.eq_5, Mx.ev.eq_6, Mx.ev.eq_7, Mx.ev.eq_8, Mx.ev.eq_9, Mx.ev.eq_10, Mx.ev.eq_11, Mx.ev.eq_12, Mx.ev.eq_13, Mx.ev.eq_14, Mx.ev.eq_16, Mx.ev.eq_19, Mx.ev.eq_20, Mx.ev.eq_21, Mx.ev.eq_22, Mx.ev.eq_23, Mx.ev.eq_24, Mx.ev.eq_25, Mx.evS.eq_1, Mx.evS.eq_2, Mx.evS.eq_3, Mx.evS.eq_4, Mx.evS.eq_5, Mx.evS.eq_6, Mx.evS.eq_7, Mx.evS.eq_8, Mx.evS.eq_9, Mx.evS.eq_10, Mx.evS.eq_11, Mx.evS.eq_12, Mx.evS.eq_13, Mx.evS.eq_14, Mx.evS.eq_17, Mx.evS.eq_18, Mx.evS.eq_19, Mx.evS.eq_20, Mx.o_add, Mx.o_sub, Mx.o_mul, Mx.o_neg, Mx.o_eq, Mx.o_ne, Mx.o_lt, Mx.o_le, Mx.o_gt, Mx.o_ge, Mx.o_isN, Mx.o_notN, Mx.o_idxL, Mx.o_idxT, Mx.o_slToL, Mx.o_lenL, Mx.o_lenT, Mx.o_min2, Mx.o_max2, Mx.o_abs, Mx.o_int, Mx.o_tupL, Mx.o_tupT, Mx.o_listL, Mx.o_listT, Mx.o_isi, Mx.addD_int, Mx.eqD_ii, Mx.old, Mx.o_mod, Mx.o_fdv, Mx.ix0, Mx.ix1, Mx.ix2, i1, i2, hm, o_fdv hW, hW.1, hW.2, r0, c1, c2, ob]
      · have ob : offB x t W = true := by unfold offB; rw [if_neg r0]; simp [c1, c2]
        simp [Mx.runFn, Mx.outsOf, Mx.giveBack, Mx.argK, Mx.evA, Mx.putS, Mx.mutS, Mx.cmpOpt, Mx.ev.eq_1, Mx.ev.eq_2, Mx.ev.eq_3, Mx.ev.eq_4, Mx.ev.eq_5, Mx.ev.eq_6, Mx.ev.eq_7, Mx.ev.eq_8, Mx.ev.eq_9, Mx.ev.eq_10, Mx.ev.eq_11, Mx.ev.eq_12, Mx.ev.eq_13, Mx.ev.eq_14, Mx.ev.eq_16, Mx.ev.eq_19, Mx.ev.eq_20, Mx.ev.eq_21, Mx.ev.eq_22, Mx.ev.eq_23, Mx.ev.eq_24, Mx.ev.eq_25, Mx.evS.eq_1, Mx.evS.eq_2, Mx.evS.eq_3, Mx.evS.eq_4, Mx.evS.eq_5, Mx.evS.eq_6, Mx.evS.eq_7, Mx.evS.eq_8, Mx.evS.eq_9, Mx.evS.eq_10, Mx.evS.eq_11, Mx.evS.eq_12, Mx.evS.eq_13, Mx.evS.eq_14, Mx.evS.eq_17, Mx.evS.eq_18, Mx.evS.eq_19, Mx.evS.eq_20, Mx.o_add, Mx.o_sub, Mx.o_mul, Mx.o_neg, Mx.o_eq, Mx.o_ne, Mx.o_lt, Mx.o_le, Mx.o_gt, Mx.o_ge, Mx.o_isN, Mx.o_notN, Mx.o_idxL, Mx.o_idxT, Mx.o_slToL, Mx.o_lenL, Mx.o_lenT, Mx.o_min2, Mx.o_max2, Mx.o_abs, Mx.o_int, Mx.o_tupL, Mx.o_tupT, Mx.o_listL, Mx.o_listT, Mx.o_isi, Mx.addD_int, Mx.eqD_ii, Mx.old, Mx.o_mod, Mx.o_fdv, Mx.ix0, Mx.ix1, Mx.ix2, i1, i2, hm, o_fdv hW, hW.1, hW.2, r0, c1, c2, ob, hl]
    · have ob : offB x t W = true := by unfold offB; rw [if_neg r0]; simp [c1]
      simp [Mx.runFn, Mx.outsOf, Mx.giveBack, Mx.argK, Mx.evA, Mx.putS, Mx.mutS, Mx.cmpOpt, Mx.ev.eq_1, Mx.ev.eq_2, Mx.ev.eq_3, Mx.ev.eq_4, Mx.ev.eq_5, Mx.ev.eq_6, Mx.ev.eq_7, Mx.ev.eq_8, Mx.ev.eq_9, Mx.ev.eq_10, Mx.ev.eq_11, Mx.ev.eq_12, Mx.ev.eq_13, Mx.ev.eq_14, Mx.ev.eq_16, Mx.ev.eq_19, Mx.ev.eq_20, Mx.ev.eq_21, Mx.ev.eq_22, Mx.ev.eq_23, Mx.ev.eq_24, Mx.ev.eq_25, Mx.evS.eq_1, Mx.evS.eq_2, Mx.evS.eq_3, Mx.evS.eq_4, Mx.evS.eq_5, Mx.evS.eq_6, Mx.evS.eq_7, Mx.evS.eq_8, Mx.evS.eq_9, Mx.evS.eq_10, Mx.evS.eq_11, Mx.evS.eq_12, Mx.evS.eq_13, Mx.evS.eq_14, Mx.evS.eq_17, Mx.evS.eq_18, Mx.evS.eq_19, Mx.evS.eq_20, Mx.o_add, Mx.o_sub, Mx.o_mul, Mx.o_neg, Mx.o_eq, Mx.o_ne, Mx.o_lt, Mx.o_le, Mx.o_gt, Mx.o_ge, Mx.o_isN, Mx.o_notN, Mx.o_idxL, Mx.o_idxT, Mx.o_slToL, Mx.o_lenL, Mx.o_lenT, Mx.o_min2, Mx.o_max2, Mx.o_abs, Mx.o_int, Mx.o_tupL, Mx.o_tupT, Mx.o_listL, Mx.o_listT, Mx.o_isi, Mx.addD_int, Mx.eqD_ii, Mx.old, Mx.o_mod, Mx.o_fdv, Mx.ix0, Mx.ix1, Mx.ix2, i1, i2, hm, o_fdv hW, hW.1, hW.2, r0, c1, ob, hl]
theorem oq_ok (m : Nat) {w : Nat → Int} {n : Nat} (h : OkW w n) (y : Wy) {u : Nat} (hu : u ≤ 500) : sem (fnsOf defs) (m + 4) 11 [.s .fz (tw w n), .s .fz (.int u), .s .fz (.str (wyS y))] = .ok false (.tuple (offL (S y w n u) w u (psum w n) n)) [.s .fz (tw w n), .s .fz (.int u), .s .fz (.str (wyS y))] := by
  have e1 := need_ok m h hu y
  have e2 := shd_ok m h y (u := u) (by omega)
  have hW := whole_bd h
  have n8 := h.n8
  have hs := nsD_sumT w n
  have hU : ((u : Nat) : Int).natAbs < 2 ^ 63 := by omega
  rw [sem_succ, f11]
  generalize sem (fnsOf defs) (m + 3) = F at e1 e2 ⊢
  generalize S y w n u = f at e2 ⊢
  generalize wyS y = wy at e1 e2 ⊢
  generalize psum w n = W at hW hs ⊢
  obtain ⟨ρ', ⟨s6, s7, s8, rfl⟩, el⟩ := forL_nx (bind := bindT (.one 6)) (body := evS F (.seq (.set 7 (.op .fdv (.cons (.op .mul (.cons (.op .idx (.cons (.bor 0) (.cons (.bor 6) .nil))) (.cons (.bor 1) .nil))) (.cons (.bor 3) .nil))))
   (.seq (.set 8 (.ife (.op .eq (.cons (.op .mod (.cons (.op .mul (.cons (.op .idx (.cons (.bor 0) (.cons (.bor 6) .nil))) (.cons (.bor 1) .nil))) (.cons (.bor 3) .nil))) (.cons (.cst (.int 0)) .nil))) (.var 7) (.op .add (.cons (.bor 7) (.cons (.cst (.int 1)) .nil)))))
   (.seq (.ifs (.not (.chn .le .le (.var 7) (.op .idx (.cons (.bor 5) (.cons (.bor 6) .nil))) (.var 8))) (.seq (.app 4 (.var 6))
    .skip) .skip)
   .skip)))) ((List.range n).map fun k : Nat => .int (k : Int))
    (fun k ρ => ∃ s6 s7 s8, ρ = [.s .fz (tw w n), .s .fz (.int u), .s .fz (.str wy), .s .fz (.int W), .s .ow (.list (offL f w u W k)), .s .ow (.list (nsD f n)), s6, s7, s8])
    (fun k hk ρ hρ => by
      obtain ⟨s6, s7, s8, rfl⟩ := hρ
      rw [List.getElem_map, List.getElem_range]
      have hk' : k < n := by simpa using hk
      have hl : (offL f w u W k).length < line := Nat.lt_of_lt_of_le (Nat.lt_succ_of_le (offL_len f w u W k)) (len_ok (by omega))
      obtain ⟨t7, t8, e⟩ := oq_body (F := F) (f := f) (wy := .str wy) hk' hW hU hl s7 s8
      exact ⟨_, _, rfl, e, ⟨_, _, _, rfl⟩⟩)
    [.s .fz (tw w n), .s .fz (.int u), .s .fz (.str wy), .s .fz (.int W), .s .ow (.list []), .s .ow (.list (nsD f n)), .no, .no, .no] ⟨_, _, _, rfl⟩
  simp only [List.length_map, List.length_range] at el
  have ri := range_ok (T := n) (by omega)
  have it : ev F (.irng (.op .len (.cons (.bor 0) .nil))) [.s .fz (tw w n), .s .fz (.int u), .s .fz (.str wy), .s .fz (.int W), .s .ow (.list []), .s .ow (.list (nsD f n)), .no, .no, .no] = .ok false (.list ((List.range n).map fun k : Nat => .int (k : Int))) [.s .fz (tw w n), .s .fz (.int u), .s .fz (.str wy), .s .fz (.int W), .s .ow (.list []), .s .ow (.list (nsD f n)), .no, .no, .no] := by
    simp [Mx.runFn, Mx.outsOf, Mx.giveBack, Mx.argK, Mx.evA, Mx.putS, Mx.mutS, Mx.cmpOpt, Mx.ev.eq_1, Mx.ev.eq_2, Mx.ev.eq_3, Mx.ev.eq_4, Mx.ev.eq_5, Mx.ev.eq_6, Mx.ev.eq_7, Mx.ev.eq_8, Mx.ev.eq_9, Mx.ev.eq_10, Mx.ev.eq_11, Mx.ev.eq_12, Mx.ev.eq_13, Mx.ev.eq_14, Mx.ev.eq_16, Mx.ev.eq_19, Mx.ev.eq_20, Mx.ev.eq_21, Mx.ev.eq_22, Mx.ev.eq_23, Mx.ev.eq_24, Mx.ev.eq_25, Mx.evS.eq_1, Mx.evS.eq_2, Mx.evS.eq_3, Mx.evS.eq_4, Mx.evS.eq_5, Mx.evS.eq_6, Mx.evS.eq_7, Mx.evS.eq_8, Mx.evS.eq_9, Mx.evS.eq_10, Mx.evS.eq_11, Mx.evS.eq_12, Mx.evS.eq_13, Mx.evS.eq_14, Mx.evS.eq_17, Mx.evS.eq_18, Mx.evS.eq_19, Mx.evS.eq_20, Mx.o_add, Mx.o_sub, Mx.o_mul, Mx.o_neg, Mx.o_eq, Mx.o_ne, Mx.o_lt, Mx.o_le, Mx.o_gt, Mx.o_ge, Mx.o_isN, Mx.o_notN, Mx.o_idxL, Mx.o_idxT, Mx.o_slToL, Mx.o_lenL, Mx.o_lenT, Mx.o_min2, Mx.o_max2, Mx.o_abs, Mx.o_int, Mx.o_tupL, Mx.o_tupT, Mx.o_listL, Mx.o_listT, Mx.o_isi, Mx.addD_int, Mx.eqD_ii, Mx.old, Mx.o_mod, Mx.o_fdv, Mx.ix0, Mx.ix1, Mx.ix2, nsD_len, ri]
  have e1' := e1
  have st1 : evS F (.ex (.call 3 0 (.cons (.bor 0) (.cons (.bor 1) (.cons (.bor 2) .nil))))) [.s .fz (tw w n), .s .fz (.int u), .s .fz (.str wy), .no, .no, .no, .no, .no, .no] = .nx [.s .fz (tw w n), .s .fz (.int u), .s .fz (.str wy), .no, .no, .no, .no, .no, .no] := by
    generalize PyData.int (u : Int) = U at e1 ⊢
    generalize tw w n = T at e1 ⊢
    simp [Mx.runFn, Mx.outsOf, Mx.giveBack, Mx.argK, Mx.evA, Mx.putS, Mx.mutS, Mx.cmpOpt, Mx.ev.eq_1, Mx.ev.eq_2, Mx.ev.eq_3, Mx.ev.eq_4, Mx.ev.eq_5, Mx.ev.eq_6, Mx.ev.eq_7, Mx.ev.eq_8, Mx.ev.eq_9, Mx.ev.eq_10, Mx.ev.eq_11, Mx.ev.eq_12, Mx.ev.eq_13, Mx.ev.eq_14, Mx.ev.eq_16, Mx.ev.eq_19, Mx.ev.eq_20, Mx.ev.eq_21, Mx.ev.eq_22, Mx.ev.eq_23, Mx.ev.eq_24, Mx.ev.eq_25, Mx.evS.eq_1, Mx.evS.eq_2, Mx.evS.eq_3, Mx.evS.eq_4, Mx.evS.eq_5, Mx.evS.eq_6, Mx.evS.eq_7, Mx.evS.eq_8, Mx.evS.eq_9, Mx.evS.eq_10, Mx.evS.eq_11, Mx.evS.eq_12, Mx.evS.eq_13, Mx.evS.eq_14, Mx.evS.eq_17, Mx.evS.eq_18, Mx.evS.eq_19, Mx.evS.eq_20, Mx.o_add, Mx.o_sub, Mx.o_mul, Mx.o_neg, Mx.o_eq, Mx.o_ne, Mx.o_lt, Mx.o_le, Mx.o_gt, Mx.o_ge, Mx.o_isN, Mx.o_notN, Mx.o_idxL, Mx.o_idxT, Mx.o_slToL, Mx.o_lenL, Mx.o_lenT, Mx.o_min2, Mx.o_max2, Mx.o_abs, Mx.o_int, Mx.o_tupL, Mx.o_tupT, Mx.o_listL, Mx.o_listT, Mx.o_isi, Mx.addD_int, Mx.eqD_ii, Mx.old, Mx.o_mod, Mx.o_fdv, Mx.ix0, Mx.ix1, Mx.ix2, e1]
  have st2 : evS F (.set 3 (.op .sum (.cons (.bor 0) .nil))) [.s .fz (tw w n), .s .fz (.int u), .s .fz (.str wy), .no, .no, .no, .no, .no, .no] = .nx [.s .fz (tw w n), .s .fz (.int u), .s .fz (.str wy), .s .fz (.int W), .no, .no, .no, .no, .no] := by
    simp [Mx.runFn, Mx.outsOf, Mx.giveBack, Mx.argK, Mx.evA, Mx.putS, Mx.mutS, Mx.cmpOpt, Mx.ev.eq_1, Mx.ev.eq_2, Mx.ev.eq_3, Mx.ev.eq_4, Mx.ev.eq_5, Mx.ev.eq_6, Mx.ev.eq_7, Mx.ev.eq_8, Mx.ev.eq_9, Mx.ev.eq_10, Mx.ev.eq_11, Mx.ev.eq_12, Mx.ev.eq_13, Mx.ev.eq_14, Mx.ev.eq_16, Mx.ev.eq_19, Mx.ev.eq_20, Mx.ev.eq_21, Mx.ev.eq_22, Mx.ev.eq_23, Mx.ev.eq_24, Mx.ev.eq_25, Mx.evS.eq_1, Mx.evS.eq_2, Mx.evS.eq_3, Mx.evS.eq_4, Mx.evS.eq_5, Mx.evS.eq_6, Mx.evS.eq_7, Mx.evS.eq_8, Mx.evS.eq_9, Mx.evS.eq_10, Mx.evS.eq_11, Mx.evS.eq_12, Mx.evS.eq_13, Mx.evS.eq_14, Mx.evS.eq_17, Mx.evS.eq_18, Mx.evS.eq_19, Mx.evS.eq_20, Mx.o_add, Mx.o_sub, Mx.o_mul, Mx.o_neg, Mx.o_eq, Mx.o_ne, Mx.o_lt, Mx.o_le, Mx.o_gt, Mx.o_ge, Mx.o_isN, Mx.o_notN, Mx.o_idxL, Mx.o_idxT, Mx.o_slToL, Mx.o_lenL, Mx.o_lenT, Mx.o_min2, Mx.o_max2, Mx.o_abs, Mx.o_int, Mx.o_tupL, Mx.o_tupT, Mx.o_listL, Mx.o_listT, Mx.o_isi, Mx.addD_int, Mx.eqD_ii, Mx.old, Mx.o_mod, Mx.o_fdv, Mx.ix0, Mx.ix1, Mx.ix2, hs]
  have st3 : evS F (.set 4 (.lst .nil)) [.s .fz (tw w n), .s .fz (.int u), .s .fz (.str wy), .s .fz (.int W), .no, .no, .no, .no, .no] = .nx [.s .fz (tw w n), .s .fz (.int u), .s .fz (.str wy), .s .fz (.int W), .s .ow (.list []), .no, .no, .no, .no] := by
    simp [Mx.runFn, Mx.outsOf, Mx.giveBack, Mx.argK, Mx.evA, Mx.putS, Mx.mutS, Mx.cmpOpt, Mx.ev.eq_1, Mx.ev.eq_2, Mx.ev.eq_3, Mx.ev.eq_4, Mx.ev.eq_5, Mx.ev.eq_6, Mx.ev.eq_7, Mx.ev.eq_8, Mx.ev.eq_9, Mx.ev.eq_10, Mx.ev.eq_11, Mx.ev.eq_12, Mx.ev.eq_13, Mx.ev.eq_14, Mx.ev.eq_16, Mx.ev.eq_19, Mx.ev.eq_20, Mx.ev.eq_21, Mx.ev.eq_22, Mx.ev.eq_23, Mx.ev.eq_24, Mx.ev.eq_25, Mx.evS.eq_1, Mx.evS.eq_2, Mx.evS.eq_3, Mx.evS.eq_4, Mx.evS.eq_5, Mx.evS.eq_6, Mx.evS.eq_7, Mx.evS.eq_8, Mx.evS.eq_9, Mx.evS.eq_10, Mx.evS.eq_11, Mx.evS.eq_12, Mx.evS.eq_13, Mx.evS.eq_14, Mx.evS.eq_17, Mx.evS.eq_18, Mx.evS.eq_19, Mx.evS.eq_20, Mx.o_add, Mx.o_sub, Mx.o_mul, Mx.o_neg, Mx.o_eq, Mx.o_ne, Mx.o_lt, Mx.o_le, Mx.o_gt, Mx.o_ge, Mx.o_isN, Mx.o_notN, Mx.o_idxL, Mx.o_idxT, Mx.o_slToL, Mx.o_lenL, Mx.o_lenT, Mx.o_min2, Mx.o_max2, Mx.o_abs, Mx.o_int, Mx.o_tupL, Mx.o_tupT, Mx.o_listL, Mx.o_listT, Mx.o_isi, Mx.addD_int, Mx.eqD_ii, Mx.old, Mx.o_mod, Mx.o_fdv, Mx.ix0, Mx.ix1, Mx.ix2]
  have st4 : evS F (.set 5 (.call 7 0 (.cons (.bor 0) (.cons (.bor 1) (.cons (.bor 2) .nil))))) [.s .fz (tw w n), .s .fz (.int u), .s .fz (.str wy), .s .fz (.int W), .s .ow (.list []), .no, .no, .no, .no] = .nx [.s .fz (tw w n), .s .fz (.int u), .s .fz (.str wy), .s .fz (.int W), .s .ow (.list []), .s .ow (.list (nsD f n)), .no, .no, .no] := by
    generalize PyData.int (u : Int) = U at e2 ⊢
    generalize tw w n = T at e2 ⊢
    simp [Mx.runFn, Mx.outsOf, Mx.giveBack, Mx.argK, Mx.evA, Mx.putS, Mx.mutS, Mx.cmpOpt, Mx.ev.eq_1, Mx.ev.eq_2, Mx.ev.eq_3, Mx.ev.eq_4, Mx.ev.eq_5, Mx.ev.eq_6, Mx.ev.eq_7, Mx.ev.eq_8, Mx.ev.eq_9, Mx.ev.eq_10, Mx.ev.eq_11, Mx.ev.eq_12, Mx.ev.eq_13, Mx.ev.eq_14, Mx.ev.eq_16, Mx.ev.eq_19, Mx.ev.eq_20, Mx.ev.eq_21, Mx.ev.eq_22, Mx.ev.eq_23, Mx.ev.eq_24, Mx.ev.eq_25, Mx.evS.eq_1, Mx.evS.eq_2, Mx.evS.eq_3, Mx.evS.eq_4, Mx.evS.eq_5, Mx.evS.eq_6, Mx.evS.eq_7, Mx.evS.eq_8, Mx.evS.eq_9, Mx.evS.eq_10, Mx.evS.eq_11, Mx.evS.eq_12, Mx.evS.eq_13, Mx.evS.eq_14, Mx.evS.eq_17, Mx.evS.eq_18, Mx.evS.eq_19, Mx.evS.eq_20, Mx.o_add, Mx.o_sub, Mx.o_mul, Mx.o_neg, Mx.o_eq, Mx.o_ne, Mx.o_lt, Mx.o_le, Mx.o_gt, Mx.o_ge, Mx.o_isN, Mx.o_notN, Mx.o_idxL, Mx.o_idxT, Mx.o_slToL, Mx.o_lenL, Mx.o_lenT, Mx.o_min2, Mx.o_max2, Mx.o_abs, Mx.o_int, Mx.o_tupL, Mx.o_tupT, Mx.o_listL, Mx.o_listT, Mx.o_isi, Mx.addD_int, Mx.eqD_ii, Mx.old, Mx.o_mod, Mx.o_fdv, Mx.ix0, Mx.ix1, Mx.ix2, e2]
  have tot : evS F c_off_quota [.s .fz (tw w n), .s .fz (.int u), .s .fz (.str wy), .no, .no, .no, .no, .no, .no] = .rt false (.tuple (offL f w u W n)) [.s .fz (tw w n), .s .fz (.int u), .s .fz (.str wy), .s .fz (.int W), .s .ow (.list (offL f w u W n)), .s .ow (.list (nsD f n)), s6, s7, s8] := by
    refine evS_seq st1 (evS_seq st2 (evS_seq st3 (evS_seq st4 (evS_seq (evS_for it el rfl) ?_))))
    generalize offL f w u W n = os
    simp [Mx.runFn, Mx.outsOf, Mx.giveBack, Mx.argK, Mx.evA, Mx.putS, Mx.mutS, Mx.cmpOpt, Mx.ev.eq_1, Mx.ev.eq_2, Mx.ev.eq_3, Mx.ev.eq_4, Mx.ev.eq_5, Mx.ev.eq_6, Mx.ev.eq_7, Mx.ev.eq_8, Mx.ev.eq_9, Mx.ev.eq_10, Mx.ev.eq_11, Mx.ev.eq_12, Mx.ev.eq_13, Mx.ev.eq_14, Mx.ev.eq_16, Mx.ev.eq_19, Mx.ev.eq_20, Mx.ev.eq_21, Mx.ev.eq_22, Mx.ev.eq_23, Mx.ev.eq_24, Mx.ev.eq_25, Mx.evS.eq_1, Mx.evS.eq_2, Mx.evS.eq_3, Mx.evS.eq_4, Mx.evS.eq_5, Mx.evS.eq_6, Mx.evS.eq_7, Mx.evS.eq_8, Mx.evS.eq_9, Mx.evS.eq_10, Mx.evS.eq_11, Mx.evS.eq_12, Mx.evS.eq_13, Mx.evS.eq_14, Mx.evS.eq_17, Mx.evS.eq_18, Mx.evS.eq_19, Mx.evS.eq_20, Mx.o_add, Mx.o_sub, Mx.o_mul, Mx.o_neg, Mx.o_eq, Mx.o_ne, Mx.o_lt, Mx.o_le, Mx.o_gt, Mx.o_ge, Mx.o_isN, Mx.o_notN, Mx.o_idxL, Mx.o_idxT, Mx.o_slToL, Mx.o_lenL, Mx.o_lenT, Mx.o_min2, Mx.o_max2, Mx.o_abs, Mx.o_int, Mx.o_tupL, Mx.o_tupT, Mx.o_listL, Mx.o_listT, Mx.o_isi, Mx.addD_int, Mx.eqD_ii, Mx.old, Mx.o_mod, Mx.o_fdv, Mx.ix0, Mx.ix1, Mx.ix2]
  exact runFn_rt rfl tot rfl
end K02
end

section
set_option maxRecDepth 100000
set_option linter.all false
set_option maxHeartbeats 2000000
namespace K02
open Mx PySem L2
open K02P (Wy half updf S quo rmd shR rank dv pos step better bst prs srt)
open K00P (psum IsFirst)
def q1 : Sc := (.set 1 (.op .tup (.cons (.comp (.op .add (.cons (.cst (.int 1)) (.cons (.call 15 0 (.cons (.len 0) (.cons (.lst (.cons (.call 14 0 (.cons (.len 0) (.cons (.cst (.int 9)) .nil))) (.cons (.call 14 0 (.cons (.len 0) (.cons (.cst (.int 60)) .nil))) .nil))) .nil))) .nil))) (.one 24) [24] (.irng (.op .add (.cons (.cst (.int 1)) (.cons (.call 14 0 (.cons (.len 0) (.cons (.cst (.int 5)) .nil))) .nil)))) .nil) .nil)))
def q2 : Sc := (.par 10 11 (.cons (.call 14 0 (.cons (.len 0) (.cons (.cst (.int 25)) .nil))) (.cons (.lst (.cons (.cst (.str "remainders")) (.cons (.cst (.str "down")) (.cons (.cst (.str "nearest")) (.cons (.cst (.str "up")) .nil))))) .nil)))
def q3 : Sc := (.for1 (.one 2) (.iseq (.bor 11)) (.seq (.set 12 (.call 8 1 (.cons (.bor 1) (.cons (.bor 10) (.cons (.bor 2) .nil)))))
   (.seq (.ifs (.or (.op .ne (.cons (.bor 12) (.cons (.op .tup (.cons (.call 18 0 (.cons (.bor 1) (.cons (.bor 10) (.cons (.bor 2) .nil)))) .nil)) .nil))) (.op .ne (.cons (.op .sum (.cons (.bor 12) .nil)) (.cons (.bor 10) .nil)))) (.seq (.ret (.cst (.bool false)))
    .skip) .skip)
   (.seq (.for1 (.one 13) (.irng (.op .len (.cons (.bor 1) .nil))) (.seq (.for1 (.one 23) (.irng (.op .len (.cons (.bor 1) .nil))) (.seq (.ifs (.and (.op .ne (.cons (.bor 2) (.cons (.cst (.str "remainders")) .nil))) (.op .gt (.cons (.op .idx (.cons (.bor 12) (.cons (.bor 13) .nil))) (.cons (.cst (.int 0)) .nil)))) (.seq (.par 25 26 (.cons (.call 16 0 (.cons (.op .sub (.cons (.op .idx (.cons (.bor 12) (.cons (.bor 13) .nil))) (.cons (.cst (.int 1)) .nil))) (.cons (.bor 2) .nil))) (.cons (.call 16 0 (.cons (.op .idx (.cons (.bor 12) (.cons (.bor 23) .nil))) (.cons (.bor 2) .nil))) .nil)))
      (.seq (.ifs (.and (.op .gt (.cons (.bor 25) (.cons (.cst (.int 0)) .nil))) (.or (.op .eq (.cons (.bor 26) (.cons (.cst (.int 0)) .nil))) (.op .gt (.cons (.op .mul (.cons (.op .idx (.cons (.bor 1) (.cons (.bor 23) .nil))) (.cons (.bor 25) .nil))) (.cons (.op .mul (.cons (.op .idx (.cons (.bor 1) (.cons (.bor 13) .nil))) (.cons (.bor 26) .nil))) .nil))))) (.seq (.ret (.cst (.bool false)))
       .skip) .skip)
      .skip)) .skip)
     .skip))
    .skip))
   .skip))))
def q4 : Sc := (.unp [2, 14] (.tup (.cons (.call 15 0 (.cons (.len 0) (.cons (.bor 11) .nil))) (.cons (.op .sum (.cons (.bor 1) .nil)) .nil))))
def q5 : Sc := (.unp [15, 16] (.tup (.cons (.call 18 0 (.cons (.bor 1) (.cons (.bor 10) (.cons (.bor 2) .nil)))) (.cons (.call 18 0 (.cons (.bor 1) (.cons (.op .add (.cons (.bor 10) (.cons (.cst (.int 1)) .nil))) (.cons (.bor 2) .nil)))) .nil))))
def q6 : Sc := (.ifs (.op .ne (.cons (.call 9 1 (.cons (.bor 1) (.cons (.bor 10) (.cons (.bor 2) .nil)))) (.cons (.op .tup (.cons (.comp (.var 4) (.one 4) [4] (.irng (.op .len (.cons (.bor 1) .nil))) (.op .lt (.cons (.op .idx (.cons (.bor 16) (.cons (.bor 4) .nil))) (.cons (.op .idx (.cons (.bor 15) (.cons (.bor 4) .nil))) .nil)))) .nil)) .nil))) (.seq (.ret (.cst (.bool false)))
   .skip) .skip)
def q7 : Sc := (.set 3 (.lst .nil))
def q8 : Sc := (.for1 (.one 4) (.irng (.op .len (.cons (.bor 1) .nil))) (.seq (.ifs (.or (.op .le (.cons (.op .mul (.cons (.op .idx (.cons (.bor 15) (.cons (.bor 4) .nil))) (.cons (.bor 14) .nil))) (.cons (.op .sub (.cons (.op .mul (.cons (.op .idx (.cons (.bor 1) (.cons (.bor 4) .nil))) (.cons (.bor 10) .nil))) (.cons (.bor 14) .nil))) .nil))) (.op .ge (.cons (.op .mul (.cons (.op .idx (.cons (.bor 15) (.cons (.bor 4) .nil))) (.cons (.bor 14) .nil))) (.cons (.op .add (.cons (.op .mul (.cons (.op .idx (.cons (.bor 1) (.cons (.bor 4) .nil))) (.cons (.bor 10) .nil))) (.cons (.bor 14) .nil))) .nil)))) (.seq (.app 3 (.var 4))
    .skip) .skip)
   .skip))
def q9 : Sc := (.ifs (.op .ne (.cons (.call 11 1 (.cons (.bor 1) (.cons (.bor 10) (.cons (.bor 2) .nil)))) (.cons (.op .tup (.cons (.bor 3) .nil)) .nil))) (.seq (.ret (.cst (.bool false)))
   .skip) .skip)
def q10 : Sc := (.par3 17 18 19 (.cons (.call 14 0 (.cons (.len 0) (.cons (.cst (.int 20)) .nil))) (.cons (.cst .none) (.cons (.call 18 0 (.cons (.bor 1) (.cons (.cst (.int 0)) (.cons (.bor 2) .nil)))) .nil))))
def q11 : Sc := (.for1 (.one 5) (.irng (.op .add (.cons (.bor 17) (.cons (.cst (.int 1)) .nil)))) (.seq (.set 20 (.call 18 0 (.cons (.bor 1) (.cons (.op .add (.cons (.bor 5) (.cons (.cst (.int 1)) .nil))) (.cons (.bor 2) .nil)))))
   (.seq (.ifs (.and (.op .isN (.cons (.bor 18) .nil)) (.op .gt (.cons (.op .len (.cons (.comp (.cst (.int 1)) (.tup [13, 23]) [13, 23] (.izip (.var 19) (.var 20)) (.op .lt (.cons (.bor 23) (.cons (.bor 13) .nil)))) .nil)) (.cons (.cst (.int 0)) .nil)))) (.seq (.set 18 (.var 5))
    .skip) .skip)
   (.seq (.set 19 (.var 20))
   .skip))))
def q12 : Sc := (.ifs (.op .ne (.cons (.call 10 1 (.cons (.bor 1) (.cons (.bor 17) (.cons (.bor 2) .nil)))) (.cons (.bor 18) .nil))) (.seq (.ret (.cst (.bool false)))
   .skip) .skip)
def q13 : Sc := (.par 21 22 (.cons (.call 14 0 (.cons (.len 0) (.cons (.op .len (.cons (.bor 1) .nil)) .nil))) (.cons (.call 14 0 (.cons (.len 0) (.cons (.cst (.int 4)) .nil))) .nil)))
def q14 : Sc := (.set 6 (.call 12 1 (.cons (.bor 1) (.cons (.bor 21) (.cons (.bor 22) (.cons (.bor 2) .nil))))))
def q15 : Sc := (.ifs (.and (.op .notN (.cons (.bor 6) .nil)) (.or (.op .lt (.cons (.op .idx (.cons (.call 18 0 (.cons (.bor 1) (.cons (.bor 6) (.cons (.bor 2) .nil)))) (.cons (.bor 21) .nil))) (.cons (.bor 22) .nil))) (.call 19 0 (.cons (.bor 1) (.cons (.bor 6) (.cons (.bor 2) (.cons (.bor 21) (.cons (.bor 22) .nil)))))))) (.seq (.ret (.cst (.bool false)))
   .skip) .skip)
def q16 : Sc := (.ifs (.and (.op .isN (.cons (.bor 6) .nil)) (.call 19 0 (.cons (.bor 1) (.cons (.cst (.int 40)) (.cons (.bor 2) (.cons (.bor 21) (.cons (.bor 22) .nil))))))) (.seq (.ret (.cst (.bool false)))
   .skip) .skip)
def q17 : Sc := (.set 7 (.call 15 0 (.cons (.len 0) (.cons (.lst (.cons (.cst .none) (.cons (.tup .nil) (.cons (.lst (.cons (.cst (.int 1)) .nil)) (.cons (.tup (.cons (.cst (.int 0)) .nil)) (.cons (.tup (.cons (.cst (.int 100001)) .nil)) (.cons (.op .mul (.cons (.tup (.cons (.cst (.int 1)) .nil)) (.cons (.cst (.int 9)) .nil))) (.cons (.tup (.cons (.cst (.bool true)) .nil)) .nil)))))))) .nil))))
def q18 : Sc := (.set 8 (.lst (.cons (.refd (.call 8 0 (.cons (.bor 7) (.cons (.cst .none) (.cons (.cst .none) .nil))))) (.cons (.refd (.call 8 0 (.cons (.bor 1) (.cons (.cst (.int 501)) (.cons (.cst .none) .nil))))) (.cons (.refd (.call 8 0 (.cons (.bor 1) (.cons (.cst (.int 1)) (.cons (.cst (.str "Up")) .nil))))) (.cons (.refd (.call 9 0 (.cons (.bor 1) (.cons (.op .neg (.cons (.cst (.int 1)) .nil)) (.cons (.bor 2) .nil))))) (.cons (.refd (.call 10 0 (.cons (.bor 1) (.cons (.cst .none) (.cons (.bor 2) .nil))))) (.cons (.refd (.call 11 0 (.cons (.bor 7) (.cons (.cst (.int 0)) (.cons (.bor 2) .nil))))) (.cons (.refd (.call 12 0 (.cons (.bor 1) (.cons (.op .len (.cons (.bor 1) .nil)) (.cons (.cst (.int 0)) (.cons (.bor 2) .nil)))))) (.cons (.refd (.call 12 0 (.cons (.bor 1) (.cons (.cst (.int 0)) (.cons (.cst (.int 0)) (.cons (.cst .none) .nil)))))) .nil))))))))))
def q19 : Sc := (.set 9 (.lst (.cons (.cst (.str "weights")) (.cons (.cst (.str "units")) (.cons (.cst (.str "way")) (.cons (.cst (.str "units")) (.cons (.cst (.str "units")) (.cons (.cst (.str "weights")) (.cons (.cst (.str "member")) (.cons (.cst (.str "way")) .nil))))))))))
def q20 : Sc := (.ret (.and (.op .eq (.cons (.bor 8) (.cons (.bor 9) .nil))) (.and (.call 2 0 (.cons (.bor 1) .nil)) (.not (.call 2 0 (.cons (.bor 7) .nil))))))
theorem q_eq : c__law_right = .seq q1 (.seq q2 (.seq q3 (.seq q4 (.seq q5 (.seq q6 (.seq q7 (.seq q8 (.seq q9 (.seq q10 (.seq q11 (.seq q12 (.seq q13 (.seq q14 (.seq q15 (.seq q16 (.seq q17 (.seq q18 (.seq q19 (.seq q20 (.skip)))))))))))))))))))) := rfl

theorem ns_nsD (ns : List Int) : ns.map PyData.int = nsD (fun i => ns[i]?.getD 0) ns.length := by
  unfold nsD
  congr 1
  refine List.ext_getElem (by simp) fun i h1 h2 => ?_
  simp [List.getElem?_eq_getElem h1]
theorem wL (n : Nat) (ds : List D) : ∀ (d : D) (k : Int), Dice d k → k + 3 * ds.length < 900000 → ∀ cur, ∃ ns : List Int, ∃ d' cur', ns.length = ds.length ∧ (∀ z ∈ ns, 1 ≤ z ∧ z ≤ 60) ∧ Dice d' (k + 3 * ds.length) ∧
    compL (wipeR · [24]) (bindT (.one 24)) (fun ρ => .ok false (.bool true) ρ) (ev (sem (fnsOf defs) (n + 2)) (.op .add (.cons (.cst (.int 1)) (.cons (.call 15 0 (.cons (.len 0) (.cons (.lst (.cons (.call 14 0 (.cons (.len 0) (.cons (.cst (.int 9)) .nil))) (.cons (.call 14 0 (.cons (.len 0) (.cons (.cst (.int 60)) .nil))) .nil))) .nil))) .nil)))) ds [Mx.Slot.s .le d, .no, .no, .no, .no, .no, .no, .no, .no, .no, .no, .no, .no, .no, .no, .no, .no, .no, .no, .no, .no, .no, .no, .no, cur, .no, .no] = .ok true (.list (ns.map .int)) [Mx.Slot.s .le d', .no, .no, .no, .no, .no, .no, .no, .no, .no, .no, .no, .no, .no, .no, .no, .no, .no, .no, .no, .no, .no, .no, .no, cur', .no, .no] := by
  induction ds with
  | nil => exact fun d k h _ cur => ⟨[], d, cur, rfl, by simp, h.mono (by simp), rfl⟩
  | cons x ds ih =>
    intro d k h hk cur
    simp only [List.length_cons] at hk
    obtain ⟨r1, d1, a1, a2, hd1, e1⟩ := roll (n + 1) 9 h (by omega) (by omega) (by omega)
    obtain ⟨r2, d2, b1, b2, hd2, e2⟩ := roll (n + 1) 60 hd1 (by omega) (by omega) (by omega)
    obtain ⟨x3, hx, d3, hd3, e3⟩ := pick n [.int r1, .int r2] hd2 (by omega) (by simp) (by simp)
    obtain ⟨v, rfl, v0, v1⟩ : ∃ v : Int, x3 = .int v ∧ 0 ≤ v ∧ v < 60 := by
      simp only [List.mem_cons, List.not_mem_nil, or_false] at hx
      rcases hx with rfl | rfl
      · exact ⟨r1, rfl, by omega, by omega⟩
      · exact ⟨r2, rfl, by omega, by omega⟩
    obtain ⟨ns, d4, cur', z1, z2, z3, z4⟩ := ih d3 (k + 1 + 1 + 1) hd3 (by omega) (.s .fz x)
    refine ⟨(1 + v) :: ns, d4, cur', by simp [z1], ?_, z3.mono (by simp only [List.length_cons]; omega), ?_⟩
    · intro z hz
      rcases List.mem_cons.mp hz with rfl | hz
      · omega
      · exact z2 z hz
    · have e1 : sem (fnsOf defs) (n + 2) 14 _ = _ := e1
      have e2 : sem (fnsOf defs) (n + 2) 14 _ = _ := e2
      generalize sem (fnsOf defs) (n + 2) = F at e1 e2 e3 z4 ⊢
      simp only [compL]
      simp [Mx.runFn, Mx.outsOf, Mx.giveBack, Mx.argK, Mx.evA, Mx.putS, Mx.mutS, Mx.cmpOpt, Mx.ev.eq_1, Mx.ev.eq_2, Mx.ev.eq_3, Mx.ev.eq_4, Mx.ev.eq_5, Mx.ev.eq_6, Mx.ev.eq_7, Mx.ev.eq_8, Mx.ev.eq_9, Mx.ev.eq_10, Mx.ev.eq_11, Mx.ev.eq_12, Mx.ev.eq_13, Mx.ev.eq_14, Mx.ev.eq_16, Mx.ev.eq_19, Mx.ev.eq_20, Mx.ev.eq_21, Mx.ev.eq_22, Mx.ev.eq_23, Mx.ev.eq_24, Mx.ev.eq_25, Mx.evS.eq_1, Mx.evS.eq_2, Mx.evS.eq_3, Mx.evS.eq_4, Mx.evS.eq_5, Mx.evS.eq_6, Mx.evS.eq_7, Mx.evS.eq_8, Mx.evS.eq_9, Mx.evS.eq_10, Mx.evS.eq_11, Mx.evS.eq_12, Mx.evS.eq_13, Mx.evS.eq_14, Mx.evS.eq_17, Mx.evS.eq_18, Mx.evS.eq_19, Mx.evS.eq_20, Mx.o_add, Mx.o_sub, Mx.o_mul, Mx.o_neg, Mx.o_eq, Mx.o_ne, Mx.o_lt, Mx.o_le, Mx.o_gt, Mx.o_ge, Mx.o_isN, Mx.o_notN, Mx.o_idxL, Mx.o_idxT, Mx.o_slToL, Mx.o_lenL, Mx.o_lenT, Mx.o_min2, Mx.o_max2, Mx.o_abs, Mx.o_int, Mx.o_tupL, Mx.o_tupT, Mx.o_listL, Mx.o_listT, Mx.o_isi, Mx.addD_int, Mx.eqD_ii, Mx.old, Mx.o_mod, Mx.o_fdv, Mx.ix0, Mx.ix1, Mx.ix2, wipeR, bindT, e1, e2, e3]
      simp [wipeR] at z4
      simp [z4]
theorem q1_ok (m : Nat) {d : D} {k : Int} (h : Dice d k) (hk : k < 1000) : ∃ (w : Nat → Int) (n : Nat) (d' : D), n ≤ 5 ∧ OkW w n ∧ (∀ i, i < n → w i ≤ 60) ∧ Dice d' (k + 20) ∧ evS (sem (fnsOf defs) (m + 2)) q1 [Mx.Slot.s .le d, .no, .no, .no, .no, .no, .no, .no, .no, .no, .no, .no, .no, .no, .no, .no, .no, .no, .no, .no, .no, .no, .no, .no, .no, .no, .no] = .nx [Mx.Slot.s .le d', .s .fz (tw w n), .no, .no, .no, .no, .no, .no, .no, .no, .no, .no, .no, .no, .no, .no, .no, .no, .no, .no, .no, .no, .no, .no, .no, .no, .no] := by
  obtain ⟨r, d1, r1, r2, hd, e⟩ := roll (m + 1) 5 h (by omega) (by omega) (by omega)
  obtain ⟨ns, d2, cur, z1, z2, z3, z4⟩ := wL m ((List.range (1 + r).toNat).map fun k : Nat => .int (k : Int)) d1 (k + 1) hd (by simp; omega) .no
  have hl : ns.length = (1 + r).toNat := by simpa using z1
  have wi : ∀ i, i < ns.length → 1 ≤ ns[i]?.getD 0 ∧ ns[i]?.getD 0 ≤ 60 := fun i hi => by
    rw [List.getElem?_eq_getElem hi]
    exact z2 _ (List.getElem_mem hi)
  refine ⟨fun i => ns[i]?.getD 0, ns.length, d2, by omega, ⟨by omega, by omega, fun i hi => (wi i hi).1, fun i hi => by have := (wi i hi).2; show ns[i]?.getD 0 ≤ 100000; omega⟩, fun i hi => (wi i hi).2, z3.mono (by simp; omega), ?_⟩
  have hte : tw (fun i => ns[i]?.getD 0) ns.length = .tuple (ns.map .int) := by rw [ns_nsD]
  rw [hte]
  obtain ⟨T, hT⟩ : ∃ T : Nat, 1 + r = T := ⟨(1 + r).toNat, by omega⟩
  rw [hT, Int.toNat_natCast] at z4
  have ri := range_ok (T := T) (by omega)
  have e : sem (fnsOf defs) (m + 2) 14 _ = _ := e
  generalize sem (fnsOf defs) (m + 2) = F at e z4 ⊢
  have hc := ev_comp (F := F) (own := [24]) (it := .irng (.op .add (.cons (.cst (.int 1)) (.cons (.call 14 0 (.cons (.len 0) (.cons (.cst (.int 5)) .nil))) .nil)))) (cond := .nil) (ρ := [Mx.Slot.s .le d, .no, .no, .no, .no, .no, .no, .no, .no, .no, .no, .no, .no, .no, .no, .no, .no, .no, .no, .no, .no, .no, .no, .no, .no, .no, .no]) (fr := false)
    (ρ1 := [Mx.Slot.s .le d1, .no, .no, .no, .no, .no, .no, .no, .no, .no, .no, .no, .no, .no, .no, .no, .no, .no, .no, .no, .no, .no, .no, .no, .no, .no, .no]) (ρ3 := [Mx.Slot.s .le d2, .no, .no, .no, .no, .no, .no, .no, .no, .no, .no, .no, .no, .no, .no, .no, .no, .no, .no, .no, .no, .no, .no, .no, .no, .no, .no]) (by simp [Mx.runFn, Mx.outsOf, Mx.giveBack, Mx.argK, Mx.evA, Mx.putS, Mx.mutS, Mx.cmpOpt, Mx.ev.eq_1, Mx.ev.eq_2, Mx.ev.eq_3, Mx.ev.eq_4, Mx.ev.eq_5, Mx.ev.eq_6, Mx.ev.eq_7, Mx.ev.eq_8, Mx.ev.eq_9, Mx.ev.eq_10, Mx.ev.eq_11, Mx.ev.eq_12, Mx.ev.eq_13, Mx.ev.eq_14, Mx.ev.eq_16, Mx.ev.eq_19, Mx.ev.eq_20, Mx.ev.eq_21, Mx.ev.eq_22, Mx.ev.eq_23, Mx.ev.eq_24, Mx.ev.eq_25, Mx.evS.eq_1, Mx.evS.eq_2, Mx.evS.eq_3, Mx.evS.eq_4, Mx.evS.eq_5, Mx.evS.eq_6, Mx.evS.eq_7, Mx.evS.eq_8, Mx.evS.eq_9, Mx.evS.eq_10, Mx.evS.eq_11, Mx.evS.eq_12, Mx.evS.eq_13, Mx.evS.eq_14, Mx.evS.eq_17, Mx.evS.eq_18, Mx.evS.eq_19, Mx.evS.eq_20, Mx.o_add, Mx.o_sub, Mx.o_mul, Mx.o_neg, Mx.o_eq, Mx.o_ne, Mx.o_lt, Mx.o_le, Mx.o_gt, Mx.o_ge, Mx.o_isN, Mx.o_notN, Mx.o_idxL, Mx.o_idxT, Mx.o_slToL, Mx.o_lenL, Mx.o_lenT, Mx.o_min2, Mx.o_max2, Mx.o_abs, Mx.o_int, Mx.o_tupL, Mx.o_tupT, Mx.o_listL, Mx.o_listT, Mx.o_isi, Mx.addD_int, Mx.eqD_ii, Mx.old, Mx.o_mod, Mx.o_fdv, Mx.ix0, Mx.ix1, Mx.ix2, e, hT, ri]) rfl (by simpa using len_ok (T := T) (by omega)) z4 rfl
  simp only [backR] at hc
  have hc2 : _ = Res.ok true (.list (ns.map .int)) [Mx.Slot.s .le d2, .no, .no, .no, .no, .no, .no, .no, .no, .no, .no, .no, .no, .no, .no, .no, .no, .no, .no, .no, .no, .no, .no, .no, .no, .no, .no] := hc
  generalize ns.map PyData.int = xs at hc2 ⊢
  simp [Mx.runFn, Mx.outsOf, Mx.giveBack, Mx.argK, Mx.evA, Mx.putS, Mx.mutS, Mx.cmpOpt, Mx.ev.eq_1, Mx.ev.eq_2, Mx.ev.eq_3, Mx.ev.eq_4, Mx.ev.eq_5, Mx.ev.eq_6, Mx.ev.eq_7, Mx.ev.eq_8, Mx.ev.eq_9, Mx.ev.eq_10, Mx.ev.eq_11, Mx.ev.eq_12, Mx.ev.eq_13, Mx.ev.eq_14, Mx.ev.eq_16, Mx.ev.eq_19, Mx.ev.eq_20, Mx.ev.eq_21, Mx.ev.eq_22, Mx.ev.eq_23, Mx.ev.eq_24, Mx.ev.eq_25, Mx.evS.eq_1, Mx.evS.eq_2, Mx.evS.eq_3, Mx.evS.eq_4, Mx.evS.eq_5, Mx.evS.eq_6, Mx.evS.eq_7, Mx.evS.eq_8, Mx.evS.eq_9, Mx.evS.eq_10, Mx.evS.eq_11, Mx.evS.eq_12, Mx.evS.eq_13, Mx.evS.eq_14, Mx.evS.eq_17, Mx.evS.eq_18, Mx.evS.eq_19, Mx.evS.eq_20, Mx.o_add, Mx.o_sub, Mx.o_mul, Mx.o_neg, Mx.o_eq, Mx.o_ne, Mx.o_lt, Mx.o_le, Mx.o_gt, Mx.o_ge, Mx.o_isN, Mx.o_notN, Mx.o_idxL, Mx.o_idxT, Mx.o_slToL, Mx.o_lenL, Mx.o_lenT, Mx.o_min2, Mx.o_max2, Mx.o_abs, Mx.o_int, Mx.o_tupL, Mx.o_tupT, Mx.o_listL, Mx.o_listT, Mx.o_isi, Mx.addD_int, Mx.eqD_ii, Mx.old, Mx.o_mod, Mx.o_fdv, Mx.ix0, Mx.ix1, Mx.ix2, q1, hc2]

theorem q2_ok (m : Nat) {d : D} {k : Int} (h : Dice d k) (hk : k < 1000) (W : D) : ∃ (u : Nat) (d' : D), u ≤ 24 ∧ Dice d' (k + 1) ∧ evS (sem (fnsOf defs) (m + 1)) q2 [Mx.Slot.s .le d, .s .fz (W), .no, .no, .no, .no, .no, .no, .no, .no, .no, .no, .no, .no, .no, .no, .no, .no, .no, .no, .no, .no, .no, .no, .no, .no, .no] = .nx [Mx.Slot.s .le d', .s .fz (W), .no, .no, .no, .no, .no, .no, .no, .no, .s .fz (.int u), .s .fz (.list [.str "remainders", .str "down", .str "nearest", .str "up"]), .no, .no, .no, .no, .no, .no, .no, .no, .no, .no, .no, .no, .no, .no, .no] := by
  obtain ⟨r, d1, r1, r2, hd, e⟩ := roll m 25 h (by omega) (by omega) (by omega)
  obtain ⟨u, rfl⟩ : ∃ u : Nat, r = u := ⟨r.toNat, by omega⟩
  refine ⟨u, d1, by omega, hd, ?_⟩
  generalize sem (fnsOf defs) (m + 1) = F at e ⊢
  generalize ((u : Nat) : Int) = U at e ⊢
  simp [Mx.runFn, Mx.outsOf, Mx.giveBack, Mx.argK, Mx.evA, Mx.putS, Mx.mutS, Mx.cmpOpt, Mx.ev.eq_1, Mx.ev.eq_2, Mx.ev.eq_3, Mx.ev.eq_4, Mx.ev.eq_5, Mx.ev.eq_6, Mx.ev.eq_7, Mx.ev.eq_8, Mx.ev.eq_9, Mx.ev.eq_10, Mx.ev.eq_11, Mx.ev.eq_12, Mx.ev.eq_13, Mx.ev.eq_14, Mx.ev.eq_16, Mx.ev.eq_19, Mx.ev.eq_20, Mx.ev.eq_21, Mx.ev.eq_22, Mx.ev.eq_23, Mx.ev.eq_24, Mx.ev.eq_25, Mx.evS.eq_1, Mx.evS.eq_2, Mx.evS.eq_3, Mx.evS.eq_4, Mx.evS.eq_5, Mx.evS.eq_6, Mx.evS.eq_7, Mx.evS.eq_8, Mx.evS.eq_9, Mx.evS.eq_10, Mx.evS.eq_11, Mx.evS.eq_12, Mx.evS.eq_13, Mx.evS.eq_14, Mx.evS.eq_17, Mx.evS.eq_18, Mx.evS.eq_19, Mx.evS.eq_20, Mx.o_add, Mx.o_sub, Mx.o_mul, Mx.o_neg, Mx.o_eq, Mx.o_ne, Mx.o_lt, Mx.o_le, Mx.o_gt, Mx.o_ge, Mx.o_isN, Mx.o_notN, Mx.o_idxL, Mx.o_idxT, Mx.o_slToL, Mx.o_lenL, Mx.o_lenT, Mx.o_min2, Mx.o_max2, Mx.o_abs, Mx.o_int, Mx.o_tupL, Mx.o_tupT, Mx.o_listL, Mx.o_listT, Mx.o_isi, Mx.addD_int, Mx.eqD_ii, Mx.old, Mx.o_mod, Mx.o_fdv, Mx.ix0, Mx.ix1, Mx.ix2, q2, e]
end K02
end

section
set_option maxRecDepth 100000
set_option linter.all false
set_option maxHeartbeats 2000000
namespace K02
open Mx PySem L2
open K02P (Wy half updf S quo rmd shR rank dv pos step better bst prs srt)
open K00P (psum IsFirst)

theorem chk_ok {F : FnSem} {w f : Nat → Int} {n i j : Nat} {y : Wy} {wy : Str} (h : OkW w n) (q : eqD (.str wy) (.str "remainders") = some (isR y)) (hf : ∀ k : Int, F 16 [.s .fz (.int k), .s .fz (.str wy)] = .ok false (.int (half y k)) [.s .fz (.int k), .s .fz (.str wy)])
    (ho : isR y = false → K02P.Opt y w n f) (hi : i < n) (hj : j < n) (d WS : D) (u : Int) (s25 s26 : Mx.Slot) : ∃ s25' s26', evS F (.ifs (.and (.op .ne (.cons (.bor 2) (.cons (.cst (.str "remainders")) .nil))) (.op .gt (.cons (.op .idx (.cons (.bor 12) (.cons (.bor 13) .nil))) (.cons (.cst (.int 0)) .nil)))) (.seq (.par 25 26 (.cons (.call 16 0 (.cons (.op .sub (.cons (.op .idx (.cons (.bor 12) (.cons (.bor 13) .nil))) (.cons (.cst (.int 1)) .nil))) (.cons (.bor 2) .nil))) (.cons (.call 16 0 (.cons (.op .idx (.cons (.bor 12) (.cons (.bor 23) .nil))) (.cons (.bor 2) .nil))) .nil)))
      (.seq (.ifs (.and (.op .gt (.cons (.bor 25) (.cons (.cst (.int 0)) .nil))) (.or (.op .eq (.cons (.bor 26) (.cons (.cst (.int 0)) .nil))) (.op .gt (.cons (.op .mul (.cons (.op .idx (.cons (.bor 1) (.cons (.bor 23) .nil))) (.cons (.bor 25) .nil))) (.cons (.op .mul (.cons (.op .idx (.cons (.bor 1) (.cons (.bor 13) .nil))) (.cons (.bor 26) .nil))) .nil))))) (.seq (.ret (.cst (.bool false)))
       .skip) .skip)
      .skip)) .skip) [Mx.Slot.s .le d, .s .fz (tw w n), .s .fz (.str wy), .no, .no, .no, .no, .no, .no, .no, .s .fz (.int u), .s .fz (WS), .s .fz (.tuple (nsD f n)), .s .fz (.int (i : Nat)), .no, .no, .no, .no, .no, .no, .no, .no, .no, .s .fz (.int (j : Nat)), .no, s25, s26] = .nx [Mx.Slot.s .le d, .s .fz (tw w n), .s .fz (.str wy), .no, .no, .no, .no, .no, .no, .no, .s .fz (.int u), .s .fz (WS), .s .fz (.tuple (nsD f n)), .s .fz (.int (i : Nat)), .no, .no, .no, .no, .no, .no, .no, .no, .no, .s .fz (.int (j : Nat)), .no, s25', s26'] := by
  have i1 := nsD_idx w hi
  have i2 := nsD_idx f hi
  have j1 := nsD_idx w hj
  have j2 := nsD_idx f hj
  have w1 := h.w1 i hi
  have w2 := h.w2 i hi
  have w3 := h.w1 j hj
  have w4 := h.w2 j hj
  have m1 : (w i).natAbs < 2 ^ 63 := by omega
  have m2 : (w j).natAbs < 2 ^ 63 := by omega
  cases hy : isR y with
  | true =>
    rw [hy] at q
    exact ⟨s25, s26, by simp [Mx.runFn, Mx.outsOf, Mx.giveBack, Mx.argK, Mx.evA, Mx.putS, Mx.mutS, Mx.cmpOpt, Mx.ev.eq_1, Mx.ev.eq_2, Mx.ev.eq_3, Mx.ev.eq_4, Mx.ev.eq_5, Mx.ev.eq_6, Mx.ev.eq_7, Mx.ev.eq_8, Mx.ev.eq_9, Mx.ev.eq_10, Mx.ev.eq_11, Mx.ev.eq_12, Mx.ev.eq_13, Mx.ev.eq_14, Mx.ev.eq_16, Mx.ev.eq_19, Mx.ev.eq_20, Mx.ev.eq_21, Mx.ev.eq_22, Mx.ev.eq_23, Mx.ev.eq_24, Mx.ev.eq_25, Mx.evS.eq_1, Mx.evS.eq_2, Mx.evS.eq_3, Mx.evS.eq_4, Mx.evS.eq_5, Mx.evS.eq_6, Mx.evS.eq_7, Mx.evS.eq_8, Mx.evS.eq_9, Mx.evS.eq_10, Mx.evS.eq_11, Mx.evS.eq_12, Mx.evS.eq_13, Mx.evS.eq_14, Mx.evS.eq_17, Mx.evS.eq_18, Mx.evS.eq_19, Mx.evS.eq_20, Mx.o_add, Mx.o_sub, Mx.o_mul, Mx.o_neg, Mx.o_eq, Mx.o_ne, Mx.o_lt, Mx.o_le, Mx.o_gt, Mx.o_ge, Mx.o_isN, Mx.o_notN, Mx.o_idxL, Mx.o_idxT, Mx.o_slToL, Mx.o_lenL, Mx.o_lenT, Mx.o_min2, Mx.o_max2, Mx.o_abs, Mx.o_int, Mx.o_tupL, Mx.o_tupT, Mx.o_listL, Mx.o_listT, Mx.o_isi, Mx.addD_int, Mx.eqD_ii, Mx.old, Mx.o_mod, Mx.o_fdv, Mx.ix0, Mx.ix1, Mx.ix2, q]⟩
  | false =>
    rw [hy] at q
    by_cases p : 0 < f i
    · have o := ho hy i j hi hj p
      generalize ((i : Nat) : Int) = I at i1 i2 ⊢
      generalize ((j : Nat) : Int) = J at j1 j2 ⊢
      have h1 := hf (f i - 1)
      have h2 := hf (f j)
      by_cases l : 0 < half y (f i - 1)
      · obtain ⟨o1, o2⟩ := o l
        have n1 : half y (f j) ≠ 0 := by omega
        have n2 : ¬ w i * half y (f j) < w j * half y (f i - 1) := by omega
        exact ⟨.s .fz (.int (half y (f i - 1))), .s .fz (.int (half y (f j))), by simp [Mx.runFn, Mx.outsOf, Mx.giveBack, Mx.argK, Mx.evA, Mx.putS, Mx.mutS, Mx.cmpOpt, Mx.ev.eq_1, Mx.ev.eq_2, Mx.ev.eq_3, Mx.ev.eq_4, Mx.ev.eq_5, Mx.ev.eq_6, Mx.ev.eq_7, Mx.ev.eq_8, Mx.ev.eq_9, Mx.ev.eq_10, Mx.ev.eq_11, Mx.ev.eq_12, Mx.ev.eq_13, Mx.ev.eq_14, Mx.ev.eq_16, Mx.ev.eq_19, Mx.ev.eq_20, Mx.ev.eq_21, Mx.ev.eq_22, Mx.ev.eq_23, Mx.ev.eq_24, Mx.ev.eq_25, Mx.evS.eq_1, Mx.evS.eq_2, Mx.evS.eq_3, Mx.evS.eq_4, Mx.evS.eq_5, Mx.evS.eq_6, Mx.evS.eq_7, Mx.evS.eq_8, Mx.evS.eq_9, Mx.evS.eq_10, Mx.evS.eq_11, Mx.evS.eq_12, Mx.evS.eq_13, Mx.evS.eq_14, Mx.evS.eq_17, Mx.evS.eq_18, Mx.evS.eq_19, Mx.evS.eq_20, Mx.o_add, Mx.o_sub, Mx.o_mul, Mx.o_neg, Mx.o_eq, Mx.o_ne, Mx.o_lt, Mx.o_le, Mx.o_gt, Mx.o_ge, Mx.o_isN, Mx.o_notN, Mx.o_idxL, Mx.o_idxT, Mx.o_slToL, Mx.o_lenL, Mx.o_lenT, Mx.o_min2, Mx.o_max2, Mx.o_abs, Mx.o_int, Mx.o_tupL, Mx.o_tupT, Mx.o_listL, Mx.o_listT, Mx.o_isi, Mx.addD_int, Mx.eqD_ii, Mx.old, Mx.o_mod, Mx.o_fdv, Mx.ix0, Mx.ix1, Mx.ix2, q, i1, i2, j1, j2, p, h1, h2, l, n1, n2, mulD_l m1, mulD_l m2]⟩
      · exact ⟨.s .fz (.int (half y (f i - 1))), .s .fz (.int (half y (f j))), by simp [Mx.runFn, Mx.outsOf, Mx.giveBack, Mx.argK, Mx.evA, Mx.putS, Mx.mutS, Mx.cmpOpt, Mx.ev.eq_1, Mx.ev.eq_2, Mx.ev.eq_3, Mx.ev.eq_4, Mx.ev.eq_5, Mx.ev.eq_6, Mx.ev.eq_7, Mx.ev.eq_8, Mx.ev.eq_9, Mx.ev.eq_10, Mx.ev.eq_11, Mx.ev.eq_12, Mx.ev.eq_13, Mx.ev.eq_14, Mx.ev.eq_16, Mx.ev.eq_19, Mx.ev.eq_20, Mx.ev.eq_21, Mx.ev.eq_22, Mx.ev.eq_23, Mx.ev.eq_24, Mx.ev.eq_25, Mx.evS.eq_1, Mx.evS.eq_2, Mx.evS.eq_3, Mx.evS.eq_4, Mx.evS.eq_5, Mx.evS.eq_6, Mx.evS.eq_7, Mx.evS.eq_8, Mx.evS.eq_9, Mx.evS.eq_10, Mx.evS.eq_11, Mx.evS.eq_12, Mx.evS.eq_13, Mx.evS.eq_14, Mx.evS.eq_17, Mx.evS.eq_18, Mx.evS.eq_19, Mx.evS.eq_20, Mx.o_add, Mx.o_sub, Mx.o_mul, Mx.o_neg, Mx.o_eq, Mx.o_ne, Mx.o_lt, Mx.o_le, Mx.o_gt, Mx.o_ge, Mx.o_isN, Mx.o_notN, Mx.o_idxL, Mx.o_idxT, Mx.o_slToL, Mx.o_lenL, Mx.o_lenT, Mx.o_min2, Mx.o_max2, Mx.o_abs, Mx.o_int, Mx.o_tupL, Mx.o_tupT, Mx.o_listL, Mx.o_listT, Mx.o_isi, Mx.addD_int, Mx.eqD_ii, Mx.old, Mx.o_mod, Mx.o_fdv, Mx.ix0, Mx.ix1, Mx.ix2, q, i1, i2, j1, j2, p, h1, h2, l]⟩
    · exact ⟨s25, s26, by simp [Mx.runFn, Mx.outsOf, Mx.giveBack, Mx.argK, Mx.evA, Mx.putS, Mx.mutS, Mx.cmpOpt, Mx.ev.eq_1, Mx.ev.eq_2, Mx.ev.eq_3, Mx.ev.eq_4, Mx.ev.eq_5, Mx.ev.eq_6, Mx.ev.eq_7, Mx.ev.eq_8, Mx.ev.eq_9, Mx.ev.eq_10, Mx.ev.eq_11, Mx.ev.eq_12, Mx.ev.eq_13, Mx.ev.eq_14, Mx.ev.eq_16, Mx.ev.eq_19, Mx.ev.eq_20, Mx.ev.eq_21, Mx.ev.eq_22, Mx.ev.eq_23, Mx.ev.eq_24, Mx.ev.eq_25, Mx.evS.eq_1, Mx.evS.eq_2, Mx.evS.eq_3, Mx.evS.eq_4, Mx.evS.eq_5, Mx.evS.eq_6, Mx.evS.eq_7, Mx.evS.eq_8, Mx.evS.eq_9, Mx.evS.eq_10, Mx.evS.eq_11, Mx.evS.eq_12, Mx.evS.eq_13, Mx.evS.eq_14, Mx.evS.eq_17, Mx.evS.eq_18, Mx.evS.eq_19, Mx.evS.eq_20, Mx.o_add, Mx.o_sub, Mx.o_mul, Mx.o_neg, Mx.o_eq, Mx.o_ne, Mx.o_lt, Mx.o_le, Mx.o_gt, Mx.o_ge, Mx.o_isN, Mx.o_notN, Mx.o_idxL, Mx.o_idxT, Mx.o_slToL, Mx.o_lenL, Mx.o_lenT, Mx.o_min2, Mx.o_max2, Mx.o_abs, Mx.o_int, Mx.o_tupL, Mx.o_tupT, Mx.o_listL, Mx.o_listT, Mx.o_isi, Mx.addD_int, Mx.eqD_ii, Mx.old, Mx.o_mod, Mx.o_fdv, Mx.ix0, Mx.ix1, Mx.ix2, q, i1, i2, p]⟩
theorem chk23 {F : FnSem} {w f : Nat → Int} {n i : Nat} {y : Wy} {wy : Str} (h : OkW w n) (q : eqD (.str wy) (.str "remainders") = some (isR y)) (hf : ∀ k : Int, F 16 [.s .fz (.int k), .s .fz (.str wy)] = .ok false (.int (half y k)) [.s .fz (.int k), .s .fz (.str wy)])
    (ho : isR y = false → K02P.Opt y w n f) (hi : i < n) (d WS : D) (u : Int) (s23 s25 s26 : Mx.Slot) : ∃ x23 s25' s26', evS F (.for1 (.one 23) (.irng (.op .len (.cons (.bor 1) .nil))) (.seq (.ifs (.and (.op .ne (.cons (.bor 2) (.cons (.cst (.str "remainders")) .nil))) (.op .gt (.cons (.op .idx (.cons (.bor 12) (.cons (.bor 13) .nil))) (.cons (.cst (.int 0)) .nil)))) (.seq (.par 25 26 (.cons (.call 16 0 (.cons (.op .sub (.cons (.op .idx (.cons (.bor 12) (.cons (.bor 13) .nil))) (.cons (.cst (.int 1)) .nil))) (.cons (.bor 2) .nil))) (.cons (.call 16 0 (.cons (.op .idx (.cons (.bor 12) (.cons (.bor 23) .nil))) (.cons (.bor 2) .nil))) .nil)))
      (.seq (.ifs (.and (.op .gt (.cons (.bor 25) (.cons (.cst (.int 0)) .nil))) (.or (.op .eq (.cons (.bor 26) (.cons (.cst (.int 0)) .nil))) (.op .gt (.cons (.op .mul (.cons (.op .idx (.cons (.bor 1) (.cons (.bor 23) .nil))) (.cons (.bor 25) .nil))) (.cons (.op .mul (.cons (.op .idx (.cons (.bor 1) (.cons (.bor 13) .nil))) (.cons (.bor 26) .nil))) .nil))))) (.seq (.ret (.cst (.bool false)))
       .skip) .skip)
      .skip)) .skip)
     .skip)) [Mx.Slot.s .le d, .s .fz (tw w n), .s .fz (.str wy), .no, .no, .no, .no, .no, .no, .no, .s .fz (.int u), .s .fz (WS), .s .fz (.tuple (nsD f n)), .s .fz (.int (i : Nat)), .no, .no, .no, .no, .no, .no, .no, .no, .no, s23, .no, s25, s26] = .nx [Mx.Slot.s .le d, .s .fz (tw w n), .s .fz (.str wy), .no, .no, .no, .no, .no, .no, .no, .s .fz (.int u), .s .fz (WS), .s .fz (.tuple (nsD f n)), .s .fz (.int (i : Nat)), .no, .no, .no, .no, .no, .no, .no, .no, .no, .s .fz x23, .no, s25', s26'] := by
  obtain ⟨ρ', ⟨t23, t25, t26, hx, rfl⟩, e⟩ := forL_nx (bind := bindT (.one 23)) (body := evS F (.seq (.ifs (.and (.op .ne (.cons (.bor 2) (.cons (.cst (.str "remainders")) .nil))) (.op .gt (.cons (.op .idx (.cons (.bor 12) (.cons (.bor 13) .nil))) (.cons (.cst (.int 0)) .nil)))) (.seq (.par 25 26 (.cons (.call 16 0 (.cons (.op .sub (.cons (.op .idx (.cons (.bor 12) (.cons (.bor 13) .nil))) (.cons (.cst (.int 1)) .nil))) (.cons (.bor 2) .nil))) (.cons (.call 16 0 (.cons (.op .idx (.cons (.bor 12) (.cons (.bor 23) .nil))) (.cons (.bor 2) .nil))) .nil)))
      (.seq (.ifs (.and (.op .gt (.cons (.bor 25) (.cons (.cst (.int 0)) .nil))) (.or (.op .eq (.cons (.bor 26) (.cons (.cst (.int 0)) .nil))) (.op .gt (.cons (.op .mul (.cons (.op .idx (.cons (.bor 1) (.cons (.bor 23) .nil))) (.cons (.bor 25) .nil))) (.cons (.op .mul (.cons (.op .idx (.cons (.bor 1) (.cons (.bor 13) .nil))) (.cons (.bor 26) .nil))) .nil))))) (.seq (.ret (.cst (.bool false)))
       .skip) .skip)
      .skip)) .skip) .skip)) ((List.range n).map fun k : Nat => .int (k : Int))
    (fun j ρ => ∃ s23 s25 s26, (0 < j → ∃ x, s23 = .s .fz x) ∧ ρ = [Mx.Slot.s .le d, .s .fz (tw w n), .s .fz (.str wy), .no, .no, .no, .no, .no, .no, .no, .s .fz (.int u), .s .fz (WS), .s .fz (.tuple (nsD f n)), .s .fz (.int (i : Nat)), .no, .no, .no, .no, .no, .no, .no, .no, .no, s23, .no, s25, s26])
    (fun j hj ρ hρ => by
      obtain ⟨s23, s25, s26, _, rfl⟩ := hρ
      rw [List.getElem_map, List.getElem_range]
      obtain ⟨t25, t26, e⟩ := chk_ok h q hf ho hi (by simpa using hj : j < n) d WS u s25 s26
      exact ⟨_, _, rfl, by rw [evS.eq_2]; show (match evS F (.ifs (.and (.op .ne (.cons (.bor 2) (.cons (.cst (.str "remainders")) .nil))) (.op .gt (.cons (.op .idx (.cons (.bor 12) (.cons (.bor 13) .nil))) (.cons (.cst (.int 0)) .nil)))) (.seq (.par 25 26 (.cons (.call 16 0 (.cons (.op .sub (.cons (.op .idx (.cons (.bor 12) (.cons (.bor 13) .nil))) (.cons (.cst (.int 1)) .nil))) (.cons (.bor 2) .nil))) (.cons (.call 16 0 (.cons (.op .idx (.cons (.bor 12) (.cons (.bor 23) .nil))) (.cons (.bor 2) .nil))) .nil)))
      (.seq (.ifs (.and (.op .gt (.cons (.bor 25) (.cons (.cst (.int 0)) .nil))) (.or (.op .eq (.cons (.bor 26) (.cons (.cst (.int 0)) .nil))) (.op .gt (.cons (.op .mul (.cons (.op .idx (.cons (.bor 1) (.cons (.bor 23) .nil))) (.cons (.bor 25) .nil))) (.cons (.op .mul (.cons (.op .idx (.cons (.bor 1) (.cons (.bor 13) .nil))) (.cons (.bor 26) .nil))) .nil))))) (.seq (.ret (.cst (.bool false)))
       .skip) .skip)
      .skip)) .skip) [Mx.Slot.s .le d, .s .fz (tw w n), .s .fz (.str wy), .no, .no, .no, .no, .no, .no, .no, .s .fz (.int u), .s .fz (WS), .s .fz (.tuple (nsD f n)), .s .fz (.int (i : Nat)), .no, .no, .no, .no, .no, .no, .no, .no, .no, .s .fz (.int (j : Nat)), .no, s25, s26] with | .nx ρ' => evS F .skip ρ' | r => r) = _; rw [e]; exact evS.eq_1 _ _, ⟨_, _, _, fun _ => ⟨_, rfl⟩, rfl⟩⟩)
    [Mx.Slot.s .le d, .s .fz (tw w n), .s .fz (.str wy), .no, .no, .no, .no, .no, .no, .no, .s .fz (.int u), .s .fz (WS), .s .fz (.tuple (nsD f n)), .s .fz (.int (i : Nat)), .no, .no, .no, .no, .no, .no, .no, .no, .no, s23, .no, s25, s26] ⟨_, _, _, fun z => absurd z (Nat.lt_irrefl 0), rfl⟩
  have n8 := h.n8
  have ri := range_ok (T := n) (by omega)
  obtain ⟨x23, rfl⟩ := hx (by simp; exact h.n1)
  exact ⟨x23, t25, t26, evS_for (ρ1 := [Mx.Slot.s .le d, .s .fz (tw w n), .s .fz (.str wy), .no, .no, .no, .no, .no, .no, .no, .s .fz (.int u), .s .fz (WS), .s .fz (.tuple (nsD f n)), .s .fz (.int (i : Nat)), .no, .no, .no, .no, .no, .no, .no, .no, .no, s23, .no, s25, s26]) (fr := false) (by simp [Mx.runFn, Mx.outsOf, Mx.giveBack, Mx.argK, Mx.evA, Mx.putS, Mx.mutS, Mx.cmpOpt, Mx.ev.eq_1, Mx.ev.eq_2, Mx.ev.eq_3, Mx.ev.eq_4, Mx.ev.eq_5, Mx.ev.eq_6, Mx.ev.eq_7, Mx.ev.eq_8, Mx.ev.eq_9, Mx.ev.eq_10, Mx.ev.eq_11, Mx.ev.eq_12, Mx.ev.eq_13, Mx.ev.eq_14, Mx.ev.eq_16, Mx.ev.eq_19, Mx.ev.eq_20, Mx.ev.eq_21, Mx.ev.eq_22, Mx.ev.eq_23, Mx.ev.eq_24, Mx.ev.eq_25, Mx.evS.eq_1, Mx.evS.eq_2, Mx.evS.eq_3, Mx.evS.eq_4, Mx.evS.eq_5, Mx.evS.eq_6, Mx.evS.eq_7, Mx.evS.eq_8, Mx.evS.eq_9, Mx.evS.eq_10, Mx.evS.eq_11, Mx.evS.eq_12, Mx.evS.eq_13, Mx.evS.eq_14, Mx.evS.eq_17, Mx.evS.eq_18, Mx.evS.eq_19, Mx.evS.eq_20, Mx.o_add, Mx.o_sub, Mx.o_mul, Mx.o_neg, Mx.o_eq, Mx.o_ne, Mx.o_lt, Mx.o_le, Mx.o_gt, Mx.o_ge, Mx.o_isN, Mx.o_notN, Mx.o_idxL, Mx.o_idxT, Mx.o_slToL, Mx.o_lenL, Mx.o_lenT, Mx.o_min2, Mx.o_max2, Mx.o_abs, Mx.o_int, Mx.o_tupL, Mx.o_tupT, Mx.o_listL, Mx.o_listT, Mx.o_isi, Mx.addD_int, Mx.eqD_ii, Mx.old, Mx.o_mod, Mx.o_fdv, Mx.ix0, Mx.ix1, Mx.ix2, nsD_len, ri]) e rfl⟩
theorem chk13 {F : FnSem} {w f : Nat → Int} {n : Nat} {y : Wy} {wy : Str} (h : OkW w n) (q : eqD (.str wy) (.str "remainders") = some (isR y)) (hf : ∀ k : Int, F 16 [.s .fz (.int k), .s .fz (.str wy)] = .ok false (.int (half y k)) [.s .fz (.int k), .s .fz (.str wy)])
    (ho : isR y = false → K02P.Opt y w n f) (d WS : D) (u : Int) (s13 s23 s25 s26 : Mx.Slot) : ∃ x13 x23 s25' s26', evS F (.for1 (.one 13) (.irng (.op .len (.cons (.bor 1) .nil))) (.seq (.for1 (.one 23) (.irng (.op .len (.cons (.bor 1) .nil))) (.seq (.ifs (.and (.op .ne (.cons (.bor 2) (.cons (.cst (.str "remainders")) .nil))) (.op .gt (.cons (.op .idx (.cons (.bor 12) (.cons (.bor 13) .nil))) (.cons (.cst (.int 0)) .nil)))) (.seq (.par 25 26 (.cons (.call 16 0 (.cons (.op .sub (.cons (.op .idx (.cons (.bor 12) (.cons (.bor 13) .nil))) (.cons (.cst (.int 1)) .nil))) (.cons (.bor 2) .nil))) (.cons (.call 16 0 (.cons (.op .idx (.cons (.bor 12) (.cons (.bor 23) .nil))) (.cons (.bor 2) .nil))) .nil)))
      (.seq (.ifs (.and (.op .gt (.cons (.bor 25) (.cons (.cst (.int 0)) .nil))) (.or (.op .eq (.cons (.bor 26) (.cons (.cst (.int 0)) .nil))) (.op .gt (.cons (.op .mul (.cons (.op .idx (.cons (.bor 1) (.cons (.bor 23) .nil))) (.cons (.bor 25) .nil))) (.cons (.op .mul (.cons (.op .idx (.cons (.bor 1) (.cons (.bor 13) .nil))) (.cons (.bor 26) .nil))) .nil))))) (.seq (.ret (.cst (.bool false)))
       .skip) .skip)
      .skip)) .skip)
     .skip))
    .skip)) [Mx.Slot.s .le d, .s .fz (tw w n), .s .fz (.str wy), .no, .no, .no, .no, .no, .no, .no, .s .fz (.int u), .s .fz (WS), .s .fz (.tuple (nsD f n)), s13, .no, .no, .no, .no, .no, .no, .no, .no, .no, s23, .no, s25, s26] = .nx [Mx.Slot.s .le d, .s .fz (tw w n), .s .fz (.str wy), .no, .no, .no, .no, .no, .no, .no, .s .fz (.int u), .s .fz (WS), .s .fz (.tuple (nsD f n)), .s .fz x13, .no, .no, .no, .no, .no, .no, .no, .no, .no, .s .fz x23, .no, s25', s26'] := by
  obtain ⟨ρ', ⟨t13, t23, t25, t26, hx, rfl⟩, e⟩ := forL_nx (bind := bindT (.one 13)) (body := evS F (.seq (.for1 (.one 23) (.irng (.op .len (.cons (.bor 1) .nil))) (.seq (.ifs (.and (.op .ne (.cons (.bor 2) (.cons (.cst (.str "remainders")) .nil))) (.op .gt (.cons (.op .idx (.cons (.bor 12) (.cons (.bor 13) .nil))) (.cons (.cst (.int 0)) .nil)))) (.seq (.par 25 26 (.cons (.call 16 0 (.cons (.op .sub (.cons (.op .idx (.cons (.bor 12) (.cons (.bor 13) .nil))) (.cons (.cst (.int 1)) .nil))) (.cons (.bor 2) .nil))) (.cons (.call 16 0 (.cons (.op .idx (.cons (.bor 12) (.cons (.bor 23) .nil))) (.cons (.bor 2) .nil))) .nil)))
      (.seq (.ifs (.and (.op .gt (.cons (.bor 25) (.cons (.cst (.int 0)) .nil))) (.or (.op .eq (.cons (.bor 26) (.cons (.cst (.int 0)) .nil))) (.op .gt (.cons (.op .mul (.cons (.op .idx (.cons (.bor 1) (.cons (.bor 23) .nil))) (.cons (.bor 25) .nil))) (.cons (.op .mul (.cons (.op .idx (.cons (.bor 1) (.cons (.bor 13) .nil))) (.cons (.bor 26) .nil))) .nil))))) (.seq (.ret (.cst (.bool false)))
       .skip) .skip)
      .skip)) .skip)
     .skip)) .skip)) ((List.range n).map fun k : Nat => .int (k : Int))
    (fun j ρ => ∃ s13 s23 s25 s26, (0 < j → (∃ x, s13 = .s .fz x) ∧ (∃ x, s23 = .s .fz x)) ∧ ρ = [Mx.Slot.s .le d, .s .fz (tw w n), .s .fz (.str wy), .no, .no, .no, .no, .no, .no, .no, .s .fz (.int u), .s .fz (WS), .s .fz (.tuple (nsD f n)), s13, .no, .no, .no, .no, .no, .no, .no, .no, .no, s23, .no, s25, s26])
    (fun j hj ρ hρ => by
      obtain ⟨s13, s23, s25, s26, _, rfl⟩ := hρ
      rw [List.getElem_map, List.getElem_range]
      obtain ⟨x23, t25, t26, e⟩ := chk23 h q hf ho (by simpa using hj : j < n) d WS u s23 s25 s26
      exact ⟨_, _, rfl, by rw [evS.eq_2]; show (match evS F (.for1 (.one 23) (.irng (.op .len (.cons (.bor 1) .nil))) (.seq (.ifs (.and (.op .ne (.cons (.bor 2) (.cons (.cst (.str "remainders")) .nil))) (.op .gt (.cons (.op .idx (.cons (.bor 12) (.cons (.bor 13) .nil))) (.cons (.cst (.int 0)) .nil)))) (.seq (.par 25 26 (.cons (.call 16 0 (.cons (.op .sub (.cons (.op .idx (.cons (.bor 12) (.cons (.bor 13) .nil))) (.cons (.cst (.int 1)) .nil))) (.cons (.bor 2) .nil))) (.cons (.call 16 0 (.cons (.op .idx (.cons (.bor 12) (.cons (.bor 23) .nil))) (.cons (.bor 2) .nil))) .nil)))
      (.seq (.ifs (.and (.op .gt (.cons (.bor 25) (.cons (.cst (.int 0)) .nil))) (.or (.op .eq (.cons (.bor 26) (.cons (.cst (.int 0)) .nil))) (.op .gt (.cons (.op .mul (.cons (.op .idx (.cons (.bor 1) (.cons (.bor 23) .nil))) (.cons (.bor 25) .nil))) (.cons (.op .mul (.cons (.op .idx (.cons (.bor 1) (.cons (.bor 13) .nil))) (.cons (.bor 26) .nil))) .nil))))) (.seq (.ret (.cst (.bool false)))
       .skip) .skip)
      .skip)) .skip)
     .skip)) [Mx.Slot.s .le d, .s .fz (tw w n), .s .fz (.str wy), .no, .no, .no, .no, .no, .no, .no, .s .fz (.int u), .s .fz (WS), .s .fz (.tuple (nsD f n)), .s .fz (.int (j : Nat)), .no, .no, .no, .no, .no, .no, .no, .no, .no, s23, .no, s25, s26] with | .nx ρ' => evS F .skip ρ' | r => r) = _; rw [e]; exact evS.eq_1 _ _, ⟨_, _, _, _, fun _ => ⟨⟨_, rfl⟩, ⟨_, rfl⟩⟩, rfl⟩⟩)
    [Mx.Slot.s .le d, .s .fz (tw w n), .s .fz (.str wy), .no, .no, .no, .no, .no, .no, .no, .s .fz (.int u), .s .fz (WS), .s .fz (.tuple (nsD f n)), s13, .no, .no, .no, .no, .no, .no, .no, .no, .no, s23, .no, s25, s26] ⟨_, _, _, _, fun z => absurd z (Nat.lt_irrefl 0), rfl⟩
  have n8 := h.n8
  have ri := range_ok (T := n) (by omega)
  obtain ⟨⟨x13, rfl⟩, ⟨x23, rfl⟩⟩ := hx (by simp; exact h.n1)
  exact ⟨x13, x23, t25, t26, evS_for (ρ1 := [Mx.Slot.s .le d, .s .fz (tw w n), .s .fz (.str wy), .no, .no, .no, .no, .no, .no, .no, .s .fz (.int u), .s .fz (WS), .s .fz (.tuple (nsD f n)), s13, .no, .no, .no, .no, .no, .no, .no, .no, .no, s23, .no, s25, s26]) (fr := false) (by simp [Mx.runFn, Mx.outsOf, Mx.giveBack, Mx.argK, Mx.evA, Mx.putS, Mx.mutS, Mx.cmpOpt, Mx.ev.eq_1, Mx.ev.eq_2, Mx.ev.eq_3, Mx.ev.eq_4, Mx.ev.eq_5, Mx.ev.eq_6, Mx.ev.eq_7, Mx.ev.eq_8, Mx.ev.eq_9, Mx.ev.eq_10, Mx.ev.eq_11, Mx.ev.eq_12, Mx.ev.eq_13, Mx.ev.eq_14, Mx.ev.eq_16, Mx.ev.eq_19, Mx.ev.eq_20, Mx.ev.eq_21, Mx.ev.eq_22, Mx.ev.eq_23, Mx.ev.eq_24, Mx.ev.eq_25, Mx.evS.eq_1, Mx.evS.eq_2, Mx.evS.eq_3, Mx.evS.eq_4, Mx.evS.eq_5, Mx.evS.eq_6, Mx.evS.eq_7, Mx.evS.eq_8, Mx.evS.eq_9, Mx.evS.eq_10, Mx.evS.eq_11, Mx.evS.eq_12, Mx.evS.eq_13, Mx.evS.eq_14, Mx.evS.eq_17, Mx.evS.eq_18, Mx.evS.eq_19, Mx.evS.eq_20, Mx.o_add, Mx.o_sub, Mx.o_mul, Mx.o_neg, Mx.o_eq, Mx.o_ne, Mx.o_lt, Mx.o_le, Mx.o_gt, Mx.o_ge, Mx.o_isN, Mx.o_notN, Mx.o_idxL, Mx.o_idxT, Mx.o_slToL, Mx.o_lenL, Mx.o_lenT, Mx.o_min2, Mx.o_max2, Mx.o_abs, Mx.o_int, Mx.o_tupL, Mx.o_tupT, Mx.o_listL, Mx.o_listT, Mx.o_isi, Mx.addD_int, Mx.eqD_ii, Mx.old, Mx.o_mod, Mx.o_fdv, Mx.ix0, Mx.ix1, Mx.ix2, nsD_len, ri]) e rfl⟩
theorem eqD_ints {xs : List D} (h : ∀ x ∈ xs, ∃ i, x = .int i) : eqD (.tuple xs) (.tuple xs) = some true := by
  have c0 : PyData.canLayAll0 xs = true := by
    induction xs with
    | nil => rfl
    | cons x xs ih =>
      obtain ⟨i, rfl⟩ := h x List.mem_cons_self
      simp only [PyData.canLayAll0, PyData.canLay0, Bool.true_and]
      exact ih fun y hy => h y (List.mem_cons_of_mem _ hy)
  have d0 : PyData.depthAll xs = 0 := by
    induction xs with
    | nil => rfl
    | cons x xs ih =>
      obtain ⟨i, rfl⟩ := h x List.mem_cons_self
      have := ih (fun y hy => h y (List.mem_cons_of_mem _ hy)) (by simpa only [PyData.canLayAll0, PyData.canLay0, Bool.true_and] using c0)
      simp only [PyData.depthAll, PyData.depth, this]
      rfl
  have e0 : PyData.eqvAll xs xs = true := by
    clear c0 d0
    induction xs with
    | nil => rfl
    | cons x xs ih =>
      obtain ⟨i, rfl⟩ := h x List.mem_cons_self
      simp only [PyData.eqvAll, PyData.eqv, beq_self_eq_true, Bool.true_and]
      exact ih fun y hy => h y (List.mem_cons_of_mem _ hy)
  simp [eqD, SeqAt.shaped, PyData.eqv, PyData.canLay0, PyData.depth, c0, d0, e0]
theorem nsD_ints (f : Nat → Int) (n : Nat) : ∀ x ∈ nsD f n, ∃ i, x = .int i := fun x hx => by
  obtain ⟨i, _, rfl⟩ := nsD_mem hx; exact ⟨_, rfl⟩

theorem q3_step {F : FnSem} {w f : Nat → Int} {n : Nat} {y : Wy} {wy : Str} (h : OkW w n) (q : eqD (.str wy) (.str "remainders") = some (isR y)) (hf : ∀ k : Int, F 16 [.s .fz (.int k), .s .fz (.str wy)] = .ok false (.int (half y k)) [.s .fz (.int k), .s .fz (.str wy)])
    (ho : isR y = false → K02P.Opt y w n f) (d WS : D) (u : Nat) (hs : psum f n = u) (e1 : F 8 [.s .fz (tw w n), .s .fz (.int u), .s .fz (.str wy)] = .ok false (.tuple (nsD f n)) [.s .fz (tw w n), .s .fz (.int u), .s .fz (.str wy)]) (e2 : F 18 [.s .fz (tw w n), .s .fz (.int u), .s .fz (.str wy)] = .ok true (.list (nsD f n)) [.s .fz (tw w n), .s .fz (.int u), .s .fz (.str wy)])
    (s12 s13 s23 s25 s26 : Mx.Slot) : ∃ x12 x13 x23 s25' s26', evS F (.seq (.set 12 (.call 8 1 (.cons (.bor 1) (.cons (.bor 10) (.cons (.bor 2) .nil))))) (.seq (.ifs (.or (.op .ne (.cons (.bor 12) (.cons (.op .tup (.cons (.call 18 0 (.cons (.bor 1) (.cons (.bor 10) (.cons (.bor 2) .nil)))) .nil)) .nil))) (.op .ne (.cons (.op .sum (.cons (.bor 12) .nil)) (.cons (.bor 10) .nil)))) (.seq (.ret (.cst (.bool false)))
    .skip) .skip) (.seq (.for1 (.one 13) (.irng (.op .len (.cons (.bor 1) .nil))) (.seq (.for1 (.one 23) (.irng (.op .len (.cons (.bor 1) .nil))) (.seq (.ifs (.and (.op .ne (.cons (.bor 2) (.cons (.cst (.str "remainders")) .nil))) (.op .gt (.cons (.op .idx (.cons (.bor 12) (.cons (.bor 13) .nil))) (.cons (.cst (.int 0)) .nil)))) (.seq (.par 25 26 (.cons (.call 16 0 (.cons (.op .sub (.cons (.op .idx (.cons (.bor 12) (.cons (.bor 13) .nil))) (.cons (.cst (.int 1)) .nil))) (.cons (.bor 2) .nil))) (.cons (.call 16 0 (.cons (.op .idx (.cons (.bor 12) (.cons (.bor 23) .nil))) (.cons (.bor 2) .nil))) .nil)))
      (.seq (.ifs (.and (.op .gt (.cons (.bor 25) (.cons (.cst (.int 0)) .nil))) (.or (.op .eq (.cons (.bor 26) (.cons (.cst (.int 0)) .nil))) (.op .gt (.cons (.op .mul (.cons (.op .idx (.cons (.bor 1) (.cons (.bor 23) .nil))) (.cons (.bor 25) .nil))) (.cons (.op .mul (.cons (.op .idx (.cons (.bor 1) (.cons (.bor 13) .nil))) (.cons (.bor 26) .nil))) .nil))))) (.seq (.ret (.cst (.bool false)))
       .skip) .skip)
      .skip)) .skip)
     .skip))
    .skip)) .skip))) [Mx.Slot.s .le d, .s .fz (tw w n), .s .fz (.str wy), .no, .no, .no, .no, .no, .no, .no, .s .fz (.int (u : Nat)), .s .fz (WS), s12, s13, .no, .no, .no, .no, .no, .no, .no, .no, .no, s23, .no, s25, s26] = .nx [Mx.Slot.s .le d, .s .fz (tw w n), .s .fz (.str wy), .no, .no, .no, .no, .no, .no, .no, .s .fz (.int (u : Nat)), .s .fz (WS), .s .fz x12, .s .fz x13, .no, .no, .no, .no, .no, .no, .no, .no, .no, .s .fz x23, .no, s25', s26'] := by
  obtain ⟨x13, x23, t25, t26, e3⟩ := chk13 h q hf ho d WS u s13 s23 s25 s26
  have eqs := eqD_ints (nsD_ints f n)
  have hs2 := nsD_sumT f n
  rw [hs] at hs2
  refine ⟨.tuple (nsD f n), x13, x23, t25, t26, ?_⟩
  refine evS_seq (ρ1 := [Mx.Slot.s .le d, .s .fz (tw w n), .s .fz (.str wy), .no, .no, .no, .no, .no, .no, .no, .s .fz (.int (u : Nat)), .s .fz (WS), .s .fz (.tuple (nsD f n)), s13, .no, .no, .no, .no, .no, .no, .no, .no, .no, s23, .no, s25, s26]) ?_ (evS_seq (ρ1 := [Mx.Slot.s .le d, .s .fz (tw w n), .s .fz (.str wy), .no, .no, .no, .no, .no, .no, .no, .s .fz (.int (u : Nat)), .s .fz (WS), .s .fz (.tuple (nsD f n)), s13, .no, .no, .no, .no, .no, .no, .no, .no, .no, s23, .no, s25, s26]) ?_ (evS_seq e3 (evS.eq_1 _ _)))
  · generalize nsD f n = xs at e1
    generalize tw w n = W at e1
    generalize PyData.int ((u : Nat) : Int) = U at e1
    simp [Mx.runFn, Mx.outsOf, Mx.giveBack, Mx.argK, Mx.evA, Mx.putS, Mx.mutS, Mx.cmpOpt, Mx.ev.eq_1, Mx.ev.eq_2, Mx.ev.eq_3, Mx.ev.eq_4, Mx.ev.eq_5, Mx.ev.eq_6, Mx.ev.eq_7, Mx.ev.eq_8, Mx.ev.eq_9, Mx.ev.eq_10, Mx.ev.eq_11, Mx.ev.eq_12, Mx.ev.eq_13, Mx.ev.eq_14, Mx.ev.eq_16, Mx.ev.eq_19, Mx.ev.eq_20, Mx.ev.eq_21, Mx.ev.eq_22, Mx.ev.eq_23, Mx.ev.eq_24, Mx.ev.eq_25, Mx.evS.eq_1, Mx.evS.eq_2, Mx.evS.eq_3, Mx.evS.eq_4, Mx.evS.eq_5, Mx.evS.eq_6, Mx.evS.eq_7, Mx.evS.eq_8, Mx.evS.eq_9, Mx.evS.eq_10, Mx.evS.eq_11, Mx.evS.eq_12, Mx.evS.eq_13, Mx.evS.eq_14, Mx.evS.eq_17, Mx.evS.eq_18, Mx.evS.eq_19, Mx.evS.eq_20, Mx.o_add, Mx.o_sub, Mx.o_mul, Mx.o_neg, Mx.o_eq, Mx.o_ne, Mx.o_lt, Mx.o_le, Mx.o_gt, Mx.o_ge, Mx.o_isN, Mx.o_notN, Mx.o_idxL, Mx.o_idxT, Mx.o_slToL, Mx.o_lenL, Mx.o_lenT, Mx.o_min2, Mx.o_max2, Mx.o_abs, Mx.o_int, Mx.o_tupL, Mx.o_tupT, Mx.o_listL, Mx.o_listT, Mx.o_isi, Mx.addD_int, Mx.eqD_ii, Mx.old, Mx.o_mod, Mx.o_fdv, Mx.ix0, Mx.ix1, Mx.ix2, e1]
  · generalize nsD f n = xs at e2 eqs hs2
    generalize tw w n = W at e2
    generalize ((u : Nat) : Int) = U at e2 hs2
    simp [Mx.runFn, Mx.outsOf, Mx.giveBack, Mx.argK, Mx.evA, Mx.putS, Mx.mutS, Mx.cmpOpt, Mx.ev.eq_1, Mx.ev.eq_2, Mx.ev.eq_3, Mx.ev.eq_4, Mx.ev.eq_5, Mx.ev.eq_6, Mx.ev.eq_7, Mx.ev.eq_8, Mx.ev.eq_9, Mx.ev.eq_10, Mx.ev.eq_11, Mx.ev.eq_12, Mx.ev.eq_13, Mx.ev.eq_14, Mx.ev.eq_16, Mx.ev.eq_19, Mx.ev.eq_20, Mx.ev.eq_21, Mx.ev.eq_22, Mx.ev.eq_23, Mx.ev.eq_24, Mx.ev.eq_25, Mx.evS.eq_1, Mx.evS.eq_2, Mx.evS.eq_3, Mx.evS.eq_4, Mx.evS.eq_5, Mx.evS.eq_6, Mx.evS.eq_7, Mx.evS.eq_8, Mx.evS.eq_9, Mx.evS.eq_10, Mx.evS.eq_11, Mx.evS.eq_12, Mx.evS.eq_13, Mx.evS.eq_14, Mx.evS.eq_17, Mx.evS.eq_18, Mx.evS.eq_19, Mx.evS.eq_20, Mx.o_add, Mx.o_sub, Mx.o_mul, Mx.o_neg, Mx.o_eq, Mx.o_ne, Mx.o_lt, Mx.o_le, Mx.o_gt, Mx.o_ge, Mx.o_isN, Mx.o_notN, Mx.o_idxL, Mx.o_idxT, Mx.o_slToL, Mx.o_lenL, Mx.o_lenT, Mx.o_min2, Mx.o_max2, Mx.o_abs, Mx.o_int, Mx.o_tupL, Mx.o_tupT, Mx.o_listL, Mx.o_listT, Mx.o_isi, Mx.addD_int, Mx.eqD_ii, Mx.old, Mx.o_mod, Mx.o_fdv, Mx.ix0, Mx.ix1, Mx.ix2, e2, eqs, hs2]
end K02
end

section
set_option maxRecDepth 100000
set_option linter.all false
set_option maxHeartbeats 2000000
namespace K02
open Mx PySem L2
open K02P (Wy half updf S quo rmd shR rank dv pos step better bst prs srt)
open K00P (psum IsFirst)

theorem ways_get (k : Nat) (hk : k < ([.str "remainders", .str "down", .str "nearest", .str "up"] : List D).length) : ∃ y, ([.str "remainders", .str "down", .str "nearest", .str "up"] : List D)[k] = .str (wyS y) := by
  match k, hk with
  | 0, _ => exact ⟨.r, rfl⟩
  | 1, _ => exact ⟨.d, rfl⟩
  | 2, _ => exact ⟨.n, rfl⟩
  | 3, _ => exact ⟨.u, rfl⟩
theorem q3_ok {F : FnSem} {w : Nat → Int} {n u : Nat} (h : OkW w n) (hf : ∀ y, ∀ k : Int, F 16 [.s .fz (.int k), .s .fz (.str (wyS y))] = .ok false (.int (half y k)) [.s .fz (.int k), .s .fz (.str (wyS y))])
    (e1 : ∀ y, F 8 [.s .fz (tw w n), .s .fz (.int u), .s .fz (.str (wyS y))] = .ok false (.tuple (nsD (S y w n u) n)) [.s .fz (tw w n), .s .fz (.int u), .s .fz (.str (wyS y))]) (e2 : ∀ y, F 18 [.s .fz (tw w n), .s .fz (.int u), .s .fz (.str (wyS y))] = .ok true (.list (nsD (S y w n u) n)) [.s .fz (tw w n), .s .fz (.int u), .s .fz (.str (wyS y))]) (d : D) :
    ∃ x2 x12 x13 x23 s25 s26, evS F q3 [Mx.Slot.s .le d, .s .fz (tw w n), .no, .no, .no, .no, .no, .no, .no, .no, .s .fz (.int (u : Nat)), .s .fz (.list [.str "remainders", .str "down", .str "nearest", .str "up"]), .no, .no, .no, .no, .no, .no, .no, .no, .no, .no, .no, .no, .no, .no, .no] = .nx [Mx.Slot.s .le d, .s .fz (tw w n), .s .fz x2, .no, .no, .no, .no, .no, .no, .no, .s .fz (.int (u : Nat)), .s .fz (.list [.str "remainders", .str "down", .str "nearest", .str "up"]), .s .fz x12, .s .fz x13, .no, .no, .no, .no, .no, .no, .no, .no, .no, .s .fz x23, .no, s25, s26] := by
  obtain ⟨ρ', ⟨s2, s12, s13, s23, s25, s26, hx, rfl⟩, e⟩ := forL_nx (bind := bindT (.one 2)) (body := evS F (.seq (.set 12 (.call 8 1 (.cons (.bor 1) (.cons (.bor 10) (.cons (.bor 2) .nil)))))
   (.seq (.ifs (.or (.op .ne (.cons (.bor 12) (.cons (.op .tup (.cons (.call 18 0 (.cons (.bor 1) (.cons (.bor 10) (.cons (.bor 2) .nil)))) .nil)) .nil))) (.op .ne (.cons (.op .sum (.cons (.bor 12) .nil)) (.cons (.bor 10) .nil)))) (.seq (.ret (.cst (.bool false)))
    .skip) .skip)
   (.seq (.for1 (.one 13) (.irng (.op .len (.cons (.bor 1) .nil))) (.seq (.for1 (.one 23) (.irng (.op .len (.cons (.bor 1) .nil))) (.seq (.ifs (.and (.op .ne (.cons (.bor 2) (.cons (.cst (.str "remainders")) .nil))) (.op .gt (.cons (.op .idx (.cons (.bor 12) (.cons (.bor 13) .nil))) (.cons (.cst (.int 0)) .nil)))) (.seq (.par 25 26 (.cons (.call 16 0 (.cons (.op .sub (.cons (.op .idx (.cons (.bor 12) (.cons (.bor 13) .nil))) (.cons (.cst (.int 1)) .nil))) (.cons (.bor 2) .nil))) (.cons (.call 16 0 (.cons (.op .idx (.cons (.bor 12) (.cons (.bor 23) .nil))) (.cons (.bor 2) .nil))) .nil)))
      (.seq (.ifs (.and (.op .gt (.cons (.bor 25) (.cons (.cst (.int 0)) .nil))) (.or (.op .eq (.cons (.bor 26) (.cons (.cst (.int 0)) .nil))) (.op .gt (.cons (.op .mul (.cons (.op .idx (.cons (.bor 1) (.cons (.bor 23) .nil))) (.cons (.bor 25) .nil))) (.cons (.op .mul (.cons (.op .idx (.cons (.bor 1) (.cons (.bor 13) .nil))) (.cons (.bor 26) .nil))) .nil))))) (.seq (.ret (.cst (.bool false)))
       .skip) .skip)
      .skip)) .skip)
     .skip))
    .skip))
   .skip)))) [.str "remainders", .str "down", .str "nearest", .str "up"]
    (fun k ρ => ∃ s2 s12 s13 s23 s25 s26, (0 < k → (∃ x, s2 = .s .fz x) ∧ (∃ x, s12 = .s .fz x) ∧ (∃ x, s13 = .s .fz x) ∧ (∃ x, s23 = .s .fz x)) ∧ ρ = [Mx.Slot.s .le d, .s .fz (tw w n), s2, .no, .no, .no, .no, .no, .no, .no, .s .fz (.int (u : Nat)), .s .fz (.list [.str "remainders", .str "down", .str "nearest", .str "up"]), s12, s13, .no, .no, .no, .no, .no, .no, .no, .no, .no, s23, .no, s25, s26])
    (fun k hk ρ hρ => by
      obtain ⟨s2, s12, s13, s23, s25, s26, _, rfl⟩ := hρ
      obtain ⟨y, ey⟩ := ways_get k hk
      rw [ey]
      obtain ⟨x12, x13, x23, t25, t26, e⟩ := q3_step h (eq_r y) (hf y) (f := S y w n u) (fun hy => by rw [S_d hy]; exact K02P.dv_opt y w n h.n1 h.w1 u) d (.list [.str "remainders", .str "down", .str "nearest", .str "up"]) u (K02P.S_sum y w n h.n1 h.w1 u) (e1 y) (e2 y) s12 s13 s23 s25 s26
      exact ⟨_, _, rfl, e, ⟨_, _, _, _, _, _, fun _ => ⟨⟨_, rfl⟩, ⟨_, rfl⟩, ⟨_, rfl⟩, ⟨_, rfl⟩⟩, rfl⟩⟩)
    [Mx.Slot.s .le d, .s .fz (tw w n), .no, .no, .no, .no, .no, .no, .no, .no, .s .fz (.int (u : Nat)), .s .fz (.list [.str "remainders", .str "down", .str "nearest", .str "up"]), .no, .no, .no, .no, .no, .no, .no, .no, .no, .no, .no, .no, .no, .no, .no] ⟨_, _, _, _, _, _, fun z => absurd z (Nat.lt_irrefl 0), rfl⟩
  obtain ⟨⟨x2, rfl⟩, ⟨x12, rfl⟩, ⟨x13, rfl⟩, ⟨x23, rfl⟩⟩ := hx (by simp)
  exact ⟨x2, x12, x13, x23, s25, s26, evS_for (ρ1 := [Mx.Slot.s .le d, .s .fz (tw w n), .no, .no, .no, .no, .no, .no, .no, .no, .s .fz (.int (u : Nat)), .s .fz (.list [.str "remainders", .str "down", .str "nearest", .str "up"]), .no, .no, .no, .no, .no, .no, .no, .no, .no, .no, .no, .no, .no, .no, .no]) (fr := false) (by simp [Mx.runFn, Mx.outsOf, Mx.giveBack, Mx.argK, Mx.evA, Mx.putS, Mx.mutS, Mx.cmpOpt, Mx.ev.eq_1, Mx.ev.eq_2, Mx.ev.eq_3, Mx.ev.eq_4, Mx.ev.eq_5, Mx.ev.eq_6, Mx.ev.eq_7, Mx.ev.eq_8, Mx.ev.eq_9, Mx.ev.eq_10, Mx.ev.eq_11, Mx.ev.eq_12, Mx.ev.eq_13, Mx.ev.eq_14, Mx.ev.eq_16, Mx.ev.eq_19, Mx.ev.eq_20, Mx.ev.eq_21, Mx.ev.eq_22, Mx.ev.eq_23, Mx.ev.eq_24, Mx.ev.eq_25, Mx.evS.eq_1, Mx.evS.eq_2, Mx.evS.eq_3, Mx.evS.eq_4, Mx.evS.eq_5, Mx.evS.eq_6, Mx.evS.eq_7, Mx.evS.eq_8, Mx.evS.eq_9, Mx.evS.eq_10, Mx.evS.eq_11, Mx.evS.eq_12, Mx.evS.eq_13, Mx.evS.eq_14, Mx.evS.eq_17, Mx.evS.eq_18, Mx.evS.eq_19, Mx.evS.eq_20, Mx.o_add, Mx.o_sub, Mx.o_mul, Mx.o_neg, Mx.o_eq, Mx.o_ne, Mx.o_lt, Mx.o_le, Mx.o_gt, Mx.o_ge, Mx.o_isN, Mx.o_notN, Mx.o_idxL, Mx.o_idxT, Mx.o_slToL, Mx.o_lenL, Mx.o_lenT, Mx.o_min2, Mx.o_max2, Mx.o_abs, Mx.o_int, Mx.o_tupL, Mx.o_tupT, Mx.o_listL, Mx.o_listT, Mx.o_isi, Mx.addD_int, Mx.eqD_ii, Mx.old, Mx.o_mod, Mx.o_fdv, Mx.ix0, Mx.ix1, Mx.ix2, seqOf]) e rfl⟩

theorem ways_mem {x : D} (h : x ∈ ([.str "remainders", .str "down", .str "nearest", .str "up"] : List D)) : ∃ y, x = .str (wyS y) := by
  simp only [List.mem_cons, List.not_mem_nil, or_false] at h
  rcases h with rfl | rfl | rfl | rfl
  · exact ⟨.r, rfl⟩
  · exact ⟨.d, rfl⟩
  · exact ⟨.n, rfl⟩
  · exact ⟨.u, rfl⟩
theorem q4_ok (m : Nat) {d : D} {k : Int} (h : Dice d k) (hk : k < 1000) (w : Nat → Int) (n u : Nat) (x2 : D) (x12 x13 x23 : D) (s25 s26 : Mx.Slot) : ∃ (y : Wy) (d' : D), Dice d' (k + 1) ∧ evS (sem (fnsOf defs) (m + 2)) q4 [Mx.Slot.s .le d, .s .fz (tw w n), .s .fz x2, .no, .no, .no, .no, .no, .no, .no, .s .fz (.int (u : Nat)), .s .fz (.list [.str "remainders", .str "down", .str "nearest", .str "up"]), .s .fz x12, .s .fz x13, .no, .no, .no, .no, .no, .no, .no, .no, .no, .s .fz x23, .no, s25, s26] = .nx [Mx.Slot.s .le d', .s .fz (tw w n), .s .fz (.str (wyS y)), .no, .no, .no, .no, .no, .no, .no, .s .fz (.int (u : Nat)), .s .fz (.list [.str "remainders", .str "down", .str "nearest", .str "up"]), .s .fz x12, .s .fz x13, .s .fz (.int (psum w n)), .no, .no, .no, .no, .no, .no, .no, .no, .s .fz x23, .no, s25, s26] := by
  obtain ⟨x, hx, d1, hd, e⟩ := pick m [.str "remainders", .str "down", .str "nearest", .str "up"] h (by omega) (by simp) (by simp)
  obtain ⟨y, rfl⟩ := ways_mem hx
  refine ⟨y, d1, hd, ?_⟩
  have hs := nsD_sumT w n
  generalize sem (fnsOf defs) (m + 2) = F at e ⊢
  generalize wyS y = wy at e ⊢
  generalize psum w n = W at hs ⊢
  simp [Mx.runFn, Mx.outsOf, Mx.giveBack, Mx.argK, Mx.evA, Mx.putS, Mx.mutS, Mx.cmpOpt, Mx.ev.eq_1, Mx.ev.eq_2, Mx.ev.eq_3, Mx.ev.eq_4, Mx.ev.eq_5, Mx.ev.eq_6, Mx.ev.eq_7, Mx.ev.eq_8, Mx.ev.eq_9, Mx.ev.eq_10, Mx.ev.eq_11, Mx.ev.eq_12, Mx.ev.eq_13, Mx.ev.eq_14, Mx.ev.eq_16, Mx.ev.eq_19, Mx.ev.eq_20, Mx.ev.eq_21, Mx.ev.eq_22, Mx.ev.eq_23, Mx.ev.eq_24, Mx.ev.eq_25, Mx.evS.eq_1, Mx.evS.eq_2, Mx.evS.eq_3, Mx.evS.eq_4, Mx.evS.eq_5, Mx.evS.eq_6, Mx.evS.eq_7, Mx.evS.eq_8, Mx.evS.eq_9, Mx.evS.eq_10, Mx.evS.eq_11, Mx.evS.eq_12, Mx.evS.eq_13, Mx.evS.eq_14, Mx.evS.eq_17, Mx.evS.eq_18, Mx.evS.eq_19, Mx.evS.eq_20, Mx.o_add, Mx.o_sub, Mx.o_mul, Mx.o_neg, Mx.o_eq, Mx.o_ne, Mx.o_lt, Mx.o_le, Mx.o_gt, Mx.o_ge, Mx.o_isN, Mx.o_notN, Mx.o_idxL, Mx.o_idxT, Mx.o_slToL, Mx.o_lenL, Mx.o_lenT, Mx.o_min2, Mx.o_max2, Mx.o_abs, Mx.o_int, Mx.o_tupL, Mx.o_tupT, Mx.o_listL, Mx.o_listT, Mx.o_isi, Mx.addD_int, Mx.eqD_ii, Mx.old, Mx.o_mod, Mx.o_fdv, Mx.ix0, Mx.ix1, Mx.ix2, q4, e, hs, bindT]
theorem q5_ok {F : FnSem} {w f g : Nat → Int} {n u : Nat} {wy : Str} (d : D) (W : Int) (x12 x13 x23 : D) (s25 s26 : Mx.Slot)
   (e1 : F 18 [.s .fz (tw w n), .s .fz (.int u), .s .fz (.str wy)] = .ok true (.list (nsD f n)) [.s .fz (tw w n), .s .fz (.int u), .s .fz (.str wy)])
   (e2 : F 18 [.s .fz (tw w n), .s .fz (.int ((u : Int) + 1)), .s .fz (.str wy)] = .ok true (.list (nsD g n)) [.s .fz (tw w n), .s .fz (.int ((u : Int) + 1)), .s .fz (.str wy)]) :
   evS F q5 [Mx.Slot.s .le d, .s .fz (tw w n), .s .fz (.str wy), .no, .no, .no, .no, .no, .no, .no, .s .fz (.int (u : Nat)), .s .fz (.list [.str "remainders", .str "down", .str "nearest", .str "up"]), .s .fz x12, .s .fz x13, .s .fz (.int W), .no, .no, .no, .no, .no, .no, .no, .no, .s .fz x23, .no, s25, s26] = .nx [Mx.Slot.s .le d, .s .fz (tw w n), .s .fz (.str wy), .no, .no, .no, .no, .no, .no, .no, .s .fz (.int (u : Nat)), .s .fz (.list [.str "remainders", .str "down", .str "nearest", .str "up"]), .s .fz x12, .s .fz x13, .s .fz (.int W), .s .fz (.list (nsD f n)), .s .fz (.list (nsD g n)), .no, .no, .no, .no, .no, .no, .s .fz x23, .no, s25, s26] := by
  generalize nsD f n = xs at e1 ⊢
  generalize nsD g n = ys at e2 ⊢
  generalize tw w n = T at e1 e2 ⊢
  generalize ((u : Nat) : Int) = U at e1 e2 ⊢
  simp [Mx.runFn, Mx.outsOf, Mx.giveBack, Mx.argK, Mx.evA, Mx.putS, Mx.mutS, Mx.cmpOpt, Mx.ev.eq_1, Mx.ev.eq_2, Mx.ev.eq_3, Mx.ev.eq_4, Mx.ev.eq_5, Mx.ev.eq_6, Mx.ev.eq_7, Mx.ev.eq_8, Mx.ev.eq_9, Mx.ev.eq_10, Mx.ev.eq_11, Mx.ev.eq_12, Mx.ev.eq_13, Mx.ev.eq_14, Mx.ev.eq_16, Mx.ev.eq_19, Mx.ev.eq_20, Mx.ev.eq_21, Mx.ev.eq_22, Mx.ev.eq_23, Mx.ev.eq_24, Mx.ev.eq_25, Mx.evS.eq_1, Mx.evS.eq_2, Mx.evS.eq_3, Mx.evS.eq_4, Mx.evS.eq_5, Mx.evS.eq_6, Mx.evS.eq_7, Mx.evS.eq_8, Mx.evS.eq_9, Mx.evS.eq_10, Mx.evS.eq_11, Mx.evS.eq_12, Mx.evS.eq_13, Mx.evS.eq_14, Mx.evS.eq_17, Mx.evS.eq_18, Mx.evS.eq_19, Mx.evS.eq_20, Mx.o_add, Mx.o_sub, Mx.o_mul, Mx.o_neg, Mx.o_eq, Mx.o_ne, Mx.o_lt, Mx.o_le, Mx.o_gt, Mx.o_ge, Mx.o_isN, Mx.o_notN, Mx.o_idxL, Mx.o_idxT, Mx.o_slToL, Mx.o_lenL, Mx.o_lenT, Mx.o_min2, Mx.o_max2, Mx.o_abs, Mx.o_int, Mx.o_tupL, Mx.o_tupT, Mx.o_listL, Mx.o_listT, Mx.o_isi, Mx.addD_int, Mx.eqD_ii, Mx.old, Mx.o_mod, Mx.o_fdv, Mx.ix0, Mx.ix1, Mx.ix2, q5, e1, e2, bindT]

theorem q6_comp (F : FnSem) {w f g : Nat → Int} {n u : Nat} {wy : Str} (h : OkW w n) (d : D) (W : Int) (x12 x13 x23 : D) (s25 s26 : Mx.Slot) : ev F (.comp (.var 4) (.one 4) [4] (.irng (.op .len (.cons (.bor 1) .nil))) (.op .lt (.cons (.op .idx (.cons (.bor 16) (.cons (.bor 4) .nil))) (.cons (.op .idx (.cons (.bor 15) (.cons (.bor 4) .nil))) .nil)))) [Mx.Slot.s .le d, .s .fz (tw w n), .s .fz (.str wy), .no, .no, .no, .no, .no, .no, .no, .s .fz (.int (u : Nat)), .s .fz (.list [.str "remainders", .str "down", .str "nearest", .str "up"]), .s .fz x12, .s .fz x13, .s .fz (.int W), .s .fz (.list (nsD f n)), .s .fz (.list (nsD g n)), .no, .no, .no, .no, .no, .no, .s .fz x23, .no, s25, s26] = .ok true (.list (losL f g n)) [Mx.Slot.s .le d, .s .fz (tw w n), .s .fz (.str wy), .no, .no, .no, .no, .no, .no, .no, .s .fz (.int (u : Nat)), .s .fz (.list [.str "remainders", .str "down", .str "nearest", .str "up"]), .s .fz x12, .s .fz x13, .s .fz (.int W), .s .fz (.list (nsD f n)), .s .fz (.list (nsD g n)), .no, .no, .no, .no, .no, .no, .s .fz x23, .no, s25, s26] := by
  have n8 := h.n8
  have ri := range_ok (T := n) (by omega)
  have hr := ids_range n
  obtain ⟨ρ', ⟨cur, rfl⟩, e⟩ := compL_filter (clr := (wipeR · [4])) (bind := bindT (.one 4)) (cond := fun ρ => if isNil (.op .lt (.cons (.op .idx (.cons (.bor 16) (.cons (.bor 4) .nil))) (.cons (.op .idx (.cons (.bor 15) (.cons (.bor 4) .nil))) .nil))) then .ok false (.bool true) ρ else ev F (.op .lt (.cons (.op .idx (.cons (.bor 16) (.cons (.bor 4) .nil))) (.cons (.op .idx (.cons (.bor 15) (.cons (.bor 4) .nil))) .nil))) ρ) (elt := ev F (.var 4)) (f := fun x => x) (p := losP f g) (I := fun ρ => ∃ cur, ρ = [Mx.Slot.s .le d, .s .fz (tw w n), .s .fz (.str wy), .no, cur, .no, .no, .no, .no, .no, .s .fz (.int (u : Nat)), .s .fz (.list [.str "remainders", .str "down", .str "nearest", .str "up"]), .s .fz x12, .s .fz x13, .s .fz (.int W), .s .fz (.list (nsD f n)), .s .fz (.list (nsD g n)), .no, .no, .no, .no, .no, .no, .s .fz x23, .no, s25, s26]) (ids n)
    (by
      intro x hx ρ ⟨cur, hρ⟩
      obtain ⟨i, hi, rfl⟩ := nsD_mem hx
      subst hρ
      have i1 := nsD_idx f hi
      have i2 := nsD_idx g hi
      refine ⟨_, [Mx.Slot.s .le d, .s .fz (tw w n), .s .fz (.str wy), .no, .s .fz (.int (i : Nat)), .no, .no, .no, .no, .no, .s .fz (.int (u : Nat)), .s .fz (.list [.str "remainders", .str "down", .str "nearest", .str "up"]), .s .fz x12, .s .fz x13, .s .fz (.int W), .s .fz (.list (nsD f n)), .s .fz (.list (nsD g n)), .no, .no, .no, .no, .no, .no, .s .fz x23, .no, s25, s26], false, rfl, ?_, ⟨_, rfl⟩, fun _ => ⟨[Mx.Slot.s .le d, .s .fz (tw w n), .s .fz (.str wy), .no, .s .fz (.int (i : Nat)), .no, .no, .no, .no, .no, .s .fz (.int (u : Nat)), .s .fz (.list [.str "remainders", .str "down", .str "nearest", .str "up"]), .s .fz x12, .s .fz x13, .s .fz (.int W), .s .fz (.list (nsD f n)), .s .fz (.list (nsD g n)), .no, .no, .no, .no, .no, .no, .s .fz x23, .no, s25, s26], false, by simp [Mx.runFn, Mx.outsOf, Mx.giveBack, Mx.argK, Mx.evA, Mx.putS, Mx.mutS, Mx.cmpOpt, Mx.ev.eq_1, Mx.ev.eq_2, Mx.ev.eq_3, Mx.ev.eq_4, Mx.ev.eq_5, Mx.ev.eq_6, Mx.ev.eq_7, Mx.ev.eq_8, Mx.ev.eq_9, Mx.ev.eq_10, Mx.ev.eq_11, Mx.ev.eq_12, Mx.ev.eq_13, Mx.ev.eq_14, Mx.ev.eq_16, Mx.ev.eq_19, Mx.ev.eq_20, Mx.ev.eq_21, Mx.ev.eq_22, Mx.ev.eq_23, Mx.ev.eq_24, Mx.ev.eq_25, Mx.evS.eq_1, Mx.evS.eq_2, Mx.evS.eq_3, Mx.evS.eq_4, Mx.evS.eq_5, Mx.evS.eq_6, Mx.evS.eq_7, Mx.evS.eq_8, Mx.evS.eq_9, Mx.evS.eq_10, Mx.evS.eq_11, Mx.evS.eq_12, Mx.evS.eq_13, Mx.evS.eq_14, Mx.evS.eq_17, Mx.evS.eq_18, Mx.evS.eq_19, Mx.evS.eq_20, Mx.o_add, Mx.o_sub, Mx.o_mul, Mx.o_neg, Mx.o_eq, Mx.o_ne, Mx.o_lt, Mx.o_le, Mx.o_gt, Mx.o_ge, Mx.o_isN, Mx.o_notN, Mx.o_idxL, Mx.o_idxT, Mx.o_slToL, Mx.o_lenL, Mx.o_lenT, Mx.o_min2, Mx.o_max2, Mx.o_abs, Mx.o_int, Mx.o_tupL, Mx.o_tupT, Mx.o_listL, Mx.o_listT, Mx.o_isi, Mx.addD_int, Mx.eqD_ii, Mx.old, Mx.o_mod, Mx.o_fdv, Mx.ix0, Mx.ix1, Mx.ix2], _, rfl⟩⟩
      simp only [isNil]
      generalize tw w n = T
      simp [Mx.runFn, Mx.outsOf, Mx.giveBack, Mx.argK, Mx.evA, Mx.putS, Mx.mutS, Mx.cmpOpt, Mx.ev.eq_1, Mx.ev.eq_2, Mx.ev.eq_3, Mx.ev.eq_4, Mx.ev.eq_5, Mx.ev.eq_6, Mx.ev.eq_7, Mx.ev.eq_8, Mx.ev.eq_9, Mx.ev.eq_10, Mx.ev.eq_11, Mx.ev.eq_12, Mx.ev.eq_13, Mx.ev.eq_14, Mx.ev.eq_16, Mx.ev.eq_19, Mx.ev.eq_20, Mx.ev.eq_21, Mx.ev.eq_22, Mx.ev.eq_23, Mx.ev.eq_24, Mx.ev.eq_25, Mx.evS.eq_1, Mx.evS.eq_2, Mx.evS.eq_3, Mx.evS.eq_4, Mx.evS.eq_5, Mx.evS.eq_6, Mx.evS.eq_7, Mx.evS.eq_8, Mx.evS.eq_9, Mx.evS.eq_10, Mx.evS.eq_11, Mx.evS.eq_12, Mx.evS.eq_13, Mx.evS.eq_14, Mx.evS.eq_17, Mx.evS.eq_18, Mx.evS.eq_19, Mx.evS.eq_20, Mx.o_add, Mx.o_sub, Mx.o_mul, Mx.o_neg, Mx.o_eq, Mx.o_ne, Mx.o_lt, Mx.o_le, Mx.o_gt, Mx.o_ge, Mx.o_isN, Mx.o_notN, Mx.o_idxL, Mx.o_idxT, Mx.o_slToL, Mx.o_lenL, Mx.o_lenT, Mx.o_min2, Mx.o_max2, Mx.o_abs, Mx.o_int, Mx.o_tupL, Mx.o_tupT, Mx.o_listL, Mx.o_listT, Mx.o_isi, Mx.addD_int, Mx.eqD_ii, Mx.old, Mx.o_mod, Mx.o_fdv, Mx.ix0, Mx.ix1, Mx.ix2, wipeR, i1, i2, losP]) [Mx.Slot.s .le d, .s .fz (tw w n), .s .fz (.str wy), .no, .no, .no, .no, .no, .no, .no, .s .fz (.int (u : Nat)), .s .fz (.list [.str "remainders", .str "down", .str "nearest", .str "up"]), .s .fz x12, .s .fz x13, .s .fz (.int W), .s .fz (.list (nsD f n)), .s .fz (.list (nsD g n)), .no, .no, .no, .no, .no, .no, .s .fz x23, .no, s25, s26] ⟨_, rfl⟩
  have q := ev_comp (F := F) (own := [4]) (it := .irng (.op .len (.cons (.bor 1) .nil))) (cond := (.op .lt (.cons (.op .idx (.cons (.bor 16) (.cons (.bor 4) .nil))) (.cons (.op .idx (.cons (.bor 15) (.cons (.bor 4) .nil))) .nil)))) (ρ := [Mx.Slot.s .le d, .s .fz (tw w n), .s .fz (.str wy), .no, .no, .no, .no, .no, .no, .no, .s .fz (.int (u : Nat)), .s .fz (.list [.str "remainders", .str "down", .str "nearest", .str "up"]), .s .fz x12, .s .fz x13, .s .fz (.int W), .s .fz (.list (nsD f n)), .s .fz (.list (nsD g n)), .no, .no, .no, .no, .no, .no, .s .fz x23, .no, s25, s26]) (fr := false) (ds := ids n) (ρ1 := [Mx.Slot.s .le d, .s .fz (tw w n), .s .fz (.str wy), .no, .no, .no, .no, .no, .no, .no, .s .fz (.int (u : Nat)), .s .fz (.list [.str "remainders", .str "down", .str "nearest", .str "up"]), .s .fz x12, .s .fz x13, .s .fz (.int W), .s .fz (.list (nsD f n)), .s .fz (.list (nsD g n)), .no, .no, .no, .no, .no, .no, .s .fz x23, .no, s25, s26]) (ρ3 := [Mx.Slot.s .le d, .s .fz (tw w n), .s .fz (.str wy), .no, .no, .no, .no, .no, .no, .no, .s .fz (.int (u : Nat)), .s .fz (.list [.str "remainders", .str "down", .str "nearest", .str "up"]), .s .fz x12, .s .fz x13, .s .fz (.int W), .s .fz (.list (nsD f n)), .s .fz (.list (nsD g n)), .no, .no, .no, .no, .no, .no, .s .fz x23, .no, s25, s26]) (by simp [Mx.runFn, Mx.outsOf, Mx.giveBack, Mx.argK, Mx.evA, Mx.putS, Mx.mutS, Mx.cmpOpt, Mx.ev.eq_1, Mx.ev.eq_2, Mx.ev.eq_3, Mx.ev.eq_4, Mx.ev.eq_5, Mx.ev.eq_6, Mx.ev.eq_7, Mx.ev.eq_8, Mx.ev.eq_9, Mx.ev.eq_10, Mx.ev.eq_11, Mx.ev.eq_12, Mx.ev.eq_13, Mx.ev.eq_14, Mx.ev.eq_16, Mx.ev.eq_19, Mx.ev.eq_20, Mx.ev.eq_21, Mx.ev.eq_22, Mx.ev.eq_23, Mx.ev.eq_24, Mx.ev.eq_25, Mx.evS.eq_1, Mx.evS.eq_2, Mx.evS.eq_3, Mx.evS.eq_4, Mx.evS.eq_5, Mx.evS.eq_6, Mx.evS.eq_7, Mx.evS.eq_8, Mx.evS.eq_9, Mx.evS.eq_10, Mx.evS.eq_11, Mx.evS.eq_12, Mx.evS.eq_13, Mx.evS.eq_14, Mx.evS.eq_17, Mx.evS.eq_18, Mx.evS.eq_19, Mx.evS.eq_20, Mx.o_add, Mx.o_sub, Mx.o_mul, Mx.o_neg, Mx.o_eq, Mx.o_ne, Mx.o_lt, Mx.o_le, Mx.o_gt, Mx.o_ge, Mx.o_isN, Mx.o_notN, Mx.o_idxL, Mx.o_idxT, Mx.o_slToL, Mx.o_lenL, Mx.o_lenT, Mx.o_min2, Mx.o_max2, Mx.o_abs, Mx.o_int, Mx.o_tupL, Mx.o_tupT, Mx.o_listL, Mx.o_listT, Mx.o_isi, Mx.addD_int, Mx.eqD_ii, Mx.old, Mx.o_mod, Mx.o_fdv, Mx.ix0, Mx.ix1, Mx.ix2, nsD_len, ri, hr]) rfl (by rw [nsD_len]; exact len_ok (T := n) (by omega)) e rfl
  simp only [backR] at q
  exact q
theorem los_ints (f g : Nat → Int) (n : Nat) : ∀ x ∈ losL f g n, ∃ i, x = .int i := fun x hx => by
  unfold losL at hx
  rw [List.map_id'] at hx
  obtain ⟨i, _, rfl⟩ := nsD_mem (List.mem_filter.mp hx).1
  exact ⟨_, rfl⟩
theorem q6_ok {F : FnSem} {w f g : Nat → Int} {n u : Nat} {wy : Str} (h : OkW w n) (d : D) (W : Int) (x12 x13 x23 : D) (s25 s26 : Mx.Slot)
   (e1 : F 9 [.s .fz (tw w n), .s .fz (.int u), .s .fz (.str wy)] = .ok false (.tuple (losL f g n)) [.s .fz (tw w n), .s .fz (.int u), .s .fz (.str wy)]) : evS F q6 [Mx.Slot.s .le d, .s .fz (tw w n), .s .fz (.str wy), .no, .no, .no, .no, .no, .no, .no, .s .fz (.int (u : Nat)), .s .fz (.list [.str "remainders", .str "down", .str "nearest", .str "up"]), .s .fz x12, .s .fz x13, .s .fz (.int W), .s .fz (.list (nsD f n)), .s .fz (.list (nsD g n)), .no, .no, .no, .no, .no, .no, .s .fz x23, .no, s25, s26] = .nx [Mx.Slot.s .le d, .s .fz (tw w n), .s .fz (.str wy), .no, .no, .no, .no, .no, .no, .no, .s .fz (.int (u : Nat)), .s .fz (.list [.str "remainders", .str "down", .str "nearest", .str "up"]), .s .fz x12, .s .fz x13, .s .fz (.int W), .s .fz (.list (nsD f n)), .s .fz (.list (nsD g n)), .no, .no, .no, .no, .no, .no, .s .fz x23, .no, s25, s26] := by
  have c := q6_comp F h (f := f) (g := g) (u := u) (wy := wy) d W x12 x13 x23 s25 s26
  have eqs := eqD_ints (los_ints f g n)
  generalize losL f g n = ls at e1 c eqs
  generalize nsD f n = xs at c ⊢
  generalize nsD g n = ys at c ⊢
  generalize tw w n = T at e1 c ⊢
  generalize ((u : Nat) : Int) = U at e1 c ⊢
  simp [Mx.runFn, Mx.outsOf, Mx.giveBack, Mx.argK, Mx.evA, Mx.putS, Mx.mutS, Mx.cmpOpt, Mx.ev.eq_1, Mx.ev.eq_2, Mx.ev.eq_3, Mx.ev.eq_4, Mx.ev.eq_5, Mx.ev.eq_6, Mx.ev.eq_7, Mx.ev.eq_8, Mx.ev.eq_9, Mx.ev.eq_10, Mx.ev.eq_11, Mx.ev.eq_12, Mx.ev.eq_13, Mx.ev.eq_14, Mx.ev.eq_16, Mx.ev.eq_19, Mx.ev.eq_20, Mx.ev.eq_21, Mx.ev.eq_22, Mx.ev.eq_23, Mx.ev.eq_24, Mx.ev.eq_25, Mx.evS.eq_1, Mx.evS.eq_2, Mx.evS.eq_3, Mx.evS.eq_4, Mx.evS.eq_5, Mx.evS.eq_6, Mx.evS.eq_7, Mx.evS.eq_8, Mx.evS.eq_9, Mx.evS.eq_10, Mx.evS.eq_11, Mx.evS.eq_12, Mx.evS.eq_13, Mx.evS.eq_14, Mx.evS.eq_17, Mx.evS.eq_18, Mx.evS.eq_19, Mx.evS.eq_20, Mx.o_add, Mx.o_sub, Mx.o_mul, Mx.o_neg, Mx.o_eq, Mx.o_ne, Mx.o_lt, Mx.o_le, Mx.o_gt, Mx.o_ge, Mx.o_isN, Mx.o_notN, Mx.o_idxL, Mx.o_idxT, Mx.o_slToL, Mx.o_lenL, Mx.o_lenT, Mx.o_min2, Mx.o_max2, Mx.o_abs, Mx.o_int, Mx.o_tupL, Mx.o_tupT, Mx.o_listL, Mx.o_listT, Mx.o_isi, Mx.addD_int, Mx.eqD_ii, Mx.old, Mx.o_mod, Mx.o_fdv, Mx.ix0, Mx.ix1, Mx.ix2, q6, e1, c, eqs]
theorem q7_ok (F : FnSem) {w f g : Nat → Int} {n u : Nat} {wy : Str} (d : D) (W : Int) (x12 x13 x23 : D) (s25 s26 : Mx.Slot) : evS F q7 [Mx.Slot.s .le d, .s .fz (tw w n), .s .fz (.str wy), .no, .no, .no, .no, .no, .no, .no, .s .fz (.int (u : Nat)), .s .fz (.list [.str "remainders", .str "down", .str "nearest", .str "up"]), .s .fz x12, .s .fz x13, .s .fz (.int W), .s .fz (.list (nsD f n)), .s .fz (.list (nsD g n)), .no, .no, .no, .no, .no, .no, .s .fz x23, .no, s25, s26] = .nx [Mx.Slot.s .le d, .s .fz (tw w n), .s .fz (.str wy), .s .ow (.list []), .no, .no, .no, .no, .no, .no, .s .fz (.int (u : Nat)), .s .fz (.list [.str "remainders", .str "down", .str "nearest", .str "up"]), .s .fz x12, .s .fz x13, .s .fz (.int W), .s .fz (.list (nsD f n)), .s .fz (.list (nsD g n)), .no, .no, .no, .no, .no, .no, .s .fz x23, .no, s25, s26] := by
  generalize nsD f n = xs
  generalize nsD g n = ys
  generalize tw w n = T
  generalize ((u : Nat) : Int) = U
  simp [Mx.runFn, Mx.outsOf, Mx.giveBack, Mx.argK, Mx.evA, Mx.putS, Mx.mutS, Mx.cmpOpt, Mx.ev.eq_1, Mx.ev.eq_2, Mx.ev.eq_3, Mx.ev.eq_4, Mx.ev.eq_5, Mx.ev.eq_6, Mx.ev.eq_7, Mx.ev.eq_8, Mx.ev.eq_9, Mx.ev.eq_10, Mx.ev.eq_11, Mx.ev.eq_12, Mx.ev.eq_13, Mx.ev.eq_14, Mx.ev.eq_16, Mx.ev.eq_19, Mx.ev.eq_20, Mx.ev.eq_21, Mx.ev.eq_22, Mx.ev.eq_23, Mx.ev.eq_24, Mx.ev.eq_25, Mx.evS.eq_1, Mx.evS.eq_2, Mx.evS.eq_3, Mx.evS.eq_4, Mx.evS.eq_5, Mx.evS.eq_6, Mx.evS.eq_7, Mx.evS.eq_8, Mx.evS.eq_9, Mx.evS.eq_10, Mx.evS.eq_11, Mx.evS.eq_12, Mx.evS.eq_13, Mx.evS.eq_14, Mx.evS.eq_17, Mx.evS.eq_18, Mx.evS.eq_19, Mx.evS.eq_20, Mx.o_add, Mx.o_sub, Mx.o_mul, Mx.o_neg, Mx.o_eq, Mx.o_ne, Mx.o_lt, Mx.o_le, Mx.o_gt, Mx.o_ge, Mx.o_isN, Mx.o_notN, Mx.o_idxL, Mx.o_idxT, Mx.o_slToL, Mx.o_lenL, Mx.o_lenT, Mx.o_min2, Mx.o_max2, Mx.o_abs, Mx.o_int, Mx.o_tupL, Mx.o_tupT, Mx.o_listL, Mx.o_listT, Mx.o_isi, Mx.addD_int, Mx.eqD_ii, Mx.old, Mx.o_mod, Mx.o_fdv, Mx.ix0, Mx.ix1, Mx.ix2, q7]

theorem q8_body {F : FnSem} {w f g : Nat → Int} {n u k : Nat} {W : Int} {xs : List D} {wy : Str} (h : OkW w n) (hk : k < n) (hW : 0 < W ∧ W < 1073741824) (hu : ((u : Nat) : Int).natAbs < 2 ^ 63) (hl : xs.length < line) (d : D) (x12 x13 x23 : D) (s25 s26 : Mx.Slot) :
    evS F (.seq (.ifs (.or (.op .le (.cons (.op .mul (.cons (.op .idx (.cons (.bor 15) (.cons (.bor 4) .nil))) (.cons (.bor 14) .nil))) (.cons (.op .sub (.cons (.op .mul (.cons (.op .idx (.cons (.bor 1) (.cons (.bor 4) .nil))) (.cons (.bor 10) .nil))) (.cons (.bor 14) .nil))) .nil))) (.op .ge (.cons (.op .mul (.cons (.op .idx (.cons (.bor 15) (.cons (.bor 4) .nil))) (.cons (.bor 14) .nil))) (.cons (.op .add (.cons (.op .mul (.cons (.op .idx (.cons (.bor 1) (.cons (.bor 4) .nil))) (.cons (.bor 10) .nil))) (.cons (.bor 14) .nil))) .nil)))) (.seq (.app 3 (.var 4))
    .skip) .skip)
   .skip) [Mx.Slot.s .le d, .s .fz (tw w n), .s .fz (.str wy), .s .ow (.list xs), .s .fz (.int (k : Nat)), .no, .no, .no, .no, .no, .s .fz (.int (u : Nat)), .s .fz (.list [.str "remainders", .str "down", .str "nearest", .str "up"]), .s .fz x12, .s .fz x13, .s .fz (.int W), .s .fz (.list (nsD f n)), .s .fz (.list (nsD g n)), .no, .no, .no, .no, .no, .no, .s .fz x23, .no, s25, s26] = .nx [Mx.Slot.s .le d, .s .fz (tw w n), .s .fz (.str wy), .s .ow (.list (if offB (f k) (w k * u) W = true then xs ++ [.int k] else xs)), .s .fz (.int (k : Nat)), .no, .no, .no, .no, .no, .s .fz (.int (u : Nat)), .s .fz (.list [.str "remainders", .str "down", .str "nearest", .str "up"]), .s .fz x12, .s .fz x13, .s .fz (.int W), .s .fz (.list (nsD f n)), .s .fz (.list (nsD g n)), .no, .no, .no, .no, .no, .no, .s .fz x23, .no, s25, s26] := by
  have i1 := nsD_idx w hk
  have i2 := nsD_idx f hk
  have mW : W.natAbs < 2 ^ 63 := by omega
  have m2 : mulD (.int (f k)) (.int W) = some (false, .int (f k * W)) := mulD_r mW
  have oi := K02P.off_iff (x := f k) (t := w k * u) hW.1
  have oB : offB (f k) (w k * u) W = decide (f k * W ≤ w k * u - W ∨ w k * u + W ≤ f k * W) := by
    unfold offB
    exact decide_eq_decide.mpr oi
  rw [oB]
  generalize ((k : Nat) : Int) = K at i1 i2 ⊢
  generalize w k = a at i1 ⊢
  generalize f k = x at i2 m2 ⊢
  have hm : mulD (.int a) (.int u) = some (false, .int (a * u)) := mulD_r hu
  generalize a * (u : Int) = t at hm ⊢
  generalize x * W = z at m2 ⊢
  generalize ((u : Nat) : Int) = U at hm ⊢
  generalize nsD g n = ys
  by_cases c1 : z ≤ t - W
  · simp [Mx.runFn, Mx.outsOf, Mx.giveBack, Mx.argK, Mx.evA, Mx.putS, Mx.mutS, Mx.cmpOpt, Mx.ev.eq_1, Mx.ev.eq_2, Mx.ev.eq_3, Mx.ev.eq_4, Mx.ev.eq_5, Mx.ev.eq_6, Mx.ev.eq_7, Mx.ev.eq_8, Mx.ev.eq_9, Mx.ev.eq_10, Mx.ev.eq_11, Mx.ev.eq_12, Mx.ev.eq_13, Mx.ev.eq_14, Mx.ev.eq_16, Mx.ev.eq_19, Mx.ev.eq_20, Mx.ev.eq_21, Mx.ev.eq_22, Mx.ev.eq_23, Mx.ev.eq_24, Mx.ev.eq_25, Mx.evS.eq_1, Mx.evS.eq_2, Mx.evS.eq_3, Mx.evS.eq_4, Mx.evS.eq_5, Mx.evS.eq_6, Mx.evS.eq_7, Mx.evS.eq_8, Mx.evS.eq_9, Mx.evS.eq_10, Mx.evS.eq_11, Mx.evS.eq_12, Mx.evS.eq_13, Mx.evS.eq_14, Mx.evS.eq_17, Mx.evS.eq_18, Mx.evS.eq_19, Mx.evS.eq_20, Mx.o_add, Mx.o_sub, Mx.o_mul, Mx.o_neg, Mx.o_eq, Mx.o_ne, Mx.o_lt, Mx.o_le, Mx.o_gt, Mx.o_ge, Mx.o_isN, Mx.o_notN, Mx.o_idxL, Mx.o_idxT, Mx.o_slToL, Mx.o_lenL, Mx.o_lenT, Mx.o_min2, Mx.o_max2, Mx.o_abs, Mx.o_int, Mx.o_tupL, Mx.o_tupT, Mx.o_listL, Mx.o_listT, Mx.o_isi, Mx.addD_int, Mx.eqD_ii, Mx.old, Mx.o_mod, Mx.o_fdv, Mx.ix0, Mx.ix1, Mx.ix2, i1, i2, hm, m2, c1, hl]
  · by_cases c2 : t + W ≤ z
    · simp [Mx.runFn, Mx.outsOf, Mx.giveBack, Mx.argK, Mx.evA, Mx.putS, Mx.mutS, Mx.cmpOpt, Mx.ev.eq_1, Mx.ev.eq_2, Mx.ev.eq_3, Mx.ev.eq_4, Mx.ev.eq_5, Mx.ev.eq_6, Mx.ev.eq_7, Mx.ev.eq_8, Mx.ev.eq_9, Mx.ev.eq_10, Mx.ev.eq_11, Mx.ev.eq_12, Mx.ev.eq_13, Mx.ev.eq_14, Mx.ev.eq_16, Mx.ev.eq_19, Mx.ev.eq_20, Mx.ev.eq_21, Mx.ev.eq_22, Mx.ev.eq_23, Mx.ev.eq_24, Mx.ev.eq_25, Mx.evS.eq_1, Mx.evS.eq_2, Mx.evS.eq_3, Mx.evS.eq_4, Mx.evS.eq_5, Mx.evS.eq_6, Mx.evS.eq_7, Mx.evS.eq_8, Mx.evS.eq_9, Mx.evS.eq_10, Mx.evS.eq_11, Mx.evS.eq_12, Mx.evS.eq_13, Mx.evS.eq_14, Mx.evS.eq_17, Mx.evS.eq_18, Mx.evS.eq_19, Mx.evS.eq_20, Mx.o_add, Mx.o_sub, Mx.o_mul, Mx.o_neg, Mx.o_eq, Mx.o_ne, Mx.o_lt, Mx.o_le, Mx.o_gt, Mx.o_ge, Mx.o_isN, Mx.o_notN, Mx.o_idxL, Mx.o_idxT, Mx.o_slToL, Mx.o_lenL, Mx.o_lenT, Mx.o_min2, Mx.o_max2, Mx.o_abs, Mx.o_int, Mx.o_tupL, Mx.o_tupT, Mx.o_listL, Mx.o_listT, Mx.o_isi, Mx.addD_int, Mx.eqD_ii, Mx.old, Mx.o_mod, Mx.o_fdv, Mx.ix0, Mx.ix1, Mx.ix2, i1, i2, hm, m2, c1, c2, hl]
    · simp [Mx.runFn, Mx.outsOf, Mx.giveBack, Mx.argK, Mx.evA, Mx.putS, Mx.mutS, Mx.cmpOpt, Mx.ev.eq_1, Mx.ev.eq_2, Mx.ev.eq_3, Mx.ev.eq_4, Mx.ev.eq_5, Mx.ev.eq_6, Mx.ev.eq_7, Mx.ev.eq_8, Mx.ev.eq_9, Mx.ev.eq_10, Mx.ev.eq_11, Mx.ev.eq_12, Mx.ev.eq_13, Mx.ev.eq_14, Mx.ev.eq_16, Mx.ev.eq_19, Mx.ev.eq_20, Mx.ev.eq_21, Mx.ev.eq_22, Mx.ev.eq_23, Mx.ev.eq_24, Mx.ev.eq_25, Mx.evS.eq_1, Mx.evS.eq_2, Mx.evS.eq_3, Mx.evS.eq_4, Mx.evS.eq_5, Mx.evS.eq_6, Mx.evS.eq_7, Mx.evS.eq_8, Mx.evS.eq_9, Mx.evS.eq_10, Mx.evS.eq_11, Mx.evS.eq_12, Mx.evS.eq_13, Mx.evS.eq_14, Mx.evS.eq_17, Mx.evS.eq_18, Mx.evS.eq_19, Mx.evS.eq_20, Mx.o_add, Mx.o_sub, Mx.o_mul, Mx.o_neg, Mx.o_eq, Mx.o_ne, Mx.o_lt, Mx.o_le, Mx.o_gt, Mx.o_ge, Mx.o_isN, Mx.o_notN, Mx.o_idxL, Mx.o_idxT, Mx.o_slToL, Mx.o_lenL, Mx.o_lenT, Mx.o_min2, Mx.o_max2, Mx.o_abs, Mx.o_int, Mx.o_tupL, Mx.o_tupT, Mx.o_listL, Mx.o_listT, Mx.o_isi, Mx.addD_int, Mx.eqD_ii, Mx.old, Mx.o_mod, Mx.o_fdv, Mx.ix0, Mx.ix1, Mx.ix2, i1, i2, hm, m2, c1, c2]
theorem q8_ok (F : FnSem) {w f g : Nat → Int} {n u : Nat} {W : Int} {wy : Str} (h : OkW w n) (hW : 0 < W ∧ W < 1073741824) (hu : u ≤ 1000) (d : D) (x12 x13 x23 : D) (s25 s26 : Mx.Slot) : ∃ x4, evS F q8 [Mx.Slot.s .le d, .s .fz (tw w n), .s .fz (.str wy), .s .ow (.list []), .no, .no, .no, .no, .no, .no, .s .fz (.int (u : Nat)), .s .fz (.list [.str "remainders", .str "down", .str "nearest", .str "up"]), .s .fz x12, .s .fz x13, .s .fz (.int W), .s .fz (.list (nsD f n)), .s .fz (.list (nsD g n)), .no, .no, .no, .no, .no, .no, .s .fz x23, .no, s25, s26] = .nx [Mx.Slot.s .le d, .s .fz (tw w n), .s .fz (.str wy), .s .ow (.list (offL f w u W n)), .s .fz x4, .no, .no, .no, .no, .no, .s .fz (.int (u : Nat)), .s .fz (.list [.str "remainders", .str "down", .str "nearest", .str "up"]), .s .fz x12, .s .fz x13, .s .fz (.int W), .s .fz (.list (nsD f n)), .s .fz (.list (nsD g n)), .no, .no, .no, .no, .no, .no, .s .fz x23, .no, s25, s26] := by
  have n8 := h.n8
  obtain ⟨ρ', ⟨s4, hx, rfl⟩, el⟩ := forL_nx (bind := bindT (.one 4)) (body := evS F (.seq (.ifs (.or (.op .le (.cons (.op .mul (.cons (.op .idx (.cons (.bor 15) (.cons (.bor 4) .nil))) (.cons (.bor 14) .nil))) (.cons (.op .sub (.cons (.op .mul (.cons (.op .idx (.cons (.bor 1) (.cons (.bor 4) .nil))) (.cons (.bor 10) .nil))) (.cons (.bor 14) .nil))) .nil))) (.op .ge (.cons (.op .mul (.cons (.op .idx (.cons (.bor 15) (.cons (.bor 4) .nil))) (.cons (.bor 14) .nil))) (.cons (.op .add (.cons (.op .mul (.cons (.op .idx (.cons (.bor 1) (.cons (.bor 4) .nil))) (.cons (.bor 10) .nil))) (.cons (.bor 14) .nil))) .nil)))) (.seq (.app 3 (.var 4))
    .skip) .skip)
   .skip)) ((List.range n).map fun k : Nat => .int (k : Int))
    (fun k ρ => ∃ s4, (0 < k → ∃ x, s4 = .s .fz x) ∧ ρ = [Mx.Slot.s .le d, .s .fz (tw w n), .s .fz (.str wy), .s .ow (.list (offL f w u W k)), s4, .no, .no, .no, .no, .no, .s .fz (.int (u : Nat)), .s .fz (.list [.str "remainders", .str "down", .str "nearest", .str "up"]), .s .fz x12, .s .fz x13, .s .fz (.int W), .s .fz (.list (nsD f n)), .s .fz (.list (nsD g n)), .no, .no, .no, .no, .no, .no, .s .fz x23, .no, s25, s26])
    (fun k hk ρ hρ => by
      obtain ⟨s4, _, rfl⟩ := hρ
      rw [List.getElem_map, List.getElem_range]
      have hk' : k < n := by simpa using hk
      have hl : (offL f w u W k).length < line := Nat.lt_of_lt_of_le (Nat.lt_succ_of_le (offL_len f w u W k)) (len_ok (by omega))
      exact ⟨_, _, rfl, q8_body h hk' hW (by omega) hl d x12 x13 x23 s25 s26, ⟨_, fun _ => ⟨_, rfl⟩, rfl⟩⟩)
    [Mx.Slot.s .le d, .s .fz (tw w n), .s .fz (.str wy), .s .ow (.list []), .no, .no, .no, .no, .no, .no, .s .fz (.int (u : Nat)), .s .fz (.list [.str "remainders", .str "down", .str "nearest", .str "up"]), .s .fz x12, .s .fz x13, .s .fz (.int W), .s .fz (.list (nsD f n)), .s .fz (.list (nsD g n)), .no, .no, .no, .no, .no, .no, .s .fz x23, .no, s25, s26] ⟨_, fun z => absurd z (Nat.lt_irrefl 0), rfl⟩
  simp only [List.length_map, List.length_range] at el hx
  obtain ⟨x4, rfl⟩ := hx h.n1
  have ri := range_ok (T := n) (by omega)
  refine ⟨x4, evS_for (fr := false) (ρ1 := [Mx.Slot.s .le d, .s .fz (tw w n), .s .fz (.str wy), .s .ow (.list []), .no, .no, .no, .no, .no, .no, .s .fz (.int (u : Nat)), .s .fz (.list [.str "remainders", .str "down", .str "nearest", .str "up"]), .s .fz x12, .s .fz x13, .s .fz (.int W), .s .fz (.list (nsD f n)), .s .fz (.list (nsD g n)), .no, .no, .no, .no, .no, .no, .s .fz x23, .no, s25, s26]) ?_ el rfl⟩
  generalize nsD f n = xs
  generalize nsD g n = ys
  generalize ((u : Nat) : Int) = U
  simp [Mx.runFn, Mx.outsOf, Mx.giveBack, Mx.argK, Mx.evA, Mx.putS, Mx.mutS, Mx.cmpOpt, Mx.ev.eq_1, Mx.ev.eq_2, Mx.ev.eq_3, Mx.ev.eq_4, Mx.ev.eq_5, Mx.ev.eq_6, Mx.ev.eq_7, Mx.ev.eq_8, Mx.ev.eq_9, Mx.ev.eq_10, Mx.ev.eq_11, Mx.ev.eq_12, Mx.ev.eq_13, Mx.ev.eq_14, Mx.ev.eq_16, Mx.ev.eq_19, Mx.ev.eq_20, Mx.ev.eq_21, Mx.ev.eq_22, Mx.ev.eq_23, Mx.ev.eq_24, Mx.ev.eq_25, Mx.evS.eq_1, Mx.evS.eq_2, Mx.evS.eq_3, Mx.evS.eq_4, Mx.evS.eq_5, Mx.evS.eq_6, Mx.evS.eq_7, Mx.evS.eq_8, Mx.evS.eq_9, Mx.evS.eq_10, Mx.evS.eq_11, Mx.evS.eq_12, Mx.evS.eq_13, Mx.evS.eq_14, Mx.evS.eq_17, Mx.evS.eq_18, Mx.evS.eq_19, Mx.evS.eq_20, Mx.o_add, Mx.o_sub, Mx.o_mul, Mx.o_neg, Mx.o_eq, Mx.o_ne, Mx.o_lt, Mx.o_le, Mx.o_gt, Mx.o_ge, Mx.o_isN, Mx.o_notN, Mx.o_idxL, Mx.o_idxT, Mx.o_slToL, Mx.o_lenL, Mx.o_lenT, Mx.o_min2, Mx.o_max2, Mx.o_abs, Mx.o_int, Mx.o_tupL, Mx.o_tupT, Mx.o_listL, Mx.o_listT, Mx.o_isi, Mx.addD_int, Mx.eqD_ii, Mx.old, Mx.o_mod, Mx.o_fdv, Mx.ix0, Mx.ix1, Mx.ix2, nsD_len, ri]
theorem off_ints (f w : Nat → Int) (u : Nat) (W : Int) : ∀ k, ∀ x ∈ offL f w u W k, ∃ i, x = .int i
  | 0 => fun x hx => by cases hx
  | k + 1 => fun x hx => by
    unfold offL at hx
    split at hx
    · rcases List.mem_append.mp hx with hx | hx
      · exact off_ints f w u W k x hx
      · exact ⟨_, List.mem_singleton.mp hx⟩
    · exact off_ints f w u W k x hx
theorem q9_ok {F : FnSem} {w f g : Nat → Int} {n u : Nat} {W : Int} {wy : Str} (d x4 : D) (x12 x13 x23 : D) (s25 s26 : Mx.Slot) (e1 : F 11 [.s .fz (tw w n), .s .fz (.int u), .s .fz (.str wy)] = .ok false (.tuple (offL f w u W n)) [.s .fz (tw w n), .s .fz (.int u), .s .fz (.str wy)]) : evS F q9 [Mx.Slot.s .le d, .s .fz (tw w n), .s .fz (.str wy), .s .ow (.list (offL f w u W n)), .s .fz x4, .no, .no, .no, .no, .no, .s .fz (.int (u : Nat)), .s .fz (.list [.str "remainders", .str "down", .str "nearest", .str "up"]), .s .fz x12, .s .fz x13, .s .fz (.int W), .s .fz (.list (nsD f n)), .s .fz (.list (nsD g n)), .no, .no, .no, .no, .no, .no, .s .fz x23, .no, s25, s26] = .nx [Mx.Slot.s .le d, .s .fz (tw w n), .s .fz (.str wy), .s .ow (.list (offL f w u W n)), .s .fz x4, .no, .no, .no, .no, .no, .s .fz (.int (u : Nat)), .s .fz (.list [.str "remainders", .str "down", .str "nearest", .str "up"]), .s .fz x12, .s .fz x13, .s .fz (.int W), .s .fz (.list (nsD f n)), .s .fz (.list (nsD g n)), .no, .no, .no, .no, .no, .no, .s .fz x23, .no, s25, s26] := by
  have eqs := eqD_ints (off_ints f w u W n)
  generalize offL f w u W n = os at e1 eqs ⊢
  generalize nsD f n = xs
  generalize nsD g n = ys
  generalize tw w n = T at e1 ⊢
  generalize ((u : Nat) : Int) = U at e1 ⊢
  simp [Mx.runFn, Mx.outsOf, Mx.giveBack, Mx.argK, Mx.evA, Mx.putS, Mx.mutS, Mx.cmpOpt, Mx.ev.eq_1, Mx.ev.eq_2, Mx.ev.eq_3, Mx.ev.eq_4, Mx.ev.eq_5, Mx.ev.eq_6, Mx.ev.eq_7, Mx.ev.eq_8, Mx.ev.eq_9, Mx.ev.eq_10, Mx.ev.eq_11, Mx.ev.eq_12, Mx.ev.eq_13, Mx.ev.eq_14, Mx.ev.eq_16, Mx.ev.eq_19, Mx.ev.eq_20, Mx.ev.eq_21, Mx.ev.eq_22, Mx.ev.eq_23, Mx.ev.eq_24, Mx.ev.eq_25, Mx.evS.eq_1, Mx.evS.eq_2, Mx.evS.eq_3, Mx.evS.eq_4, Mx.evS.eq_5, Mx.evS.eq_6, Mx.evS.eq_7, Mx.evS.eq_8, Mx.evS.eq_9, Mx.evS.eq_10, Mx.evS.eq_11, Mx.evS.eq_12, Mx.evS.eq_13, Mx.evS.eq_14, Mx.evS.eq_17, Mx.evS.eq_18, Mx.evS.eq_19, Mx.evS.eq_20, Mx.o_add, Mx.o_sub, Mx.o_mul, Mx.o_neg, Mx.o_eq, Mx.o_ne, Mx.o_lt, Mx.o_le, Mx.o_gt, Mx.o_ge, Mx.o_isN, Mx.o_notN, Mx.o_idxL, Mx.o_idxT, Mx.o_slToL, Mx.o_lenL, Mx.o_lenT, Mx.o_min2, Mx.o_max2, Mx.o_abs, Mx.o_int, Mx.o_tupL, Mx.o_tupT, Mx.o_listL, Mx.o_listT, Mx.o_isi, Mx.addD_int, Mx.eqD_ii, Mx.old, Mx.o_mod, Mx.o_fdv, Mx.ix0, Mx.ix1, Mx.ix2, q9, e1, eqs]
end K02
end

section
set_option maxRecDepth 100000
set_option linter.all false
set_option maxHeartbeats 2000000
namespace K02
open Mx PySem L2
open K02P (Wy half updf S quo rmd shR rank dv pos step better bst prs srt)
open K00P (psum IsFirst)

theorem q10_ok (m : Nat) {d : D} {k : Int} (h : Dice d k) (hk : k < 1000) {w g0 : Nat → Int} {n u : Nat} {wy : Str} (s3 s4 s12 s14 s15 s16 s25 s26 : Mx.Slot) (x13 x23 : D) (e2 : sem (fnsOf defs) (m + 1) 18 [.s .fz (tw w n), .s .fz (.int 0), .s .fz (.str wy)] = .ok true (.list (nsD g0 n)) [.s .fz (tw w n), .s .fz (.int 0), .s .fz (.str wy)]) :
    ∃ (M : Nat) (d' : D), M ≤ 19 ∧ Dice d' (k + 1) ∧ evS (sem (fnsOf defs) (m + 1)) q10 [Mx.Slot.s .le d, .s .fz (tw w n), .s .fz (.str wy), s3, s4, .no, .no, .no, .no, .no, .s .fz (.int (u : Nat)), .s .fz (.list [.str "remainders", .str "down", .str "nearest", .str "up"]), s12, .s .fz x13, s14, s15, s16, .no, .no, .no, .no, .no, .no, .s .fz x23, .no, s25, s26] = .nx [Mx.Slot.s .le d', .s .fz (tw w n), .s .fz (.str wy), s3, s4, .no, .no, .no, .no, .no, .s .fz (.int (u : Nat)), .s .fz (.list [.str "remainders", .str "down", .str "nearest", .str "up"]), s12, .s .fz x13, s14, s15, s16, .s .fz (.int (M : Nat)), .s .fz (.none), .s .fz (.list (nsD g0 n)), .no, .no, .no, .s .fz x23, .no, s25, s26] := by
  obtain ⟨r, d1, r1, r2, hd, e⟩ := roll m 20 h (by omega) (by omega) (by omega)
  obtain ⟨M, rfl⟩ : ∃ M : Nat, r = M := ⟨r.toNat, by omega⟩
  refine ⟨M, d1, by omega, hd, ?_⟩
  generalize sem (fnsOf defs) (m + 1) = F at e e2 ⊢
  generalize nsD g0 n = xs at e2 ⊢
  generalize tw w n = T at e2 ⊢
  generalize ((M : Nat) : Int) = MM at e ⊢
  generalize ((u : Nat) : Int) = U
  simp [Mx.runFn, Mx.outsOf, Mx.giveBack, Mx.argK, Mx.evA, Mx.putS, Mx.mutS, Mx.cmpOpt, Mx.ev.eq_1, Mx.ev.eq_2, Mx.ev.eq_3, Mx.ev.eq_4, Mx.ev.eq_5, Mx.ev.eq_6, Mx.ev.eq_7, Mx.ev.eq_8, Mx.ev.eq_9, Mx.ev.eq_10, Mx.ev.eq_11, Mx.ev.eq_12, Mx.ev.eq_13, Mx.ev.eq_14, Mx.ev.eq_16, Mx.ev.eq_19, Mx.ev.eq_20, Mx.ev.eq_21, Mx.ev.eq_22, Mx.ev.eq_23, Mx.ev.eq_24, Mx.ev.eq_25, Mx.evS.eq_1, Mx.evS.eq_2, Mx.evS.eq_3, Mx.evS.eq_4, Mx.evS.eq_5, Mx.evS.eq_6, Mx.evS.eq_7, Mx.evS.eq_8, Mx.evS.eq_9, Mx.evS.eq_10, Mx.evS.eq_11, Mx.evS.eq_12, Mx.evS.eq_13, Mx.evS.eq_14, Mx.evS.eq_17, Mx.evS.eq_18, Mx.evS.eq_19, Mx.evS.eq_20, Mx.o_add, Mx.o_sub, Mx.o_mul, Mx.o_neg, Mx.o_eq, Mx.o_ne, Mx.o_lt, Mx.o_le, Mx.o_gt, Mx.o_ge, Mx.o_isN, Mx.o_notN, Mx.o_idxL, Mx.o_idxT, Mx.o_slToL, Mx.o_lenL, Mx.o_lenT, Mx.o_min2, Mx.o_max2, Mx.o_abs, Mx.o_int, Mx.o_tupL, Mx.o_tupT, Mx.o_listL, Mx.o_listT, Mx.o_isi, Mx.addD_int, Mx.eqD_ii, Mx.old, Mx.o_mod, Mx.o_fdv, Mx.ix0, Mx.ix1, Mx.ix2, q10, e, e2]
/-- the first of a row of looks -/
def fstO (P : Nat → Bool) : Nat → Option Nat
  | 0 => none
  | k + 1 => match fstO P k with
    | none => if P k = true then some k else none
    | some j => some j
theorem fstO_first (P : Nat → Bool) : ∀ N, IsFirst (fun k => k < N ∧ P k = true) (fstO P N)
  | 0 => fun i z => Nat.not_lt_zero i z.1
  | N + 1 => by
    have ih := fstO_first P N
    unfold fstO
    cases hf : fstO P N with
    | some j => rw [hf] at ih; exact ⟨⟨by have := ih.1.1; omega, ih.1.2⟩, fun i hi z => ih.2 i hi ⟨by have := ih.1.1; omega, z.2⟩⟩
    | none =>
      rw [hf] at ih
      by_cases p : P N = true
      · simp only [if_pos p]
        exact ⟨⟨by omega, p⟩, fun i hi z => ih i ⟨hi, z.2⟩⟩
      · simp only [if_neg p]
        intro i z
        by_cases e : i = N
        · exact p (e ▸ z.2)
        · exact ih i ⟨by omega, z.2⟩
def zipD (f g : Nat → Int) (n : Nat) : List D := (List.range n).map fun i => .tuple [.int (f i), .int (g i)]
theorem zip_eq (f g : Nat → Int) (n : Nat) : zipOf (.list (nsD f n)) (.list (nsD g n)) = some (zipD f g n) := by
  show some _ = _
  unfold nsD zipD
  rw [List.map_map, List.map_map, List.zip_map', List.map_map]
  rfl
def lessP : D → Bool
  | .tuple [.int a, .int b] => decide (b < a)
  | _ => false
def lossB (f g : Nat → Int) (n : Nat) : Bool := decide (0 < (((zipD f g n).filter lessP).map fun _ => PyData.int 1).length)
theorem lossB_iff (f g : Nat → Int) (n : Nat) : lossB f g n = true ↔ Loss f g n := by
  unfold lossB
  rw [decide_eq_true_eq, pos_filter]
  constructor
  · rintro ⟨x, hx, hp⟩
    obtain ⟨i, hi, rfl⟩ := List.mem_map.mp hx
    exact ⟨i, List.mem_range.mp hi, by simpa [lessP] using hp⟩
  · rintro ⟨i, hi, h⟩
    exact ⟨_, List.mem_map.mpr ⟨i, List.mem_range.mpr hi, rfl⟩, by simpa [lessP] using h⟩

theorem zip_comp (F : FnSem) {w f g : Nat → Int} {n u M : Nat} {wy : Str} (hn : n ≤ 8) (d x5 : D) (s3 s4 s12 s14 s15 s16 s25 s26 : Mx.Slot) (x13 x23 : D) : ∃ xs, decide (0 < xs.length) = lossB f g n ∧ ev F (.comp (.cst (.int 1)) (.tup [13, 23]) [13, 23] (.izip (.var 19) (.var 20)) (.op .lt (.cons (.bor 23) (.cons (.bor 13) .nil)))) [Mx.Slot.s .le d, .s .fz (tw w n), .s .fz (.str wy), s3, s4, .s .fz x5, .no, .no, .no, .no, .s .fz (.int (u : Nat)), .s .fz (.list [.str "remainders", .str "down", .str "nearest", .str "up"]), s12, .s .fz x13, s14, s15, s16, .s .fz (.int (M : Nat)), .s .fz (.none), .s .fz (.list (nsD f n)), .s .ow (.list (nsD g n)), .no, .no, .s .fz x23, .no, s25, s26] = .ok true (.list xs) [Mx.Slot.s .le d, .s .fz (tw w n), .s .fz (.str wy), s3, s4, .s .fz x5, .no, .no, .no, .no, .s .fz (.int (u : Nat)), .s .fz (.list [.str "remainders", .str "down", .str "nearest", .str "up"]), s12, .s .fz x13, s14, s15, s16, .s .fz (.int (M : Nat)), .s .fz (.none), .s .fz (.list (nsD f n)), .s .fz (.list (nsD g n)), .no, .no, .s .fz x23, .no, s25, s26] := by
  refine ⟨((zipD f g n).filter lessP).map fun _ => PyData.int 1, rfl, ?_⟩
  have hl : (zipD f g n).length = n := by simp [zipD]
  have hz := zip_eq f g n
  have key : ∀ x ∈ zipD f g n, ∃ a b : Int, x = .tuple [.int a, .int b] := fun x hx => by
    obtain ⟨i, _, rfl⟩ := List.mem_map.mp hx
    exact ⟨_, _, rfl⟩
  generalize zipD f g n = zs at hl hz key
  generalize nsD f n = xs at hz ⊢
  generalize nsD g n = ys at hz ⊢
  generalize tw w n = T
  generalize ((u : Nat) : Int) = U
  generalize ((M : Nat) : Int) = MM
  obtain ⟨ρ', ⟨c13, c23, rfl⟩, e⟩ := compL_filter (clr := (wipeR · [13, 23])) (bind := bindT (.tup [13, 23])) (cond := fun ρ => if isNil (.op .lt (.cons (.bor 23) (.cons (.bor 13) .nil))) then .ok false (.bool true) ρ else ev F (.op .lt (.cons (.bor 23) (.cons (.bor 13) .nil))) ρ) (elt := ev F (.cst (.int 1))) (f := fun _ => .int 1) (p := lessP) (I := fun ρ => ∃ c13 c23, ρ = [Mx.Slot.s .le d, .s .fz (T), .s .fz (.str wy), s3, s4, .s .fz x5, .no, .no, .no, .no, .s .fz (.int U), .s .fz (.list [.str "remainders", .str "down", .str "nearest", .str "up"]), s12, c13, s14, s15, s16, .s .fz (.int MM), .s .fz (.none), .s .fz (.list xs), .s .fz (.list ys), .no, .no, c23, .no, s25, s26]) zs
    (by
      intro x hx ρ ⟨c13, c23, hρ⟩
      obtain ⟨a, b, rfl⟩ := key x hx
      subst hρ
      refine ⟨_, [Mx.Slot.s .le d, .s .fz (T), .s .fz (.str wy), s3, s4, .s .fz x5, .no, .no, .no, .no, .s .fz (.int U), .s .fz (.list [.str "remainders", .str "down", .str "nearest", .str "up"]), s12, .s .fz (.int a), s14, s15, s16, .s .fz (.int MM), .s .fz (.none), .s .fz (.list xs), .s .fz (.list ys), .no, .no, .s .fz (.int b), .no, s25, s26], false, rfl, ?_, ⟨_, _, rfl⟩, fun _ => ⟨_, false, rfl, _, _, rfl⟩⟩
      simp only [isNil]
      simp [Mx.runFn, Mx.outsOf, Mx.giveBack, Mx.argK, Mx.evA, Mx.putS, Mx.mutS, Mx.cmpOpt, Mx.ev.eq_1, Mx.ev.eq_2, Mx.ev.eq_3, Mx.ev.eq_4, Mx.ev.eq_5, Mx.ev.eq_6, Mx.ev.eq_7, Mx.ev.eq_8, Mx.ev.eq_9, Mx.ev.eq_10, Mx.ev.eq_11, Mx.ev.eq_12, Mx.ev.eq_13, Mx.ev.eq_14, Mx.ev.eq_16, Mx.ev.eq_19, Mx.ev.eq_20, Mx.ev.eq_21, Mx.ev.eq_22, Mx.ev.eq_23, Mx.ev.eq_24, Mx.ev.eq_25, Mx.evS.eq_1, Mx.evS.eq_2, Mx.evS.eq_3, Mx.evS.eq_4, Mx.evS.eq_5, Mx.evS.eq_6, Mx.evS.eq_7, Mx.evS.eq_8, Mx.evS.eq_9, Mx.evS.eq_10, Mx.evS.eq_11, Mx.evS.eq_12, Mx.evS.eq_13, Mx.evS.eq_14, Mx.evS.eq_17, Mx.evS.eq_18, Mx.evS.eq_19, Mx.evS.eq_20, Mx.o_add, Mx.o_sub, Mx.o_mul, Mx.o_neg, Mx.o_eq, Mx.o_ne, Mx.o_lt, Mx.o_le, Mx.o_gt, Mx.o_ge, Mx.o_isN, Mx.o_notN, Mx.o_idxL, Mx.o_idxT, Mx.o_slToL, Mx.o_lenL, Mx.o_lenT, Mx.o_min2, Mx.o_max2, Mx.o_abs, Mx.o_int, Mx.o_tupL, Mx.o_tupT, Mx.o_listL, Mx.o_listT, Mx.o_isi, Mx.addD_int, Mx.eqD_ii, Mx.old, Mx.o_mod, Mx.o_fdv, Mx.ix0, Mx.ix1, Mx.ix2, wipeR, lessP]) [Mx.Slot.s .le d, .s .fz (T), .s .fz (.str wy), s3, s4, .s .fz x5, .no, .no, .no, .no, .s .fz (.int U), .s .fz (.list [.str "remainders", .str "down", .str "nearest", .str "up"]), s12, .s .fz x13, s14, s15, s16, .s .fz (.int MM), .s .fz (.none), .s .fz (.list xs), .s .fz (.list ys), .no, .no, .s .fz x23, .no, s25, s26] ⟨_, _, rfl⟩
  have q := ev_comp (F := F) (own := [13, 23]) (it := .izip (.var 19) (.var 20)) (cond := (.op .lt (.cons (.bor 23) (.cons (.bor 13) .nil)))) (ρ := [Mx.Slot.s .le d, .s .fz (T), .s .fz (.str wy), s3, s4, .s .fz x5, .no, .no, .no, .no, .s .fz (.int U), .s .fz (.list [.str "remainders", .str "down", .str "nearest", .str "up"]), s12, .s .fz x13, s14, s15, s16, .s .fz (.int MM), .s .fz (.none), .s .fz (.list xs), .s .ow (.list ys), .no, .no, .s .fz x23, .no, s25, s26]) (fr := false) (ds := zs) (ρ1 := [Mx.Slot.s .le d, .s .fz (T), .s .fz (.str wy), s3, s4, .s .fz x5, .no, .no, .no, .no, .s .fz (.int U), .s .fz (.list [.str "remainders", .str "down", .str "nearest", .str "up"]), s12, .s .fz x13, s14, s15, s16, .s .fz (.int MM), .s .fz (.none), .s .fz (.list xs), .s .fz (.list ys), .no, .no, .s .fz x23, .no, s25, s26]) (ρ3 := [Mx.Slot.s .le d, .s .fz (T), .s .fz (.str wy), s3, s4, .s .fz x5, .no, .no, .no, .no, .s .fz (.int U), .s .fz (.list [.str "remainders", .str "down", .str "nearest", .str "up"]), s12, .no, s14, s15, s16, .s .fz (.int MM), .s .fz (.none), .s .fz (.list xs), .s .fz (.list ys), .no, .no, .no, .no, s25, s26]) (by simp [Mx.runFn, Mx.outsOf, Mx.giveBack, Mx.argK, Mx.evA, Mx.putS, Mx.mutS, Mx.cmpOpt, Mx.ev.eq_1, Mx.ev.eq_2, Mx.ev.eq_3, Mx.ev.eq_4, Mx.ev.eq_5, Mx.ev.eq_6, Mx.ev.eq_7, Mx.ev.eq_8, Mx.ev.eq_9, Mx.ev.eq_10, Mx.ev.eq_11, Mx.ev.eq_12, Mx.ev.eq_13, Mx.ev.eq_14, Mx.ev.eq_16, Mx.ev.eq_19, Mx.ev.eq_20, Mx.ev.eq_21, Mx.ev.eq_22, Mx.ev.eq_23, Mx.ev.eq_24, Mx.ev.eq_25, Mx.evS.eq_1, Mx.evS.eq_2, Mx.evS.eq_3, Mx.evS.eq_4, Mx.evS.eq_5, Mx.evS.eq_6, Mx.evS.eq_7, Mx.evS.eq_8, Mx.evS.eq_9, Mx.evS.eq_10, Mx.evS.eq_11, Mx.evS.eq_12, Mx.evS.eq_13, Mx.evS.eq_14, Mx.evS.eq_17, Mx.evS.eq_18, Mx.evS.eq_19, Mx.evS.eq_20, Mx.o_add, Mx.o_sub, Mx.o_mul, Mx.o_neg, Mx.o_eq, Mx.o_ne, Mx.o_lt, Mx.o_le, Mx.o_gt, Mx.o_ge, Mx.o_isN, Mx.o_notN, Mx.o_idxL, Mx.o_idxT, Mx.o_slToL, Mx.o_lenL, Mx.o_lenT, Mx.o_min2, Mx.o_max2, Mx.o_abs, Mx.o_int, Mx.o_tupL, Mx.o_tupT, Mx.o_listL, Mx.o_listT, Mx.o_isi, Mx.addD_int, Mx.eqD_ii, Mx.old, Mx.o_mod, Mx.o_fdv, Mx.ix0, Mx.ix1, Mx.ix2, hz]) rfl (by rw [hl]; exact len_ok (T := n) (by omega)) e rfl
  simp only [backR] at q
  exact q

theorem enc_isN (o : Option Nat) : isNoD (encO o) = match o with | none => true | some _ => false := by cases o <;> rfl
theorem eqD_enc (o : Option Nat) : eqD (encO o) (encO o) = some true := by
  cases o with
  | none => rfl
  | some k => simp [encO, eqD_ii]
theorem q11_step {F : FnSem} {w : Nat → Int} {G : Nat → Nat → Int} {n u M k : Nat} {wy : Str} (hn : n ≤ 8) (e : F 18 [.s .fz (tw w n), .s .fz (.int ((k : Int) + 1)), .s .fz (.str wy)] = .ok true (.list (nsD (G (k + 1)) n)) [.s .fz (tw w n), .s .fz (.int ((k : Int) + 1)), .s .fz (.str wy)]) (d : D) (s20 : Mx.Slot) (s3 s4 s12 s14 s15 s16 s25 s26 : Mx.Slot) (x13 x23 : D) :
    evS F (.seq (.set 20 (.call 18 0 (.cons (.bor 1) (.cons (.op .add (.cons (.bor 5) (.cons (.cst (.int 1)) .nil))) (.cons (.bor 2) .nil)))))
   (.seq (.ifs (.and (.op .isN (.cons (.bor 18) .nil)) (.op .gt (.cons (.op .len (.cons (.comp (.cst (.int 1)) (.tup [13, 23]) [13, 23] (.izip (.var 19) (.var 20)) (.op .lt (.cons (.bor 23) (.cons (.bor 13) .nil)))) .nil)) (.cons (.cst (.int 0)) .nil)))) (.seq (.set 18 (.var 5))
    .skip) .skip)
   (.seq (.set 19 (.var 20))
   .skip))) [Mx.Slot.s .le d, .s .fz (tw w n), .s .fz (.str wy), s3, s4, .s .fz (.int (k : Nat)), .no, .no, .no, .no, .s .fz (.int (u : Nat)), .s .fz (.list [.str "remainders", .str "down", .str "nearest", .str "up"]), s12, .s .fz x13, s14, s15, s16, .s .fz (.int (M : Nat)), .s .fz (encO (fstO (fun k => lossB (G k) (G (k + 1)) n) k)), .s .fz (.list (nsD (G k) n)), s20, .no, .no, .s .fz x23, .no, s25, s26] = .nx [Mx.Slot.s .le d, .s .fz (tw w n), .s .fz (.str wy), s3, s4, .s .fz (.int (k : Nat)), .no, .no, .no, .no, .s .fz (.int (u : Nat)), .s .fz (.list [.str "remainders", .str "down", .str "nearest", .str "up"]), s12, .s .fz x13, s14, s15, s16, .s .fz (.int (M : Nat)), .s .fz (encO (fstO (fun k => lossB (G k) (G (k + 1)) n) (k + 1))), .s .fz (.list (nsD (G (k + 1)) n)), .s .fz (.list (nsD (G (k + 1)) n)), .no, .no, .s .fz x23, .no, s25, s26] := by
  have hs : fstO (fun k => lossB (G k) (G (k + 1)) n) (k + 1) = match fstO (fun k => lossB (G k) (G (k + 1)) n) k with
    | none => if lossB (G k) (G (k + 1)) n = true then some k else none
    | some j => some j := rfl
  rw [hs]
  generalize fstO (fun k => lossB (G k) (G (k + 1)) n) k = o
  cases o with
  | none =>
    obtain ⟨xs, hx, c⟩ := zip_comp F (w := w) (f := G k) (g := G (k + 1)) (u := u) (M := M) (wy := wy) hn d (.int (k : Nat)) s3 s4 s12 s14 s15 s16 s25 s26 x13 x23
    generalize lossB (G k) (G (k + 1)) n = lb at hx
    generalize nsD (G k) n = ys at c ⊢
    generalize nsD (G (k + 1)) n = zs at c e ⊢
    generalize tw w n = T at c e ⊢
    have hk : encO (if lb = true then some k else none) = if lb = true then .int (k : Int) else .none := by cases lb <;> rfl
    simp only [hk]
    generalize ((u : Nat) : Int) = U at c ⊢
    generalize ((M : Nat) : Int) = MM at c ⊢
    generalize ((k : Nat) : Int) = K at c e ⊢
    cases lb with
    | true =>
      have hx' : 0 < xs.length := by simpa using hx
      simp [Mx.runFn, Mx.outsOf, Mx.giveBack, Mx.argK, Mx.evA, Mx.putS, Mx.mutS, Mx.cmpOpt, Mx.ev.eq_1, Mx.ev.eq_2, Mx.ev.eq_3, Mx.ev.eq_4, Mx.ev.eq_5, Mx.ev.eq_6, Mx.ev.eq_7, Mx.ev.eq_8, Mx.ev.eq_9, Mx.ev.eq_10, Mx.ev.eq_11, Mx.ev.eq_12, Mx.ev.eq_13, Mx.ev.eq_14, Mx.ev.eq_16, Mx.ev.eq_19, Mx.ev.eq_20, Mx.ev.eq_21, Mx.ev.eq_22, Mx.ev.eq_23, Mx.ev.eq_24, Mx.ev.eq_25, Mx.evS.eq_1, Mx.evS.eq_2, Mx.evS.eq_3, Mx.evS.eq_4, Mx.evS.eq_5, Mx.evS.eq_6, Mx.evS.eq_7, Mx.evS.eq_8, Mx.evS.eq_9, Mx.evS.eq_10, Mx.evS.eq_11, Mx.evS.eq_12, Mx.evS.eq_13, Mx.evS.eq_14, Mx.evS.eq_17, Mx.evS.eq_18, Mx.evS.eq_19, Mx.evS.eq_20, Mx.o_add, Mx.o_sub, Mx.o_mul, Mx.o_neg, Mx.o_eq, Mx.o_ne, Mx.o_lt, Mx.o_le, Mx.o_gt, Mx.o_ge, Mx.o_isN, Mx.o_notN, Mx.o_idxL, Mx.o_idxT, Mx.o_slToL, Mx.o_lenL, Mx.o_lenT, Mx.o_min2, Mx.o_max2, Mx.o_abs, Mx.o_int, Mx.o_tupL, Mx.o_tupT, Mx.o_listL, Mx.o_listT, Mx.o_isi, Mx.addD_int, Mx.eqD_ii, Mx.old, Mx.o_mod, Mx.o_fdv, Mx.ix0, Mx.ix1, Mx.ix2, e, c, encO, isNoD, hx']
    | false =>
      have hx' : xs = [] := by
        have : ¬ 0 < xs.length := by simpa using hx
        cases xs <;> simp_all
      subst hx'
      simp [Mx.runFn, Mx.outsOf, Mx.giveBack, Mx.argK, Mx.evA, Mx.putS, Mx.mutS, Mx.cmpOpt, Mx.ev.eq_1, Mx.ev.eq_2, Mx.ev.eq_3, Mx.ev.eq_4, Mx.ev.eq_5, Mx.ev.eq_6, Mx.ev.eq_7, Mx.ev.eq_8, Mx.ev.eq_9, Mx.ev.eq_10, Mx.ev.eq_11, Mx.ev.eq_12, Mx.ev.eq_13, Mx.ev.eq_14, Mx.ev.eq_16, Mx.ev.eq_19, Mx.ev.eq_20, Mx.ev.eq_21, Mx.ev.eq_22, Mx.ev.eq_23, Mx.ev.eq_24, Mx.ev.eq_25, Mx.evS.eq_1, Mx.evS.eq_2, Mx.evS.eq_3, Mx.evS.eq_4, Mx.evS.eq_5, Mx.evS.eq_6, Mx.evS.eq_7, Mx.evS.eq_8, Mx.evS.eq_9, Mx.evS.eq_10, Mx.evS.eq_11, Mx.evS.eq_12, Mx.evS.eq_13, Mx.evS.eq_14, Mx.evS.eq_17, Mx.evS.eq_18, Mx.evS.eq_19, Mx.evS.eq_20, Mx.o_add, Mx.o_sub, Mx.o_mul, Mx.o_neg, Mx.o_eq, Mx.o_ne, Mx.o_lt, Mx.o_le, Mx.o_gt, Mx.o_ge, Mx.o_isN, Mx.o_notN, Mx.o_idxL, Mx.o_idxT, Mx.o_slToL, Mx.o_lenL, Mx.o_lenT, Mx.o_min2, Mx.o_max2, Mx.o_abs, Mx.o_int, Mx.o_tupL, Mx.o_tupT, Mx.o_listL, Mx.o_listT, Mx.o_isi, Mx.addD_int, Mx.eqD_ii, Mx.old, Mx.o_mod, Mx.o_fdv, Mx.ix0, Mx.ix1, Mx.ix2, e, c, encO, isNoD]
  | some j =>
    generalize nsD (G k) n = ys
    generalize nsD (G (k + 1)) n = zs at e ⊢
    generalize tw w n = T at e ⊢
    generalize ((u : Nat) : Int) = U
    generalize ((M : Nat) : Int) = MM
    generalize ((k : Nat) : Int) = K at e ⊢
    generalize hB : encO (some j) = B
    have hb : isNoD B = false := by rw [← hB]; rfl
    simp [Mx.runFn, Mx.outsOf, Mx.giveBack, Mx.argK, Mx.evA, Mx.putS, Mx.mutS, Mx.cmpOpt, Mx.ev.eq_1, Mx.ev.eq_2, Mx.ev.eq_3, Mx.ev.eq_4, Mx.ev.eq_5, Mx.ev.eq_6, Mx.ev.eq_7, Mx.ev.eq_8, Mx.ev.eq_9, Mx.ev.eq_10, Mx.ev.eq_11, Mx.ev.eq_12, Mx.ev.eq_13, Mx.ev.eq_14, Mx.ev.eq_16, Mx.ev.eq_19, Mx.ev.eq_20, Mx.ev.eq_21, Mx.ev.eq_22, Mx.ev.eq_23, Mx.ev.eq_24, Mx.ev.eq_25, Mx.evS.eq_1, Mx.evS.eq_2, Mx.evS.eq_3, Mx.evS.eq_4, Mx.evS.eq_5, Mx.evS.eq_6, Mx.evS.eq_7, Mx.evS.eq_8, Mx.evS.eq_9, Mx.evS.eq_10, Mx.evS.eq_11, Mx.evS.eq_12, Mx.evS.eq_13, Mx.evS.eq_14, Mx.evS.eq_17, Mx.evS.eq_18, Mx.evS.eq_19, Mx.evS.eq_20, Mx.o_add, Mx.o_sub, Mx.o_mul, Mx.o_neg, Mx.o_eq, Mx.o_ne, Mx.o_lt, Mx.o_le, Mx.o_gt, Mx.o_ge, Mx.o_isN, Mx.o_notN, Mx.o_idxL, Mx.o_idxT, Mx.o_slToL, Mx.o_lenL, Mx.o_lenT, Mx.o_min2, Mx.o_max2, Mx.o_abs, Mx.o_int, Mx.o_tupL, Mx.o_tupT, Mx.o_listL, Mx.o_listT, Mx.o_isi, Mx.addD_int, Mx.eqD_ii, Mx.old, Mx.o_mod, Mx.o_fdv, Mx.ix0, Mx.ix1, Mx.ix2, e, hb]
theorem q11_ok {F : FnSem} {w : Nat → Int} {G : Nat → Nat → Int} {n u M : Nat} {wy : Str} (hn : n ≤ 8) (hM : M ≤ 100) (e : ∀ k, k < M + 1 → F 18 [.s .fz (tw w n), .s .fz (.int ((k : Int) + 1)), .s .fz (.str wy)] = .ok true (.list (nsD (G (k + 1)) n)) [.s .fz (tw w n), .s .fz (.int ((k : Int) + 1)), .s .fz (.str wy)]) (d : D) (s3 s4 s12 s14 s15 s16 s25 s26 : Mx.Slot) (x13 x23 : D) :
    ∃ s5 s20, evS F q11 [Mx.Slot.s .le d, .s .fz (tw w n), .s .fz (.str wy), s3, s4, .no, .no, .no, .no, .no, .s .fz (.int (u : Nat)), .s .fz (.list [.str "remainders", .str "down", .str "nearest", .str "up"]), s12, .s .fz x13, s14, s15, s16, .s .fz (.int (M : Nat)), .s .fz (.none), .s .fz (.list (nsD (G 0) n)), .no, .no, .no, .s .fz x23, .no, s25, s26] = .nx [Mx.Slot.s .le d, .s .fz (tw w n), .s .fz (.str wy), s3, s4, s5, .no, .no, .no, .no, .s .fz (.int (u : Nat)), .s .fz (.list [.str "remainders", .str "down", .str "nearest", .str "up"]), s12, .s .fz x13, s14, s15, s16, .s .fz (.int (M : Nat)), .s .fz (encO (fstO (fun k => lossB (G k) (G (k + 1)) n) (M + 1))), .s .fz (.list (nsD (G (M + 1)) n)), s20, .no, .no, .s .fz x23, .no, s25, s26] := by
  obtain ⟨ρ', ⟨s5, s20, rfl⟩, el⟩ := forL_nx (bind := bindT (.one 5)) (body := evS F (.seq (.set 20 (.call 18 0 (.cons (.bor 1) (.cons (.op .add (.cons (.bor 5) (.cons (.cst (.int 1)) .nil))) (.cons (.bor 2) .nil)))))
   (.seq (.ifs (.and (.op .isN (.cons (.bor 18) .nil)) (.op .gt (.cons (.op .len (.cons (.comp (.cst (.int 1)) (.tup [13, 23]) [13, 23] (.izip (.var 19) (.var 20)) (.op .lt (.cons (.bor 23) (.cons (.bor 13) .nil)))) .nil)) (.cons (.cst (.int 0)) .nil)))) (.seq (.set 18 (.var 5))
    .skip) .skip)
   (.seq (.set 19 (.var 20))
   .skip)))) ((List.range (M + 1)).map fun k : Nat => .int (k : Int))
    (fun k ρ => ∃ s5 s20, ρ = [Mx.Slot.s .le d, .s .fz (tw w n), .s .fz (.str wy), s3, s4, s5, .no, .no, .no, .no, .s .fz (.int (u : Nat)), .s .fz (.list [.str "remainders", .str "down", .str "nearest", .str "up"]), s12, .s .fz x13, s14, s15, s16, .s .fz (.int (M : Nat)), .s .fz (encO (fstO (fun k => lossB (G k) (G (k + 1)) n) k)), .s .fz (.list (nsD (G k) n)), s20, .no, .no, .s .fz x23, .no, s25, s26])
    (fun k hk ρ hρ => by
      obtain ⟨s5, s20, rfl⟩ := hρ
      rw [List.getElem_map, List.getElem_range]
      exact ⟨_, _, rfl, q11_step hn (e k (by simpa using hk)) d s20 s3 s4 s12 s14 s15 s16 s25 s26 x13 x23, ⟨_, _, rfl⟩⟩)
    [Mx.Slot.s .le d, .s .fz (tw w n), .s .fz (.str wy), s3, s4, .no, .no, .no, .no, .no, .s .fz (.int (u : Nat)), .s .fz (.list [.str "remainders", .str "down", .str "nearest", .str "up"]), s12, .s .fz x13, s14, s15, s16, .s .fz (.int (M : Nat)), .s .fz (.none), .s .fz (.list (nsD (G 0) n)), .no, .no, .no, .s .fz x23, .no, s25, s26] ⟨_, _, rfl⟩
  simp only [List.length_map, List.length_range] at el
  have ri := range_ok (T := M + 1) (by omega)
  have hM1 : (M : Int) + 1 = ((M + 1 : Nat) : Int) := by omega
  refine ⟨s5, s20, evS_for (fr := false) (ρ1 := [Mx.Slot.s .le d, .s .fz (tw w n), .s .fz (.str wy), s3, s4, .no, .no, .no, .no, .no, .s .fz (.int (u : Nat)), .s .fz (.list [.str "remainders", .str "down", .str "nearest", .str "up"]), s12, .s .fz x13, s14, s15, s16, .s .fz (.int (M : Nat)), .s .fz (.none), .s .fz (.list (nsD (G 0) n)), .no, .no, .no, .s .fz x23, .no, s25, s26]) ?_ el rfl⟩
  generalize nsD (G 0) n = xs
  generalize tw w n = T
  generalize ((u : Nat) : Int) = U
  generalize M + 1 = N at ri hM1
  generalize ((M : Nat) : Int) = MM at hM1 ⊢
  simp [Mx.runFn, Mx.outsOf, Mx.giveBack, Mx.argK, Mx.evA, Mx.putS, Mx.mutS, Mx.cmpOpt, Mx.ev.eq_1, Mx.ev.eq_2, Mx.ev.eq_3, Mx.ev.eq_4, Mx.ev.eq_5, Mx.ev.eq_6, Mx.ev.eq_7, Mx.ev.eq_8, Mx.ev.eq_9, Mx.ev.eq_10, Mx.ev.eq_11, Mx.ev.eq_12, Mx.ev.eq_13, Mx.ev.eq_14, Mx.ev.eq_16, Mx.ev.eq_19, Mx.ev.eq_20, Mx.ev.eq_21, Mx.ev.eq_22, Mx.ev.eq_23, Mx.ev.eq_24, Mx.ev.eq_25, Mx.evS.eq_1, Mx.evS.eq_2, Mx.evS.eq_3, Mx.evS.eq_4, Mx.evS.eq_5, Mx.evS.eq_6, Mx.evS.eq_7, Mx.evS.eq_8, Mx.evS.eq_9, Mx.evS.eq_10, Mx.evS.eq_11, Mx.evS.eq_12, Mx.evS.eq_13, Mx.evS.eq_14, Mx.evS.eq_17, Mx.evS.eq_18, Mx.evS.eq_19, Mx.evS.eq_20, Mx.o_add, Mx.o_sub, Mx.o_mul, Mx.o_neg, Mx.o_eq, Mx.o_ne, Mx.o_lt, Mx.o_le, Mx.o_gt, Mx.o_ge, Mx.o_isN, Mx.o_notN, Mx.o_idxL, Mx.o_idxT, Mx.o_slToL, Mx.o_lenL, Mx.o_lenT, Mx.o_min2, Mx.o_max2, Mx.o_abs, Mx.o_int, Mx.o_tupL, Mx.o_tupT, Mx.o_listL, Mx.o_listT, Mx.o_isi, Mx.addD_int, Mx.eqD_ii, Mx.old, Mx.o_mod, Mx.o_fdv, Mx.ix0, Mx.ix1, Mx.ix2, hM1, ri]
end K02
end

section
set_option maxRecDepth 100000
set_option linter.all false
set_option maxHeartbeats 2000000
namespace K02
open Mx PySem L2
open K02P (Wy half updf S quo rmd shR rank dv pos step better bst prs srt)
open K00P (psum IsFirst)

theorem q12_ok {F : FnSem} {w : Nat → Int} {n u M : Nat} {wy : Str} {o : Option Nat} (d : D) (s3 s4 s5 s12 s14 s15 s16 s19 s20 s25 s26 : Mx.Slot) (x13 x23 : D) (e : F 10 [.s .fz (tw w n), .s .fz (.int M), .s .fz (.str wy)] = .ok false (encO o) [.s .fz (tw w n), .s .fz (.int M), .s .fz (.str wy)]) : evS F q12 [Mx.Slot.s .le d, .s .fz (tw w n), .s .fz (.str wy), s3, s4, s5, .no, .no, .no, .no, .s .fz (.int (u : Nat)), .s .fz (.list [.str "remainders", .str "down", .str "nearest", .str "up"]), s12, .s .fz x13, s14, s15, s16, .s .fz (.int (M : Nat)), .s .fz (encO o), s19, s20, .no, .no, .s .fz x23, .no, s25, s26] = .nx [Mx.Slot.s .le d, .s .fz (tw w n), .s .fz (.str wy), s3, s4, s5, .no, .no, .no, .no, .s .fz (.int (u : Nat)), .s .fz (.list [.str "remainders", .str "down", .str "nearest", .str "up"]), s12, .s .fz x13, s14, s15, s16, .s .fz (.int (M : Nat)), .s .fz (encO o), s19, s20, .no, .no, .s .fz x23, .no, s25, s26] := by
  have q := eqD_enc o
  generalize encO o = O at e q ⊢
  generalize tw w n = T at e ⊢
  generalize ((u : Nat) : Int) = U
  generalize ((M : Nat) : Int) = MM at e ⊢
  simp [Mx.runFn, Mx.outsOf, Mx.giveBack, Mx.argK, Mx.evA, Mx.putS, Mx.mutS, Mx.cmpOpt, Mx.ev.eq_1, Mx.ev.eq_2, Mx.ev.eq_3, Mx.ev.eq_4, Mx.ev.eq_5, Mx.ev.eq_6, Mx.ev.eq_7, Mx.ev.eq_8, Mx.ev.eq_9, Mx.ev.eq_10, Mx.ev.eq_11, Mx.ev.eq_12, Mx.ev.eq_13, Mx.ev.eq_14, Mx.ev.eq_16, Mx.ev.eq_19, Mx.ev.eq_20, Mx.ev.eq_21, Mx.ev.eq_22, Mx.ev.eq_23, Mx.ev.eq_24, Mx.ev.eq_25, Mx.evS.eq_1, Mx.evS.eq_2, Mx.evS.eq_3, Mx.evS.eq_4, Mx.evS.eq_5, Mx.evS.eq_6, Mx.evS.eq_7, Mx.evS.eq_8, Mx.evS.eq_9, Mx.evS.eq_10, Mx.evS.eq_11, Mx.evS.eq_12, Mx.evS.eq_13, Mx.evS.eq_14, Mx.evS.eq_17, Mx.evS.eq_18, Mx.evS.eq_19, Mx.evS.eq_20, Mx.o_add, Mx.o_sub, Mx.o_mul, Mx.o_neg, Mx.o_eq, Mx.o_ne, Mx.o_lt, Mx.o_le, Mx.o_gt, Mx.o_ge, Mx.o_isN, Mx.o_notN, Mx.o_idxL, Mx.o_idxT, Mx.o_slToL, Mx.o_lenL, Mx.o_lenT, Mx.o_min2, Mx.o_max2, Mx.o_abs, Mx.o_int, Mx.o_tupL, Mx.o_tupT, Mx.o_listL, Mx.o_listT, Mx.o_isi, Mx.addD_int, Mx.eqD_ii, Mx.old, Mx.o_mod, Mx.o_fdv, Mx.ix0, Mx.ix1, Mx.ix2, q12, e, q]
theorem q13_ok (m : Nat) {d : D} {k : Int} (h : Dice d k) (hk : k < 1000) {w : Nat → Int} {n u M : Nat} {wy : Str} {o : Option Nat} (hn : 1 ≤ n) (hn2 : n ≤ 8) (s3 s4 s5 s12 s14 s15 s16 s19 s20 s25 s26 : Mx.Slot) (x13 x23 : D) : ∃ (a z : Nat) (d' : D), a < n ∧ z ≤ 3 ∧ Dice d' (k + 2) ∧ evS (sem (fnsOf defs) (m + 1)) q13 [Mx.Slot.s .le d, .s .fz (tw w n), .s .fz (.str wy), s3, s4, s5, .no, .no, .no, .no, .s .fz (.int (u : Nat)), .s .fz (.list [.str "remainders", .str "down", .str "nearest", .str "up"]), s12, .s .fz x13, s14, s15, s16, .s .fz (.int (M : Nat)), .s .fz (encO o), s19, s20, .no, .no, .s .fz x23, .no, s25, s26] = .nx [Mx.Slot.s .le d', .s .fz (tw w n), .s .fz (.str wy), s3, s4, s5, .no, .no, .no, .no, .s .fz (.int (u : Nat)), .s .fz (.list [.str "remainders", .str "down", .str "nearest", .str "up"]), s12, .s .fz x13, s14, s15, s16, .s .fz (.int (M : Nat)), .s .fz (encO o), s19, s20, .s .fz (.int (a : Nat)), .s .fz (.int (z : Nat)), .s .fz x23, .no, s25, s26] := by
  obtain ⟨r1, d1, a1, a2, hd, e1⟩ := roll m n h (by omega) (by omega) (by omega)
  obtain ⟨r2, d2, b1, b2, hd2, e2⟩ := roll m 4 hd (by omega) (by omega) (by omega)
  obtain ⟨a, rfl⟩ : ∃ a : Nat, r1 = a := ⟨r1.toNat, by omega⟩
  obtain ⟨z, rfl⟩ : ∃ z : Nat, r2 = z := ⟨r2.toNat, by omega⟩
  refine ⟨a, z, d2, by omega, by omega, hd2.mono (by omega), ?_⟩
  have hl : (nsD w n).length = n := nsD_len w n
  generalize sem (fnsOf defs) (m + 1) = F at e1 e2 ⊢
  generalize encO o = O
  generalize ((u : Nat) : Int) = U
  generalize ((M : Nat) : Int) = MM
  generalize ((a : Nat) : Int) = AA at e1 ⊢
  generalize ((z : Nat) : Int) = ZZ at e2 ⊢
  simp [Mx.runFn, Mx.outsOf, Mx.giveBack, Mx.argK, Mx.evA, Mx.putS, Mx.mutS, Mx.cmpOpt, Mx.ev.eq_1, Mx.ev.eq_2, Mx.ev.eq_3, Mx.ev.eq_4, Mx.ev.eq_5, Mx.ev.eq_6, Mx.ev.eq_7, Mx.ev.eq_8, Mx.ev.eq_9, Mx.ev.eq_10, Mx.ev.eq_11, Mx.ev.eq_12, Mx.ev.eq_13, Mx.ev.eq_14, Mx.ev.eq_16, Mx.ev.eq_19, Mx.ev.eq_20, Mx.ev.eq_21, Mx.ev.eq_22, Mx.ev.eq_23, Mx.ev.eq_24, Mx.ev.eq_25, Mx.evS.eq_1, Mx.evS.eq_2, Mx.evS.eq_3, Mx.evS.eq_4, Mx.evS.eq_5, Mx.evS.eq_6, Mx.evS.eq_7, Mx.evS.eq_8, Mx.evS.eq_9, Mx.evS.eq_10, Mx.evS.eq_11, Mx.evS.eq_12, Mx.evS.eq_13, Mx.evS.eq_14, Mx.evS.eq_17, Mx.evS.eq_18, Mx.evS.eq_19, Mx.evS.eq_20, Mx.o_add, Mx.o_sub, Mx.o_mul, Mx.o_neg, Mx.o_eq, Mx.o_ne, Mx.o_lt, Mx.o_le, Mx.o_gt, Mx.o_ge, Mx.o_isN, Mx.o_notN, Mx.o_idxL, Mx.o_idxT, Mx.o_slToL, Mx.o_lenL, Mx.o_lenT, Mx.o_min2, Mx.o_max2, Mx.o_abs, Mx.o_int, Mx.o_tupL, Mx.o_tupT, Mx.o_listL, Mx.o_listT, Mx.o_isi, Mx.addD_int, Mx.eqD_ii, Mx.old, Mx.o_mod, Mx.o_fdv, Mx.ix0, Mx.ix1, Mx.ix2, q13, nsD_len, e1, e2]
theorem q14_ok {F : FnSem} {w : Nat → Int} {n u M a z : Nat} {wy : Str} {o v : Option Nat} (d : D) (s3 s4 s5 s12 s14 s15 s16 s19 s20 s25 s26 : Mx.Slot) (x13 x23 : D) (e : F 12 [.s .fz (tw w n), .s .fz (.int a), .s .fz (.int z), .s .fz (.str wy)] = .ok false (encO v) [.s .fz (tw w n), .s .fz (.int a), .s .fz (.int z), .s .fz (.str wy)]) : evS F q14 [Mx.Slot.s .le d, .s .fz (tw w n), .s .fz (.str wy), s3, s4, s5, .no, .no, .no, .no, .s .fz (.int (u : Nat)), .s .fz (.list [.str "remainders", .str "down", .str "nearest", .str "up"]), s12, .s .fz x13, s14, s15, s16, .s .fz (.int (M : Nat)), .s .fz (encO o), s19, s20, .s .fz (.int (a : Nat)), .s .fz (.int (z : Nat)), .s .fz x23, .no, s25, s26] = .nx [Mx.Slot.s .le d, .s .fz (tw w n), .s .fz (.str wy), s3, s4, s5, .s .fz (encO v), .no, .no, .no, .s .fz (.int (u : Nat)), .s .fz (.list [.str "remainders", .str "down", .str "nearest", .str "up"]), s12, .s .fz x13, s14, s15, s16, .s .fz (.int (M : Nat)), .s .fz (encO o), s19, s20, .s .fz (.int (a : Nat)), .s .fz (.int (z : Nat)), .s .fz x23, .no, s25, s26] := by
  generalize encO o = O
  generalize encO v = V at e ⊢
  generalize tw w n = T at e ⊢
  generalize ((u : Nat) : Int) = U
  generalize ((M : Nat) : Int) = MM
  generalize ((a : Nat) : Int) = AA at e ⊢
  generalize ((z : Nat) : Int) = ZZ at e ⊢
  simp [Mx.runFn, Mx.outsOf, Mx.giveBack, Mx.argK, Mx.evA, Mx.putS, Mx.mutS, Mx.cmpOpt, Mx.ev.eq_1, Mx.ev.eq_2, Mx.ev.eq_3, Mx.ev.eq_4, Mx.ev.eq_5, Mx.ev.eq_6, Mx.ev.eq_7, Mx.ev.eq_8, Mx.ev.eq_9, Mx.ev.eq_10, Mx.ev.eq_11, Mx.ev.eq_12, Mx.ev.eq_13, Mx.ev.eq_14, Mx.ev.eq_16, Mx.ev.eq_19, Mx.ev.eq_20, Mx.ev.eq_21, Mx.ev.eq_22, Mx.ev.eq_23, Mx.ev.eq_24, Mx.ev.eq_25, Mx.evS.eq_1, Mx.evS.eq_2, Mx.evS.eq_3, Mx.evS.eq_4, Mx.evS.eq_5, Mx.evS.eq_6, Mx.evS.eq_7, Mx.evS.eq_8, Mx.evS.eq_9, Mx.evS.eq_10, Mx.evS.eq_11, Mx.evS.eq_12, Mx.evS.eq_13, Mx.evS.eq_14, Mx.evS.eq_17, Mx.evS.eq_18, Mx.evS.eq_19, Mx.evS.eq_20, Mx.o_add, Mx.o_sub, Mx.o_mul, Mx.o_neg, Mx.o_eq, Mx.o_ne, Mx.o_lt, Mx.o_le, Mx.o_gt, Mx.o_ge, Mx.o_isN, Mx.o_notN, Mx.o_idxL, Mx.o_idxT, Mx.o_slToL, Mx.o_lenL, Mx.o_lenT, Mx.o_min2, Mx.o_max2, Mx.o_abs, Mx.o_int, Mx.o_tupL, Mx.o_tupT, Mx.o_listL, Mx.o_listT, Mx.o_isi, Mx.addD_int, Mx.eqD_ii, Mx.old, Mx.o_mod, Mx.o_fdv, Mx.ix0, Mx.ix1, Mx.ix2, q14, e]
theorem q15_none {F : FnSem} {w : Nat → Int} {n u M a z : Nat} {wy : Str} {o v : Option Nat} (hv : v = none) (d : D) (s3 s4 s5 s12 s14 s15 s16 s19 s20 s25 s26 : Mx.Slot) (x13 x23 : D) : evS F q15 [Mx.Slot.s .le d, .s .fz (tw w n), .s .fz (.str wy), s3, s4, s5, .s .fz (encO v), .no, .no, .no, .s .fz (.int (u : Nat)), .s .fz (.list [.str "remainders", .str "down", .str "nearest", .str "up"]), s12, .s .fz x13, s14, s15, s16, .s .fz (.int (M : Nat)), .s .fz (encO o), s19, s20, .s .fz (.int (a : Nat)), .s .fz (.int (z : Nat)), .s .fz x23, .no, s25, s26] = .nx [Mx.Slot.s .le d, .s .fz (tw w n), .s .fz (.str wy), s3, s4, s5, .s .fz (encO v), .no, .no, .no, .s .fz (.int (u : Nat)), .s .fz (.list [.str "remainders", .str "down", .str "nearest", .str "up"]), s12, .s .fz x13, s14, s15, s16, .s .fz (.int (M : Nat)), .s .fz (encO o), s19, s20, .s .fz (.int (a : Nat)), .s .fz (.int (z : Nat)), .s .fz x23, .no, s25, s26] := by
  subst hv
  generalize encO o = O
  generalize tw w n = T
  generalize ((u : Nat) : Int) = U
  generalize ((M : Nat) : Int) = MM
  generalize ((a : Nat) : Int) = AA
  generalize ((z : Nat) : Int) = ZZ
  simp [Mx.runFn, Mx.outsOf, Mx.giveBack, Mx.argK, Mx.evA, Mx.putS, Mx.mutS, Mx.cmpOpt, Mx.ev.eq_1, Mx.ev.eq_2, Mx.ev.eq_3, Mx.ev.eq_4, Mx.ev.eq_5, Mx.ev.eq_6, Mx.ev.eq_7, Mx.ev.eq_8, Mx.ev.eq_9, Mx.ev.eq_10, Mx.ev.eq_11, Mx.ev.eq_12, Mx.ev.eq_13, Mx.ev.eq_14, Mx.ev.eq_16, Mx.ev.eq_19, Mx.ev.eq_20, Mx.ev.eq_21, Mx.ev.eq_22, Mx.ev.eq_23, Mx.ev.eq_24, Mx.ev.eq_25, Mx.evS.eq_1, Mx.evS.eq_2, Mx.evS.eq_3, Mx.evS.eq_4, Mx.evS.eq_5, Mx.evS.eq_6, Mx.evS.eq_7, Mx.evS.eq_8, Mx.evS.eq_9, Mx.evS.eq_10, Mx.evS.eq_11, Mx.evS.eq_12, Mx.evS.eq_13, Mx.evS.eq_14, Mx.evS.eq_17, Mx.evS.eq_18, Mx.evS.eq_19, Mx.evS.eq_20, Mx.o_add, Mx.o_sub, Mx.o_mul, Mx.o_neg, Mx.o_eq, Mx.o_ne, Mx.o_lt, Mx.o_le, Mx.o_gt, Mx.o_ge, Mx.o_isN, Mx.o_notN, Mx.o_idxL, Mx.o_idxT, Mx.o_slToL, Mx.o_lenL, Mx.o_lenT, Mx.o_min2, Mx.o_max2, Mx.o_abs, Mx.o_int, Mx.o_tupL, Mx.o_tupT, Mx.o_listL, Mx.o_listT, Mx.o_isi, Mx.addD_int, Mx.eqD_ii, Mx.old, Mx.o_mod, Mx.o_fdv, Mx.ix0, Mx.ix1, Mx.ix2, q15, encO, isNoD]
theorem q15_some {F : FnSem} {w g : Nat → Int} {n u M a z k : Nat} {wy : Str} {o v : Option Nat} (hv : v = some k) (ha : a < n) (d : D) (s3 s4 s5 s12 s14 s15 s16 s19 s20 s25 s26 : Mx.Slot) (x13 x23 : D)
   (e1 : F 18 [.s .fz (tw w n), .s .fz (.int k), .s .fz (.str wy)] = .ok true (.list (nsD g n)) [.s .fz (tw w n), .s .fz (.int k), .s .fz (.str wy)]) (hz : (z : Int) ≤ g a)
   (e2 : F 19 [.s .fz (tw w n), .s .fz (.int k), .s .fz (.str wy), .s .fz (.int a), .s .fz (.int z)] = .ok false (.bool false) [.s .fz (tw w n), .s .fz (.int k), .s .fz (.str wy), .s .fz (.int a), .s .fz (.int z)]) : evS F q15 [Mx.Slot.s .le d, .s .fz (tw w n), .s .fz (.str wy), s3, s4, s5, .s .fz (encO v), .no, .no, .no, .s .fz (.int (u : Nat)), .s .fz (.list [.str "remainders", .str "down", .str "nearest", .str "up"]), s12, .s .fz x13, s14, s15, s16, .s .fz (.int (M : Nat)), .s .fz (encO o), s19, s20, .s .fz (.int (a : Nat)), .s .fz (.int (z : Nat)), .s .fz x23, .no, s25, s26] = .nx [Mx.Slot.s .le d, .s .fz (tw w n), .s .fz (.str wy), s3, s4, s5, .s .fz (encO v), .no, .no, .no, .s .fz (.int (u : Nat)), .s .fz (.list [.str "remainders", .str "down", .str "nearest", .str "up"]), s12, .s .fz x13, s14, s15, s16, .s .fz (.int (M : Nat)), .s .fz (encO o), s19, s20, .s .fz (.int (a : Nat)), .s .fz (.int (z : Nat)), .s .fz x23, .no, s25, s26] := by
  subst hv
  have i1 := nsD_idx g ha
  have hk : encO (some k) = .int (k : Int) := rfl
  rw [hk]
  generalize encO o = O
  generalize nsD g n = xs at e1 i1
  generalize g a = ga at i1 hz
  generalize tw w n = T at e1 e2 ⊢
  generalize ((u : Nat) : Int) = U
  generalize ((M : Nat) : Int) = MM
  generalize ((k : Nat) : Int) = K at e1 e2 ⊢
  generalize ((a : Nat) : Int) = AA at e2 i1 ⊢
  generalize ((z : Nat) : Int) = ZZ at e2 hz ⊢
  have hz' : ¬ ga < ZZ := by omega
  simp [Mx.runFn, Mx.outsOf, Mx.giveBack, Mx.argK, Mx.evA, Mx.putS, Mx.mutS, Mx.cmpOpt, Mx.ev.eq_1, Mx.ev.eq_2, Mx.ev.eq_3, Mx.ev.eq_4, Mx.ev.eq_5, Mx.ev.eq_6, Mx.ev.eq_7, Mx.ev.eq_8, Mx.ev.eq_9, Mx.ev.eq_10, Mx.ev.eq_11, Mx.ev.eq_12, Mx.ev.eq_13, Mx.ev.eq_14, Mx.ev.eq_16, Mx.ev.eq_19, Mx.ev.eq_20, Mx.ev.eq_21, Mx.ev.eq_22, Mx.ev.eq_23, Mx.ev.eq_24, Mx.ev.eq_25, Mx.evS.eq_1, Mx.evS.eq_2, Mx.evS.eq_3, Mx.evS.eq_4, Mx.evS.eq_5, Mx.evS.eq_6, Mx.evS.eq_7, Mx.evS.eq_8, Mx.evS.eq_9, Mx.evS.eq_10, Mx.evS.eq_11, Mx.evS.eq_12, Mx.evS.eq_13, Mx.evS.eq_14, Mx.evS.eq_17, Mx.evS.eq_18, Mx.evS.eq_19, Mx.evS.eq_20, Mx.o_add, Mx.o_sub, Mx.o_mul, Mx.o_neg, Mx.o_eq, Mx.o_ne, Mx.o_lt, Mx.o_le, Mx.o_gt, Mx.o_ge, Mx.o_isN, Mx.o_notN, Mx.o_idxL, Mx.o_idxT, Mx.o_slToL, Mx.o_lenL, Mx.o_lenT, Mx.o_min2, Mx.o_max2, Mx.o_abs, Mx.o_int, Mx.o_tupL, Mx.o_tupT, Mx.o_listL, Mx.o_listT, Mx.o_isi, Mx.addD_int, Mx.eqD_ii, Mx.old, Mx.o_mod, Mx.o_fdv, Mx.ix0, Mx.ix1, Mx.ix2, q15, isNoD, e1, i1, hz', e2]
theorem q16_none {F : FnSem} {w : Nat → Int} {n u M a z : Nat} {wy : Str} {o v : Option Nat} (hv : v = none) (d : D) (s3 s4 s5 s12 s14 s15 s16 s19 s20 s25 s26 : Mx.Slot) (x13 x23 : D)
   (e2 : F 19 [.s .fz (tw w n), .s .fz (.int 40), .s .fz (.str wy), .s .fz (.int a), .s .fz (.int z)] = .ok false (.bool false) [.s .fz (tw w n), .s .fz (.int 40), .s .fz (.str wy), .s .fz (.int a), .s .fz (.int z)]) : evS F q16 [Mx.Slot.s .le d, .s .fz (tw w n), .s .fz (.str wy), s3, s4, s5, .s .fz (encO v), .no, .no, .no, .s .fz (.int (u : Nat)), .s .fz (.list [.str "remainders", .str "down", .str "nearest", .str "up"]), s12, .s .fz x13, s14, s15, s16, .s .fz (.int (M : Nat)), .s .fz (encO o), s19, s20, .s .fz (.int (a : Nat)), .s .fz (.int (z : Nat)), .s .fz x23, .no, s25, s26] = .nx [Mx.Slot.s .le d, .s .fz (tw w n), .s .fz (.str wy), s3, s4, s5, .s .fz (encO v), .no, .no, .no, .s .fz (.int (u : Nat)), .s .fz (.list [.str "remainders", .str "down", .str "nearest", .str "up"]), s12, .s .fz x13, s14, s15, s16, .s .fz (.int (M : Nat)), .s .fz (encO o), s19, s20, .s .fz (.int (a : Nat)), .s .fz (.int (z : Nat)), .s .fz x23, .no, s25, s26] := by
  subst hv
  generalize encO o = O
  generalize tw w n = T at e2 ⊢
  generalize ((u : Nat) : Int) = U
  generalize ((M : Nat) : Int) = MM
  generalize ((a : Nat) : Int) = AA at e2 ⊢
  generalize ((z : Nat) : Int) = ZZ at e2 ⊢
  simp [Mx.runFn, Mx.outsOf, Mx.giveBack, Mx.argK, Mx.evA, Mx.putS, Mx.mutS, Mx.cmpOpt, Mx.ev.eq_1, Mx.ev.eq_2, Mx.ev.eq_3, Mx.ev.eq_4, Mx.ev.eq_5, Mx.ev.eq_6, Mx.ev.eq_7, Mx.ev.eq_8, Mx.ev.eq_9, Mx.ev.eq_10, Mx.ev.eq_11, Mx.ev.eq_12, Mx.ev.eq_13, Mx.ev.eq_14, Mx.ev.eq_16, Mx.ev.eq_19, Mx.ev.eq_20, Mx.ev.eq_21, Mx.ev.eq_22, Mx.ev.eq_23, Mx.ev.eq_24, Mx.ev.eq_25, Mx.evS.eq_1, Mx.evS.eq_2, Mx.evS.eq_3, Mx.evS.eq_4, Mx.evS.eq_5, Mx.evS.eq_6, Mx.evS.eq_7, Mx.evS.eq_8, Mx.evS.eq_9, Mx.evS.eq_10, Mx.evS.eq_11, Mx.evS.eq_12, Mx.evS.eq_13, Mx.evS.eq_14, Mx.evS.eq_17, Mx.evS.eq_18, Mx.evS.eq_19, Mx.evS.eq_20, Mx.o_add, Mx.o_sub, Mx.o_mul, Mx.o_neg, Mx.o_eq, Mx.o_ne, Mx.o_lt, Mx.o_le, Mx.o_gt, Mx.o_ge, Mx.o_isN, Mx.o_notN, Mx.o_idxL, Mx.o_idxT, Mx.o_slToL, Mx.o_lenL, Mx.o_lenT, Mx.o_min2, Mx.o_max2, Mx.o_abs, Mx.o_int, Mx.o_tupL, Mx.o_tupT, Mx.o_listL, Mx.o_listT, Mx.o_isi, Mx.addD_int, Mx.eqD_ii, Mx.old, Mx.o_mod, Mx.o_fdv, Mx.ix0, Mx.ix1, Mx.ix2, q16, encO, isNoD, e2]
theorem q16_some {F : FnSem} {w : Nat → Int} {n u M a z k : Nat} {wy : Str} {o v : Option Nat} (hv : v = some k) (d : D) (s3 s4 s5 s12 s14 s15 s16 s19 s20 s25 s26 : Mx.Slot) (x13 x23 : D) : evS F q16 [Mx.Slot.s .le d, .s .fz (tw w n), .s .fz (.str wy), s3, s4, s5, .s .fz (encO v), .no, .no, .no, .s .fz (.int (u : Nat)), .s .fz (.list [.str "remainders", .str "down", .str "nearest", .str "up"]), s12, .s .fz x13, s14, s15, s16, .s .fz (.int (M : Nat)), .s .fz (encO o), s19, s20, .s .fz (.int (a : Nat)), .s .fz (.int (z : Nat)), .s .fz x23, .no, s25, s26] = .nx [Mx.Slot.s .le d, .s .fz (tw w n), .s .fz (.str wy), s3, s4, s5, .s .fz (encO v), .no, .no, .no, .s .fz (.int (u : Nat)), .s .fz (.list [.str "remainders", .str "down", .str "nearest", .str "up"]), s12, .s .fz x13, s14, s15, s16, .s .fz (.int (M : Nat)), .s .fz (encO o), s19, s20, .s .fz (.int (a : Nat)), .s .fz (.int (z : Nat)), .s .fz x23, .no, s25, s26] := by
  subst hv
  generalize encO o = O
  generalize hB : encO (some k) = B
  have hb : isNoD B = false := by rw [← hB]; rfl
  generalize tw w n = T
  generalize ((u : Nat) : Int) = U
  generalize ((M : Nat) : Int) = MM
  generalize ((a : Nat) : Int) = AA
  generalize ((z : Nat) : Int) = ZZ
  simp [Mx.runFn, Mx.outsOf, Mx.giveBack, Mx.argK, Mx.evA, Mx.putS, Mx.mutS, Mx.cmpOpt, Mx.ev.eq_1, Mx.ev.eq_2, Mx.ev.eq_3, Mx.ev.eq_4, Mx.ev.eq_5, Mx.ev.eq_6, Mx.ev.eq_7, Mx.ev.eq_8, Mx.ev.eq_9, Mx.ev.eq_10, Mx.ev.eq_11, Mx.ev.eq_12, Mx.ev.eq_13, Mx.ev.eq_14, Mx.ev.eq_16, Mx.ev.eq_19, Mx.ev.eq_20, Mx.ev.eq_21, Mx.ev.eq_22, Mx.ev.eq_23, Mx.ev.eq_24, Mx.ev.eq_25, Mx.evS.eq_1, Mx.evS.eq_2, Mx.evS.eq_3, Mx.evS.eq_4, Mx.evS.eq_5, Mx.evS.eq_6, Mx.evS.eq_7, Mx.evS.eq_8, Mx.evS.eq_9, Mx.evS.eq_10, Mx.evS.eq_11, Mx.evS.eq_12, Mx.evS.eq_13, Mx.evS.eq_14, Mx.evS.eq_17, Mx.evS.eq_18, Mx.evS.eq_19, Mx.evS.eq_20, Mx.o_add, Mx.o_sub, Mx.o_mul, Mx.o_neg, Mx.o_eq, Mx.o_ne, Mx.o_lt, Mx.o_le, Mx.o_gt, Mx.o_ge, Mx.o_isN, Mx.o_notN, Mx.o_idxL, Mx.o_idxT, Mx.o_slToL, Mx.o_lenL, Mx.o_lenT, Mx.o_min2, Mx.o_max2, Mx.o_abs, Mx.o_int, Mx.o_tupL, Mx.o_tupT, Mx.o_listL, Mx.o_listT, Mx.o_isi, Mx.addD_int, Mx.eqD_ii, Mx.old, Mx.o_mod, Mx.o_fdv, Mx.ix0, Mx.ix1, Mx.ix2, q16, hb]
def bads : List D := [.none, .tuple [], .list [.int 1], .tuple [.int 0], .tuple [.int 100001], .tuple (repD [.int 1] 9), .tuple [.bool true]]
theorem mulD_9 : mulD (.tuple [.int 1]) (.int 9) = some (false, .tuple (repD [.int 1] 9)) := rfl

theorem q17_ok (m : Nat) {d : D} {k : Int} (h : Dice d k) (hk : k < 1000) (w : Nat → Int) (n : Nat) (y : Wy) (s10 : Mx.Slot) (s3 s4 s5 s6 s11 s12 s13 s14 s15 s16 s17 s18 s19 s20 s21 s22 s23 s24 s25 s26 : Mx.Slot) : ∃ x7 ∈ bads, ∃ d', Dice d' (k + 1) ∧ evS (sem (fnsOf defs) (m + 2)) q17 [Mx.Slot.s .le d, .s .fz (tw w n), .s .fz (.str (wyS y)), s3, s4, s5, s6, .no, .no, .no, s10, s11, s12, s13, s14, s15, s16, s17, s18, s19, s20, s21, s22, s23, s24, s25, s26] = .nx [Mx.Slot.s .le d', .s .fz (tw w n), .s .fz (.str (wyS y)), s3, s4, s5, s6, .s .fz (x7), .no, .no, s10, s11, s12, s13, s14, s15, s16, s17, s18, s19, s20, s21, s22, s23, s24, s25, s26] := by
  obtain ⟨x, hx, d1, hd, e⟩ := pick m bads h (by omega) (by simp [bads]) (by simp [bads])
  refine ⟨x, hx, d1, hd, ?_⟩
  unfold bads at e
  generalize sem (fnsOf defs) (m + 2) = F at e ⊢
  generalize wyS y = wy
  generalize tw w n = W
  simp [Mx.runFn, Mx.outsOf, Mx.giveBack, Mx.argK, Mx.evA, Mx.putS, Mx.mutS, Mx.cmpOpt, Mx.ev.eq_1, Mx.ev.eq_2, Mx.ev.eq_3, Mx.ev.eq_4, Mx.ev.eq_5, Mx.ev.eq_6, Mx.ev.eq_7, Mx.ev.eq_8, Mx.ev.eq_9, Mx.ev.eq_10, Mx.ev.eq_11, Mx.ev.eq_12, Mx.ev.eq_13, Mx.ev.eq_14, Mx.ev.eq_16, Mx.ev.eq_19, Mx.ev.eq_20, Mx.ev.eq_21, Mx.ev.eq_22, Mx.ev.eq_23, Mx.ev.eq_24, Mx.ev.eq_25, Mx.evS.eq_1, Mx.evS.eq_2, Mx.evS.eq_3, Mx.evS.eq_4, Mx.evS.eq_5, Mx.evS.eq_6, Mx.evS.eq_7, Mx.evS.eq_8, Mx.evS.eq_9, Mx.evS.eq_10, Mx.evS.eq_11, Mx.evS.eq_12, Mx.evS.eq_13, Mx.evS.eq_14, Mx.evS.eq_17, Mx.evS.eq_18, Mx.evS.eq_19, Mx.evS.eq_20, Mx.o_add, Mx.o_sub, Mx.o_mul, Mx.o_neg, Mx.o_eq, Mx.o_ne, Mx.o_lt, Mx.o_le, Mx.o_gt, Mx.o_ge, Mx.o_isN, Mx.o_notN, Mx.o_idxL, Mx.o_idxT, Mx.o_slToL, Mx.o_lenL, Mx.o_lenT, Mx.o_min2, Mx.o_max2, Mx.o_abs, Mx.o_int, Mx.o_tupL, Mx.o_tupT, Mx.o_listL, Mx.o_listT, Mx.o_isi, Mx.addD_int, Mx.eqD_ii, Mx.old, Mx.o_mod, Mx.o_fdv, Mx.ix0, Mx.ix1, Mx.ix2, q17, e, mulD_9]
theorem weights_bad (m : Nat) (x : D) (h : x ∈ bads) : sem (fnsOf defs) (m + 2) 2 [.s .fz x] = .ok false (.bool false) [.s .fz x] := by
  have h0 : ∀ z : Int, sem (fnsOf defs) (m + 1) 0 [.s .fz (.int z)] = .ok false (.bool true) [.s .fz (.int z)] := fun z => e0_int m z .fz
  have h1 : ∀ b : Bool, sem (fnsOf defs) (m + 1) 0 [.s .fz (.bool b)] = .ok false (.bool false) [.s .fz (.bool b)] := fun b => e0_bool m b
  rw [sem_succ, f2]
  generalize sem (fnsOf defs) (m + 1) = F at h0 h1 ⊢
  simp only [bads, List.mem_cons, List.not_mem_nil, or_false] at h
  rcases h with rfl | rfl | rfl | rfl | rfl | rfl | rfl
  · simp [Mx.runFn, Mx.outsOf, Mx.giveBack, Mx.argK, Mx.evA, Mx.putS, Mx.mutS, Mx.cmpOpt, Mx.ev.eq_1, Mx.ev.eq_2, Mx.ev.eq_3, Mx.ev.eq_4, Mx.ev.eq_5, Mx.ev.eq_6, Mx.ev.eq_7, Mx.ev.eq_8, Mx.ev.eq_9, Mx.ev.eq_10, Mx.ev.eq_11, Mx.ev.eq_12, Mx.ev.eq_13, Mx.ev.eq_14, Mx.ev.eq_16, Mx.ev.eq_19, Mx.ev.eq_20, Mx.ev.eq_21, Mx.ev.eq_22, Mx.ev.eq_23, Mx.ev.eq_24, Mx.ev.eq_25, Mx.evS.eq_1, Mx.evS.eq_2, Mx.evS.eq_3, Mx.evS.eq_4, Mx.evS.eq_5, Mx.evS.eq_6, Mx.evS.eq_7, Mx.evS.eq_8, Mx.evS.eq_9, Mx.evS.eq_10, Mx.evS.eq_11, Mx.evS.eq_12, Mx.evS.eq_13, Mx.evS.eq_14, Mx.evS.eq_17, Mx.evS.eq_18, Mx.evS.eq_19, Mx.evS.eq_20, Mx.o_add, Mx.o_sub, Mx.o_mul, Mx.o_neg, Mx.o_eq, Mx.o_ne, Mx.o_lt, Mx.o_le, Mx.o_gt, Mx.o_ge, Mx.o_isN, Mx.o_notN, Mx.o_idxL, Mx.o_idxT, Mx.o_slToL, Mx.o_lenL, Mx.o_lenT, Mx.o_min2, Mx.o_max2, Mx.o_abs, Mx.o_int, Mx.o_tupL, Mx.o_tupT, Mx.o_listL, Mx.o_listT, Mx.o_isi, Mx.addD_int, Mx.eqD_ii, Mx.old, Mx.o_mod, Mx.o_fdv, Mx.ix0, Mx.ix1, Mx.ix2, c_are_weights, isiD]
  · simp [Mx.runFn, Mx.outsOf, Mx.giveBack, Mx.argK, Mx.evA, Mx.putS, Mx.mutS, Mx.cmpOpt, Mx.ev.eq_1, Mx.ev.eq_2, Mx.ev.eq_3, Mx.ev.eq_4, Mx.ev.eq_5, Mx.ev.eq_6, Mx.ev.eq_7, Mx.ev.eq_8, Mx.ev.eq_9, Mx.ev.eq_10, Mx.ev.eq_11, Mx.ev.eq_12, Mx.ev.eq_13, Mx.ev.eq_14, Mx.ev.eq_16, Mx.ev.eq_19, Mx.ev.eq_20, Mx.ev.eq_21, Mx.ev.eq_22, Mx.ev.eq_23, Mx.ev.eq_24, Mx.ev.eq_25, Mx.evS.eq_1, Mx.evS.eq_2, Mx.evS.eq_3, Mx.evS.eq_4, Mx.evS.eq_5, Mx.evS.eq_6, Mx.evS.eq_7, Mx.evS.eq_8, Mx.evS.eq_9, Mx.evS.eq_10, Mx.evS.eq_11, Mx.evS.eq_12, Mx.evS.eq_13, Mx.evS.eq_14, Mx.evS.eq_17, Mx.evS.eq_18, Mx.evS.eq_19, Mx.evS.eq_20, Mx.o_add, Mx.o_sub, Mx.o_mul, Mx.o_neg, Mx.o_eq, Mx.o_ne, Mx.o_lt, Mx.o_le, Mx.o_gt, Mx.o_ge, Mx.o_isN, Mx.o_notN, Mx.o_idxL, Mx.o_idxT, Mx.o_slToL, Mx.o_lenL, Mx.o_lenT, Mx.o_min2, Mx.o_max2, Mx.o_abs, Mx.o_int, Mx.o_tupL, Mx.o_tupT, Mx.o_listL, Mx.o_listT, Mx.o_isi, Mx.addD_int, Mx.eqD_ii, Mx.old, Mx.o_mod, Mx.o_fdv, Mx.ix0, Mx.ix1, Mx.ix2, c_are_weights, isiD]
  · simp [Mx.runFn, Mx.outsOf, Mx.giveBack, Mx.argK, Mx.evA, Mx.putS, Mx.mutS, Mx.cmpOpt, Mx.ev.eq_1, Mx.ev.eq_2, Mx.ev.eq_3, Mx.ev.eq_4, Mx.ev.eq_5, Mx.ev.eq_6, Mx.ev.eq_7, Mx.ev.eq_8, Mx.ev.eq_9, Mx.ev.eq_10, Mx.ev.eq_11, Mx.ev.eq_12, Mx.ev.eq_13, Mx.ev.eq_14, Mx.ev.eq_16, Mx.ev.eq_19, Mx.ev.eq_20, Mx.ev.eq_21, Mx.ev.eq_22, Mx.ev.eq_23, Mx.ev.eq_24, Mx.ev.eq_25, Mx.evS.eq_1, Mx.evS.eq_2, Mx.evS.eq_3, Mx.evS.eq_4, Mx.evS.eq_5, Mx.evS.eq_6, Mx.evS.eq_7, Mx.evS.eq_8, Mx.evS.eq_9, Mx.evS.eq_10, Mx.evS.eq_11, Mx.evS.eq_12, Mx.evS.eq_13, Mx.evS.eq_14, Mx.evS.eq_17, Mx.evS.eq_18, Mx.evS.eq_19, Mx.evS.eq_20, Mx.o_add, Mx.o_sub, Mx.o_mul, Mx.o_neg, Mx.o_eq, Mx.o_ne, Mx.o_lt, Mx.o_le, Mx.o_gt, Mx.o_ge, Mx.o_isN, Mx.o_notN, Mx.o_idxL, Mx.o_idxT, Mx.o_slToL, Mx.o_lenL, Mx.o_lenT, Mx.o_min2, Mx.o_max2, Mx.o_abs, Mx.o_int, Mx.o_tupL, Mx.o_tupT, Mx.o_listL, Mx.o_listT, Mx.o_isi, Mx.addD_int, Mx.eqD_ii, Mx.old, Mx.o_mod, Mx.o_fdv, Mx.ix0, Mx.ix1, Mx.ix2, c_are_weights, isiD]
  · simp [Mx.runFn, Mx.outsOf, Mx.giveBack, Mx.argK, Mx.evA, Mx.putS, Mx.mutS, Mx.cmpOpt, Mx.ev.eq_1, Mx.ev.eq_2, Mx.ev.eq_3, Mx.ev.eq_4, Mx.ev.eq_5, Mx.ev.eq_6, Mx.ev.eq_7, Mx.ev.eq_8, Mx.ev.eq_9, Mx.ev.eq_10, Mx.ev.eq_11, Mx.ev.eq_12, Mx.ev.eq_13, Mx.ev.eq_14, Mx.ev.eq_16, Mx.ev.eq_19, Mx.ev.eq_20, Mx.ev.eq_21, Mx.ev.eq_22, Mx.ev.eq_23, Mx.ev.eq_24, Mx.ev.eq_25, Mx.evS.eq_1, Mx.evS.eq_2, Mx.evS.eq_3, Mx.evS.eq_4, Mx.evS.eq_5, Mx.evS.eq_6, Mx.evS.eq_7, Mx.evS.eq_8, Mx.evS.eq_9, Mx.evS.eq_10, Mx.evS.eq_11, Mx.evS.eq_12, Mx.evS.eq_13, Mx.evS.eq_14, Mx.evS.eq_17, Mx.evS.eq_18, Mx.evS.eq_19, Mx.evS.eq_20, Mx.o_add, Mx.o_sub, Mx.o_mul, Mx.o_neg, Mx.o_eq, Mx.o_ne, Mx.o_lt, Mx.o_le, Mx.o_gt, Mx.o_ge, Mx.o_isN, Mx.o_notN, Mx.o_idxL, Mx.o_idxT, Mx.o_slToL, Mx.o_lenL, Mx.o_lenT, Mx.o_min2, Mx.o_max2, Mx.o_abs, Mx.o_int, Mx.o_tupL, Mx.o_tupT, Mx.o_listL, Mx.o_listT, Mx.o_isi, Mx.addD_int, Mx.eqD_ii, Mx.old, Mx.o_mod, Mx.o_fdv, Mx.ix0, Mx.ix1, Mx.ix2, c_are_weights, isiD, ev.eq_18, seqOf, allGL, ownOk, wipeR, bindT, lockR, unlockR, backR, h0]
  · simp [Mx.runFn, Mx.outsOf, Mx.giveBack, Mx.argK, Mx.evA, Mx.putS, Mx.mutS, Mx.cmpOpt, Mx.ev.eq_1, Mx.ev.eq_2, Mx.ev.eq_3, Mx.ev.eq_4, Mx.ev.eq_5, Mx.ev.eq_6, Mx.ev.eq_7, Mx.ev.eq_8, Mx.ev.eq_9, Mx.ev.eq_10, Mx.ev.eq_11, Mx.ev.eq_12, Mx.ev.eq_13, Mx.ev.eq_14, Mx.ev.eq_16, Mx.ev.eq_19, Mx.ev.eq_20, Mx.ev.eq_21, Mx.ev.eq_22, Mx.ev.eq_23, Mx.ev.eq_24, Mx.ev.eq_25, Mx.evS.eq_1, Mx.evS.eq_2, Mx.evS.eq_3, Mx.evS.eq_4, Mx.evS.eq_5, Mx.evS.eq_6, Mx.evS.eq_7, Mx.evS.eq_8, Mx.evS.eq_9, Mx.evS.eq_10, Mx.evS.eq_11, Mx.evS.eq_12, Mx.evS.eq_13, Mx.evS.eq_14, Mx.evS.eq_17, Mx.evS.eq_18, Mx.evS.eq_19, Mx.evS.eq_20, Mx.o_add, Mx.o_sub, Mx.o_mul, Mx.o_neg, Mx.o_eq, Mx.o_ne, Mx.o_lt, Mx.o_le, Mx.o_gt, Mx.o_ge, Mx.o_isN, Mx.o_notN, Mx.o_idxL, Mx.o_idxT, Mx.o_slToL, Mx.o_lenL, Mx.o_lenT, Mx.o_min2, Mx.o_max2, Mx.o_abs, Mx.o_int, Mx.o_tupL, Mx.o_tupT, Mx.o_listL, Mx.o_listT, Mx.o_isi, Mx.addD_int, Mx.eqD_ii, Mx.old, Mx.o_mod, Mx.o_fdv, Mx.ix0, Mx.ix1, Mx.ix2, c_are_weights, isiD, ev.eq_18, seqOf, allGL, ownOk, wipeR, bindT, lockR, unlockR, backR, h0]
  · simp [Mx.runFn, Mx.outsOf, Mx.giveBack, Mx.argK, Mx.evA, Mx.putS, Mx.mutS, Mx.cmpOpt, Mx.ev.eq_1, Mx.ev.eq_2, Mx.ev.eq_3, Mx.ev.eq_4, Mx.ev.eq_5, Mx.ev.eq_6, Mx.ev.eq_7, Mx.ev.eq_8, Mx.ev.eq_9, Mx.ev.eq_10, Mx.ev.eq_11, Mx.ev.eq_12, Mx.ev.eq_13, Mx.ev.eq_14, Mx.ev.eq_16, Mx.ev.eq_19, Mx.ev.eq_20, Mx.ev.eq_21, Mx.ev.eq_22, Mx.ev.eq_23, Mx.ev.eq_24, Mx.ev.eq_25, Mx.evS.eq_1, Mx.evS.eq_2, Mx.evS.eq_3, Mx.evS.eq_4, Mx.evS.eq_5, Mx.evS.eq_6, Mx.evS.eq_7, Mx.evS.eq_8, Mx.evS.eq_9, Mx.evS.eq_10, Mx.evS.eq_11, Mx.evS.eq_12, Mx.evS.eq_13, Mx.evS.eq_14, Mx.evS.eq_17, Mx.evS.eq_18, Mx.evS.eq_19, Mx.evS.eq_20, Mx.o_add, Mx.o_sub, Mx.o_mul, Mx.o_neg, Mx.o_eq, Mx.o_ne, Mx.o_lt, Mx.o_le, Mx.o_gt, Mx.o_ge, Mx.o_isN, Mx.o_notN, Mx.o_idxL, Mx.o_idxT, Mx.o_slToL, Mx.o_lenL, Mx.o_lenT, Mx.o_min2, Mx.o_max2, Mx.o_abs, Mx.o_int, Mx.o_tupL, Mx.o_tupT, Mx.o_listL, Mx.o_listT, Mx.o_isi, Mx.addD_int, Mx.eqD_ii, Mx.old, Mx.o_mod, Mx.o_fdv, Mx.ix0, Mx.ix1, Mx.ix2, c_are_weights, isiD, repD]
  · simp [Mx.runFn, Mx.outsOf, Mx.giveBack, Mx.argK, Mx.evA, Mx.putS, Mx.mutS, Mx.cmpOpt, Mx.ev.eq_1, Mx.ev.eq_2, Mx.ev.eq_3, Mx.ev.eq_4, Mx.ev.eq_5, Mx.ev.eq_6, Mx.ev.eq_7, Mx.ev.eq_8, Mx.ev.eq_9, Mx.ev.eq_10, Mx.ev.eq_11, Mx.ev.eq_12, Mx.ev.eq_13, Mx.ev.eq_14, Mx.ev.eq_16, Mx.ev.eq_19, Mx.ev.eq_20, Mx.ev.eq_21, Mx.ev.eq_22, Mx.ev.eq_23, Mx.ev.eq_24, Mx.ev.eq_25, Mx.evS.eq_1, Mx.evS.eq_2, Mx.evS.eq_3, Mx.evS.eq_4, Mx.evS.eq_5, Mx.evS.eq_6, Mx.evS.eq_7, Mx.evS.eq_8, Mx.evS.eq_9, Mx.evS.eq_10, Mx.evS.eq_11, Mx.evS.eq_12, Mx.evS.eq_13, Mx.evS.eq_14, Mx.evS.eq_17, Mx.evS.eq_18, Mx.evS.eq_19, Mx.evS.eq_20, Mx.o_add, Mx.o_sub, Mx.o_mul, Mx.o_neg, Mx.o_eq, Mx.o_ne, Mx.o_lt, Mx.o_le, Mx.o_gt, Mx.o_ge, Mx.o_isN, Mx.o_notN, Mx.o_idxL, Mx.o_idxT, Mx.o_slToL, Mx.o_lenL, Mx.o_lenT, Mx.o_min2, Mx.o_max2, Mx.o_abs, Mx.o_int, Mx.o_tupL, Mx.o_tupT, Mx.o_listL, Mx.o_listT, Mx.o_isi, Mx.addD_int, Mx.eqD_ii, Mx.old, Mx.o_mod, Mx.o_fdv, Mx.ix0, Mx.ix1, Mx.ix2, c_are_weights, isiD, ev.eq_18, seqOf, allGL, ownOk, wipeR, bindT, lockR, unlockR, backR, h1]
end K02
end

section
set_option maxRecDepth 100000
set_option linter.all false
set_option maxHeartbeats 2000000
namespace K02
open Mx PySem L2
open K02P (Wy half updf S quo rmd shR rank dv pos step better bst prs srt)
open K00P (psum IsFirst)

theorem e0_none (m : Nat) : sem (fnsOf defs) (m + 1) 0 [.s .fz .none] = .ok false (.bool false) [.s .fz .none] := by
  rw [sem_succ, f0]
  simp [Mx.runFn, Mx.outsOf, Mx.giveBack, Mx.argK, Mx.evA, Mx.putS, Mx.mutS, Mx.cmpOpt, Mx.ev.eq_1, Mx.ev.eq_2, Mx.ev.eq_3, Mx.ev.eq_4, Mx.ev.eq_5, Mx.ev.eq_6, Mx.ev.eq_7, Mx.ev.eq_8, Mx.ev.eq_9, Mx.ev.eq_10, Mx.ev.eq_11, Mx.ev.eq_12, Mx.ev.eq_13, Mx.ev.eq_14, Mx.ev.eq_16, Mx.ev.eq_19, Mx.ev.eq_20, Mx.ev.eq_21, Mx.ev.eq_22, Mx.ev.eq_23, Mx.ev.eq_24, Mx.ev.eq_25, Mx.evS.eq_1, Mx.evS.eq_2, Mx.evS.eq_3, Mx.evS.eq_4, Mx.evS.eq_5, Mx.evS.eq_6, Mx.evS.eq_7, Mx.evS.eq_8, Mx.evS.eq_9, Mx.evS.eq_10, Mx.evS.eq_11, Mx.evS.eq_12, Mx.evS.eq_13, Mx.evS.eq_14, Mx.evS.eq_17, Mx.evS.eq_18, Mx.evS.eq_19, Mx.evS.eq_20, Mx.o_add, Mx.o_sub, Mx.o_mul, Mx.o_neg, Mx.o_eq, Mx.o_ne, Mx.o_lt, Mx.o_le, Mx.o_gt, Mx.o_ge, Mx.o_isN, Mx.o_notN, Mx.o_idxL, Mx.o_idxT, Mx.o_slToL, Mx.o_lenL, Mx.o_lenT, Mx.o_min2, Mx.o_max2, Mx.o_abs, Mx.o_int, Mx.o_tupL, Mx.o_tupT, Mx.o_listL, Mx.o_listT, Mx.o_isi, Mx.addD_int, Mx.eqD_ii, Mx.old, Mx.o_mod, Mx.o_fdv, Mx.ix0, Mx.ix1, Mx.ix2, c_is_integer, isiD]
theorem e1_none (m : Nat) (nm : Str) (hn : nm.length ≤ 1000) (lo hi : D) : sem (fnsOf defs) (m + 2) 1 [.s .fz .none, .s .fz (.str nm), .s .fz lo, .s .fz hi] = .exc (.bad nm) := by
  have e := e0_none m
  rw [sem_succ, f1]
  generalize sem (fnsOf defs) (m + 1) = F at e ⊢
  simp [Mx.runFn, Mx.outsOf, Mx.giveBack, Mx.argK, Mx.evA, Mx.putS, Mx.mutS, Mx.cmpOpt, Mx.ev.eq_1, Mx.ev.eq_2, Mx.ev.eq_3, Mx.ev.eq_4, Mx.ev.eq_5, Mx.ev.eq_6, Mx.ev.eq_7, Mx.ev.eq_8, Mx.ev.eq_9, Mx.ev.eq_10, Mx.ev.eq_11, Mx.ev.eq_12, Mx.ev.eq_13, Mx.ev.eq_14, Mx.ev.eq_16, Mx.ev.eq_19, Mx.ev.eq_20, Mx.ev.eq_21, Mx.ev.eq_22, Mx.ev.eq_23, Mx.ev.eq_24, Mx.ev.eq_25, Mx.evS.eq_1, Mx.evS.eq_2, Mx.evS.eq_3, Mx.evS.eq_4, Mx.evS.eq_5, Mx.evS.eq_6, Mx.evS.eq_7, Mx.evS.eq_8, Mx.evS.eq_9, Mx.evS.eq_10, Mx.evS.eq_11, Mx.evS.eq_12, Mx.evS.eq_13, Mx.evS.eq_14, Mx.evS.eq_17, Mx.evS.eq_18, Mx.evS.eq_19, Mx.evS.eq_20, Mx.o_add, Mx.o_sub, Mx.o_mul, Mx.o_neg, Mx.o_eq, Mx.o_ne, Mx.o_lt, Mx.o_le, Mx.o_gt, Mx.o_ge, Mx.o_isN, Mx.o_notN, Mx.o_idxL, Mx.o_idxT, Mx.o_slToL, Mx.o_lenL, Mx.o_lenT, Mx.o_min2, Mx.o_max2, Mx.o_abs, Mx.o_int, Mx.o_tupL, Mx.o_tupT, Mx.o_listL, Mx.o_listT, Mx.o_isi, Mx.addD_int, Mx.eqD_ii, Mx.old, Mx.o_mod, Mx.o_fdv, Mx.ix0, Mx.ix1, Mx.ix2, c_need_integer, e, hn]
theorem n_weights (m : Nat) {x a b : D} (h : x ∈ bads) : sem (fnsOf defs) (m + 3) 3 [.s .fz x, .s .fz a, .s .fz b] = .exc (.bad "weights") := by
  have hn : ("weights" : Str).length ≤ 1000 := by decide
  have e := weights_bad m x h
  rw [sem_succ, f3]
  generalize sem (fnsOf defs) (m + 2) = F at e ⊢
  generalize hz : ("weights" : Str) = z at hn ⊢
  simp [Mx.runFn, Mx.outsOf, Mx.giveBack, Mx.argK, Mx.evA, Mx.putS, Mx.mutS, Mx.cmpOpt, Mx.ev.eq_1, Mx.ev.eq_2, Mx.ev.eq_3, Mx.ev.eq_4, Mx.ev.eq_5, Mx.ev.eq_6, Mx.ev.eq_7, Mx.ev.eq_8, Mx.ev.eq_9, Mx.ev.eq_10, Mx.ev.eq_11, Mx.ev.eq_12, Mx.ev.eq_13, Mx.ev.eq_14, Mx.ev.eq_16, Mx.ev.eq_19, Mx.ev.eq_20, Mx.ev.eq_21, Mx.ev.eq_22, Mx.ev.eq_23, Mx.ev.eq_24, Mx.ev.eq_25, Mx.evS.eq_1, Mx.evS.eq_2, Mx.evS.eq_3, Mx.evS.eq_4, Mx.evS.eq_5, Mx.evS.eq_6, Mx.evS.eq_7, Mx.evS.eq_8, Mx.evS.eq_9, Mx.evS.eq_10, Mx.evS.eq_11, Mx.evS.eq_12, Mx.evS.eq_13, Mx.evS.eq_14, Mx.evS.eq_17, Mx.evS.eq_18, Mx.evS.eq_19, Mx.evS.eq_20, Mx.o_add, Mx.o_sub, Mx.o_mul, Mx.o_neg, Mx.o_eq, Mx.o_ne, Mx.o_lt, Mx.o_le, Mx.o_gt, Mx.o_ge, Mx.o_isN, Mx.o_notN, Mx.o_idxL, Mx.o_idxT, Mx.o_slToL, Mx.o_lenL, Mx.o_lenT, Mx.o_min2, Mx.o_max2, Mx.o_abs, Mx.o_int, Mx.o_tupL, Mx.o_tupT, Mx.o_listL, Mx.o_listT, Mx.o_isi, Mx.addD_int, Mx.eqD_ii, Mx.old, Mx.o_mod, Mx.o_fdv, Mx.ix0, Mx.ix1, Mx.ix2, c_need_share, e, hz, hn]
theorem n_units (m : Nat) {w : Nat → Int} {n : Nat} (hw : OkW w n) {a b : D} (h : sem (fnsOf defs) (m + 2) 1 [.s .fz a, .s .fz (.str "units"), .s .fz (.int 0), .s .fz (.int 500)] = .exc (.bad "units")) : sem (fnsOf defs) (m + 3) 3 [.s .fz (tw w n), .s .fz a, .s .fz b] = .exc (.bad "units") := by
  have e := weights_ok m hw
  rw [sem_succ, f3]
  generalize sem (fnsOf defs) (m + 2) = F at e h ⊢
  generalize tw w n = T at e ⊢
  simp [Mx.runFn, Mx.outsOf, Mx.giveBack, Mx.argK, Mx.evA, Mx.putS, Mx.mutS, Mx.cmpOpt, Mx.ev.eq_1, Mx.ev.eq_2, Mx.ev.eq_3, Mx.ev.eq_4, Mx.ev.eq_5, Mx.ev.eq_6, Mx.ev.eq_7, Mx.ev.eq_8, Mx.ev.eq_9, Mx.ev.eq_10, Mx.ev.eq_11, Mx.ev.eq_12, Mx.ev.eq_13, Mx.ev.eq_14, Mx.ev.eq_16, Mx.ev.eq_19, Mx.ev.eq_20, Mx.ev.eq_21, Mx.ev.eq_22, Mx.ev.eq_23, Mx.ev.eq_24, Mx.ev.eq_25, Mx.evS.eq_1, Mx.evS.eq_2, Mx.evS.eq_3, Mx.evS.eq_4, Mx.evS.eq_5, Mx.evS.eq_6, Mx.evS.eq_7, Mx.evS.eq_8, Mx.evS.eq_9, Mx.evS.eq_10, Mx.evS.eq_11, Mx.evS.eq_12, Mx.evS.eq_13, Mx.evS.eq_14, Mx.evS.eq_17, Mx.evS.eq_18, Mx.evS.eq_19, Mx.evS.eq_20, Mx.o_add, Mx.o_sub, Mx.o_mul, Mx.o_neg, Mx.o_eq, Mx.o_ne, Mx.o_lt, Mx.o_le, Mx.o_gt, Mx.o_ge, Mx.o_isN, Mx.o_notN, Mx.o_idxL, Mx.o_idxT, Mx.o_slToL, Mx.o_lenL, Mx.o_lenT, Mx.o_min2, Mx.o_max2, Mx.o_abs, Mx.o_int, Mx.o_tupL, Mx.o_tupT, Mx.o_listL, Mx.o_listT, Mx.o_isi, Mx.addD_int, Mx.eqD_ii, Mx.old, Mx.o_mod, Mx.o_fdv, Mx.ix0, Mx.ix1, Mx.ix2, c_need_share, e, h]
theorem n_way (m : Nat) {w : Nat → Int} {n : Nat} (hw : OkW w n) : sem (fnsOf defs) (m + 3) 3 [.s .fz (tw w n), .s .fz (.int 1), .s .fz (.str "Up")] = .exc (.bad "way") := by
  have e := weights_ok m hw
  have e2 : sem (fnsOf defs) (m + 2) 1 _ = _ := units_ok m (b := 1) (by omega) (by omega)
  have hn : ("way" : Str).length ≤ 1000 := by decide
  have q : opD .nin [.str "Up", .tuple [.str "remainders", .str "down", .str "nearest", .str "up"]] = some (false, .bool true) := by
    have : inD (.str "Up") [.str "remainders", .str "down", .str "nearest", .str "up"] = some false := by decide +kernel
    show cmpOpt ((inD _ _).map (!·)) = _
    rw [this]; rfl
  rw [sem_succ, f3]
  generalize sem (fnsOf defs) (m + 2) = F at e e2 ⊢
  generalize tw w n = T at e ⊢
  simp [Mx.runFn, Mx.outsOf, Mx.giveBack, Mx.argK, Mx.evA, Mx.putS, Mx.mutS, Mx.cmpOpt, Mx.ev.eq_1, Mx.ev.eq_2, Mx.ev.eq_3, Mx.ev.eq_4, Mx.ev.eq_5, Mx.ev.eq_6, Mx.ev.eq_7, Mx.ev.eq_8, Mx.ev.eq_9, Mx.ev.eq_10, Mx.ev.eq_11, Mx.ev.eq_12, Mx.ev.eq_13, Mx.ev.eq_14, Mx.ev.eq_16, Mx.ev.eq_19, Mx.ev.eq_20, Mx.ev.eq_21, Mx.ev.eq_22, Mx.ev.eq_23, Mx.ev.eq_24, Mx.ev.eq_25, Mx.evS.eq_1, Mx.evS.eq_2, Mx.evS.eq_3, Mx.evS.eq_4, Mx.evS.eq_5, Mx.evS.eq_6, Mx.evS.eq_7, Mx.evS.eq_8, Mx.evS.eq_9, Mx.evS.eq_10, Mx.evS.eq_11, Mx.evS.eq_12, Mx.evS.eq_13, Mx.evS.eq_14, Mx.evS.eq_17, Mx.evS.eq_18, Mx.evS.eq_19, Mx.evS.eq_20, Mx.o_add, Mx.o_sub, Mx.o_mul, Mx.o_neg, Mx.o_eq, Mx.o_ne, Mx.o_lt, Mx.o_le, Mx.o_gt, Mx.o_ge, Mx.o_isN, Mx.o_notN, Mx.o_idxL, Mx.o_idxT, Mx.o_slToL, Mx.o_lenL, Mx.o_lenT, Mx.o_min2, Mx.o_max2, Mx.o_abs, Mx.o_int, Mx.o_tupL, Mx.o_tupT, Mx.o_listL, Mx.o_listT, Mx.o_isi, Mx.addD_int, Mx.eqD_ii, Mx.old, Mx.o_mod, Mx.o_fdv, Mx.ix0, Mx.ix1, Mx.ix2, c_need_share, e, e2, q, hn]
section
variable (m : Nat) {w : Nat → Int} {n : Nat} {x a b : D}
theorem rf_share {z : Str} (e : sem (fnsOf defs) (m + 3) 3 [.s .fz x, .s .fz a, .s .fz b] = .exc (.bad z)) : sem (fnsOf defs) (m + 4) 8 [.s .fz x, .s .fz a, .s .fz b] = .exc (.bad z) := by
  rw [sem_succ, f8]
  generalize sem (fnsOf defs) (m + 3) = F at e ⊢
  simp [Mx.runFn, Mx.outsOf, Mx.giveBack, Mx.argK, Mx.evA, Mx.putS, Mx.mutS, Mx.cmpOpt, Mx.ev.eq_1, Mx.ev.eq_2, Mx.ev.eq_3, Mx.ev.eq_4, Mx.ev.eq_5, Mx.ev.eq_6, Mx.ev.eq_7, Mx.ev.eq_8, Mx.ev.eq_9, Mx.ev.eq_10, Mx.ev.eq_11, Mx.ev.eq_12, Mx.ev.eq_13, Mx.ev.eq_14, Mx.ev.eq_16, Mx.ev.eq_19, Mx.ev.eq_20, Mx.ev.eq_21, Mx.ev.eq_22, Mx.ev.eq_23, Mx.ev.eq_24, Mx.ev.eq_25, Mx.evS.eq_1, Mx.evS.eq_2, Mx.evS.eq_3, Mx.evS.eq_4, Mx.evS.eq_5, Mx.evS.eq_6, Mx.evS.eq_7, Mx.evS.eq_8, Mx.evS.eq_9, Mx.evS.eq_10, Mx.evS.eq_11, Mx.evS.eq_12, Mx.evS.eq_13, Mx.evS.eq_14, Mx.evS.eq_17, Mx.evS.eq_18, Mx.evS.eq_19, Mx.evS.eq_20, Mx.o_add, Mx.o_sub, Mx.o_mul, Mx.o_neg, Mx.o_eq, Mx.o_ne, Mx.o_lt, Mx.o_le, Mx.o_gt, Mx.o_ge, Mx.o_isN, Mx.o_notN, Mx.o_idxL, Mx.o_idxT, Mx.o_slToL, Mx.o_lenL, Mx.o_lenT, Mx.o_min2, Mx.o_max2, Mx.o_abs, Mx.o_int, Mx.o_tupL, Mx.o_tupT, Mx.o_listL, Mx.o_listT, Mx.o_isi, Mx.addD_int, Mx.eqD_ii, Mx.old, Mx.o_mod, Mx.o_fdv, Mx.ix0, Mx.ix1, Mx.ix2, c_share, e]
theorem rf_losers {z : Str} (e : sem (fnsOf defs) (m + 3) 3 [.s .fz x, .s .fz a, .s .fz b] = .exc (.bad z)) : sem (fnsOf defs) (m + 4) 9 [.s .fz x, .s .fz a, .s .fz b] = .exc (.bad z) := by
  rw [sem_succ, f9]
  generalize sem (fnsOf defs) (m + 3) = F at e ⊢
  simp [Mx.runFn, Mx.outsOf, Mx.giveBack, Mx.argK, Mx.evA, Mx.putS, Mx.mutS, Mx.cmpOpt, Mx.ev.eq_1, Mx.ev.eq_2, Mx.ev.eq_3, Mx.ev.eq_4, Mx.ev.eq_5, Mx.ev.eq_6, Mx.ev.eq_7, Mx.ev.eq_8, Mx.ev.eq_9, Mx.ev.eq_10, Mx.ev.eq_11, Mx.ev.eq_12, Mx.ev.eq_13, Mx.ev.eq_14, Mx.ev.eq_16, Mx.ev.eq_19, Mx.ev.eq_20, Mx.ev.eq_21, Mx.ev.eq_22, Mx.ev.eq_23, Mx.ev.eq_24, Mx.ev.eq_25, Mx.evS.eq_1, Mx.evS.eq_2, Mx.evS.eq_3, Mx.evS.eq_4, Mx.evS.eq_5, Mx.evS.eq_6, Mx.evS.eq_7, Mx.evS.eq_8, Mx.evS.eq_9, Mx.evS.eq_10, Mx.evS.eq_11, Mx.evS.eq_12, Mx.evS.eq_13, Mx.evS.eq_14, Mx.evS.eq_17, Mx.evS.eq_18, Mx.evS.eq_19, Mx.evS.eq_20, Mx.o_add, Mx.o_sub, Mx.o_mul, Mx.o_neg, Mx.o_eq, Mx.o_ne, Mx.o_lt, Mx.o_le, Mx.o_gt, Mx.o_ge, Mx.o_isN, Mx.o_notN, Mx.o_idxL, Mx.o_idxT, Mx.o_slToL, Mx.o_lenL, Mx.o_lenT, Mx.o_min2, Mx.o_max2, Mx.o_abs, Mx.o_int, Mx.o_tupL, Mx.o_tupT, Mx.o_listL, Mx.o_listT, Mx.o_isi, Mx.addD_int, Mx.eqD_ii, Mx.old, Mx.o_mod, Mx.o_fdv, Mx.ix0, Mx.ix1, Mx.ix2, c_losers_by_more, e]
theorem rf_first {z : Str} (e : sem (fnsOf defs) (m + 3) 3 [.s .fz x, .s .fz a, .s .fz b] = .exc (.bad z)) : sem (fnsOf defs) (m + 4) 10 [.s .fz x, .s .fz a, .s .fz b] = .exc (.bad z) := by
  rw [sem_succ, f10]
  generalize sem (fnsOf defs) (m + 3) = F at e ⊢
  simp [Mx.runFn, Mx.outsOf, Mx.giveBack, Mx.argK, Mx.evA, Mx.putS, Mx.mutS, Mx.cmpOpt, Mx.ev.eq_1, Mx.ev.eq_2, Mx.ev.eq_3, Mx.ev.eq_4, Mx.ev.eq_5, Mx.ev.eq_6, Mx.ev.eq_7, Mx.ev.eq_8, Mx.ev.eq_9, Mx.ev.eq_10, Mx.ev.eq_11, Mx.ev.eq_12, Mx.ev.eq_13, Mx.ev.eq_14, Mx.ev.eq_16, Mx.ev.eq_19, Mx.ev.eq_20, Mx.ev.eq_21, Mx.ev.eq_22, Mx.ev.eq_23, Mx.ev.eq_24, Mx.ev.eq_25, Mx.evS.eq_1, Mx.evS.eq_2, Mx.evS.eq_3, Mx.evS.eq_4, Mx.evS.eq_5, Mx.evS.eq_6, Mx.evS.eq_7, Mx.evS.eq_8, Mx.evS.eq_9, Mx.evS.eq_10, Mx.evS.eq_11, Mx.evS.eq_12, Mx.evS.eq_13, Mx.evS.eq_14, Mx.evS.eq_17, Mx.evS.eq_18, Mx.evS.eq_19, Mx.evS.eq_20, Mx.o_add, Mx.o_sub, Mx.o_mul, Mx.o_neg, Mx.o_eq, Mx.o_ne, Mx.o_lt, Mx.o_le, Mx.o_gt, Mx.o_ge, Mx.o_isN, Mx.o_notN, Mx.o_idxL, Mx.o_idxT, Mx.o_slToL, Mx.o_lenL, Mx.o_lenT, Mx.o_min2, Mx.o_max2, Mx.o_abs, Mx.o_int, Mx.o_tupL, Mx.o_tupT, Mx.o_listL, Mx.o_listT, Mx.o_isi, Mx.addD_int, Mx.eqD_ii, Mx.old, Mx.o_mod, Mx.o_fdv, Mx.ix0, Mx.ix1, Mx.ix2, c_first_loss, e]
theorem rf_off {z : Str} (e : sem (fnsOf defs) (m + 3) 3 [.s .fz x, .s .fz a, .s .fz b] = .exc (.bad z)) : sem (fnsOf defs) (m + 4) 11 [.s .fz x, .s .fz a, .s .fz b] = .exc (.bad z) := by
  rw [sem_succ, f11]
  generalize sem (fnsOf defs) (m + 3) = F at e ⊢
  simp [Mx.runFn, Mx.outsOf, Mx.giveBack, Mx.argK, Mx.evA, Mx.putS, Mx.mutS, Mx.cmpOpt, Mx.ev.eq_1, Mx.ev.eq_2, Mx.ev.eq_3, Mx.ev.eq_4, Mx.ev.eq_5, Mx.ev.eq_6, Mx.ev.eq_7, Mx.ev.eq_8, Mx.ev.eq_9, Mx.ev.eq_10, Mx.ev.eq_11, Mx.ev.eq_12, Mx.ev.eq_13, Mx.ev.eq_14, Mx.ev.eq_16, Mx.ev.eq_19, Mx.ev.eq_20, Mx.ev.eq_21, Mx.ev.eq_22, Mx.ev.eq_23, Mx.ev.eq_24, Mx.ev.eq_25, Mx.evS.eq_1, Mx.evS.eq_2, Mx.evS.eq_3, Mx.evS.eq_4, Mx.evS.eq_5, Mx.evS.eq_6, Mx.evS.eq_7, Mx.evS.eq_8, Mx.evS.eq_9, Mx.evS.eq_10, Mx.evS.eq_11, Mx.evS.eq_12, Mx.evS.eq_13, Mx.evS.eq_14, Mx.evS.eq_17, Mx.evS.eq_18, Mx.evS.eq_19, Mx.evS.eq_20, Mx.o_add, Mx.o_sub, Mx.o_mul, Mx.o_neg, Mx.o_eq, Mx.o_ne, Mx.o_lt, Mx.o_le, Mx.o_gt, Mx.o_ge, Mx.o_isN, Mx.o_notN, Mx.o_idxL, Mx.o_idxT, Mx.o_slToL, Mx.o_lenL, Mx.o_lenT, Mx.o_min2, Mx.o_max2, Mx.o_abs, Mx.o_int, Mx.o_tupL, Mx.o_tupT, Mx.o_listL, Mx.o_listT, Mx.o_isi, Mx.addD_int, Mx.eqD_ii, Mx.old, Mx.o_mod, Mx.o_fdv, Mx.ix0, Mx.ix1, Mx.ix2, c_off_quota, e]
theorem rf_member (hw : OkW w n) : sem (fnsOf defs) (m + 3) 12 [.s .fz (tw w n), .s .fz (.int n), .s .fz a, .s .fz b] = .exc (.bad "member") := by
  have e := weights_ok m hw
  have e2 := e1_bad m (n : Int) 0 ((n : Int) - 1) "member" (by decide) (by omega)
  have hl := nsD_len w n
  rw [sem_succ, f12]
  generalize sem (fnsOf defs) (m + 2) = F at e e2 ⊢
  simp [Mx.runFn, Mx.outsOf, Mx.giveBack, Mx.argK, Mx.evA, Mx.putS, Mx.mutS, Mx.cmpOpt, Mx.ev.eq_1, Mx.ev.eq_2, Mx.ev.eq_3, Mx.ev.eq_4, Mx.ev.eq_5, Mx.ev.eq_6, Mx.ev.eq_7, Mx.ev.eq_8, Mx.ev.eq_9, Mx.ev.eq_10, Mx.ev.eq_11, Mx.ev.eq_12, Mx.ev.eq_13, Mx.ev.eq_14, Mx.ev.eq_16, Mx.ev.eq_19, Mx.ev.eq_20, Mx.ev.eq_21, Mx.ev.eq_22, Mx.ev.eq_23, Mx.ev.eq_24, Mx.ev.eq_25, Mx.evS.eq_1, Mx.evS.eq_2, Mx.evS.eq_3, Mx.evS.eq_4, Mx.evS.eq_5, Mx.evS.eq_6, Mx.evS.eq_7, Mx.evS.eq_8, Mx.evS.eq_9, Mx.evS.eq_10, Mx.evS.eq_11, Mx.evS.eq_12, Mx.evS.eq_13, Mx.evS.eq_14, Mx.evS.eq_17, Mx.evS.eq_18, Mx.evS.eq_19, Mx.evS.eq_20, Mx.o_add, Mx.o_sub, Mx.o_mul, Mx.o_neg, Mx.o_eq, Mx.o_ne, Mx.o_lt, Mx.o_le, Mx.o_gt, Mx.o_ge, Mx.o_isN, Mx.o_notN, Mx.o_idxL, Mx.o_idxT, Mx.o_slToL, Mx.o_lenL, Mx.o_lenT, Mx.o_min2, Mx.o_max2, Mx.o_abs, Mx.o_int, Mx.o_tupL, Mx.o_tupT, Mx.o_listL, Mx.o_listT, Mx.o_isi, Mx.addD_int, Mx.eqD_ii, Mx.old, Mx.o_mod, Mx.o_fdv, Mx.ix0, Mx.ix1, Mx.ix2, c_least_units, e, nsD_len, e2]
theorem rf_way (hw : OkW w n) : sem (fnsOf defs) (m + 3) 12 [.s .fz (tw w n), .s .fz (.int 0), .s .fz (.int 0), .s .fz .none] = .exc (.bad "way") := by
  have e := weights_ok m hw
  have n1 := hw.n1
  have e2 : sem (fnsOf defs) (m + 2) 1 _ = _ := e1_ok m 0 0 ((n : Int) - 1) "member" (by omega) (by omega) .fz
  have e3 : sem (fnsOf defs) (m + 2) 1 _ = _ := e1_ok m 0 0 500 "wanted" (by omega) (by omega) .fz
  have hn : ("way" : Str).length ≤ 1000 := by decide
  have q : opD .nin [.none, .tuple [.str "remainders", .str "down", .str "nearest", .str "up"]] = some (false, .bool true) := by
    have : inD .none [.str "remainders", .str "down", .str "nearest", .str "up"] = some false := by decide +kernel
    show cmpOpt ((inD _ _).map (!·)) = _
    rw [this]; rfl
  rw [sem_succ, f12]
  generalize sem (fnsOf defs) (m + 2) = F at e e2 e3 ⊢
  simp [Mx.runFn, Mx.outsOf, Mx.giveBack, Mx.argK, Mx.evA, Mx.putS, Mx.mutS, Mx.cmpOpt, Mx.ev.eq_1, Mx.ev.eq_2, Mx.ev.eq_3, Mx.ev.eq_4, Mx.ev.eq_5, Mx.ev.eq_6, Mx.ev.eq_7, Mx.ev.eq_8, Mx.ev.eq_9, Mx.ev.eq_10, Mx.ev.eq_11, Mx.ev.eq_12, Mx.ev.eq_13, Mx.ev.eq_14, Mx.ev.eq_16, Mx.ev.eq_19, Mx.ev.eq_20, Mx.ev.eq_21, Mx.ev.eq_22, Mx.ev.eq_23, Mx.ev.eq_24, Mx.ev.eq_25, Mx.evS.eq_1, Mx.evS.eq_2, Mx.evS.eq_3, Mx.evS.eq_4, Mx.evS.eq_5, Mx.evS.eq_6, Mx.evS.eq_7, Mx.evS.eq_8, Mx.evS.eq_9, Mx.evS.eq_10, Mx.evS.eq_11, Mx.evS.eq_12, Mx.evS.eq_13, Mx.evS.eq_14, Mx.evS.eq_17, Mx.evS.eq_18, Mx.evS.eq_19, Mx.evS.eq_20, Mx.o_add, Mx.o_sub, Mx.o_mul, Mx.o_neg, Mx.o_eq, Mx.o_ne, Mx.o_lt, Mx.o_le, Mx.o_gt, Mx.o_ge, Mx.o_isN, Mx.o_notN, Mx.o_idxL, Mx.o_idxT, Mx.o_slToL, Mx.o_lenL, Mx.o_lenT, Mx.o_min2, Mx.o_max2, Mx.o_abs, Mx.o_int, Mx.o_tupL, Mx.o_tupT, Mx.o_listL, Mx.o_listT, Mx.o_isi, Mx.addD_int, Mx.eqD_ii, Mx.old, Mx.o_mod, Mx.o_fdv, Mx.ix0, Mx.ix1, Mx.ix2, c_least_units, e, nsD_len, e2, e3, q, hn]
end
theorem q18_ok (m : Nat) {w : Nat → Int} {n : Nat} (hw : OkW w n) (y : Wy) {x7 : D} (hx : x7 ∈ bads) (d : D) (s10 : Mx.Slot) (s3 s4 s5 s6 s11 s12 s13 s14 s15 s16 s17 s18 s19 s20 s21 s22 s23 s24 s25 s26 : Mx.Slot) : evS (sem (fnsOf defs) (m + 5)) q18 [Mx.Slot.s .le d, .s .fz (tw w n), .s .fz (.str (wyS y)), s3, s4, s5, s6, .s .fz (x7), .no, .no, s10, s11, s12, s13, s14, s15, s16, s17, s18, s19, s20, s21, s22, s23, s24, s25, s26] = .nx [Mx.Slot.s .le d, .s .fz (tw w n), .s .fz (.str (wyS y)), s3, s4, s5, s6, .s .fz (x7), .s .ow (.list [.str "weights", .str "units", .str "way", .str "units", .str "units", .str "weights", .str "member", .str "way"]), .no, s10, s11, s12, s13, s14, s15, s16, s17, s18, s19, s20, s21, s22, s23, s24, s25, s26] := by
  have r1 : sem (fnsOf defs) (m + 5) 8 _ = _ := rf_share (m + 1) (n_weights (m + 1) (a := .none) (b := .none) hx)
  have r2 : sem (fnsOf defs) (m + 5) 8 _ = _ := rf_share (m + 1) (n_units (m + 1) hw (a := .int 501) (b := .none) (e1_bad (m + 1) 501 0 500 "units" (by decide) (by omega)))
  have r3 : sem (fnsOf defs) (m + 5) 8 _ = _ := rf_share (m + 1) (n_way (m + 1) hw)
  have r4 : sem (fnsOf defs) (m + 5) 9 _ = _ := rf_losers (m + 1) (n_units (m + 1) hw (a := .int (-1)) (b := .str (wyS y)) (e1_bad (m + 1) (-1) 0 500 "units" (by decide) (by omega)))
  have r5 : sem (fnsOf defs) (m + 5) 10 _ = _ := rf_first (m + 1) (n_units (m + 1) hw (a := .none) (b := .str (wyS y)) (e1_none (m + 1) "units" (by decide) _ _))
  have r6 : sem (fnsOf defs) (m + 5) 11 _ = _ := rf_off (m + 1) (n_weights (m + 1) (a := .int 0) (b := .str (wyS y)) hx)
  have r7 : sem (fnsOf defs) (m + 5) 12 _ = _ := rf_member (m + 2) (a := .int 0) (b := .str (wyS y)) hw
  have r8 : sem (fnsOf defs) (m + 5) 12 _ = _ := rf_way (m + 2) hw
  generalize sem (fnsOf defs) (m + 5) = F at r1 r2 r3 r4 r5 r6 r7 r8 ⊢
  generalize wyS y = wy at r4 r5 r6 r7 ⊢
  simp [Mx.runFn, Mx.outsOf, Mx.giveBack, Mx.argK, Mx.evA, Mx.putS, Mx.mutS, Mx.cmpOpt, Mx.ev.eq_1, Mx.ev.eq_2, Mx.ev.eq_3, Mx.ev.eq_4, Mx.ev.eq_5, Mx.ev.eq_6, Mx.ev.eq_7, Mx.ev.eq_8, Mx.ev.eq_9, Mx.ev.eq_10, Mx.ev.eq_11, Mx.ev.eq_12, Mx.ev.eq_13, Mx.ev.eq_14, Mx.ev.eq_16, Mx.ev.eq_19, Mx.ev.eq_20, Mx.ev.eq_21, Mx.ev.eq_22, Mx.ev.eq_23, Mx.ev.eq_24, Mx.ev.eq_25, Mx.evS.eq_1, Mx.evS.eq_2, Mx.evS.eq_3, Mx.evS.eq_4, Mx.evS.eq_5, Mx.evS.eq_6, Mx.evS.eq_7, Mx.evS.eq_8, Mx.evS.eq_9, Mx.evS.eq_10, Mx.evS.eq_11, Mx.evS.eq_12, Mx.evS.eq_13, Mx.evS.eq_14, Mx.evS.eq_17, Mx.evS.eq_18, Mx.evS.eq_19, Mx.evS.eq_20, Mx.o_add, Mx.o_sub, Mx.o_mul, Mx.o_neg, Mx.o_eq, Mx.o_ne, Mx.o_lt, Mx.o_le, Mx.o_gt, Mx.o_ge, Mx.o_isN, Mx.o_notN, Mx.o_idxL, Mx.o_idxT, Mx.o_slToL, Mx.o_lenL, Mx.o_lenT, Mx.o_min2, Mx.o_max2, Mx.o_abs, Mx.o_int, Mx.o_tupL, Mx.o_tupT, Mx.o_listL, Mx.o_listT, Mx.o_isi, Mx.addD_int, Mx.eqD_ii, Mx.old, Mx.o_mod, Mx.o_fdv, Mx.ix0, Mx.ix1, Mx.ix2, q18, r1, r2, r3, r4, r5, r6, r7, r8, nsD_len]
theorem q19_ok (F : FnSem) {w : Nat → Int} {n : Nat} (y : Wy) (x7 d : D) (s10 : Mx.Slot) (s3 s4 s5 s6 s11 s12 s13 s14 s15 s16 s17 s18 s19 s20 s21 s22 s23 s24 s25 s26 : Mx.Slot) : evS F q19 [Mx.Slot.s .le d, .s .fz (tw w n), .s .fz (.str (wyS y)), s3, s4, s5, s6, .s .fz (x7), .s .ow (.list [.str "weights", .str "units", .str "way", .str "units", .str "units", .str "weights", .str "member", .str "way"]), .no, s10, s11, s12, s13, s14, s15, s16, s17, s18, s19, s20, s21, s22, s23, s24, s25, s26] = .nx [Mx.Slot.s .le d, .s .fz (tw w n), .s .fz (.str (wyS y)), s3, s4, s5, s6, .s .fz (x7), .s .ow (.list [.str "weights", .str "units", .str "way", .str "units", .str "units", .str "weights", .str "member", .str "way"]), .s .ow (.list [.str "weights", .str "units", .str "way", .str "units", .str "units", .str "weights", .str "member", .str "way"]), s10, s11, s12, s13, s14, s15, s16, s17, s18, s19, s20, s21, s22, s23, s24, s25, s26] := by
  generalize wyS y = wy
  generalize tw w n = W
  simp [Mx.runFn, Mx.outsOf, Mx.giveBack, Mx.argK, Mx.evA, Mx.putS, Mx.mutS, Mx.cmpOpt, Mx.ev.eq_1, Mx.ev.eq_2, Mx.ev.eq_3, Mx.ev.eq_4, Mx.ev.eq_5, Mx.ev.eq_6, Mx.ev.eq_7, Mx.ev.eq_8, Mx.ev.eq_9, Mx.ev.eq_10, Mx.ev.eq_11, Mx.ev.eq_12, Mx.ev.eq_13, Mx.ev.eq_14, Mx.ev.eq_16, Mx.ev.eq_19, Mx.ev.eq_20, Mx.ev.eq_21, Mx.ev.eq_22, Mx.ev.eq_23, Mx.ev.eq_24, Mx.ev.eq_25, Mx.evS.eq_1, Mx.evS.eq_2, Mx.evS.eq_3, Mx.evS.eq_4, Mx.evS.eq_5, Mx.evS.eq_6, Mx.evS.eq_7, Mx.evS.eq_8, Mx.evS.eq_9, Mx.evS.eq_10, Mx.evS.eq_11, Mx.evS.eq_12, Mx.evS.eq_13, Mx.evS.eq_14, Mx.evS.eq_17, Mx.evS.eq_18, Mx.evS.eq_19, Mx.evS.eq_20, Mx.o_add, Mx.o_sub, Mx.o_mul, Mx.o_neg, Mx.o_eq, Mx.o_ne, Mx.o_lt, Mx.o_le, Mx.o_gt, Mx.o_ge, Mx.o_isN, Mx.o_notN, Mx.o_idxL, Mx.o_idxT, Mx.o_slToL, Mx.o_lenL, Mx.o_lenT, Mx.o_min2, Mx.o_max2, Mx.o_abs, Mx.o_int, Mx.o_tupL, Mx.o_tupT, Mx.o_listL, Mx.o_listT, Mx.o_isi, Mx.addD_int, Mx.eqD_ii, Mx.old, Mx.o_mod, Mx.o_fdv, Mx.ix0, Mx.ix1, Mx.ix2, q19]
theorem eqD_told : eqD (.list [.str "weights", .str "units", .str "way", .str "units", .str "units", .str "weights", .str "member", .str "way"]) (.list [.str "weights", .str "units", .str "way", .str "units", .str "units", .str "weights", .str "member", .str "way"]) = some true := by decide +kernel
theorem q20_ok (m : Nat) {w : Nat → Int} {n : Nat} (hw : OkW w n) (y : Wy) {x7 : D} (hx : x7 ∈ bads) (d : D) (s10 : Mx.Slot) (s3 s4 s5 s6 s11 s12 s13 s14 s15 s16 s17 s18 s19 s20 s21 s22 s23 s24 s25 s26 : Mx.Slot) : ∃ ρ, evS (sem (fnsOf defs) (m + 2)) q20 [Mx.Slot.s .le d, .s .fz (tw w n), .s .fz (.str (wyS y)), s3, s4, s5, s6, .s .fz (x7), .s .ow (.list [.str "weights", .str "units", .str "way", .str "units", .str "units", .str "weights", .str "member", .str "way"]), .s .ow (.list [.str "weights", .str "units", .str "way", .str "units", .str "units", .str "weights", .str "member", .str "way"]), s10, s11, s12, s13, s14, s15, s16, s17, s18, s19, s20, s21, s22, s23, s24, s25, s26] = .rt false (.bool true) (.s .le d :: ρ) := by
  have e1 := weights_ok m hw
  have e2 := weights_bad m x7 hx
  have eqt := eqD_told
  generalize sem (fnsOf defs) (m + 2) = F at e1 e2 ⊢
  generalize wyS y = wy
  generalize tw w n = W at e1 ⊢
  generalize PyData.list [PyData.str "weights", PyData.str "units", PyData.str "way", PyData.str "units", PyData.str "units", PyData.str "weights", PyData.str "member", PyData.str "way"] = TT at eqt ⊢
  exact ⟨[.s .fz (W), .s .fz (.str (wy)), s3, s4, s5, s6, .s .fz (x7), .s .ow (TT), .s .ow (TT), s10, s11, s12, s13, s14, s15, s16, s17, s18, s19, s20, s21, s22, s23, s24, s25, s26], by simp [Mx.runFn, Mx.outsOf, Mx.giveBack, Mx.argK, Mx.evA, Mx.putS, Mx.mutS, Mx.cmpOpt, Mx.ev.eq_1, Mx.ev.eq_2, Mx.ev.eq_3, Mx.ev.eq_4, Mx.ev.eq_5, Mx.ev.eq_6, Mx.ev.eq_7, Mx.ev.eq_8, Mx.ev.eq_9, Mx.ev.eq_10, Mx.ev.eq_11, Mx.ev.eq_12, Mx.ev.eq_13, Mx.ev.eq_14, Mx.ev.eq_16, Mx.ev.eq_19, Mx.ev.eq_20, Mx.ev.eq_21, Mx.ev.eq_22, Mx.ev.eq_23, Mx.ev.eq_24, Mx.ev.eq_25, Mx.evS.eq_1, Mx.evS.eq_2, Mx.evS.eq_3, Mx.evS.eq_4, Mx.evS.eq_5, Mx.evS.eq_6, Mx.evS.eq_7, Mx.evS.eq_8, Mx.evS.eq_9, Mx.evS.eq_10, Mx.evS.eq_11, Mx.evS.eq_12, Mx.evS.eq_13, Mx.evS.eq_14, Mx.evS.eq_17, Mx.evS.eq_18, Mx.evS.eq_19, Mx.evS.eq_20, Mx.o_add, Mx.o_sub, Mx.o_mul, Mx.o_neg, Mx.o_eq, Mx.o_ne, Mx.o_lt, Mx.o_le, Mx.o_gt, Mx.o_ge, Mx.o_isN, Mx.o_notN, Mx.o_idxL, Mx.o_idxT, Mx.o_slToL, Mx.o_lenL, Mx.o_lenT, Mx.o_min2, Mx.o_max2, Mx.o_abs, Mx.o_int, Mx.o_tupL, Mx.o_tupT, Mx.o_listL, Mx.o_listT, Mx.o_isi, Mx.addD_int, Mx.eqD_ii, Mx.old, Mx.o_mod, Mx.o_fdv, Mx.ix0, Mx.ix1, Mx.ix2, q20, e1, e2, eqt]⟩
end K02
end

section
set_option maxRecDepth 100000
set_option linter.all false
set_option maxHeartbeats 2000000
namespace K02
open Mx PySem L2
open K02P (Wy half updf S quo rmd shR rank dv pos step better bst prs srt)
open K00P (psum IsFirst)
theorem q1516 (m : Nat) {w : Nat → Int} {n u M a z : Nat} {y : Wy} {o v : Option Nat} (hw : OkW w n) (ha : a < n) (hv : IsFirst (fun k => k < 501 ∧ (z : Int) ≤ S y w n k a) v)
   (hS : ∀ {u : Nat}, u ≤ 1000 → sem (fnsOf defs) (m + 5) 18 [.s .fz (tw w n), .s .fz (.int u), .s .fz (.str (wyS y))] = .ok true (.list (nsD (S y w n u) n)) [.s .fz (tw w n), .s .fz (.int u), .s .fz (.str (wyS y))]) (d : D) (s3 s4 s5 s12 s14 s15 s16 s19 s20 s25 s26 : Mx.Slot) (x13 x23 : D) :
   evS (sem (fnsOf defs) (m + 5)) q15 [Mx.Slot.s .le d, .s .fz (tw w n), .s .fz (.str (wyS y)), s3, s4, s5, .s .fz (encO v), .no, .no, .no, .s .fz (.int (u : Nat)), .s .fz (.list [.str "remainders", .str "down", .str "nearest", .str "up"]), s12, .s .fz x13, s14, s15, s16, .s .fz (.int (M : Nat)), .s .fz (encO o), s19, s20, .s .fz (.int (a : Nat)), .s .fz (.int (z : Nat)), .s .fz x23, .no, s25, s26] = .nx [Mx.Slot.s .le d, .s .fz (tw w n), .s .fz (.str (wyS y)), s3, s4, s5, .s .fz (encO v), .no, .no, .no, .s .fz (.int (u : Nat)), .s .fz (.list [.str "remainders", .str "down", .str "nearest", .str "up"]), s12, .s .fz x13, s14, s15, s16, .s .fz (.int (M : Nat)), .s .fz (encO o), s19, s20, .s .fz (.int (a : Nat)), .s .fz (.int (z : Nat)), .s .fz x23, .no, s25, s26] ∧ evS (sem (fnsOf defs) (m + 5)) q16 [Mx.Slot.s .le d, .s .fz (tw w n), .s .fz (.str (wyS y)), s3, s4, s5, .s .fz (encO v), .no, .no, .no, .s .fz (.int (u : Nat)), .s .fz (.list [.str "remainders", .str "down", .str "nearest", .str "up"]), s12, .s .fz x13, s14, s15, s16, .s .fz (.int (M : Nat)), .s .fz (encO o), s19, s20, .s .fz (.int (a : Nat)), .s .fz (.int (z : Nat)), .s .fz x23, .no, s25, s26] = .nx [Mx.Slot.s .le d, .s .fz (tw w n), .s .fz (.str (wyS y)), s3, s4, s5, .s .fz (encO v), .no, .no, .no, .s .fz (.int (u : Nat)), .s .fz (.list [.str "remainders", .str "down", .str "nearest", .str "up"]), s12, .s .fz x13, s14, s15, s16, .s .fz (.int (M : Nat)), .s .fz (encO o), s19, s20, .s .fz (.int (a : Nat)), .s .fz (.int (z : Nat)), .s .fz x23, .no, s25, s26] := by
  cases v with
  | none =>
    obtain ⟨b, hb, he⟩ := early_ok (m + 2) hw y (L := 40) (z := z) ha (by omega)
    have hb' : b = false := by
      cases b with
      | false => rfl
      | true => obtain ⟨k, hk, q⟩ := hb.1 rfl; exact (hv k ⟨by omega, q⟩).elim
    subst hb'
    exact ⟨q15_none rfl d s3 s4 s5 s12 s14 s15 s16 s19 s20 s25 s26 x13 x23, q16_none rfl d s3 s4 s5 s12 s14 s15 s16 s19 s20 s25 s26 x13 x23 he⟩
  | some k =>
    have hk := hv.1.1
    obtain ⟨b, hb, he⟩ := early_ok (m + 2) hw y (L := k) (z := z) ha (by omega)
    have hb' : b = false := by
      cases b with
      | false => rfl
      | true => obtain ⟨j, hj, q⟩ := hb.1 rfl; exact (hv.2 j hj ⟨by omega, q⟩).elim
    subst hb'
    exact ⟨q15_some rfl ha d s3 s4 s5 s12 s14 s15 s16 s19 s20 s25 s26 x13 x23 (hS (u := k) (by omega)) hv.1.2 he, q16_some rfl d s3 s4 s5 s12 s14 s15 s16 s19 s20 s25 s26 x13 x23⟩
theorem right_ok (m : Nat) {d : D} (hd0 : Dice d 0) : ∃ d', sem (fnsOf defs) (m + 6) 20 [.s .le d] = .ok false (.bool true) [.s .le d'] := by
  obtain ⟨w, n, d1, n5, hw, w60, hd1, e1⟩ := q1_ok (m + 3) hd0 (by omega)
  obtain ⟨u, d2, hu, hd2, e2⟩ := q2_ok (m + 4) hd1 (by omega) (tw w n)
  have hS : ∀ y, ∀ {u : Nat}, u ≤ 1000 → sem (fnsOf defs) (m + 5) 18 [.s .fz (tw w n), .s .fz (.int u), .s .fz (.str (wyS y))] = .ok true (.list (nsD (S y w n u) n)) [.s .fz (tw w n), .s .fz (.int u), .s .fz (.str (wyS y))] := fun y u hu => lsh_ok (m + 3) hw y hu
  obtain ⟨x2, x12, x13, x23, s25, s26, e3⟩ := q3_ok (F := sem (fnsOf defs) (m + 5)) (u := u) hw (fun y k => half_ok (m + 4) y k) (fun y => share_ok (m + 1) hw y (by omega)) (fun y => hS y (by omega)) d2
  obtain ⟨y, d3, hd3, e4⟩ := q4_ok (m + 3) hd2 (by omega) w n u x2 x12 x13 x23 s25 s26
  have hW := whole_bd hw
  have hs1 : sem (fnsOf defs) (m + 5) 18 [.s .fz (tw w n), .s .fz (.int ((u : Int) + 1)), .s .fz (.str (wyS y))] = .ok true (.list (nsD (S y w n (u + 1)) n)) [.s .fz (tw w n), .s .fz (.int ((u : Int) + 1)), .s .fz (.str (wyS y))] := by
    have := hS y (u := u + 1) (by omega)
    rwa [show ((u + 1 : Nat) : Int) = (u : Int) + 1 by omega] at this
  have e5 := q5_ok d3 (psum w n) x12 x13 x23 s25 s26 (hS y (u := u) (by omega)) hs1
  have e6 := q6_ok hw d3 (psum w n) x12 x13 x23 s25 s26 (losers_ok (m + 1) hw y (u := u) (by omega))
  have e7 := q7_ok (sem (fnsOf defs) (m + 5)) (w := w) (f := S y w n u) (g := S y w n (u + 1)) (n := n) (u := u) (wy := wyS y) d3 (psum w n) x12 x13 x23 s25 s26
  obtain ⟨x4, e8⟩ := q8_ok (sem (fnsOf defs) (m + 5)) (f := S y w n u) (g := S y w n (u + 1)) (u := u) (wy := wyS y) hw hW (by omega) d3 x12 x13 x23 s25 s26
  have e9 := q9_ok (g := S y w n (u + 1)) d3 x4 x12 x13 x23 s25 s26 (oq_ok (m + 1) hw y (u := u) (by omega))
  obtain ⟨M, d4, hM, hd4, e10⟩ := q10_ok (m + 4) hd3 (by omega) (w := w) (g0 := S y w n 0) (n := n) (u := u) (wy := wyS y) (.s .ow (.list (offL (S y w n u) w u (psum w n) n))) (.s .fz x4) (.s .fz x12) (.s .fz (.int (psum w n))) (.s .fz (.list (nsD (S y w n u) n))) (.s .fz (.list (nsD (S y w n (u + 1)) n))) s25 s26 x13 x23 (hS y (u := 0) (by omega))
  obtain ⟨s5, s20, e11⟩ := q11_ok (F := sem (fnsOf defs) (m + 5)) (w := w) (G := S y w n) (n := n) (u := u) (M := M) (wy := wyS y) hw.n8 (by omega) (fun k hk => by
    have := hS y (u := k + 1) (by omega)
    rwa [show ((k + 1 : Nat) : Int) = (k : Int) + 1 by omega] at this) d4 (.s .ow (.list (offL (S y w n u) w u (psum w n) n))) (.s .fz x4) (.s .fz x12) (.s .fz (.int (psum w n))) (.s .fz (.list (nsD (S y w n u) n))) (.s .fz (.list (nsD (S y w n (u + 1)) n))) s25 s26 x13 x23
  obtain ⟨o, ho, hfl⟩ := fl_ok m hw y (M := M) (by omega)
  have ho2 := fstO_first (fun k => lossB (S y w n k) (S y w n (k + 1)) n) (M + 1)
  have ho3 : IsFirst (fun k => k < M + 1 ∧ Loss (S y w n k) (S y w n (k + 1)) n) (fstO (fun k => lossB (S y w n k) (S y w n (k + 1)) n) (M + 1)) := ho2.congr fun i => by rw [lossB_iff]
  obtain rfl := K00P.IsFirst.uniq ho ho3
  generalize fstO (fun k => lossB (S y w n k) (S y w n (k + 1)) n) (M + 1) = o at e11 hfl
  have e12 := q12_ok (u := u) d4 (.s .ow (.list (offL (S y w n u) w u (psum w n) n))) (.s .fz x4) s5 (.s .fz x12) (.s .fz (.int (psum w n))) (.s .fz (.list (nsD (S y w n u) n))) (.s .fz (.list (nsD (S y w n (u + 1)) n))) (.s .fz (.list (nsD (S y w n (M + 1)) n))) s20 s25 s26 x13 x23 hfl
  obtain ⟨a, z, d5, ha, hz, hd5, e13⟩ := q13_ok (m + 4) hd4 (by omega) (w := w) (n := n) (u := u) (M := M) (wy := wyS y) (o := o) hw.n1 hw.n8 (.s .ow (.list (offL (S y w n u) w u (psum w n) n))) (.s .fz x4) s5 (.s .fz x12) (.s .fz (.int (psum w n))) (.s .fz (.list (nsD (S y w n u) n))) (.s .fz (.list (nsD (S y w n (u + 1)) n))) (.s .fz (.list (nsD (S y w n (M + 1)) n))) s20 s25 s26 x13 x23
  obtain ⟨v, hv, hlu⟩ := lu_ok (m + 1) hw y ha (z := z) (by omega)
  have e14 := q14_ok (u := u) (M := M) (o := o) d5 (.s .ow (.list (offL (S y w n u) w u (psum w n) n))) (.s .fz x4) s5 (.s .fz x12) (.s .fz (.int (psum w n))) (.s .fz (.list (nsD (S y w n u) n))) (.s .fz (.list (nsD (S y w n (u + 1)) n))) (.s .fz (.list (nsD (S y w n (M + 1)) n))) s20 s25 s26 x13 x23 hlu
  have e1516 := q1516 m (u := u) (M := M) (o := o) hw ha hv (fun hu => hS y hu) d5 (.s .ow (.list (offL (S y w n u) w u (psum w n) n))) (.s .fz x4) s5 (.s .fz x12) (.s .fz (.int (psum w n))) (.s .fz (.list (nsD (S y w n u) n))) (.s .fz (.list (nsD (S y w n (u + 1)) n))) (.s .fz (.list (nsD (S y w n (M + 1)) n))) s20 s25 s26 x13 x23
  obtain ⟨e15, e16⟩ := e1516
  obtain ⟨x7, hx7, d6, hd6, e17⟩ := q17_ok (m + 3) hd5 (by omega) w n y (.s .fz (.int u)) (.s .ow (.list (offL (S y w n u) w u (psum w n) n))) (.s .fz x4) s5 (.s .fz (encO v)) (.s .fz (.list [.str "remainders", .str "down", .str "nearest", .str "up"])) (.s .fz x12) (.s .fz x13) (.s .fz (.int (psum w n))) (.s .fz (.list (nsD (S y w n u) n))) (.s .fz (.list (nsD (S y w n (u + 1)) n))) (.s .fz (.int M)) (.s .fz (encO o)) (.s .fz (.list (nsD (S y w n (M + 1)) n))) s20 (.s .fz (.int a)) (.s .fz (.int z)) (.s .fz x23) .no s25 s26
  have e18 := q18_ok m hw y hx7 d6 (.s .fz (.int u)) (.s .ow (.list (offL (S y w n u) w u (psum w n) n))) (.s .fz x4) s5 (.s .fz (encO v)) (.s .fz (.list [.str "remainders", .str "down", .str "nearest", .str "up"])) (.s .fz x12) (.s .fz x13) (.s .fz (.int (psum w n))) (.s .fz (.list (nsD (S y w n u) n))) (.s .fz (.list (nsD (S y w n (u + 1)) n))) (.s .fz (.int M)) (.s .fz (encO o)) (.s .fz (.list (nsD (S y w n (M + 1)) n))) s20 (.s .fz (.int a)) (.s .fz (.int z)) (.s .fz x23) .no s25 s26
  have e19 := q19_ok (sem (fnsOf defs) (m + 5)) (w := w) (n := n) y x7 d6 (.s .fz (.int u)) (.s .ow (.list (offL (S y w n u) w u (psum w n) n))) (.s .fz x4) s5 (.s .fz (encO v)) (.s .fz (.list [.str "remainders", .str "down", .str "nearest", .str "up"])) (.s .fz x12) (.s .fz x13) (.s .fz (.int (psum w n))) (.s .fz (.list (nsD (S y w n u) n))) (.s .fz (.list (nsD (S y w n (u + 1)) n))) (.s .fz (.int M)) (.s .fz (encO o)) (.s .fz (.list (nsD (S y w n (M + 1)) n))) s20 (.s .fz (.int a)) (.s .fz (.int z)) (.s .fz x23) .no s25 s26
  obtain ⟨ρ, e20⟩ := q20_ok (m + 3) hw y hx7 d6 (.s .fz (.int u)) (.s .ow (.list (offL (S y w n u) w u (psum w n) n))) (.s .fz x4) s5 (.s .fz (encO v)) (.s .fz (.list [.str "remainders", .str "down", .str "nearest", .str "up"])) (.s .fz x12) (.s .fz x13) (.s .fz (.int (psum w n))) (.s .fz (.list (nsD (S y w n u) n))) (.s .fz (.list (nsD (S y w n (u + 1)) n))) (.s .fz (.int M)) (.s .fz (encO o)) (.s .fz (.list (nsD (S y w n (M + 1)) n))) s20 (.s .fz (.int a)) (.s .fz (.int z)) (.s .fz x23) .no s25 s26
  refine ⟨d6, ?_⟩
  have tot : evS (sem (fnsOf defs) (m + 5)) c__law_right ([.s .le d] ++ List.replicate (27 - 1) .no) = .rt false (.bool true) (.s .le d6 :: ρ) := by
    rw [q_eq]
    refine evS_seq e1 (evS_seq e2 (evS_seq e3 (evS_seq e4 (evS_seq e5 (evS_seq e6 (evS_seq e7 (evS_seq e8 (evS_seq e9 (evS_seq e10 (evS_seq e11 (evS_seq e12 (evS_seq e13 (evS_seq e14 (evS_seq e15 (evS_seq e16 (evS_seq e17 (evS_seq e18 (evS_seq e19 ?_))))))))))))))))))
    rw [evS.eq_2, e20]
  rw [sem_succ, f20]
  exact runFn_rt rfl tot rfl
theorem law_true (ns : List Int) (hn : ns.length ≤ 63) : ∃ fr o, sem (fnsOf defs) 40 21 [Mx.Slot.s .fz (.list (ns.map .int))] = .ok fr (.bool true) o := by
  have hs : (max 1 (min 4 (ns.length : Int))) = ((max 1 (min 4 ns.length) : Nat) : Int) := by omega
  generalize hK : max 1 (min 4 ns.length) = K at hs
  have hK5 : K ≤ 4 := by omega
  have hdice := fun (k : Nat) (hk : k < K) => dice_ok 38 ns hn k (by omega)
  have hright : ∀ d, Dice d 0 → ∃ d', sem (fnsOf defs) 39 20 [.s .le d] = .ok false (.bool true) [.s .le d'] := fun d hd => right_ok 33 hd
  have h13 : (fnsOf defs)[21]? = some ⟨1, 2, c_law⟩ := f21
  rw [show (40 : Nat) = 39 + 1 from rfl]
  simp only [sem_succ, h13]
  have hdice : ∀ k, k < K → ∃ d, Dice d 0 ∧ sem (fnsOf defs) 39 13 [.s .fz (.list (ns.map .int)), .s .fz (.int (k : Int))] = .ok true d [.s .fz (.list (ns.map .int)), .s .fz (.int (k : Int))] := hdice
  generalize sem (fnsOf defs) 39 = F at hdice hright ⊢
  have hlen : (ns.map PyData.int).length = ns.length := List.length_map _
  obtain ⟨L, hL⟩ : ∃ L, L = ns.length := ⟨_, rfl⟩
  generalize ns.map PyData.int = xs at hdice hlen ⊢
  obtain ⟨ρ', ⟨cur, rfl⟩, e⟩ := forL_nx (bind := bindT (.one 1)) (body := evS F (.seq (.ifs (.not (.call 20 0 (.cons (.frs (.call 13 0 (.cons (.bor 0) (.cons (.bor 1) .nil)))) .nil))) (.seq (.ret (.cst (.bool false)))
    .skip) .skip)
   .skip)) ((List.range K).map fun k : Nat => .int (k : Int))
    (fun k ρ => ∃ cur, ρ = [.s .fz (.list xs), cur])
    (fun k hk ρ hρ => by
      obtain ⟨cur, rfl⟩ := hρ
      rw [List.getElem_map, List.getElem_range]
      have hk' : k < K := by simpa using hk
      obtain ⟨d, hd, e1⟩ := hdice k hk'
      obtain ⟨d', e2⟩ := hright d hd
      refine ⟨_, [.s .fz (.list xs), .s .fz (.int (k : Int))], rfl, ?_, ⟨_, rfl⟩⟩
      generalize ((k : Nat) : Int) = KK at e1 ⊢
      simp [Mx.runFn, Mx.outsOf, Mx.giveBack, Mx.argK, Mx.evA, Mx.putS, Mx.mutS, Mx.cmpOpt, Mx.ev.eq_1, Mx.ev.eq_2, Mx.ev.eq_3, Mx.ev.eq_4, Mx.ev.eq_5, Mx.ev.eq_6, Mx.ev.eq_7, Mx.ev.eq_8, Mx.ev.eq_9, Mx.ev.eq_10, Mx.ev.eq_11, Mx.ev.eq_12, Mx.ev.eq_13, Mx.ev.eq_14, Mx.ev.eq_16, Mx.ev.eq_19, Mx.ev.eq_20, Mx.ev.eq_21, Mx.ev.eq_22, Mx.ev.eq_23, Mx.ev.eq_24, Mx.ev.eq_25, Mx.evS.eq_1, Mx.evS.eq_2, Mx.evS.eq_3, Mx.evS.eq_4, Mx.evS.eq_5, Mx.evS.eq_6, Mx.evS.eq_7, Mx.evS.eq_8, Mx.evS.eq_9, Mx.evS.eq_10, Mx.evS.eq_11, Mx.evS.eq_12, Mx.evS.eq_13, Mx.evS.eq_14, Mx.evS.eq_17, Mx.evS.eq_18, Mx.evS.eq_19, Mx.evS.eq_20, Mx.o_add, Mx.o_sub, Mx.o_mul, Mx.o_neg, Mx.o_eq, Mx.o_ne, Mx.o_lt, Mx.o_le, Mx.o_gt, Mx.o_ge, Mx.o_isN, Mx.o_notN, Mx.o_idxL, Mx.o_idxT, Mx.o_slToL, Mx.o_lenL, Mx.o_lenT, Mx.o_min2, Mx.o_max2, Mx.o_abs, Mx.o_int, Mx.o_tupL, Mx.o_tupT, Mx.o_listL, Mx.o_listT, Mx.o_isi, Mx.addD_int, Mx.eqD_ii, Mx.old, Mx.o_mod, Mx.o_fdv, Mx.ix0, Mx.ix1, Mx.ix2, e1, e2, isNil])
    [.s .fz (.list xs), .no] ⟨_, rfl⟩
  have ri := range_ok (T := K) (by omega)
  have v : (if (if (xs.length : Int) < 4 then (xs.length : Int) else 4) > 1 then (if (xs.length : Int) < 4 then (xs.length : Int) else 4) else 1) = (K : Int) := by
    rw [hlen]
    split <;> split <;> omega
  have e' := evS_for (it := .irng (.op .max2 (.cons (.cst (.int 1)) (.cons (.op .min2 (.cons (.cst (.int 4)) (.cons (.op .len (.cons (.bor 0) .nil)) .nil))) .nil)))) (ρ := [.s .fz (.list xs), .no]) (ρ1 := [.s .fz (.list xs), .no]) (fr := false) (by simp [Mx.runFn, Mx.outsOf, Mx.giveBack, Mx.argK, Mx.evA, Mx.putS, Mx.mutS, Mx.cmpOpt, Mx.ev.eq_1, Mx.ev.eq_2, Mx.ev.eq_3, Mx.ev.eq_4, Mx.ev.eq_5, Mx.ev.eq_6, Mx.ev.eq_7, Mx.ev.eq_8, Mx.ev.eq_9, Mx.ev.eq_10, Mx.ev.eq_11, Mx.ev.eq_12, Mx.ev.eq_13, Mx.ev.eq_14, Mx.ev.eq_16, Mx.ev.eq_19, Mx.ev.eq_20, Mx.ev.eq_21, Mx.ev.eq_22, Mx.ev.eq_23, Mx.ev.eq_24, Mx.ev.eq_25, Mx.evS.eq_1, Mx.evS.eq_2, Mx.evS.eq_3, Mx.evS.eq_4, Mx.evS.eq_5, Mx.evS.eq_6, Mx.evS.eq_7, Mx.evS.eq_8, Mx.evS.eq_9, Mx.evS.eq_10, Mx.evS.eq_11, Mx.evS.eq_12, Mx.evS.eq_13, Mx.evS.eq_14, Mx.evS.eq_17, Mx.evS.eq_18, Mx.evS.eq_19, Mx.evS.eq_20, Mx.o_add, Mx.o_sub, Mx.o_mul, Mx.o_neg, Mx.o_eq, Mx.o_ne, Mx.o_lt, Mx.o_le, Mx.o_gt, Mx.o_ge, Mx.o_isN, Mx.o_notN, Mx.o_idxL, Mx.o_idxT, Mx.o_slToL, Mx.o_lenL, Mx.o_lenT, Mx.o_min2, Mx.o_max2, Mx.o_abs, Mx.o_int, Mx.o_tupL, Mx.o_tupT, Mx.o_listL, Mx.o_listT, Mx.o_isi, Mx.addD_int, Mx.eqD_ii, Mx.old, Mx.o_mod, Mx.o_fdv, Mx.ix0, Mx.ix1, Mx.ix2, v, ri]) e rfl
  have tot : evS F c_law [.s .fz (.list xs), .no] = .rt false (.bool true) [.s .fz (.list xs), cur] := by
    refine evS_seq e' ?_
    simp [Mx.runFn, Mx.outsOf, Mx.giveBack, Mx.argK, Mx.evA, Mx.putS, Mx.mutS, Mx.cmpOpt, Mx.ev.eq_1, Mx.ev.eq_2, Mx.ev.eq_3, Mx.ev.eq_4, Mx.ev.eq_5, Mx.ev.eq_6, Mx.ev.eq_7, Mx.ev.eq_8, Mx.ev.eq_9, Mx.ev.eq_10, Mx.ev.eq_11, Mx.ev.eq_12, Mx.ev.eq_13, Mx.ev.eq_14, Mx.ev.eq_16, Mx.ev.eq_19, Mx.ev.eq_20, Mx.ev.eq_21, Mx.ev.eq_22, Mx.ev.eq_23, Mx.ev.eq_24, Mx.ev.eq_25, Mx.evS.eq_1, Mx.evS.eq_2, Mx.evS.eq_3, Mx.evS.eq_4, Mx.evS.eq_5, Mx.evS.eq_6, Mx.evS.eq_7, Mx.evS.eq_8, Mx.evS.eq_9, Mx.evS.eq_10, Mx.evS.eq_11, Mx.evS.eq_12, Mx.evS.eq_13, Mx.evS.eq_14, Mx.evS.eq_17, Mx.evS.eq_18, Mx.evS.eq_19, Mx.evS.eq_20, Mx.o_add, Mx.o_sub, Mx.o_mul, Mx.o_neg, Mx.o_eq, Mx.o_ne, Mx.o_lt, Mx.o_le, Mx.o_gt, Mx.o_ge, Mx.o_isN, Mx.o_notN, Mx.o_idxL, Mx.o_idxT, Mx.o_slToL, Mx.o_lenL, Mx.o_lenT, Mx.o_min2, Mx.o_max2, Mx.o_abs, Mx.o_int, Mx.o_tupL, Mx.o_tupT, Mx.o_listL, Mx.o_listT, Mx.o_isi, Mx.addD_int, Mx.eqD_ii, Mx.old, Mx.o_mod, Mx.o_fdv, Mx.ix0, Mx.ix1, Mx.ix2]
  exact ⟨false, [.s .fz (.list xs)], runFn_rt rfl tot rfl⟩
end K02
end

section
set_option maxRecDepth 100000
set_option maxHeartbeats 4000000
namespace K02
open Mx PySem L2 PyProof.Rows
theorem at_mk {w : World} {K : PySem.W.Frag} {h : Heap} {mg : Str → Option Value} {fa : Addr} (X : K.In h) (G : h.Ns mainGlobals mg) (hfa : mg "law" = some (.ref fa))
    (own : ∀ nm ∈ (["are_weights", "_law_right"] : List Str), ∀ a, mg nm = some (.ref a) → LamX.OwnTab K a h)
    {C fI fR : Addr}
    {f0 : Addr}
    {cd0 : Value}
    {oc0 kV0 dc0 pm0 ct0 : Value} {od0 an0 : Option Addr} {sl0 : Array (Option Value)}
    {f1 : Addr}
    {cd1 : Value}
    {oc1 kV1 dc1 pm1 ct1 : Value} {od1 an1 : Option Addr} {sl1 : Array (Option Value)}
    {f2 : Addr}
    {cc2 P2 : Addr} {e2 : Value} {dd2 : Option Addr} {us2 : Array Value} {sx2 : Array (Option Value)}
    {oc2 kV2 dc2 pm2 ct2 : Value} {od2 an2 : Option Addr} {sl2 : Array (Option Value)}
    {f3 : Addr}
    {cd3 : Value}
    {oc3 kV3 dc3 pm3 ct3 : Value} {od3 an3 : Option Addr} {sl3 : Array (Option Value)}
    {f4 : Addr}
    {cd4 : Value}
    {oc4 kV4 dc4 pm4 ct4 : Value} {od4 an4 : Option Addr} {sl4 : Array (Option Value)}
    {f5 : Addr}
    {cd5 : Value}
    {oc5 kV5 dc5 pm5 ct5 : Value} {od5 an5 : Option Addr} {sl5 : Array (Option Value)}
    {f6 : Addr}
    {cd6 : Value}
    {oc6 kV6 dc6 pm6 ct6 : Value} {od6 an6 : Option Addr} {sl6 : Array (Option Value)}
    {f7 : Addr}
    {cd7 : Value}
    {oc7 kV7 dc7 pm7 ct7 : Value} {od7 an7 : Option Addr} {sl7 : Array (Option Value)}
    {f8 : Addr}
    {cd8 : Value}
    {oc8 kV8 dc8 pm8 ct8 : Value} {od8 an8 : Option Addr} {sl8 : Array (Option Value)}
    {f9 : Addr}
    {cd9 : Value}
    {oc9 kV9 dc9 pm9 ct9 : Value} {od9 an9 : Option Addr} {sl9 : Array (Option Value)}
    {f10 : Addr}
    {cd10 : Value}
    {oc10 kV10 dc10 pm10 ct10 : Value} {od10 an10 : Option Addr} {sl10 : Array (Option Value)}
    {f11 : Addr}
    {cd11 : Value}
    {oc11 kV11 dc11 pm11 ct11 : Value} {od11 an11 : Option Addr} {sl11 : Array (Option Value)}
    {f12 : Addr}
    {cd12 : Value}
    {oc12 kV12 dc12 pm12 ct12 : Value} {od12 an12 : Option Addr} {sl12 : Array (Option Value)}
    {f13 : Addr}
    {cd13 : Value}
    {oc13 kV13 dc13 pm13 ct13 : Value} {od13 an13 : Option Addr} {sl13 : Array (Option Value)}
    {f14 : Addr}
    {cd14 : Value}
    {oc14 kV14 dc14 pm14 ct14 : Value} {od14 an14 : Option Addr} {sl14 : Array (Option Value)}
    {f15 : Addr}
    {cd15 : Value}
    {oc15 kV15 dc15 pm15 ct15 : Value} {od15 an15 : Option Addr} {sl15 : Array (Option Value)}
    {f16 : Addr}
    {cd16 : Value}
    {oc16 kV16 dc16 pm16 ct16 : Value} {od16 an16 : Option Addr} {sl16 : Array (Option Value)}
    {f17 : Addr}
    {cd17 : Value}
    {oc17 kV17 dc17 pm17 ct17 : Value} {od17 an17 : Option Addr} {sl17 : Array (Option Value)}
    {f18 : Addr}
    {cd18 : Value}
    {oc18 kV18 dc18 pm18 ct18 : Value} {od18 an18 : Option Addr} {sl18 : Array (Option Value)}
    {f19 : Addr}
    {cd19 : Value}
    {oc19 kV19 dc19 pm19 ct19 : Value} {od19 an19 : Option Addr} {sl19 : Array (Option Value)}
    {f20 : Addr}
    {cc20 P20 : Addr} {e20 : Value} {dd20 : Option Addr} {us20 : Array Value} {sx20 : Array (Option Value)}
    {oc20 kV20 dc20 pm20 ct20 : Value} {od20 an20 : Option Addr} {sl20 : Array (Option Value)}
    {f21 : Addr}
    {cd21 : Value}
    {oc21 kV21 dc21 pm21 ct21 : Value} {od21 an21 : Option Addr} {sl21 : Array (Option Value)}
    {cdR : Value}
    {ocR kVR dcR pmR ctR : Value} {odR anR : Option Addr} {slR : Array (Option Value)}
    {tk0 : Tok}
    {tk1 : Tok}
    {tk2 : Tok}
    {tk3 : Tok}
    {tk4 : Tok}
    {tk5 : Tok}
    {tk6 : Tok}
    {aT7 : Addr} {odT7 : Option Addr} {nT7 : Nat} {slT7 : Array (Option Value)} {u7_0 : Tok} {u7_1 : Tok} {u7_2 : Tok} {u7_3 : Tok}
    {nmB qB : Str} {NB : Addr} {bsB : List Value} {snB : List Str} {subB : List Value} {abB : Bool} {colB : Option Bool} {ddB : Option Addr} {m0 m1 m2 m3 m5 : Option Value}
    {ocI dcI pmI ctI : Value} {odI anI : Option Addr} {slI : Array (Option Value)} {cdaI ccI : Addr} {q1 q2 r1 r2 r3 r4 r5 r6 r7 r8 w1 w2 w3 w4 : Pos} {ccl : Value} {cdd : Option Addr} {vsI : Array Value} {ccs : Array (Option Value)} {fileI : Str} {tfI : Tok} {clI : Value} {cldI : Option Addr} {cslI : Array (Option Value)}
    (a0 : PySem.W.nsIn K mainGlobals "is_integer" = some (some (.ref f0)))
    (l0 : K.lookup f0 = some ⟨oc0, od0, .func (PySem.W.fnOf "is_integer" "is_integer" (defArgs (tp 3)) (defBody (tp 3)) (defScope (tp 3)) .none kV0 dc0 pm0 an0 cd0 ct0), sl0⟩)
    (c0 : PySem.W.codeIn K cd0 "is_integer" = true)
    (k0 : PySem.W.keepIn K (.ref f0) = true)
    (a1 : PySem.W.nsIn K mainGlobals "need_integer" = some (some (.ref f1)))
    (l1 : K.lookup f1 = some ⟨oc1, od1, .func (PySem.W.fnOf "need_integer" "need_integer" (defArgs (tp 4)) (defBody (tp 4)) (defScope (tp 4)) .none kV1 dc1 pm1 an1 cd1 ct1), sl1⟩)
    (c1 : PySem.W.codeIn K cd1 "need_integer" = true)
    (k1 : PySem.W.keepIn K (.ref f1) = true)
    (a2 : PySem.W.nsIn K mainGlobals "are_weights" = some (some (.ref f2)))
    (l2 : K.lookup f2 = some ⟨oc2, od2, .func (PySem.W.fnOf "are_weights" "are_weights" (defArgs (tp 14)) (defBody (tp 14)) (defScope (tp 14)) .none kV2 dc2 pm2 an2 (.ref cc2) ct2), sl2⟩)
    (c2 : PySem.W.codeIn K (.ref cc2) "are_weights" = true)
    (k2 : PySem.W.keepIn K (.ref f2) = true)
    (x2 : K.lookup cc2 = some ⟨e2, dd2, .fields us2, sx2⟩)
    (p2 : us2[11]? = some (Value.ref P2))
    (h2 : PySem.W.codeHdIn K cc2 P2 = true)
    (n2 : K.lookup P2 = none)
    (a3 : PySem.W.nsIn K mainGlobals "need_share" = some (some (.ref f3)))
    (l3 : K.lookup f3 = some ⟨oc3, od3, .func (PySem.W.fnOf "need_share" "need_share" (defArgs (tp 15)) (defBody (tp 15)) (defScope (tp 15)) .none kV3 dc3 pm3 an3 cd3 ct3), sl3⟩)
    (c3 : PySem.W.codeIn K cd3 "need_share" = true)
    (k3 : PySem.W.keepIn K (.ref f3) = true)
    (a4 : PySem.W.nsIn K mainGlobals "by_remainders" = some (some (.ref f4)))
    (l4 : K.lookup f4 = some ⟨oc4, od4, .func (PySem.W.fnOf "by_remainders" "by_remainders" (defArgs (tp 16)) (defBody (tp 16)) (defScope (tp 16)) .none kV4 dc4 pm4 an4 cd4 ct4), sl4⟩)
    (c4 : PySem.W.codeIn K cd4 "by_remainders" = true)
    (k4 : PySem.W.keepIn K (.ref f4) = true)
    (a5 : PySem.W.nsIn K mainGlobals "next_claim" = some (some (.ref f5)))
    (l5 : K.lookup f5 = some ⟨oc5, od5, .func (PySem.W.fnOf "next_claim" "next_claim" (defArgs (tp 17)) (defBody (tp 17)) (defScope (tp 17)) .none kV5 dc5 pm5 an5 cd5 ct5), sl5⟩)
    (c5 : PySem.W.codeIn K cd5 "next_claim" = true)
    (k5 : PySem.W.keepIn K (.ref f5) = true)
    (a6 : PySem.W.nsIn K mainGlobals "by_divisors" = some (some (.ref f6)))
    (l6 : K.lookup f6 = some ⟨oc6, od6, .func (PySem.W.fnOf "by_divisors" "by_divisors" (defArgs (tp 18)) (defBody (tp 18)) (defScope (tp 18)) .none kV6 dc6 pm6 an6 cd6 ct6), sl6⟩)
    (c6 : PySem.W.codeIn K cd6 "by_divisors" = true)
    (k6 : PySem.W.keepIn K (.ref f6) = true)
    (a7 : PySem.W.nsIn K mainGlobals "shared" = some (some (.ref f7)))
    (l7 : K.lookup f7 = some ⟨oc7, od7, .func (PySem.W.fnOf "shared" "shared" (defArgs (tp 19)) (defBody (tp 19)) (defScope (tp 19)) .none kV7 dc7 pm7 an7 cd7 ct7), sl7⟩)
    (c7 : PySem.W.codeIn K cd7 "shared" = true)
    (k7 : PySem.W.keepIn K (.ref f7) = true)
    (a8 : PySem.W.nsIn K mainGlobals "share" = some (some (.ref f8)))
    (l8 : K.lookup f8 = some ⟨oc8, od8, .func (PySem.W.fnOf "share" "share" (defArgs (tp 20)) (defBody (tp 20)) (defScope (tp 20)) .none kV8 dc8 pm8 an8 cd8 ct8), sl8⟩)
    (c8 : PySem.W.codeIn K cd8 "share" = true)
    (k8 : PySem.W.keepIn K (.ref f8) = true)
    (a9 : PySem.W.nsIn K mainGlobals "losers_by_more" = some (some (.ref f9)))
    (l9 : K.lookup f9 = some ⟨oc9, od9, .func (PySem.W.fnOf "losers_by_more" "losers_by_more" (defArgs (tp 21)) (defBody (tp 21)) (defScope (tp 21)) .none kV9 dc9 pm9 an9 cd9 ct9), sl9⟩)
    (c9 : PySem.W.codeIn K cd9 "losers_by_more" = true)
    (k9 : PySem.W.keepIn K (.ref f9) = true)
    (a10 : PySem.W.nsIn K mainGlobals "first_loss" = some (some (.ref f10)))
    (l10 : K.lookup f10 = some ⟨oc10, od10, .func (PySem.W.fnOf "first_loss" "first_loss" (defArgs (tp 22)) (defBody (tp 22)) (defScope (tp 22)) .none kV10 dc10 pm10 an10 cd10 ct10), sl10⟩)
    (c10 : PySem.W.codeIn K cd10 "first_loss" = true)
    (k10 : PySem.W.keepIn K (.ref f10) = true)
    (a11 : PySem.W.nsIn K mainGlobals "off_quota" = some (some (.ref f11)))
    (l11 : K.lookup f11 = some ⟨oc11, od11, .func (PySem.W.fnOf "off_quota" "off_quota" (defArgs (tp 23)) (defBody (tp 23)) (defScope (tp 23)) .none kV11 dc11 pm11 an11 cd11 ct11), sl11⟩)
    (c11 : PySem.W.codeIn K cd11 "off_quota" = true)
    (k11 : PySem.W.keepIn K (.ref f11) = true)
    (a12 : PySem.W.nsIn K mainGlobals "least_units" = some (some (.ref f12)))
    (l12 : K.lookup f12 = some ⟨oc12, od12, .func (PySem.W.fnOf "least_units" "least_units" (defArgs (tp 24)) (defBody (tp 24)) (defScope (tp 24)) .none kV12 dc12 pm12 an12 cd12 ct12), sl12⟩)
    (c12 : PySem.W.codeIn K cd12 "least_units" = true)
    (k12 : PySem.W.keepIn K (.ref f12) = true)
    (a13 : PySem.W.nsIn K mainGlobals "_law_dice" = some (some (.ref f13)))
    (l13 : K.lookup f13 = some ⟨oc13, od13, .func (PySem.W.fnOf "_law_dice" "_law_dice" (defArgs (tp 26)) (defBody (tp 26)) (defScope (tp 26)) .none kV13 dc13 pm13 an13 cd13 ct13), sl13⟩)
    (c13 : PySem.W.codeIn K cd13 "_law_dice" = true)
    (k13 : PySem.W.keepIn K (.ref f13) = true)
    (a14 : PySem.W.nsIn K mainGlobals "_law_roll" = some (some (.ref f14)))
    (l14 : K.lookup f14 = some ⟨oc14, od14, .func (PySem.W.fnOf "_law_roll" "_law_roll" (defArgs (tp 27)) (defBody (tp 27)) (defScope (tp 27)) .none kV14 dc14 pm14 an14 cd14 ct14), sl14⟩)
    (c14 : PySem.W.codeIn K cd14 "_law_roll" = true)
    (k14 : PySem.W.keepIn K (.ref f14) = true)
    (a15 : PySem.W.nsIn K mainGlobals "_law_pick" = some (some (.ref f15)))
    (l15 : K.lookup f15 = some ⟨oc15, od15, .func (PySem.W.fnOf "_law_pick" "_law_pick" (defArgs (tp 28)) (defBody (tp 28)) (defScope (tp 28)) .none kV15 dc15 pm15 an15 cd15 ct15), sl15⟩)
    (c15 : PySem.W.codeIn K cd15 "_law_pick" = true)
    (k15 : PySem.W.keepIn K (.ref f15) = true)
    (a16 : PySem.W.nsIn K mainGlobals "_law_half" = some (some (.ref f16)))
    (l16 : K.lookup f16 = some ⟨oc16, od16, .func (PySem.W.fnOf "_law_half" "_law_half" (defArgs (tp 30)) (defBody (tp 30)) (defScope (tp 30)) .none kV16 dc16 pm16 an16 cd16 ct16), sl16⟩)
    (c16 : PySem.W.codeIn K cd16 "_law_half" = true)
    (k16 : PySem.W.keepIn K (.ref f16) = true)
    (a17 : PySem.W.nsIn K mainGlobals "_law_ahead" = some (some (.ref f17)))
    (l17 : K.lookup f17 = some ⟨oc17, od17, .func (PySem.W.fnOf "_law_ahead" "_law_ahead" (defArgs (tp 31)) (defBody (tp 31)) (defScope (tp 31)) .none kV17 dc17 pm17 an17 cd17 ct17), sl17⟩)
    (c17 : PySem.W.codeIn K cd17 "_law_ahead" = true)
    (k17 : PySem.W.keepIn K (.ref f17) = true)
    (a18 : PySem.W.nsIn K mainGlobals "_law_share" = some (some (.ref f18)))
    (l18 : K.lookup f18 = some ⟨oc18, od18, .func (PySem.W.fnOf "_law_share" "_law_share" (defArgs (tp 32)) (defBody (tp 32)) (defScope (tp 32)) .none kV18 dc18 pm18 an18 cd18 ct18), sl18⟩)
    (c18 : PySem.W.codeIn K cd18 "_law_share" = true)
    (k18 : PySem.W.keepIn K (.ref f18) = true)
    (a19 : PySem.W.nsIn K mainGlobals "_law_early" = some (some (.ref f19)))
    (l19 : K.lookup f19 = some ⟨oc19, od19, .func (PySem.W.fnOf "_law_early" "_law_early" (defArgs (tp 33)) (defBody (tp 33)) (defScope (tp 33)) .none kV19 dc19 pm19 an19 cd19 ct19), sl19⟩)
    (c19 : PySem.W.codeIn K cd19 "_law_early" = true)
    (k19 : PySem.W.keepIn K (.ref f19) = true)
    (a20 : PySem.W.nsIn K mainGlobals "_law_right" = some (some (.ref f20)))
    (l20 : K.lookup f20 = some ⟨oc20, od20, .func (PySem.W.fnOf "_law_right" "_law_right" (defArgs (tp 34)) (defBody (tp 34)) (defScope (tp 34)) .none kV20 dc20 pm20 an20 (.ref cc20) ct20), sl20⟩)
    (c20 : PySem.W.codeIn K (.ref cc20) "_law_right" = true)
    (k20 : PySem.W.keepIn K (.ref f20) = true)
    (x20 : K.lookup cc20 = some ⟨e20, dd20, .fields us20, sx20⟩)
    (p20 : us20[11]? = some (Value.ref P20))
    (h20 : PySem.W.codeHdIn K cc20 P20 = true)
    (n20 : K.lookup P20 = none)
    (a21 : PySem.W.nsIn K mainGlobals "law" = some (some (.ref f21)))
    (l21 : K.lookup f21 = some ⟨oc21, od21, .func (PySem.W.fnOf "law" "law" (defArgs (tp 35)) (defBody (tp 35)) (defScope (tp 35)) .none kV21 dc21 pm21 an21 cd21 ct21), sl21⟩)
    (c21 : PySem.W.codeIn K cd21 "law" = true)
    (k21 : PySem.W.keepIn K (.ref f21) = true)
    (aR : PySem.W.nsIn K mainGlobals "_law_refused" = some (some (.ref fR)))
    (lR : K.lookup fR = some ⟨ocR, odR, .func (PySem.W.fnOf "_law_refused" "_law_refused" (defArgs (tp 29)) (defBody (tp 29)) (defScope (tp 29)) .none kVR dcR pmR anR cdR ctR), slR⟩)
    (cR : PySem.W.codeIn K cdR "_law_refused" = true)
    (kR : PySem.W.keepIn K (.ref fR) = true)
    (ne2_20 : P2 ≠ P20)
    (g0 : PySem.W.nsIn K mainGlobals "MOST_MEMBERS" = some (some (.int 8 tk0)))
    (g1 : PySem.W.nsIn K mainGlobals "MOST_WEIGHT" = some (some (.int 100000 tk1)))
    (g2 : PySem.W.nsIn K mainGlobals "MOST_UNITS" = some (some (.int 500 tk2)))
    (g3 : PySem.W.nsIn K mainGlobals "REMAINDERS" = some (some (.str "remainders" tk3)))
    (g4 : PySem.W.nsIn K mainGlobals "DOWN" = some (some (.str "down" tk4)))
    (g5 : PySem.W.nsIn K mainGlobals "NEAREST" = some (some (.str "nearest" tk5)))
    (g6 : PySem.W.nsIn K mainGlobals "UP" = some (some (.str "up" tk6)))
    (g7 : PySem.W.nsIn K mainGlobals "WAYS" = some (some (.ref aT7)))
    (t7 : K.lookup aT7 = some ⟨.type "tuple", odT7, .seq #[.str "remainders" u7_0, .str "down" u7_1, .str "nearest" u7_2, .str "up" u7_3] nT7, slT7⟩)
    (z0 : PySem.W.nsIn K mainGlobals "len" = some none)
    (z1 : PySem.W.nsIn K mainGlobals "sum" = some none)
    (z2 : PySem.W.nsIn K mainGlobals "min" = some none)
    (z3 : PySem.W.nsIn K mainGlobals "max" = some none)
    (z4 : PySem.W.nsIn K mainGlobals "abs" = some none)
    (z5 : PySem.W.nsIn K mainGlobals "int" = some none)
    (z6 : PySem.W.nsIn K mainGlobals "tuple" = some none)
    (z7 : PySem.W.nsIn K mainGlobals "list" = some none)
    (z8 : PySem.W.nsIn K mainGlobals "sorted" = some none)
    (z9 : PySem.W.nsIn K mainGlobals "all" = some none)
    (z10 : PySem.W.nsIn K mainGlobals "any" = some none)
    (z11 : PySem.W.nsIn K mainGlobals "isinstance" = some none)
    (z12 : PySem.W.nsIn K mainGlobals "bool" = some none)
    (z13 : PySem.W.nsIn K mainGlobals "str" = some none)
    (z14 : PySem.W.nsIn K mainGlobals "range" = some none)
    (z15 : PySem.W.nsIn K mainGlobals "zip" = some none)
    (z16 : PySem.W.nsIn K mainGlobals "set" = some none)
    (z17 : PySem.W.nsIn K mainGlobals "dict" = some none)
    (bC : PySem.W.nsIn K mainGlobals "BadArgument" = some (some (.ref C)))
    (bL : K.lookup C = some (PySem.excClassObj nmB qB C NB bsB [.type "ValueError", .type "Exception", .type "BaseException", .type "object"] true snB subB abB colB ddB m0 m1 m2 m3 m5 "ValueError.__new__"))
    (b1 : PySem.W.findIn K (.ref C) "__setattr__" = some (some (.builtin "object.__setattr__")))
    (b2 : PySem.W.findIn K (.ref C) "__getattribute__" = some (some (.builtin "BaseException.__getattribute__")))
    (b3 : PySem.W.findIn K (.ref C) "__getattr__" = some none)
    (b4 : PySem.W.findIn K (.ref C) "name" = some none)
    (b5 : PySem.W.findIn K (.ref C) "__init__" = some (some (.ref fI)))
    (b6 : PySem.W.typeIn K (.ref fI) = some (.type "function"))
    (b7 : PySem.W.keepIn K (.ref C) = true)
    (b8 : PySem.W.subIn K (.ref C) (.type "BaseException") = some true)
    (b9 : PySem.W.typeIn K (.ref C) = some (.type "type"))
    (b10 : PySem.W.hasDictIn K C = true)
    (b11 : PySem.W.isClsIn K C = true)
    (b12 : PySem.W.subIn K (.ref C) (.ref C) = some true)
    (b13 : PySem.W.nsIn K mainGlobals "super" = some none)
    (b14 : K.lookup fI = some ⟨ocI, odI, .func (PySem.W.ksFn "__init__" "BadArgument.__init__" (PySem.BadX.iA q1 q2) (PySem.BadX.iB r1 r2 r3 r4 r5 r6 r7 r8 w1 w2 w3 w4) PySem.BadX.iS .none .none dcI pmI anI (.ref cdaI) ctI ccI), slI⟩)
    (b15 : PySem.W.codeIn K (.ref cdaI) "BadArgument.__init__" = true)
    (b16 : K.lookup cdaI = some ⟨ccl, cdd, .fields vsI, ccs⟩)
    (b17 : vsI[2]? = some (.str fileI tfI))
    (b18 : ((PySem.Challenge.pw_mutualbox_k02_whole_seats.main.file : Str) == fileI) = true)
    (b19 : (r3.endLine == r7.line) = true)
    (b20 : K.lookup ccI = some ⟨clI, cldI, .cell (some (.ref C)), cslI⟩)
    (b21 : PySem.W.mroIn K C (.ref C) = some true)
    (b22 : PySem.W.subIn K (.ref C) (.type "ValueError") = some true)
    (b23 : PySem.W.ks_superIn K C C "__init__" = some (some (.builtin "ValueError.__init__")))
    (b24 : PySem.W.nsIn K cStatics "thirdparty.any" = some none)
    (law : ∀ ns : List Int, ns.length ≤ 63 → (∀ z ∈ ns, Builtin.Int.intBits z ≤ 1048576) → ∃ fr o, sem (fnsOf defs) 40 21 [Slot.s .fz (.list (ns.map .int))] = .ok fr (.bool true) o) :
    LamX.LawAtS PySem.Challenge.rw_mutualbox_k02_whole_seats w K (CX PySem.Challenge.rw_mutualbox_k02_whole_seats.prog w) (4 * 40) 63 "script" mg fa h := by
  have e := hfa.symm.trans (PySem.W.mg_of X G a21)
  cases e
  have bad : PySem.BadX.BadTxt PySem.Challenge.rw_mutualbox_k02_whole_seats.prog K mg C fI :=
    { gC := PySem.W.mg_of X G bC, cls := ⟨nmB, qB, NB, bsB, _, snB, subB, abB, colB, ddB, m0, m1, m2, m3, m5, bL, by decide +kernel⟩, sa := b1, ga := b2, gg := b3, noN := b4, iC := b5, tC := b6, kC := b7, exC := b8, tyC := b9, hdC := b10,
      te := Mx.exm_same b8 b11 b9 b12, gS := PySem.W.mg_none_of X G b13,
      fn := ⟨_, _, _, _, _, _, _, _, _, _, _, _, _, _, _, _, _, _, _, _, _, _, _, _, _, _, _, _, _, _, _, _, b14, b15, b16, b17, b18, b19, b20⟩, subC := b21, subB := b22, sup := b23, op := b24, top := by decide +kernel }
  refine lawAt_of (T := [(P2, ("are_weights" ++ ".<locals>.") ++ "<genexpr>"), (P20, ("_law_right" ++ ".<locals>.") ++ "<lambda>")]) (C := C) (fI := fI) (n := 40) (f := 21) (d := d_law) (ds := defs) (glb := glbs) (rfn := "_law_refused") [(cc2, P2), (cc20, P20)] ?_ ?_ ?_ ?_ ?_ rfl rfl hfa ⟨_, _, _, _, l21, fun u => rfl⟩ law
  · exact List.forall_mem_cons.mpr ⟨own _ (by simp) f2 (PySem.W.mg_of X G a2) cc2 P2 _ _ _ _ _ _ l2 rfl rfl x2 p2, List.forall_mem_cons.mpr ⟨own _ (by simp) f20 (PySem.W.mg_of X G a20) cc20 P20 _ _ _ _ _ _ l20 rfl rfl x20 p20, (by simp)⟩⟩
  · exact List.forall_mem_cons.mpr ⟨n2, List.forall_mem_cons.mpr ⟨n20, (by simp)⟩⟩
  · exact List.forall_mem_cons.mpr ⟨PySem.W.codeHd_of_K X h2, List.forall_mem_cons.mpr ⟨PySem.W.codeHd_of_K X h20, (by simp)⟩⟩
  · exact List.forall_mem_cons.mpr ⟨⟨cc2, by simp⟩, List.forall_mem_cons.mpr ⟨⟨cc20, by simp⟩, (by simp)⟩⟩
  · intro base KB NB TB
    refine ⟨?_, Mx.glb_cons (v := .int 8) (PySem.W.mg_of X G g0) ⟨tk0, rfl⟩ (fun H O => .int _) <| Mx.glb_cons (v := .int 100000) (PySem.W.mg_of X G g1) ⟨tk1, rfl⟩ (fun H O => .int _) <| Mx.glb_cons (v := .int 500) (PySem.W.mg_of X G g2) ⟨tk2, rfl⟩ (fun H O => .int _) <| Mx.glb_cons (v := .str "remainders") (PySem.W.mg_of X G g3) ⟨tk3, rfl⟩ (fun H O => .str _) <| Mx.glb_cons (v := .str "down") (PySem.W.mg_of X G g4) ⟨tk4, rfl⟩ (fun H O => .str _) <| Mx.glb_cons (v := .str "nearest") (PySem.W.mg_of X G g5) ⟨tk5, rfl⟩ (fun H O => .str _) <| Mx.glb_cons (v := .str "up") (PySem.W.mg_of X G g6) ⟨tk6, rfl⟩ (fun H O => .str _) <| Mx.glb_cons (v := .ref aT7) (PySem.W.mg_of X G g7) rfl (fun H O => .tup (vs := [.str "remainders", .str "down", .str "nearest", .str "up"]) (.inr ⟨_, _, _, t7, rfl, rfl, by show 4 ≤ sizeLine; rw [sizeLine_eq]; decide, .cons ⟨u7_0, rfl⟩ (.cons ⟨u7_1, rfl⟩ (.cons ⟨u7_2, rfl⟩ (.cons ⟨u7_3, rfl⟩ (.nil))))⟩) (.cons (.str _) (.cons (.str _) (.cons (.str _) (.cons (.str _) (.nil)))))) <| Mx.glb_nil, refOk_of (st := tp 29) (n := "e") (i := 1) (Ng := ["call", "e"]) bad (PySem.W.mg_of X G aR) kR lR cR (fun u => rfl) ⟨rfl, rfl, rfl, by decide +kernel, rfl, by decide +kernel, by decide +kernel⟩ rfl (by decide) (by decide +kernel) (by decide +kernel) (by decide +kernel) rfl (by decide +kernel) (by decide +kernel) (by decide +kernel) (by decide +kernel) (by decide +kernel) ⟨_, _, _, _, _, _, _, _, _, _, _, _, rfl⟩, bad, ?_, ?_, ?_⟩
    · exact List.forall_mem_cons.mpr ⟨PySem.W.mg_none_of X G z0, List.forall_mem_cons.mpr ⟨PySem.W.mg_none_of X G z1, List.forall_mem_cons.mpr ⟨PySem.W.mg_none_of X G z2, List.forall_mem_cons.mpr ⟨PySem.W.mg_none_of X G z3, List.forall_mem_cons.mpr ⟨PySem.W.mg_none_of X G z4, List.forall_mem_cons.mpr ⟨PySem.W.mg_none_of X G z5, List.forall_mem_cons.mpr ⟨PySem.W.mg_none_of X G z6, List.forall_mem_cons.mpr ⟨PySem.W.mg_none_of X G z7, List.forall_mem_cons.mpr ⟨PySem.W.mg_none_of X G z8, List.forall_mem_cons.mpr ⟨PySem.W.mg_none_of X G z9, List.forall_mem_cons.mpr ⟨PySem.W.mg_none_of X G z10, List.forall_mem_cons.mpr ⟨PySem.W.mg_none_of X G z11, List.forall_mem_cons.mpr ⟨PySem.W.mg_none_of X G z12, List.forall_mem_cons.mpr ⟨PySem.W.mg_none_of X G z13, List.forall_mem_cons.mpr ⟨PySem.W.mg_none_of X G z14, List.forall_mem_cons.mpr ⟨PySem.W.mg_none_of X G z15, List.forall_mem_cons.mpr ⟨PySem.W.mg_none_of X G z16, List.forall_mem_cons.mpr ⟨PySem.W.mg_none_of X G z17, (by simp)⟩⟩⟩⟩⟩⟩⟩⟩⟩⟩⟩⟩⟩⟩⟩⟩⟩⟩
    · refine Mx.defs_cons ?_ <| Mx.defs_cons ?_ <| Mx.defs_cons ?_ <| Mx.defs_cons ?_ <| Mx.defs_cons ?_ <| Mx.defs_cons ?_ <| Mx.defs_cons ?_ <| Mx.defs_cons ?_ <| Mx.defs_cons ?_ <| Mx.defs_cons ?_ <| Mx.defs_cons ?_ <| Mx.defs_cons ?_ <| Mx.defs_cons ?_ <| Mx.defs_cons ?_ <| Mx.defs_cons ?_ <| Mx.defs_cons ?_ <| Mx.defs_cons ?_ <| Mx.defs_cons ?_ <| Mx.defs_cons ?_ <| Mx.defs_cons ?_ <| Mx.defs_cons ?_ <| Mx.defs_cons ?_ <| Mx.defs_nil
      · exact ⟨_, PySem.W.mg_of X G a0, k0, ⟨_, _, _, _, _, _, _, _, _, l0, c0, fun s hs => by cases hs⟩,
        fun _ _ _ _ _ _ n us ws h1 h2 h3 => by
          obtain ⟨l, hl, rfl, rfl⟩ := Mx.split_args h1 h2 h3
          match l, hl with
          | [v0], _ => match n, h1 with
            | 0, _ => rfl
            | 1, _ => rfl
            | n + 2, h => exact absurd h (by show ¬ (n + 2 ≤ 1); omega)⟩
      · exact ⟨_, PySem.W.mg_of X G a1, k1, ⟨_, _, _, _, _, _, _, _, _, l1, c1, fun s hs => by cases hs⟩,
        fun _ _ _ _ _ _ n us ws h1 h2 h3 => by
          obtain ⟨l, hl, rfl, rfl⟩ := Mx.split_args h1 h2 h3
          match l, hl with
          | [v0, v1, v2, v3], _ => match n, h1 with
            | 0, _ => rfl
            | 1, _ => rfl
            | 2, _ => rfl
            | 3, _ => rfl
            | 4, _ => rfl
            | n + 5, h => exact absurd h (by show ¬ (n + 5 ≤ 4); omega)⟩
      · exact ⟨_, PySem.W.mg_of X G a2, k2, ⟨_, _, _, _, _, _, _, _, _, l2, c2, fun s hs => by cases hs; exact ⟨cc2, P2, rfl, TB (cc2, P2) (by simp), .head _, List.forall_mem_cons.mpr ⟨fun _ => rfl, List.forall_mem_cons.mpr ⟨fun z => absurd z (Ne.symm ne2_20), (by simp)⟩⟩⟩⟩,
        fun _ _ _ _ _ _ n us ws h1 h2 h3 => by
          obtain ⟨l, hl, rfl, rfl⟩ := Mx.split_args h1 h2 h3
          match l, hl with
          | [v0], _ => match n, h1 with
            | 0, _ => rfl
            | 1, _ => rfl
            | n + 2, h => exact absurd h (by show ¬ (n + 2 ≤ 1); omega)⟩
      · exact ⟨_, PySem.W.mg_of X G a3, k3, ⟨_, _, _, _, _, _, _, _, _, l3, c3, fun s hs => by cases hs⟩,
        fun _ _ _ _ _ _ n us ws h1 h2 h3 => by
          obtain ⟨l, hl, rfl, rfl⟩ := Mx.split_args h1 h2 h3
          match l, hl with
          | [v0, v1, v2], _ => match n, h1 with
            | 0, _ => rfl
            | 1, _ => rfl
            | 2, _ => rfl
            | 3, _ => rfl
            | n + 4, h => exact absurd h (by show ¬ (n + 4 ≤ 3); omega)⟩
      · exact ⟨_, PySem.W.mg_of X G a4, k4, ⟨_, _, _, _, _, _, _, _, _, l4, c4, fun s hs => by cases hs⟩,
        fun _ _ _ _ _ _ n us ws h1 h2 h3 => by
          obtain ⟨l, hl, rfl, rfl⟩ := Mx.split_args h1 h2 h3
          match l, hl with
          | [v0, v1], _ => match n, h1 with
            | 0, _ => rfl
            | 1, _ => rfl
            | 2, _ => rfl
            | n + 3, h => exact absurd h (by show ¬ (n + 3 ≤ 2); omega)⟩
      · exact ⟨_, PySem.W.mg_of X G a5, k5, ⟨_, _, _, _, _, _, _, _, _, l5, c5, fun s hs => by cases hs⟩,
        fun _ _ _ _ _ _ n us ws h1 h2 h3 => by
          obtain ⟨l, hl, rfl, rfl⟩ := Mx.split_args h1 h2 h3
          match l, hl with
          | [v0, v1], _ => match n, h1 with
            | 0, _ => rfl
            | 1, _ => rfl
            | 2, _ => rfl
            | n + 3, h => exact absurd h (by show ¬ (n + 3 ≤ 2); omega)⟩
      · exact ⟨_, PySem.W.mg_of X G a6, k6, ⟨_, _, _, _, _, _, _, _, _, l6, c6, fun s hs => by cases hs⟩,
        fun _ _ _ _ _ _ n us ws h1 h2 h3 => by
          obtain ⟨l, hl, rfl, rfl⟩ := Mx.split_args h1 h2 h3
          match l, hl with
          | [v0, v1, v2], _ => match n, h1 with
            | 0, _ => rfl
            | 1, _ => rfl
            | 2, _ => rfl
            | 3, _ => rfl
            | n + 4, h => exact absurd h (by show ¬ (n + 4 ≤ 3); omega)⟩
      · exact ⟨_, PySem.W.mg_of X G a7, k7, ⟨_, _, _, _, _, _, _, _, _, l7, c7, fun s hs => by cases hs⟩,
        fun _ _ _ _ _ _ n us ws h1 h2 h3 => by
          obtain ⟨l, hl, rfl, rfl⟩ := Mx.split_args h1 h2 h3
          match l, hl with
          | [v0, v1, v2], _ => match n, h1 with
            | 0, _ => rfl
            | 1, _ => rfl
            | 2, _ => rfl
            | 3, _ => rfl
            | n + 4, h => exact absurd h (by show ¬ (n + 4 ≤ 3); omega)⟩
      · exact ⟨_, PySem.W.mg_of X G a8, k8, ⟨_, _, _, _, _, _, _, _, _, l8, c8, fun s hs => by cases hs⟩,
        fun _ _ _ _ _ _ n us ws h1 h2 h3 => by
          obtain ⟨l, hl, rfl, rfl⟩ := Mx.split_args h1 h2 h3
          match l, hl with
          | [v0, v1, v2], _ => match n, h1 with
            | 0, _ => rfl
            | 1, _ => rfl
            | 2, _ => rfl
            | 3, _ => rfl
            | n + 4, h => exact absurd h (by show ¬ (n + 4 ≤ 3); omega)⟩
      · exact ⟨_, PySem.W.mg_of X G a9, k9, ⟨_, _, _, _, _, _, _, _, _, l9, c9, fun s hs => by cases hs⟩,
        fun _ _ _ _ _ _ n us ws h1 h2 h3 => by
          obtain ⟨l, hl, rfl, rfl⟩ := Mx.split_args h1 h2 h3
          match l, hl with
          | [v0, v1, v2], _ => match n, h1 with
            | 0, _ => rfl
            | 1, _ => rfl
            | 2, _ => rfl
            | 3, _ => rfl
            | n + 4, h => exact absurd h (by show ¬ (n + 4 ≤ 3); omega)⟩
      · exact ⟨_, PySem.W.mg_of X G a10, k10, ⟨_, _, _, _, _, _, _, _, _, l10, c10, fun s hs => by cases hs⟩,
        fun _ _ _ _ _ _ n us ws h1 h2 h3 => by
          obtain ⟨l, hl, rfl, rfl⟩ := Mx.split_args h1 h2 h3
          match l, hl with
          | [v0, v1, v2], _ => match n, h1 with
            | 0, _ => rfl
            | 1, _ => rfl
            | 2, _ => rfl
            | 3, _ => rfl
            | n + 4, h => exact absurd h (by show ¬ (n + 4 ≤ 3); omega)⟩
      · exact ⟨_, PySem.W.mg_of X G a11, k11, ⟨_, _, _, _, _, _, _, _, _, l11, c11, fun s hs => by cases hs⟩,
        fun _ _ _ _ _ _ n us ws h1 h2 h3 => by
          obtain ⟨l, hl, rfl, rfl⟩ := Mx.split_args h1 h2 h3
          match l, hl with
          | [v0, v1, v2], _ => match n, h1 with
            | 0, _ => rfl
            | 1, _ => rfl
            | 2, _ => rfl
            | 3, _ => rfl
            | n + 4, h => exact absurd h (by show ¬ (n + 4 ≤ 3); omega)⟩
      · exact ⟨_, PySem.W.mg_of X G a12, k12, ⟨_, _, _, _, _, _, _, _, _, l12, c12, fun s hs => by cases hs⟩,
        fun _ _ _ _ _ _ n us ws h1 h2 h3 => by
          obtain ⟨l, hl, rfl, rfl⟩ := Mx.split_args h1 h2 h3
          match l, hl with
          | [v0, v1, v2, v3], _ => match n, h1 with
            | 0, _ => rfl
            | 1, _ => rfl
            | 2, _ => rfl
            | 3, _ => rfl
            | 4, _ => rfl
            | n + 5, h => exact absurd h (by show ¬ (n + 5 ≤ 4); omega)⟩
      · exact ⟨_, PySem.W.mg_of X G a13, k13, ⟨_, _, _, _, _, _, _, _, _, l13, c13, fun s hs => by cases hs⟩,
        fun _ _ _ _ _ _ n us ws h1 h2 h3 => by
          obtain ⟨l, hl, rfl, rfl⟩ := Mx.split_args h1 h2 h3
          match l, hl with
          | [v0, v1], _ => match n, h1 with
            | 0, _ => rfl
            | 1, _ => rfl
            | 2, _ => rfl
            | n + 3, h => exact absurd h (by show ¬ (n + 3 ≤ 2); omega)⟩
      · exact ⟨_, PySem.W.mg_of X G a14, k14, ⟨_, _, _, _, _, _, _, _, _, l14, c14, fun s hs => by cases hs⟩,
        fun _ _ _ _ _ _ n us ws h1 h2 h3 => by
          obtain ⟨l, hl, rfl, rfl⟩ := Mx.split_args h1 h2 h3
          match l, hl with
          | [v0, v1], _ => match n, h1 with
            | 0, _ => rfl
            | 1, _ => rfl
            | 2, _ => rfl
            | n + 3, h => exact absurd h (by show ¬ (n + 3 ≤ 2); omega)⟩
      · exact ⟨_, PySem.W.mg_of X G a15, k15, ⟨_, _, _, _, _, _, _, _, _, l15, c15, fun s hs => by cases hs⟩,
        fun _ _ _ _ _ _ n us ws h1 h2 h3 => by
          obtain ⟨l, hl, rfl, rfl⟩ := Mx.split_args h1 h2 h3
          match l, hl with
          | [v0, v1], _ => match n, h1 with
            | 0, _ => rfl
            | 1, _ => rfl
            | 2, _ => rfl
            | n + 3, h => exact absurd h (by show ¬ (n + 3 ≤ 2); omega)⟩
      · exact ⟨_, PySem.W.mg_of X G a16, k16, ⟨_, _, _, _, _, _, _, _, _, l16, c16, fun s hs => by cases hs⟩,
        fun _ _ _ _ _ _ n us ws h1 h2 h3 => by
          obtain ⟨l, hl, rfl, rfl⟩ := Mx.split_args h1 h2 h3
          match l, hl with
          | [v0, v1], _ => match n, h1 with
            | 0, _ => rfl
            | 1, _ => rfl
            | 2, _ => rfl
            | n + 3, h => exact absurd h (by show ¬ (n + 3 ≤ 2); omega)⟩
      · exact ⟨_, PySem.W.mg_of X G a17, k17, ⟨_, _, _, _, _, _, _, _, _, l17, c17, fun s hs => by cases hs⟩,
        fun _ _ _ _ _ _ n us ws h1 h2 h3 => by
          obtain ⟨l, hl, rfl, rfl⟩ := Mx.split_args h1 h2 h3
          match l, hl with
          | [v0, v1], _ => match n, h1 with
            | 0, _ => rfl
            | 1, _ => rfl
            | 2, _ => rfl
            | n + 3, h => exact absurd h (by show ¬ (n + 3 ≤ 2); omega)⟩
      · exact ⟨_, PySem.W.mg_of X G a18, k18, ⟨_, _, _, _, _, _, _, _, _, l18, c18, fun s hs => by cases hs⟩,
        fun _ _ _ _ _ _ n us ws h1 h2 h3 => by
          obtain ⟨l, hl, rfl, rfl⟩ := Mx.split_args h1 h2 h3
          match l, hl with
          | [v0, v1, v2], _ => match n, h1 with
            | 0, _ => rfl
            | 1, _ => rfl
            | 2, _ => rfl
            | 3, _ => rfl
            | n + 4, h => exact absurd h (by show ¬ (n + 4 ≤ 3); omega)⟩
      · exact ⟨_, PySem.W.mg_of X G a19, k19, ⟨_, _, _, _, _, _, _, _, _, l19, c19, fun s hs => by cases hs⟩,
        fun _ _ _ _ _ _ n us ws h1 h2 h3 => by
          obtain ⟨l, hl, rfl, rfl⟩ := Mx.split_args h1 h2 h3
          match l, hl with
          | [v0, v1, v2, v3, v4], _ => match n, h1 with
            | 0, _ => rfl
            | 1, _ => rfl
            | 2, _ => rfl
            | 3, _ => rfl
            | 4, _ => rfl
            | 5, _ => rfl
            | n + 6, h => exact absurd h (by show ¬ (n + 6 ≤ 5); omega)⟩
      · exact ⟨_, PySem.W.mg_of X G a20, k20, ⟨_, _, _, _, _, _, _, _, _, l20, c20, fun s hs => by cases hs; exact ⟨cc20, P20, rfl, TB (cc20, P20) (by simp), .tail _ (.head _), List.forall_mem_cons.mpr ⟨fun z => absurd z ne2_20, List.forall_mem_cons.mpr ⟨fun _ => rfl, (by simp)⟩⟩⟩⟩,
        fun _ _ _ _ _ _ n us ws h1 h2 h3 => by
          obtain ⟨l, hl, rfl, rfl⟩ := Mx.split_args h1 h2 h3
          match l, hl with
          | [v0], _ => match n, h1 with
            | 0, _ => rfl
            | 1, _ => rfl
            | n + 2, h => exact absurd h (by show ¬ (n + 2 ≤ 1); omega)⟩
      · exact ⟨_, PySem.W.mg_of X G a21, k21, ⟨_, _, _, _, _, _, _, _, _, l21, c21, fun s hs => by cases hs⟩,
        fun _ _ _ _ _ _ n us ws h1 h2 h3 => by
          obtain ⟨l, hl, rfl, rfl⟩ := Mx.split_args h1 h2 h3
          match l, hl with
          | [v0], _ => match n, h1 with
            | 0, _ => rfl
            | 1, _ => rfl
            | n + 2, h => exact absurd h (by show ¬ (n + 2 ≤ 1); omega)⟩
    · exact List.forall_mem_cons.mpr ⟨s_is_integer, List.forall_mem_cons.mpr ⟨s_need_integer, List.forall_mem_cons.mpr ⟨s_are_weights, List.forall_mem_cons.mpr ⟨s_need_share, List.forall_mem_cons.mpr ⟨s_by_remainders, List.forall_mem_cons.mpr ⟨s_next_claim, List.forall_mem_cons.mpr ⟨s_by_divisors, List.forall_mem_cons.mpr ⟨s_shared, List.forall_mem_cons.mpr ⟨s_share, List.forall_mem_cons.mpr ⟨s_losers_by_more, List.forall_mem_cons.mpr ⟨s_first_loss, List.forall_mem_cons.mpr ⟨s_off_quota, List.forall_mem_cons.mpr ⟨s_least_units, List.forall_mem_cons.mpr ⟨s__law_dice, List.forall_mem_cons.mpr ⟨s__law_roll, List.forall_mem_cons.mpr ⟨s__law_pick, List.forall_mem_cons.mpr ⟨s__law_half, List.forall_mem_cons.mpr ⟨s__law_ahead, List.forall_mem_cons.mpr ⟨s__law_share, List.forall_mem_cons.mpr ⟨s__law_early, List.forall_mem_cons.mpr ⟨s__law_right, List.forall_mem_cons.mpr ⟨s_law, (by simp)⟩⟩⟩⟩⟩⟩⟩⟩⟩⟩⟩⟩⟩⟩⟩⟩⟩⟩⟩⟩⟩⟩
    · exact List.forall_mem_cons.mpr ⟨k_is_integer, List.forall_mem_cons.mpr ⟨k_need_integer, List.forall_mem_cons.mpr ⟨k_are_weights, List.forall_mem_cons.mpr ⟨k_need_share, List.forall_mem_cons.mpr ⟨k_by_remainders, List.forall_mem_cons.mpr ⟨k_next_claim, List.forall_mem_cons.mpr ⟨k_by_divisors, List.forall_mem_cons.mpr ⟨k_shared, List.forall_mem_cons.mpr ⟨k_share, List.forall_mem_cons.mpr ⟨k_losers_by_more, List.forall_mem_cons.mpr ⟨k_first_loss, List.forall_mem_cons.mpr ⟨k_off_quota, List.forall_mem_cons.mpr ⟨k_least_units, List.forall_mem_cons.mpr ⟨k__law_dice, List.forall_mem_cons.mpr ⟨k__law_roll, List.forall_mem_cons.mpr ⟨k__law_pick, List.forall_mem_cons.mpr ⟨k__law_half, List.forall_mem_cons.mpr ⟨k__law_ahead, List.forall_mem_cons.mpr ⟨k__law_share, List.forall_mem_cons.mpr ⟨k__law_early, List.forall_mem_cons.mpr ⟨k__law_right, List.forall_mem_cons.mpr ⟨k_law, (by simp)⟩⟩⟩⟩⟩⟩⟩⟩⟩⟩⟩⟩⟩⟩⟩⟩⟩⟩⟩⟩⟩⟩
end K02
-- ORDER a0 l0 c0 k0 a1 l1 c1 k1 a2 l2 c2 k2 x2 p2 h2 n2 a3 l3 c3 k3 a4 l4 c4 k4 a5 l5 c5 k5 a6 l6 c6 k6 a7 l7 c7 k7 a8 l8 c8 k8 a9 l9 c9 k9 a10 l10 c10 k10 a11 l11 c11 k11 a12 l12 c12 k12 a13 l13 c13 k13 a14 l14 c14 k14 a15 l15 c15 k15 a16 l16 c16 k16 a17 l17 c17 k17 a18 l18 c18 k18 a19 l19 c19 k19 a20 l20 c20 k20 x20 p20 h20 n20 a21 l21 c21 k21 aR lR cR kR ne2_20 g0 g1 g2 g3 g4 g5 g6 g7 t7 z0 z1 z2 z3 z4 z5 z6 z7 z8 z9 z10 z11 z12 z13 z14 z15 z16 z17 bC bL b1 b2 b3 b4 b5 b6 b7 b8 b9 b10 b11 b12 b13 b14 b15 b16 b17 b18 b19 b20 b21 b22 b23 b24
end

section
open PySem PySem.W PyProof.Rows
set_option Elab.async false
namespace K02
open Mx PySem L2 PyProof.Rows
end K02
open PySem PySem.W PyProof.Rows
set_option maxRecDepth 100000 in
set_option maxHeartbeats 0 in
theorem PySem.Challenge.cw_mutualbox_k02_whole_seats_holds : PySem.Challenge.rw_mutualbox_k02_whole_seats.Holds := by
  w_on; o_law; k_head; (case hw => w_witness2)
  k_fill
  refine LamX.walk_mx (l := PySem.Challenge.rw_mutualbox_k02_whole_seats) (m := 63) (lv := 160) (x := "script") ["are_weights", "_law_right"] rfl (by decide) rfl ⟨rfl, by decide, by decide⟩ (by decide +kernel) (fun w h Y => PySem.W.km_in_of Y) ?F
  case F =>
    intro w mg fa h Y KX G hmg own
    refine' K02.at_mk KX G hmg own ?m_a0 ?m_l0 ?m_c0 ?m_k0 ?m_a1 ?m_l1 ?m_c1 ?m_k1 ?m_a2 ?m_l2 ?m_c2 ?m_k2 ?m_x2 ?m_p2 ?m_h2 ?m_n2 ?m_a3 ?m_l3 ?m_c3 ?m_k3 ?m_a4 ?m_l4 ?m_c4 ?m_k4 ?m_a5 ?m_l5 ?m_c5 ?m_k5 ?m_a6 ?m_l6 ?m_c6 ?m_k6 ?m_a7 ?m_l7 ?m_c7 ?m_k7 ?m_a8 ?m_l8 ?m_c8 ?m_k8 ?m_a9 ?m_l9 ?m_c9 ?m_k9 ?m_a10 ?m_l10 ?m_c10 ?m_k10 ?m_a11 ?m_l11 ?m_c11 ?m_k11 ?m_a12 ?m_l12 ?m_c12 ?m_k12 ?m_a13 ?m_l13 ?m_c13 ?m_k13 ?m_a14 ?m_l14 ?m_c14 ?m_k14 ?m_a15 ?m_l15 ?m_c15 ?m_k15 ?m_a16 ?m_l16 ?m_c16 ?m_k16 ?m_a17 ?m_l17 ?m_c17 ?m_k17 ?m_a18 ?m_l18 ?m_c18 ?m_k18 ?m_a19 ?m_l19 ?m_c19 ?m_k19 ?m_a20 ?m_l20 ?m_c20 ?m_k20 ?m_x20 ?m_p20 ?m_h20 ?m_n20 ?m_a21 ?m_l21 ?m_c21 ?m_k21 ?m_aR ?m_lR ?m_cR ?m_kR ?m_ne2_20 ?m_g0 ?m_g1 ?m_g2 ?m_g3 ?m_g4 ?m_g5 ?m_g6 ?m_g7 ?m_t7 ?m_z0 ?m_z1 ?m_z2 ?m_z3 ?m_z4 ?m_z5 ?m_z6 ?m_z7 ?m_z8 ?m_z9 ?m_z10 ?m_z11 ?m_z12 ?m_z13 ?m_z14 ?m_z15 ?m_z16 ?m_z17 ?m_bC ?m_bL ?m_b1 ?m_b2 ?m_b3 ?m_b4 ?m_b5 ?m_b6 ?m_b7 ?m_b8 ?m_b9 ?m_b10 ?m_b11 ?m_b12 ?m_b13 ?m_b14 ?m_b15 ?m_b16 ?m_b17 ?m_b18 ?m_b19 ?m_b20 ?m_b21 ?m_b22 ?m_b23 ?m_b24 (fun ns h _ => K02.law_true ns h)
    (case m_a0 => first | k_is | rfl)
    (case m_l0 => first | k_is | rfl)
    (case m_c0 => first | k_is | rfl)
    (case m_k0 => first | k_is | rfl)
    (case m_a1 => first | k_is | rfl)
    (case m_l1 => first | k_is | rfl)
    (case m_c1 => first | k_is | rfl)
    (case m_k1 => first | k_is | rfl)
    (case m_a2 => first | k_is | rfl)
    (case m_l2 => first | k_is | rfl)
    (case m_c2 => first | k_is | rfl)
    (case m_k2 => first | k_is | rfl)
    (case m_x2 => first | k_is | rfl)
    (case m_p2 => first | rfl | k_is | decide +kernel)
    (case m_h2 => first | k_is | rfl)
    (case m_n2 => first | k_is | rfl)
    (case m_a3 => first | k_is | rfl)
    (case m_l3 => first | k_is | rfl)
    (case m_c3 => first | k_is | rfl)
    (case m_k3 => first | k_is | rfl)
    (case m_a4 => first | k_is | rfl)
    (case m_l4 => first | k_is | rfl)
    (case m_c4 => first | k_is | rfl)
    (case m_k4 => first | k_is | rfl)
    (case m_a5 => first | k_is | rfl)
    (case m_l5 => first | k_is | rfl)
    (case m_c5 => first | k_is | rfl)
    (case m_k5 => first | k_is | rfl)
    (case m_a6 => first | k_is | rfl)
    (case m_l6 => first | k_is | rfl)
    (case m_c6 => first | k_is | rfl)
    (case m_k6 => first | k_is | rfl)
    (case m_a7 => first | k_is | rfl)
    (case m_l7 => first | k_is | rfl)
    (case m_c7 => first | k_is | rfl)
    (case m_k7 => first | k_is | rfl)
    (case m_a8 => first | k_is | rfl)
    (case m_l8 => first | k_is | rfl)
    (case m_c8 => first | k_is | rfl)
    (case m_k8 => first | k_is | rfl)
    (case m_a9 => first | k_is | rfl)
    (case m_l9 => first | k_is | rfl)
    (case m_c9 => first | k_is | rfl)
    (case m_k9 => first | k_is | rfl)
    (case m_a10 => first | k_is | rfl)
    (case m_l10 => first | k_is | rfl)
    (case m_c10 => first | k_is | rfl)
    (case m_k10 => first | k_is | rfl)
    (case m_a11 => first | k_is | rfl)
    (case m_l11 => first | k_is | rfl)
    (case m_c11 => first | k_is | rfl)
    (case m_k11 => first | k_is | rfl)
    (case m_a12 => first | k_is | rfl)
    (case m_l12 => first | k_is | rfl)
    (case m_c12 => first | k_is | rfl)
    (case m_k12 => first | k_is | rfl)
    (case m_a13 => first | k_is | rfl)
    (case m_l13 => first | k_is | rfl)
    (case m_c13 => first | k_is | rfl)
    (case m_k13 => first | k_is | rfl)
    (case m_a14 => first | k_is | rfl)
    (case m_l14 => first | k_is | rfl)
    (case m_c14 => first | k_is | rfl)
    (case m_k14 => first | k_is | rfl)
    (case m_a15 => first | k_is | rfl)
    (case m_l15 => first | k_is | rfl)
    (case m_c15 => first | k_is | rfl)
    (case m_k15 => first | k_is | rfl)
    (case m_a16 => first | k_is | rfl)
    (case m_l16 => first | k_is | rfl)
    (case m_c16 => first | k_is | rfl)
    (case m_k16 => first | k_is | rfl)
    (case m_a17 => first | k_is | rfl)
    (case m_l17 => first | k_is | rfl)
    (case m_c17 => first | k_is | rfl)
    (case m_k17 => first | k_is | rfl)
    (case m_a18 => first | k_is | rfl)
    (case m_l18 => first | k_is | rfl)
    (case m_c18 => first | k_is | rfl)
    (case m_k18 => first | k_is | rfl)
    (case m_a19 => first | k_is | rfl)
    (case m_l19 => first | k_is | rfl)
    (case m_c19 => first | k_is | rfl)
    (case m_k19 => first | k_is | rfl)
    (case m_a20 => first | k_is | rfl)
    (case m_l20 => first | k_is | rfl)
    (case m_c20 => first | k_is | rfl)
    (case m_k20 => first | k_is | rfl)
    (case m_x20 => first | k_is | rfl)
    (case m_p20 => first | rfl | k_is | decide +kernel)
    (case m_h20 => first | k_is | rfl)
    (case m_n20 => first | k_is | rfl)
    (case m_a21 => first | k_is | rfl)
    (case m_l21 => first | k_is | rfl)
    (case m_c21 => first | k_is | rfl)
    (case m_k21 => first | k_is | rfl)
    (case m_aR => first | k_is | rfl)
    (case m_lR => first | k_is | rfl)
    (case m_cR => first | k_is | rfl)
    (case m_kR => first | k_is | rfl)
    (case m_ne2_20 => first | decide | k_is | decide +kernel)
    (case m_g0 => first | k_is | rfl)
    (case m_g1 => first | k_is | rfl)
    (case m_g2 => first | k_is | rfl)
    (case m_g3 => first | k_is | rfl)
    (case m_g4 => first | k_is | rfl)
    (case m_g5 => first | k_is | rfl)
    (case m_g6 => first | k_is | rfl)
    (case m_g7 => first | k_is | rfl)
    (case m_t7 => first | k_is | rfl)
    (case m_z0 => first | k_is | rfl)
    (case m_z1 => first | k_is | rfl)
    (case m_z2 => first | k_is | rfl)
    (case m_z3 => first | k_is | rfl)
    (case m_z4 => first | k_is | rfl)
    (case m_z5 => first | k_is | rfl)
    (case m_z6 => first | k_is | rfl)
    (case m_z7 => first | k_is | rfl)
    (case m_z8 => first | k_is | rfl)
    (case m_z9 => first | k_is | rfl)
    (case m_z10 => first | k_is | rfl)
    (case m_z11 => first | k_is | rfl)
    (case m_z12 => first | k_is | rfl)
    (case m_z13 => first | k_is | rfl)
    (case m_z14 => first | k_is | rfl)
    (case m_z15 => first | k_is | rfl)
    (case m_z16 => first | k_is | rfl)
    (case m_z17 => first | k_is | rfl)
    (case m_bC => first | k_is | rfl)
    (case m_bL => first | k_is | rfl)
    (case m_b1 => first | k_is | rfl)
    (case m_b2 => first | k_is | rfl)
    (case m_b3 => first | k_is | rfl)
    (case m_b4 => first | k_is | rfl)
    (case m_b5 => first | k_is | rfl)
    (case m_b6 => first | k_is | rfl)
    (case m_b7 => first | k_is | rfl)
    (case m_b8 => first | k_is | rfl)
    (case m_b9 => first | k_is | rfl)
    (case m_b10 => first | k_is | rfl)
    (case m_b11 => first | k_is | rfl)
    (case m_b12 => first | k_is | rfl)
    (case m_b13 => first | k_is | rfl)
    (case m_b14 => first | k_is | rfl)
    (case m_b15 => first | k_is | rfl)
    (case m_b16 => first | k_is | rfl)
    (case m_b17 => first | rfl | k_is | decide +kernel)
    (case m_b18 => first | rfl | k_is | decide +kernel)
    (case m_b19 => first | rfl | k_is | decide +kernel)
    (case m_b20 => first | k_is | rfl)
    (case m_b21 => first | k_is | rfl)
    (case m_b22 => first | k_is | rfl)
    (case m_b23 => first | k_is | rfl)
    (case m_b24 => first | k_is | rfl)
end
