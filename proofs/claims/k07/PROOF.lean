import PyProof.Rows.All
import Wide.All
import OpenK.AllK
import Wide.FinOn
import HandS.ForMost
import HandS.AnyAll
import HandS.GenList
import HandS.SortKw
import HandS.Lambda
import KE.SortKeyHeap
import KE.KMinKey
import HandS.DictTup
import HandS.TupAny
import HandS.Zip
import KE.GoesEnum
import HandS.IsInst
import HandS.Conv
import HandS.TupLen
import PyProof.P3In
import HandS.SortInts
import KE.SortData
import HandS.Style
import KE.KDictDisplayH
import HandS.Defaults
import HandS.HeadHook1
import HandS.HeadHook2
import HandS.HeadHook3
import HandS.HeadHook4
import HandS.HeadWalk
import HandS.TupSets
import HandS.TupLe
import HandS.ForExc
import HandS.ExcIs
import HandS.Nested
import HandS.Deep
import KE.DataFind
import HandS.ExcInit
import HandS.ExcField
import HandS.TupMul
import PySem.Challenge.RW_nightslates_k07_houses_refused
import HandS.Head0
import HandS.Head1
import HandS.Head2
import HandS.HeadEnd
set_option Elab.async false
set_option linter.all false
set_option maxRecDepth 100000
set_option maxHeartbeats 2000000
/-! all(..), any(..) of a generator expression over anything that PI serves; the element any expression of the layer. -/
namespace DL
open PySem PySem.Spec PyProof.Rows L2 GenW

/-! ### the loops of all and any, by a word of one's own -/
section
variable {prog : Program} {w : World} {A : Around} {R : Result → Shared → Prop} {I : Addr} {n : Nat} {tr : Nat → Bool} {St : Nat → Shared → Prop} {Fi : Shared → Prop}
structure Goer (prog : Program) (w : World) (A : Around) (I : Addr) (n : Nat) (tr : Nat → Bool) (St : Nat → Shared → Prop) (Fi : Shared → Prop) : Prop where
  item : ∀ i (s : Shared) (Q : Option Value → Shared → Prop) (E : Value → Shared → Prop), i < n → St i s → (∀ s', St (i + 1) s' → Q (some (.bool (tr i))) s') → wpAny (model prog w) A (pyNext (.ref I)) Q E s
  done : ∀ (s : Shared) (Q : Option Value → Shared → Prop) (E : Value → Shared → Prop), St n s → (∀ s', Fi s' → Q none s') → wpAny (model prog w) A (pyNext (.ref I)) Q E s
theorem all_loop (W : Goer prog w A.in1 I n tr St Fi) : ∀ (k i : Nat) (s : Shared), n - i = k → i ≤ n → St i s →
    (∀ s', (Fi s' ∨ ∃ j, j ≤ n ∧ St j s') → R (.ok (.ret (.bool (((List.range n).drop i).all tr)))) s') → codeAny (model prog w) A (.builtin "all.loop" ⟨[.ref I], []⟩) R s := by
  intro k
  induction k with
  | zero =>
    intro i s hk hi hst hR
    have hin : i = n := by omega
    subst hin
    refine codeAny_builtin F.entry_all_loop ?_
    rw [Around.under_plainId F.plain_all_loop _]
    show wpAny _ A.in1 (pyNext (.ref I) >>= _) _ _ s
    refine wpAny_bind (W.done s _ _ hst fun s' hm => ?_)
    refine wpAny_bind (wpAny_rule (wpAny_pure ?_))
    have := hR s' (.inl hm)
    rw [List.drop_of_length_le (by simp)] at this
    exact this
  | succ k ih =>
    intro i s hk hi hst hR
    have hlt : i < n := by omega
    have hd : (List.range n).drop i = i :: (List.range n).drop (i + 1) := by
      rw [List.drop_eq_getElem_cons (by simpa using hlt)]; simp
    refine codeAny_builtin F.entry_all_loop ?_
    rw [Around.under_plainId F.plain_all_loop _]
    show wpAny _ A.in1 (pyNext (.ref I) >>= _) _ _ s
    refine wpAny_bind (W.item i s _ _ hlt hst fun s' hst' => ?_)
    refine wpAny_bind (wpAny_holding (wpAny_truthy_bool ?_))
    refine wpAny_bind (wpAny_letGo ?_)
    cases hb : tr i with
    | true =>
      simp only [if_true]
      refine wpAny_pure ⟨plainId_quiet F.plain_all_loop _, ih (i + 1) _ (by omega) hlt hst' fun s'' hm' => ?_⟩
      have := hR s'' hm'
      rw [hd, List.all_cons, hb, Bool.true_and] at this
      exact this
    | false =>
      simp only [Bool.false_eq_true, if_false]
      refine wpAny_bind (wpAny_rule (wpAny_pure ?_))
      have := hR s' (.inr ⟨i + 1, hlt, hst'⟩)
      rw [hd, List.all_cons, hb, Bool.false_and] at this
      exact this
theorem any_loop (W : Goer prog w A.in1 I n tr St Fi) : ∀ (k i : Nat) (s : Shared), n - i = k → i ≤ n → St i s →
    (∀ s', (Fi s' ∨ ∃ j, j ≤ n ∧ St j s') → R (.ok (.ret (.bool (((List.range n).drop i).any tr)))) s') → codeAny (model prog w) A (.builtin "any.loop" ⟨[.ref I], []⟩) R s := by
  intro k
  induction k with
  | zero =>
    intro i s hk hi hst hR
    have hin : i = n := by omega
    subst hin
    refine codeAny_builtin F.entry_any_loop ?_
    rw [Around.under_plainId F.plain_any_loop _]
    show wpAny _ A.in1 (pyNext (.ref I) >>= _) _ _ s
    refine wpAny_bind (W.done s _ _ hst fun s' hm => ?_)
    refine wpAny_bind (wpAny_rule (wpAny_pure ?_))
    have := hR s' (.inl hm)
    rw [List.drop_of_length_le (by simp)] at this
    exact this
  | succ k ih =>
    intro i s hk hi hst hR
    have hlt : i < n := by omega
    have hd : (List.range n).drop i = i :: (List.range n).drop (i + 1) := by
      rw [List.drop_eq_getElem_cons (by simpa using hlt)]; simp
    refine codeAny_builtin F.entry_any_loop ?_
    rw [Around.under_plainId F.plain_any_loop _]
    show wpAny _ A.in1 (pyNext (.ref I) >>= _) _ _ s
    refine wpAny_bind (W.item i s _ _ hlt hst fun s' hst' => ?_)
    refine wpAny_bind (wpAny_holding (wpAny_truthy_bool ?_))
    refine wpAny_bind (wpAny_letGo ?_)
    cases hb : tr i with
    | false =>
      simp only [Bool.false_eq_true, if_false]
      refine wpAny_pure ⟨plainId_quiet F.plain_any_loop _, ih (i + 1) _ (by omega) hlt hst' fun s'' hm' => ?_⟩
      have := hR s'' hm'
      rw [hd, List.any_cons, hb, Bool.false_or] at this
      exact this
    | true =>
      simp only [if_true]
      refine wpAny_bind (wpAny_rule (wpAny_pure ?_))
      have := hR s' (.inr ⟨i + 1, hlt, hst'⟩)
      rw [hd, List.any_cons, hb, Bool.true_or] at this
      exact this
end

/-! ### the generator's own frame -/
abbrev genCx (X : Cx) (s : Shared) (H : Hp) (genv : Env) (A : Around) (fp : List Addr) (pn : List (Addr × Obj)) : Cx :=
  { X with A := A, s_0 := s, H_0 := H, env := genv, outer := X.stack, stack := genv :: X.stack, ex := fp, fn := fun _ => false, pn := pn, xe := fun _ _ => False }
/-- the generator expression's own scope -/
structure GenOk (N : List Str) (sc scope : Scope) (own : List (Str × Nat)) : Prop where
  blk : BlkOk N sc scope own
  nc : ∀ y ∈ scope.names, y.2 ≠ .cell
  co : scope.isCoroutine = false
  dot : scope.names.lookup (".0" : Str) = some NameKind.local
abbrev gEnv (X : Cx) (scope : Scope) (C : Addr) (code : Value) : Env := genEnv scope (cloFrom X.env.cells scope.names []) C code builtinsNs X.env
section
variable {X : Cx} {pins : List (Addr × Obj)} {σ : L2.St} {H : Hp} {s : Shared}
theorem gen_start {scope : Scope} {own : List (Str × Nat)} {fp : List Addr} {A : Around} {h5 : Heap} {a : Addr} {og : Obj} {g' : Array GenState} {d' : Drawn} {t' : Nat} {m0 : Str → Option Value} {code : Value}
    (I : Inv X pins σ H s) (G : GenOk X.N X.env.scope scope own) (hN : X.N.Nodup) (hc : X.calm = true) (hfp : ∀ b ∈ fp, FpOk X pins H b ∧ b < s.heap.objs.size)
    (hA : A.handled = none) (hfr : A.frames = some (gEnv X scope s.heap.objs.size code :: X.stack)) (k : ∀ b o, s.heap.get? b = some o → h5.get? b = some o) (hm : h5.Ns s.heap.objs.size m0)
    (ha : h5.get? a = some og) (haC : s.heap.objs.size < a) (hog : ∀ v, og.data ≠ .cell v) (hg : AllBare g') :
    Inv (genCx X s H (gEnv X scope s.heap.objs.size code) A fp [(a, og)]) [] (wipe σ (own.map (·.2))) H { s with heap := h5, gens := g', drawn := d', toks := t' } := by
  have ok := G.blk
  have hfree : ∀ y ∈ scope.names, y.2 = .free → ∃ c, X.env.cells.lookup y.1 = some c := fun y hy e => by
    rcases ok.free y hy e with k | k
    · exact I.ok.has _ (.inl k)
    · exact I.ok.has _ (.inr k)
  generalize hgenv : gEnv X scope s.heap.objs.size code = genv
  have hL : genv.locals = s.heap.objs.size := by rw [← hgenv]; rfl
  have hcl : genv.cells = cloFrom X.env.cells scope.names [] := by rw [← hgenv]; rfl
  have hsc : genv.scope = scope := by rw [← hgenv]; rfl
  rw [hgenv] at hfr
  have cm : ∀ {y c}, (y, c) ∈ cloFrom X.env.cells scope.names [] → X.env.cells.lookup y = some c ∧ c < s.heap.objs.size := fun {y c} hm => by
    rcases cloFrom_mem hm with hm | ⟨h1, rfl⟩
    · cases hm
    · obtain ⟨c, hc⟩ := hfree _ h1 rfl
      have hc : X.env.cells.lookup y = some c := hc
      rw [hc]
      obtain ⟨w, z⟩ := I.cell _ _ hc
      exact ⟨rfl, z.lt⟩
  have mem : ∀ {y c}, genv.cells.lookup y = some c → X.env.cells.lookup y = some c ∧ c < s.heap.objs.size := fun {y c} e => by
    rw [hcl] at e
    exact cm (PySem.mem_of_lookup e)
  have look : ∀ {y}, scope.names.lookup y = some .free → ∃ c, genv.cells.lookup y = some c ∧ X.env.cells.lookup y = some c := fun {y} hl => by
    have hy : (y, NameKind.free) ∈ scope.names := PySem.mem_of_lookup hl
    obtain ⟨c', e'⟩ := mem_lookup (cloFrom_has (cells := X.env.cells) (acc := []) hy)
    rw [← hcl] at e'
    exact ⟨c', e', (mem e').1⟩
  have okG : (genCx X s H genv A fp [(a, og)]).Ok := by
    refine ⟨I.ok.mod, by show genv.scope.kind = _; rw [hsc]; exact ok.kind, by show genv.globals = _; rw [← hgenv]; exact I.ok.glob, by show genv.builtins = _; rw [← hgenv]; rfl, by show s.heap.objs.size ≤ genv.locals; rw [hL]; exact Nat.le_refl _,
      fun y z c e1 e2 => ?_, fun y hy => ?_, fun y c z e => ?_, fun _ => hA, hfr, .inr ⟨rfl, by show genv.frame = some genv.locals; rw [← hgenv]; rfl⟩, fun b hb => ⟨?_, fun y c e z => ?_⟩, I.bs, Nat.le_trans I.ok.bsz I.sz, fun b o e hb => ?_, fun b hb z => ?_, I.stack, I.stkFree⟩
    · exact I.ok.inj y z c (mem e1).1 (mem e2).1
    · have hy : scope.names.lookup y = some .cell ∨ scope.names.lookup y = some .free := by
        rw [← hsc]; exact hy
      rcases hy with hy | hy
      · exact absurd rfl (G.nc _ (PySem.mem_of_lookup hy))
      · obtain ⟨c, h1, _⟩ := look hy
        exact ⟨c, h1⟩
    · have z : false = true := z
      cases z
    · show b ≠ genv.locals
      rw [hL]; exact Nat.ne_of_lt (hfp b hb).2
    · exact (hfp b hb).1.2.2.2.2.1 y c (mem e).1 z
    · rcases (hfp b hb).1.2.2.2.1 with z | z
      · exact I.ok.noex b o e z
      · exact absurd (Nat.lt_of_lt_of_le (Heap.lt_size e) (Nat.le_trans I.ok.bsz z)) (Nat.lt_irrefl _)
    · rcases List.mem_cons.mp (I.stkSub b z) with z | z
      · exact (hfp b hb).1.2.1 z
      · exact (hfp b hb).1.2.2.1 z
  refine ⟨okG, rfl, hg, Un.kept k, ⟨m0, ?_, fun i y av e1 e2 e3 => ?_⟩, fun y c e => ?_, ?_, fun y c e => ?_, fun p hp => ?_, I.hok.kept k, by rw [wipe_length]; exact I.len⟩
  · show Heap.Ns _ genv.locals _
    rw [hL]
    exact hm
  · obtain ⟨e2, hne⟩ := wipe_some e2
    have e3 : Vis genv.scope y := e3
    rw [hsc] at e3
    have no : ∀ {kd}, scope.names.lookup y = some kd → ¬ (kd = .local ∨ kd = .cell) := fun {kd} e hh => by
      rcases ok.own _ (PySem.mem_of_lookup e) hh with e' | e'
      · obtain ⟨p, hp, hpy⟩ := List.mem_map.mp e'
        have e3 := ok.ix p hp
        have : p.1 = y := hpy
        rw [this] at e3
        exact hne (List.mem_map.mpr ⟨p, hp, nodup_ix hN e3 e1⟩)
      · exact e' (List.mem_of_getElem? e1)
    have hfr : scope.names.lookup y = some .free := by
      rcases e3 with e3 | e3 | e3
      · exact absurd (.inl rfl) (no e3)
      · exact absurd (.inr rfl) (no e3)
      · exact e3
    obtain ⟨m, hn, hl⟩ := I.loc
    have hvis : Vis X.env.scope y := (ok.free _ (PySem.mem_of_lookup hfr) rfl).elim (fun k => .inr (.inl k)) (fun k => .inr (.inr k))
    obtain ⟨w, r, q⟩ := hl i y av e1 e2 hvis
    obtain ⟨c, h1, h2⟩ := look hfr
    refine ⟨w, r, .inr ⟨.inr (by show genv.scope.names.lookup y = _; rw [hsc]; exact hfr), c, h1, ?_⟩⟩
    rcases q with ⟨k', _⟩ | ⟨_, c', e', z⟩
    · have k' : X.env.scope.names.lookup y = some .local := k'
      rcases ok.free _ (PySem.mem_of_lookup hfr) rfl with k2 | k2 <;> rw [show X.env.scope.names.lookup y = _ from k2] at k' <;> cases k'
    · rw [h2] at e'; cases e'
      exact z.keeps k
  · obtain ⟨w, z⟩ := I.cell y c (mem e).1
    exact ⟨w, z.keeps k⟩
  · show H genv.locals = none
    rw [hL]; exact I.hok.fresh (Nat.le_refl _)
  · exact I.freeC y c (mem e).1
  · have hp : p ∈ [(a, og)] ++ ([] : List (Addr × Obj)) := hp
    rw [List.append_nil] at hp
    rw [List.mem_singleton.mp hp]
    refine ⟨ha, I.hok.fresh (Nat.le_of_lt haC), ?_, fun z => ?_, hog⟩
    · show a ≠ genv.locals
      rw [hL]; exact Nat.ne_of_gt haC
    · rcases List.mem_cons.mp (I.stkSub a z) with z | z
      · have := I.lt
        rw [← z] at this
        exact absurd (Nat.lt_trans this haC) (Nat.lt_irrefl _)
      · exact I.nofs (Nat.le_of_lt haC) z
/-- the table of generators may change -/
theorem inv_gens {g' : Array GenState} (I : Inv X pins σ H s) (hg : AllBare g') : Inv X pins σ H { s with gens := g' } :=
  ⟨I.ok, I.os, hg, I.base, I.loc, I.cell, I.free, I.freeC, I.pin, I.hok, I.len⟩
end

/-! ### the turns -/
theorem over_gen {A : Around} {elt target iter : Expr} {ifs : List Expr} {scope : Scope} {pos : Pos} {it acc : Value} {env : Env} :
    A.over (.compLoop (.GeneratorExp elt [⟨target, iter, ifs, 0⟩] scope pos) 0 it acc env) [] = A.deeper env := by
  first
    | rfl
    | (obtain ⟨hd, d, fr, gs, u⟩ := A; simp [Around.over, Around.deeper, marksOver, frameCount, unitsOf, envsOf, guardsOf, pushEnvs, pushGuards, Code.envs, Code.env?, Code.isFrame, Code.guards, Code.isGuard, Code.weight, Code.frames, Code.isCreation, Code.isCaller, Code.cUnits])
theorem over_genS {A : Around} {elt target iter : Expr} {ifs : List Expr} {scope : Scope} {pos : Pos} {it acc : Value} {env : Env} :
    A.over (.compStart (.GeneratorExp elt [⟨target, iter, ifs, 0⟩] scope pos) 0 it acc env) [] = A.deeper env := by
  first
    | rfl
    | (obtain ⟨hd, d, fr, gs, u⟩ := A; simp [Around.over, Around.deeper, marksOver, frameCount, unitsOf, envsOf, guardsOf, pushEnvs, pushGuards, Code.envs, Code.env?, Code.isFrame, Code.guards, Code.isGuard, Code.weight, Code.frames, Code.isCreation, Code.isCaller, Code.cUnits])

/-- the generator's state between two turns -/
structure Good (Xg : Cx) (σw : L2.St) (fp : List Addr) (tn : Nat → Heap → Prop) (Pv : Nat → Hp → Prop) (i : Nat) (H : Hp) (s : Shared) : Prop where
  inv : Inv Xg [] σw H s
  tn : tn i s.heap
  fpn : ∀ b ∈ fp, H b = none
  pv : Pv i H
def GYp (Xg : Cx) (σw : L2.St) (fp : List Addr) (tn : Nat → Heap → Prop) (Pv : Nat → Hp → Prop) (n : Nat) (b : Nat → Bool) : Protocol := fun m s₀ v s kap =>
  ∃ i H, i < n ∧ m = n - (i + 1) ∧ v = .bool (b i) ∧ Good Xg σw fp tn Pv (i + 1) H s ∧ ∀ g' : Array GenState, AllBare g' → kap (.send .none) { s with gens := g' }
def GRp (Xg : Cx) (σw : L2.St) (Pv : Nat → Hp → Prop) (n : Nat) : Nat → Shared → Shared → Prop := fun k _ s =>
  k = 0 ∧ ∃ H, Inv Xg [] σw H s ∧ Pv n H
theorem Good.gens {Xg : Cx} {σw : L2.St} {fp : List Addr} {tn : Nat → Heap → Prop} {Pv : Nat → Hp → Prop} {i : Nat} {H : Hp} {s : Shared} {g' : Array GenState} (h : Good Xg σw fp tn Pv i H s) (hg : AllBare g') : Good Xg σw fp tn Pv i H { s with gens := g' } :=
  ⟨inv_gens h.inv hg, h.tn, h.fpn, h.pv⟩

section
variable {Xg : Cx} {A2 : Around} {elt tg iter : Expr} {scope : Scope} {pos : Pos} {it : Addr} {fp : List Addr} {tn : Nat → Heap → Prop} {J : It} {σ : L2.St} {vs : List Nat} {Pv : Nat → Hp → Prop} {n : Nat} {b : Nat → Bool} {g : TG} {te : TE}
/-- a turn, by the readings -/
def StepOk (J : It) (g : TG) (te : TE) (σ : L2.St) (vs : List Nat) (Pv : Nat → Hp → Prop) (n : Nat) (b : Nat → Bool) : Prop :=
  (∀ i H, i < n → Pv i H → J.go i H ∧ ∀ x H', J.yld i H x H' → g x (wipe σ vs) H' fun σ2 H2 => wipe σ2 vs = wipe σ vs ∧ te σ2 H2 fun y H3 => y = .bl (b i) ∧ Pv (i + 1) H3) ∧ ∀ H, Pv n H → J.stop n H
theorem seg_turns (hA : Xg.A = A2.deeper Xg.env) (hc : Xg.calm = true) (hxe : Xg.xe = fun _ _ => False) (hco : Xg.env.scope.isCoroutine = false) (hex : Xg.ex = fp) (T : Turn Xg.prog Xg.w Xg.K tg J fp it tn) (pg : PG Xg tg g) (pe : PE Xg elt te)
    (hpn : ∀ p ∈ Xg.pn, ∀ c ∈ fp, p.1 ≠ c) (S : StepOk J g te σ vs Pv n b) :
    ∀ (k i : Nat) (s₀ s : Shared) (H : Hp), n - i = k → i ≤ n → Good Xg (wipe σ vs) fp tn Pv i H s →
      Seg (model Xg.prog Xg.w) A2 (fun n' s₀ r s₁ => r = .ok .next ∧ GRp Xg (wipe σ vs) Pv n n' s₀ s₁) (GYp Xg (wipe σ vs) fp tn Pv n b) (n - i) s₀
        (.compLoop (.GeneratorExp elt [⟨tg, iter, [], 0⟩] scope pos) 0 (.ref it) .none Xg.env)
        ((model Xg.prog Xg.w).den (.compLoop (.GeneratorExp elt [⟨tg, iter, [], 0⟩] scope pos) 0 (.ref it) .none Xg.env)) [] s := by
  intro k
  have stat : ∀ {σ' : L2.St} {H' : Hp} {s' : Shared}, Inv Xg [] σ' H' s' → (∀ b ∈ fp, H' b = none) → ∀ b ∈ fp, FpOk Xg [] H' b := fun {σ' H' s'} I' hn b hb =>
    ⟨hn b hb, (I'.ok.exf b (by rw [hex]; exact hb)).1, I'.ok.exfs b (by rw [hex]; exact hb), .inl (by rw [hex]; exact hb), fun x c e => (I'.ok.exf b (by rw [hex]; exact hb)).2 x c e, fun p hp => by
      rw [List.append_nil] at hp
      exact hpn p hp b hb⟩
  have nx : ∀ {e : Value} {s' : Shared}, Xg.xe e s' → False := fun {e s'} h => by rw [hxe] at h; exact h
  induction k with
  | zero =>
    intro i s₀ s H hk hi G
    have hin : i = n := by omega
    subst hin
    show Seg _ A2 _ _ _ s₀ _ ((compTurn (.GeneratorExp elt [⟨tg, iter, [], 0⟩] scope pos) 0 (.ref it) .none Xg.env).onRaise (leaving Xg.env)) [] s
    rw [compTurn_gen, Sem.onRaise_eq_wrap]
    refine seg_bind_wrap (wpAny_standAt ?_)
    refine seg_bind_wrap ?_
    rw [over_gen, ← hA]
    refine thnF (T.done Xg rfl rfl rfl hc i [] s _ H (fun _ _ => False) G.inv (stat G.inv G.fpn) G.tn (S.2 H G.pv)) fun r s1 ⟨hr, I1⟩ => ?_
    subst hr
    rw [Nat.sub_self]
    exact seg_end (.ok .next) ⟨rfl, rfl, H, I1, G.pv⟩
  | succ k ih =>
    intro i s₀ s H hk hi G
    have hlt : i < n := by omega
    obtain ⟨go, step⟩ := S.1 i H hlt G.pv
    show Seg _ A2 _ _ _ s₀ _ ((compTurn (.GeneratorExp elt [⟨tg, iter, [], 0⟩] scope pos) 0 (.ref it) .none Xg.env).onRaise (leaving Xg.env)) [] s
    rw [compTurn_gen, Sem.onRaise_eq_wrap]
    refine seg_bind_wrap (wpAny_standAt ?_)
    refine seg_bind_wrap ?_
    rw [over_gen, ← hA]
    refine thnF (T.item Xg rfl rfl rfl hc i [] s _ H (fun _ _ => False) G.inv (stat G.inv G.fpn) G.tn go) fun r s1 ⟨u, hr, h1⟩ => ?_
    subst hr
    refine seg_bind_wrap ?_
    rw [over_gen, ← hA]
    refine thnF h1 fun _ s2 ⟨x, H2, I2, r2, y2, st2, n2⟩ => ?_
    have I2' := I2.pinned (stat I2 n2) (T.obj _ _ st2)
    refine seg_bind_wrap ?_
    rw [over_gen, ← hA]
    refine wpAny_mono (pg.run _ s2 _ H2 x u _ I2' r2 (step x H2 y2)) (fun _ s3 ⟨σ3, H3, I3, hw3, q3⟩ => ?_) fun e s' z => (nx z).elim
    simp only [List.forIn_nil]
    refine seg_bind_wrap (wpAny_pure ?_)
    simp only [if_true]
    have hy : ∀ v, yieldOut Xg.env v = yieldValue v := fun v => by simp only [yieldOut, hco, Bool.false_eq_true, if_false]
    simp only [hy]
    rw [Sem.bind_eq_wrap', Sem.bind_eq_wrap', Sem.wrap_wrap, Sem.wrap_wrap]
    refine seg_wrap ?_
    rw [over_gen, ← hA]
    refine wpAny_mono (pe.run _ s3 σ3 H3 _ I3 q3) (fun yv s4 ⟨y, H4, I4, r4, ey, q4⟩ => ?_) fun e s' z => (nx z).elim
    subst ey
    obtain rfl : yv = Value.bool (b i) := r4
    have hl : (wipe σ vs).length = σ3.length := by rw [← hw3, wipe_length]
    have pin' : ∀ c ∈ fp, ∀ o, s2.heap.get? c = some o → s4.heap.get? c = some o ∧ H4 c = none := fun c hb o e =>
      let z := I4.pin (c, o) (List.mem_append_right _ (List.mem_append_right _ (mem_pinsAt hb e)))
      ⟨z.1, z.2.1⟩
    have G4 : Good Xg (wipe σ vs) fp tn Pv (i + 1) H4 s4 := by
      refine ⟨(I4.unpinned (pins := [])).weak hl (fun j v e => ?_), T.keep _ _ _ st2 fun c hb o e => (pin' c hb o e).1, fun c hb => ?_, q4⟩
      · rw [← hw3] at e
        exact (wipe_some e).1
      · obtain ⟨o, e, _⟩ := T.obj _ _ st2 c hb
        exact (pin' c hb o e).2
    have hni : n - i = (n - (i + 1)) + 1 := by omega
    rw [hni]
    refine seg_at (seg_yield rfl rfl rfl ⟨i, H4, hlt, rfl, rfl, G4, fun g' hg' => ?_⟩)
    exact seg_again rfl (ih (i + 1) { s4 with gens := g' } { s4 with gens := g' } H4 (by omega) hlt (G4.gens hg'))

theorem seg_start (hA : Xg.A = A2.deeper Xg.env) (hc : Xg.calm = true) (hxe : Xg.xe = fun _ _ => False) (hco : Xg.env.scope.isCoroutine = false) (hex : Xg.ex = fp) (T : Turn Xg.prog Xg.w Xg.K tg J fp it tn) (pg : PG Xg tg g) (pe : PE Xg elt te)
    (hpn : ∀ p ∈ Xg.pn, ∀ c ∈ fp, p.1 ≠ c) (S : StepOk J g te σ vs Pv n b) (s₀ s : Shared) (H : Hp) (G : Good Xg (wipe σ vs) fp tn Pv 0 H s) :
      Seg (model Xg.prog Xg.w) A2 (fun n' s₀ r s₁ => r = .ok .next ∧ GRp Xg (wipe σ vs) Pv n n' s₀ s₁) (GYp Xg (wipe σ vs) fp tn Pv n b) n s₀
        (.compStart (.GeneratorExp elt [⟨tg, iter, [], 0⟩] scope pos) 0 (.ref it) .none Xg.env)
        ((model Xg.prog Xg.w).den (.compStart (.GeneratorExp elt [⟨tg, iter, [], 0⟩] scope pos) 0 (.ref it) .none Xg.env)) [] s := by
  have loop := seg_turns (iter := iter) (scope := scope) (pos := pos) hA hc hxe hco hex T pg pe hpn S n 0 s₀ s H (Nat.sub_zero _) (Nat.zero_le _) G
  rw [Nat.sub_zero] at loop
  show Seg _ A2 _ _ _ s₀ _ ((compStart (.GeneratorExp elt [⟨tg, iter, [], 0⟩] scope pos) 0 (.ref it) .none Xg.env).onRaise (leaving Xg.env)) [] s
  unfold compStart
  rw [Sem.onRaise_eq_wrap]
  show Seg _ A2 _ _ _ s₀ _ ((ask >>= _).wrap _ _ _ _) [] s
  refine seg_bind_wrap (wpAny_askSetting ?_)
  split
  · exact seg_again rfl loop
  · first
      | exact seg_bind_wrap (wpAny_rule (seg_bind_wrap (wpAny_standAt (seg_bind_wrap (T.self _ 0 s _ _ G.tn (seg_again rfl loop))))))
      | (refine seg_bind_wrap (wpAny_rule ?_); show Seg _ A2 _ _ _ s₀ _ ((standAt iter.pos >>= _).wrap _ _ _ _) [] s; exact seg_bind_wrap (wpAny_standAt (seg_bind_wrap (T.self _ 0 s _ _ G.tn (seg_again rfl loop)))))
/-- the generator, as all and any see it -/
def Ready (Xg : Cx) (A2 : Around) (gi : Nat) (σw : L2.St) (fp : List Addr) (tn : Nat → Heap → Prop) (Pv : Nat → Hp → Prop) (n : Nat) (b : Nat → Bool) (i : Nat) (s : Shared) : Prop :=
  ∃ H gs, Good Xg σw fp tn Pv i H s ∧ s.gens[gi]? = some gs ∧ ∀ g' : Array GenState, AllBare g' →
    gs.Goes (model Xg.prog Xg.w) A2 (fun n' s₀ r s₁ => r = .ok .next ∧ GRp Xg σw Pv n n' s₀ s₁) (GYp Xg σw fp tn Pv n b) (n - i) (.send .none) { s with gens := g' }
theorem goer_gen {A1 : Around} {a : Addr} {gi : Nat} {og : Obj} {σw : L2.St} (h1 : A1.handled = none) (h2 : A1.depth < recursionLimit) (hpn : (a, og) ∈ Xg.pn)
    (hog : ∀ h : Heap, h.get? a = some og → h.IsGen a gi) :
    Goer Xg.prog Xg.w A1 a n b (Ready Xg A1.in1 gi σw fp tn Pv n b) (fun s' => ∃ H, Inv Xg [] σw H s' ∧ Pv n H) where
  item := fun i s Q E hi h hQ => by
    obtain ⟨H, gs, G, hgs, go⟩ := h
    have hgen : s.heap.IsGen a gi := hog _ (G.inv.pin (a, og) (List.mem_append_left _ hpn)).1
    have hsz : gi + 1 ≤ s.gens.size := by
      rcases Nat.lt_or_ge gi s.gens.size with h' | h'
      · exact h'
      · rw [Array.getElem?_eq_none h'] at hgs; cases hgs
    refine wpAny_gsz hsz ?_
    refine wpAny_pyNext_genexpQ (P := GRp Xg σw Pv n) h1 G.inv.nolimit h2 hgen hgs (go _ (allBare_setGen (s := s) (g := gi) (x := .running) G.inv.bare rfl)) (fun v s₁ gs' hb hv => ?_) (fun s₁ hp h' hk => ?_)
    · intro hsz'
      obtain ⟨i', H', hi', hm, rfl, G', kap⟩ := hv
      have e : i' = i := by omega
      subst e
      refine hQ _ ⟨H', gs', G'.gens (g' := (s₁.setGen gi gs').gens) (allBare_setGen G'.inv.bare hb), setGen_at (by rw [setGen_size] at hsz'; exact hsz'), fun g' hg' => ?_⟩
      have q := kap g' hg'
      have e2 : n - i' = (n - (i' + 1)) + 1 := by omega
      rw [e2] at q
      exact q
    · obtain ⟨h0, _⟩ := hp
      omega
  done := fun s Q E h hQ => by
    obtain ⟨H, gs, G, hgs, go⟩ := h
    have hgen : s.heap.IsGen a gi := hog _ (G.inv.pin (a, og) (List.mem_append_left _ hpn)).1
    have g0 := go _ (allBare_setGen (s := s) (g := gi) (x := .running) G.inv.bare rfl)
    rw [Nat.sub_self] at g0
    refine wpAny_pyNext_genexpQ (P := GRp Xg σw Pv n) h1 G.inv.nolimit h2 hgen hgs g0 (fun v s₁ gs' hb hv => ?_) (fun s₁ hp h' hk => ?_)
    · obtain ⟨i', H', hi', hm, rfl, G', kap⟩ := hv
      exact False.elim (kap #[] (by intro y hy; simp at hy))
    · obtain ⟨_, H', I', p'⟩ := hp
      refine hQ _ ⟨H', ?_, p'⟩
      exact (inv_gens (g' := (s₁.setGen gi .finished).gens) I' (allBare_setGen I'.bare rfl)).kept (t' := s₁.toks) hk
end

/-! ### the rules -/
def tGen (P : Addr) (wi : TI) (g : TG) (te : TE) (vs : List Nat) (f : Nat → (Nat → Bool) → Bool) : TE := fun σ H Q => wi σ H fun J H1 => GxR.TabG H1 P ∧ ∀ H2, GxR.Tabbed P H1 H2 →
  ∃ n b Pv, Pv 0 H2 ∧ StepOk J g te σ vs Pv n b ∧ ∀ i H3, i ≤ n → Pv i H3 → Q (.bl (f n b)) H3
abbrev fAll : Nat → (Nat → Bool) → Bool := fun n b => (List.range n).all b
abbrev fAny : Nat → (Nat → Bool) → Bool := fun n b => (List.range n).any b
section
variable {X : Cx}
theorem room_gen {k : Nat} {A : Around} (hr : Room (k + 1) A) (env : Env) : Room k (A.in1.in1.deeper env) :=
  ⟨hr.hd, by have := hr.dp; show A.depth + 1 + 3 * k + 5 < _; omega, by have := hr.un; show A.units + 1 + 1 + 3 + 16 * k + 200 < _; omega⟩
/-- the generator is made; what is wanted of it is a walk by all or any -/
theorem gen_made {pins : List (Addr × Obj)} {σ : L2.St} {H : Hp} {s : Shared} {c P : Addr} {elt tg iter : Expr} {scope : Scope} {gpos : Pos} {own : List (Str × Nat)} {wi : TI} {g : TG} {te : TE} {k : Nat} {f : Nat → (Nat → Bool) → Bool} {Q : VK} {Q' : Value → Shared → Prop}
    (hr : Room (k + 1) X.A) (TB : GxR.TabB X.base X.mg c P) (hcode : X.env.code = .ref c) (hc : X.calm = true) (hN : X.N.Nodup) (hi : PI X tg iter wi) (G : GenOk X.N X.env.scope scope own)
    (hg : ∀ (s : Shared) (H : Hp) (A : Around) (C : Addr) (code : Value) (fp : List Addr) (pn : List (Addr × Obj)), PG (genCx X s H (gEnv X scope C code) A fp pn) tg g)
    (he : ∀ (s : Shared) (H : Hp) (A : Around) (C : Addr) (code : Value) (fp : List Addr) (pn : List (Addr × Obj)), Room k A → PE (genCx X s H (gEnv X scope C code) A fp pn) elt te)
    (hs : ∀ v, genFold iter X.env v = pure v) (I : Inv X pins σ H s) (h : tGen P wi g te (own.map (·.2)) f σ H Q)
    (hQ : ∀ (a : Addr) (gi n : Nat) (b : Nat → Bool) (St : Nat → Shared → Prop) (Fi : Shared → Prop) (s5 : Shared), s5.heap.IsGen a gi → Goer X.prog X.w X.A.in1 a n b St Fi → St 0 s5 → (∀ s', (Fi s' ∨ ∃ j, j ≤ n ∧ St j s') → ∃ H', Inv X pins σ H' s' ∧ Q (.bl (f n b)) H') → Q' (.ref a) s5) :
    wpAny (model X.prog X.w) X.A (eval (.GeneratorExp elt [⟨tg, iter, [], 0⟩] scope gpos) X.env) Q' X.xe s := by
  have hfree : ∀ y ∈ scope.names, y.2 = .free → ∃ c, X.env.cells.lookup y.1 = some c := fun y hy e => by
    rcases G.blk.free y hy e with k | k
    · exact I.ok.has _ (.inl k)
    · exact I.ok.has _ (.inr k)
  refine wpAny_GeneratorExp_make G.co (closure_ok hfree) G.nc G.dot G.blk.kind (by have := hr.dp; omega) ?_ hs
  refine thn (hi.run pins s σ H _ I h) fun xv s1 h1 => thn h1 fun itv s2 h2 => ?_
  obtain ⟨it, fp, tn, J, H1, e, I1, T, st1, f1, ⟨ps, hP, htr⟩, q⟩ := h2
  subst e
  refine ⟨I1.nolimit, ?_⟩
  have hPs : s2.heap.get? P = some { cls := .none, data := .fields ps } := I1.hok P _ hP
  have cd : PySem.W.CodeHd s2.heap c P := TB.code.keeps I1.bk
  -- behind the code object
  have cont : ∀ (code : Value) (h3 : Heap) (tk : Nat) (ps' : Array Value), Heap.ExtBut P s2.heap h3 → h3.get? P = some { cls := .none, data := .fields ps' } → (∃ more, ps' = ps ++ more) → TriplesOk ps'.toList →
      wpAny (model X.prog X.w) X.A (builtinsFor X.env.globals X.env.builtins) (fun bi s₄ =>
        ∀ h', h'.Ns s₄.heap.objs.size (fun y => if y = ".0" then some (.ref it) else none) → Heap.SameBut s₄.heap.objs.size (s₄.heap.push { cls := .type "frame", data := .dict #[] }) h' →
          Q' (.ref h'.objs.size) { s₄ with
            gens := s₄.gens.push (.fresh (.compStart (.GeneratorExp elt [⟨tg, iter, [], 0⟩] scope gpos) 0 (.ref it) .none (genEnv scope (cloFrom X.env.cells scope.names []) s₄.heap.objs.size code bi X.env))),
            toks := s₄.toks + 1 + 1 + 1,
            heap := h'.push { cls := .type "generator", data := .fields #[.int s₄.gens.size 0, .str "<genexpr>" (s₄.toks + 1), .str (X.env.qual ++ "<genexpr>") (s₄.toks + 1 + 1)] } }) X.xe { s2 with heap := h3, toks := tk } := by
    intro code h3 tk ps' hx hP3 hmore ht3
    obtain ⟨bm, ob, e1, e2, e3, e4, e5, e6, e7, e8⟩ := TB.bm
    have keep3 : ∀ b u, b ≠ P → s2.heap.get? b = some u → h3.get? b = some u := fun b u hb e => hx b u hb e
    refine wpAny_builtinsFor (m := X.mg) (by rw [I1.ok.glob]; exact (I1.mod.glob.keeps I1.bk).extBut hx TB.gP) e1 e2 (keep3 _ _ e4 (I1.bk _ _ e5)) e6 e7 e8 ?_
    obtain ⟨more, em⟩ := hmore
    have I3 : Inv X pins σ (upd H1 P (.tbl (ps ++ more))) { s2 with heap := h3, toks := tk } :=
      GxR.inv_tab (g' := s2.gens) (d' := s2.drawn) I1 hP (fun b u hb e => keep3 b u hb e) (by rw [← em]; exact hP3) I1.bare
    have hT : GxR.Tabbed P H1 (upd H1 P (.tbl (ps ++ more))) := ⟨⟨ps ++ more, upd_same, by rw [← em]; exact ht3⟩, fun b hb => upd_ne hb⟩
    obtain ⟨n, b, Pv, p0, S, fin⟩ := q _ hT
    generalize hH3 : upd H1 P (.tbl (ps ++ more)) = H3 at I3 p0
    generalize hs3 : ({ s2 with heap := h3, toks := tk } : Shared) = s3 at I3 ⊢
    have h3e : s3.heap = h3 := by rw [← hs3]
    have nfp : ∀ b ∈ fp, b ≠ P := fun b hb z => by
      have q := (f1 b hb).1
      rw [z, hP] at q; cases q
    have st3 : tn 0 s3.heap := T.keep _ _ _ st1 fun b hb o e => by rw [h3e]; exact keep3 b o (nfp b hb) e
    have f3 : ∀ b ∈ fp, FpOk X pins H3 b ∧ b < s3.heap.objs.size := fun b hb => by
      obtain ⟨o, e, _⟩ := T.obj _ _ st3 b hb
      refine ⟨⟨?_, (f1 b hb).2⟩, Heap.lt_size e⟩
      rw [← hH3, upd_ne (nfp b hb)]
      exact (f1 b hb).1
    intro h' hn' hs'
    have hsz : h'.objs.size = s3.heap.objs.size + 1 := by rw [hs'.1, Heap.size_push]
    have keep' : ∀ b o, s3.heap.get? b = some o → h'.get? b = some o := fun b o e => hs'.extBut b o (Nat.ne_of_lt (Heap.lt_size e)) (Heap.get?_push_of_some _ e)
    generalize hog : ({ cls := .type "generator", data := .fields #[.int s3.gens.size 0, .str "<genexpr>" (s3.toks + 1), .str (X.env.qual ++ "<genexpr>") (s3.toks + 1 + 1)] } : Obj) = og
    have hgo : (h'.push og).get? h'.objs.size = some og := by
      rw [← hog]; exact Heap.get?_push_size _ rfl
    have isg : ∀ hh : Heap, hh.get? h'.objs.size = some og → hh.IsGen h'.objs.size s3.gens.size := fun hh e => by
      rw [← hog] at e
      exact ⟨_, _, _, e, rfl, rfl, rfl⟩
    generalize hgs : (GenState.fresh (.compStart (.GeneratorExp elt [⟨tg, iter, [], 0⟩] scope gpos) 0 (.ref it) .none (gEnv X scope s3.heap.objs.size code))) = gs0
    have gsz : s3.gens.size = s3.gens.size := rfl
    have bare5 : AllBare (s3.gens.push gs0) := I3.bare.push (by rw [← hgs]; rfl)
    have hRm : Room k (X.A.in1.in1.deeper (gEnv X scope s3.heap.objs.size code)) := room_gen hr _
    have I5 : ∀ (g' : Array GenState) (d' : Drawn) (t' : Nat), AllBare g' → Inv (genCx X s3 H3 (gEnv X scope s3.heap.objs.size code) (X.A.in1.in1.deeper (gEnv X scope s3.heap.objs.size code)) fp [(h'.objs.size, og)]) [] (wipe σ (own.map (·.2))) H3 { s3 with heap := h'.push og, gens := g', drawn := d', toks := t' } := fun g' d' t' hg' =>
      gen_start I3 G hN hc f3 hr.hd (Around.frames_deeper (by rw [show X.A.in1.in1.frames = X.A.frames from rfl]; exact I3.ok.frames)) (fun b o e => Heap.get?_push_of_some _ (keep' b o e)) (hn'.push _) hgo (by omega) (fun v z => by rw [← hog] at z; cases z) hg'
    have hfpa : ∀ p ∈ [(h'.objs.size, og)], ∀ c ∈ fp, p.1 ≠ c := fun p hp c hcf z => by
      rw [List.mem_singleton.mp hp] at z
      have := (f3 c hcf).2
      have z' : h'.objs.size = c := z
      have q : s3.heap.objs.size + 1 = c := hsz.symm.trans z'
      exact Nat.lt_irrefl _ (Nat.lt_of_lt_of_le this (by rw [← q]; exact Nat.le_succ _))
    have st5 : tn 0 (h'.push og) := T.keep _ _ _ st3 fun b hb o e => Heap.get?_push_of_some _ (keep' b o e)
    have G5 : ∀ (g' : Array GenState) (d' : Drawn) (t' : Nat), AllBare g' → Good (genCx X s3 H3 (gEnv X scope s3.heap.objs.size code) (X.A.in1.in1.deeper (gEnv X scope s3.heap.objs.size code)) fp [(h'.objs.size, og)]) (wipe σ (own.map (·.2))) fp tn Pv 0 H3 { s3 with heap := h'.push og, gens := g', drawn := d', toks := t' } := fun g' d' t' hg' =>
      ⟨I5 g' d' t' hg', st5, fun b hb => (f3 b hb).1.1, p0⟩
    generalize hXg : genCx X s3 H3 (gEnv X scope s3.heap.objs.size code) (X.A.in1.in1.deeper (gEnv X scope s3.heap.objs.size code)) fp [(h'.objs.size, og)] = Xg at G5
    have hpg : PG Xg tg g := by rw [← hXg]; exact hg _ _ _ _ _ _ _
    have hpe : PE Xg elt te := by rw [← hXg]; exact he _ _ _ _ _ _ _ hRm
    have eA : Xg.A = X.A.in1.in1.deeper Xg.env := by rw [← hXg]
    have eK : Turn Xg.prog Xg.w Xg.K tg J fp it tn := by rw [← hXg]; exact T
    have eEnv : Xg.env = gEnv X scope s3.heap.objs.size code := by rw [← hXg]
    have eP : Xg.prog = X.prog := by rw [← hXg]
    have eW : Xg.w = X.w := by rw [← hXg]
    have ready : Ready Xg X.A.in1.in1 s3.gens.size (wipe σ (own.map (·.2))) fp tn Pv n b 0 { s3 with heap := h'.push og, gens := s3.gens.push gs0, toks := s3.toks + 1 + 1 + 1 } := by
      refine ⟨H3, gs0, G5 _ _ _ bare5, Array.getElem?_push_size .., fun g' hg' => ?_⟩
      rw [← hgs]
      refine ⟨rfl, ?_⟩
      have z := seg_start (iter := iter) (scope := scope) (pos := gpos) (s₀ := { s3 with heap := h'.push og, gens := g', toks := s3.toks + 1 + 1 + 1 }) (s := { s3 with heap := h'.push og, gens := g', toks := s3.toks + 1 + 1 + 1 }) eA (by rw [← hXg]; exact hc) (by rw [← hXg]) (by rw [← hXg]; exact G.co) (by rw [← hXg]) eK hpg hpe
        (by rw [← hXg]; exact hfpa) S H3 (G5 g' _ _ hg')
      rw [eEnv] at z
      rw [Nat.sub_zero]
      exact z
    have goer := goer_gen (Xg := Xg) (A1 := X.A.in1) (a := h'.objs.size) (gi := s3.gens.size) (og := og) (σw := wipe σ (own.map (·.2))) (fp := fp) (tn := tn) (Pv := Pv) (n := n) (b := b) hr.hd (by have := hr.dp; show X.A.depth < _; omega) (by rw [← hXg]; exact List.mem_singleton.mpr rfl) isg
    rw [eP, eW] at goer
    refine hQ _ s3.gens.size n b _ _ _ (isg _ hgo) goer ready fun s' hs' => ?_
    have back : ∀ {H' : Hp}, Inv Xg [] (wipe σ (own.map (·.2))) H' s' → Inv X pins σ H' s' := fun {H'} I6 => by
      rw [← hXg] at I6
      exact I3.call' (ch := fp) I6.os I6.base I6.hok I6.bare fun b hb => ⟨(f3 b hb).1.2.2.2.1, (f3 b hb).1.2.1, (f3 b hb).1.2.2.2.2.1, (f3 b hb).1.2.2.2.2.2⟩
    rcases hs' with ⟨H', I', p'⟩ | ⟨j, hj, H', gs, G', _⟩
    · exact ⟨H', back I', fin n H' (Nat.le_refl _) p'⟩
    · exact ⟨H', back G'.inv, fin j H' hj G'.pv⟩
  cases hf : codeAmong gpos ps.toList with
  | none =>
    refine wpAny_genexprCodeX hcode (cd.code hPs htr) (cd.tab hPs) hf fun c' h' tk hx hge hlt hco' _ htab' _ => ?_
    obtain ⟨o1, vs, f1, tf, fl, tg, inF, tx, tt, op, _, _, _, _, _, _, _, _, _, htr', _⟩ := hco'
    exact cont _ h' tk _ hx htab'.2 ⟨_, rfl⟩ htr'
  | some cv =>
    refine wpAny_genexprCode_hit hcode (cd.code hPs htr) hf ?_
    exact cont cv s2.heap s2.toks ps (Heap.ExtBut.refl _ _) hPs ⟨#[], by simp⟩ htr
theorem pe_allG {c P : Addr} {elt tg iter : Expr} {scope : Scope} {p gpos pos : Pos} {own : List (Str × Nat)} {wi : TI} {g : TG} {te : TE} {k : Nat}
    (hr : Room (k + 1) X.A) (hg0 : Gl X "all") (hm : X.mg "all" = none) (TB : GxR.TabB X.base X.mg c P) (hcode : X.env.code = .ref c) (hc : X.calm = true) (hN : X.N.Nodup) (hi : PI X tg iter wi) (G : GenOk X.N X.env.scope scope own)
    (hg : ∀ (s : Shared) (H : Hp) (A : Around) (C : Addr) (code : Value) (fp : List Addr) (pn : List (Addr × Obj)), PG (genCx X s H (gEnv X scope C code) A fp pn) tg g)
    (he : ∀ (s : Shared) (H : Hp) (A : Around) (C : Addr) (code : Value) (fp : List Addr) (pn : List (Addr × Obj)), Room k A → PE (genCx X s H (gEnv X scope C code) A fp pn) elt te)
    (hs : ∀ v, genFold iter X.env v = pure v := by intro _; rfl)
    (hst : starEach [.GeneratorExp elt [⟨tg, iter, [], 0⟩] scope gpos] X.env = (false, eval (.GeneratorExp elt [⟨tg, iter, [], 0⟩] scope gpos) X.env) :: starEach [] X.env := by rfl) :
    PE X (.Call (.Name "all" p) [.GeneratorExp elt [⟨tg, iter, [], 0⟩] scope gpos] [] pos) (tGen P wi g te (own.map (·.2)) fAll) := by
  refine ⟨fun pins s σ H Q I h => ?_⟩
  refine wpAny_Call_Name_kw (ld_blt I hg0 hm (show bootBuiltins "all" = some (.builtin "all") by decide +kernel) ?_)
  refine PyProof.Rows.callWith_builtin1 ?_ hst (by rfl)
  rw [hst]
  show wpAny _ _ (spliced ((false, eval (.GeneratorExp elt [⟨tg, iter, [], 0⟩] scope gpos) X.env) :: backTo pos (starEach [] X.env))) _ _ s
  refine Calls.spliced_cons (gen_made hr TB hcode hc hN hi G hg he hs I h fun a gi n b St Fi s5 isg W st0 fin => ?_)
  refine Calls.spliced_nil ?_
  refine call_function_tree F.kind_all F.plain_all F.entry_all (F.args_all1 _) ?_
  unfold Builtin.«all»
  refine wpAny_bind (m := oneArg "all" _) (wpAny_pure ?_)
  refine wpAny_bind (wpAny_pyIter_gen isg ?_)
  refine wpAny_pure ⟨plainId_quiet F.plain_all_loop _, all_loop W n 0 s5 (Nat.sub_zero _) (Nat.zero_le _) st0 fun s' hs' => ?_⟩
  obtain ⟨H', I', q'⟩ := fin s' hs'
  exact ⟨.bl _, H', I', rfl, q'⟩
theorem pe_anyG {c P : Addr} {elt tg iter : Expr} {scope : Scope} {p gpos pos : Pos} {own : List (Str × Nat)} {wi : TI} {g : TG} {te : TE} {k : Nat}
    (hr : Room (k + 1) X.A) (hg0 : Gl X "any") (hm : X.mg "any" = none) (TB : GxR.TabB X.base X.mg c P) (hcode : X.env.code = .ref c) (hc : X.calm = true) (hN : X.N.Nodup) (hi : PI X tg iter wi) (G : GenOk X.N X.env.scope scope own)
    (hg : ∀ (s : Shared) (H : Hp) (A : Around) (C : Addr) (code : Value) (fp : List Addr) (pn : List (Addr × Obj)), PG (genCx X s H (gEnv X scope C code) A fp pn) tg g)
    (he : ∀ (s : Shared) (H : Hp) (A : Around) (C : Addr) (code : Value) (fp : List Addr) (pn : List (Addr × Obj)), Room k A → PE (genCx X s H (gEnv X scope C code) A fp pn) elt te)
    (hs : ∀ v, genFold iter X.env v = pure v := by intro _; rfl)
    (hst : starEach [.GeneratorExp elt [⟨tg, iter, [], 0⟩] scope gpos] X.env = (false, eval (.GeneratorExp elt [⟨tg, iter, [], 0⟩] scope gpos) X.env) :: starEach [] X.env := by rfl) :
    PE X (.Call (.Name "any" p) [.GeneratorExp elt [⟨tg, iter, [], 0⟩] scope gpos] [] pos) (tGen P wi g te (own.map (·.2)) fAny) := by
  refine ⟨fun pins s σ H Q I h => ?_⟩
  refine wpAny_Call_Name_kw (ld_blt I hg0 hm boot_any ?_)
  refine PyProof.Rows.callWith_builtin1 ?_ hst (by rfl)
  rw [hst]
  show wpAny _ _ (spliced ((false, eval (.GeneratorExp elt [⟨tg, iter, [], 0⟩] scope gpos) X.env) :: backTo pos (starEach [] X.env))) _ _ s
  refine Calls.spliced_cons (gen_made hr TB hcode hc hN hi G hg he hs I h fun a gi n b St Fi s5 isg W st0 fin => ?_)
  refine Calls.spliced_nil ?_
  refine call_function_tree F.kind_any F.plain_any F.entry_any (F.args_any1 _) ?_
  unfold Builtin.«any»
  refine wpAny_bind (m := oneArg "any" _) (wpAny_pure ?_)
  refine wpAny_bind (wpAny_pyIter_gen isg ?_)
  refine wpAny_pure ⟨plainId_quiet F.plain_any_loop _, any_loop W n 0 s5 (Nat.sub_zero _) (Nat.zero_le _) st0 fun s' hs' => ?_⟩
  obtain ⟨H', I', q'⟩ := fin s' hs'
  exact ⟨.bl _, H', I', rfl, q'⟩
end
end DL
set_option Elab.async false
set_option linter.all false
set_option maxRecDepth 100000
set_option maxHeartbeats 2000000
/-! sorted(xs, key=lambda x: (len(x), x)), min(..) likewise: xs a list of tuples. -/
namespace DL
open PySem PySem.Spec PyProof.Rows L2

/-! ### data without lists and dicts -/
mutual
def pureD : PyData → Bool
  | .list _ => false
  | .dict _ => false
  | .tuple xs => pureDs xs
  | _ => true
def pureDs : List PyData → Bool
  | [] => true
  | x :: xs => pureD x && pureDs xs
end
mutual
theorem reads_pure {h : Heap} : ∀ (d : PyData) (v : Value) (as : List Addr), pureD d = true → Reads h v d as → as = []
  | .none, _, _, _, r => by cases r; rfl
  | .bool _, _, _, _, r => by cases r; rfl
  | .int _, _, _, _, r => by cases r; rfl
  | .str _, _, _, _, r => by cases r; rfl
  | .list _, _, _, p, _ => by simp [pureD] at p
  | .dict _, _, _, p, _ => by simp [pureD] at p
  | .tuple xs, _, _, p, r => by
    cases r with
    | tuple _ _ _ ra => exact readsAll_pure xs _ _ (by simpa [pureD] using p) ra
theorem readsAll_pure {h : Heap} : ∀ (ds : List PyData) (vs : List Value) (as : List Addr), pureDs ds = true → ReadsAll h vs ds as → as = []
  | [], _, _, _, r => by cases r; rfl
  | d :: ds, _, _, p, r => by
    have p' : pureD d = true ∧ pureDs ds = true := by simpa [pureDs] using p
    cases r with
    | cons r1 r2 => rw [reads_pure d _ _ p'.1 r1, readsAll_pure ds _ _ p'.2 r2]; rfl
end

/-- the key (len(x), x) of a tuple -/
def keyLL (ds : List PyData) : PyData := .tuple [.int ds.length, .tuple ds]

section
variable {prog : Program} {w : World} {A : Around} {s : Shared}
/-- the lambda's names -/
structure LamKey (scope : Scope) (x : Str) : Prop where
  kind : scope.kind = .function
  co : scope.isCoroutine = false
  gen : scope.isGenerator = false
  nc : ∀ y ∈ scope.names, y.2 ≠ .cell
  loc : scope.names.lookup x = some .local
  len : scope.names.lookup ("len" : Str) = some .globalImplicit
theorem call_lenKey {f c' : Addr} {qual x : Str} {params : Arguments} {p1 p2 p3 p4 p5 : Pos} {k5 : Nat} {scope : Scope} {clos : List (Str × Addr)} {pm ctv : Value} {v : Value} {ds : List PyData} {mg mb : Str → Option Value}
    (L : LamKey scope x) (hd : (x == ("__debug__" : Str)) = false)
    (hf : s.heap.get? f = some (PySem.W.kla_obj "<lambda>" qual params (.Tuple [.Call (.Name "len" p1) [.Name x p2] [] p3, .Name x p4] k5 p5) scope clos pm c' ctv))
    (hc : ∃ (oc : Obj) (vs : Array Value) (t : Tok), s.heap.get? c' = some oc ∧ oc.data = .fields vs ∧ vs[1]? = some (.str qual t))
    (hbind : ∀ v, bindArgs (PySem.W.kla_fn "<lambda>" qual params (.Tuple [.Call (.Name "len" p1) [.Name x p2] [] p3, .Name x p4] k5 p5) scope clos pm (.ref c') ctv) ⟨[v], []⟩ = pure [(x, v)])
    (hg : s.heap.Ns mainGlobals mg) (hm : mg "len" = none) (hb : s.heap.Ns builtinsNs mb) (hmb : mb "len" = some (.builtin "len")) (hl : s.heap.NoLimit) (hroom : A.depth < recursionLimit)
    (hlen : ds.length ≤ sizeLine) (hp : pureDs ds = true) (hr : ∃ as, Reads s.heap v (.tuple ds) as) :
    wpAny (model prog w) A (call (.ref f) [v]) (PySem.W.KeyPure (keyLL ds) s) (fun _ _ => False) s := by
  obtain ⟨as, r⟩ := hr
  have has : as = [] := reads_pure _ _ _ (by simpa [pureD] using hp) r
  subst has
  cases r with
  | @tuple a o vs n xs as ho hcl hdt ra =>
  obtain ⟨oc, cvs, t, hoc, hdc, hvc⟩ := hc
  have hsz : vs.size = ds.length := by
    have := SeqAt.ReadsAll.length _ _ _ ra
    simpa using this
  refine wpAny_call (PySem.W.kla_callFunE hroom hf rfl L.co L.gen rfl ⟨c', oc, cvs, t, rfl, hoc, hdc, hvc⟩ ?_)
  rw [hbind]
  refine wpAny_pure (wpAny_newFunctionEnv L.nc (fun y hy => ?_) (fun h₁ hns hsb => ⟨hl.fresh _ hsb, ?_⟩) L.kind)
  · rw [List.mem_singleton.mp hy]; exact L.loc
  have kp : ∀ b o, s.heap.get? b = some o → h₁.get? b = some o := fun b o e => hsb.extBut b o (Nat.ne_of_lt (Heap.lt_size e)) (Heap.get?_push_of_some _ e)
  have hx : (fun y => ([(x, Value.ref a)] : List (Str × Value)).reverse.lookup y) x = some (.ref a) := by simp
  refine PySem.W.kla_codeExpr ?_
  refine wpAny_Tuple_spliced ?_
  have hg1 := hg.keeps kp
  have hb1 := hb.keeps kp
  have kind1 : (newEnv scope s.heap.objs.size mainGlobals clos (qual ++ ".<locals>.") (some f) (.ref c') none builtinsNs).scope.kind = .function := L.kind
  have ldx : ∀ (A' : Around) (pos : Pos) (s2 : Shared) (Q : Value → Shared → Prop) (E : Value → Shared → Prop), (∀ b o, h₁.get? b = some o → s2.heap.get? b = some o) → Q (.ref a) s2 →
      wpAny (model prog w) A' (eval (.Name x pos) (newEnv scope s.heap.objs.size mainGlobals clos (qual ++ ".<locals>.") (some f) (.ref c') none builtinsNs)) Q E s2 := fun A' pos s2 Q E hk hq =>
    wpAny_Name (wpAny_loadName_local kind1 L.loc (hns.keeps hk) hx hq) hd
  show wpAny _ _ (spliced ((false, eval (.Call (.Name "len" p1) [.Name x p2] [] p3) _) :: backTo p5 (starEach [.Name x p4] _))) _ _ _
  refine Calls.spliced_cons ?_
  refine wpAny_Call_Name_kw (Calls.Name_function_global kind1 L.len (Calls.loadGlobal_builtin hg1 hm hb1 hmb ?_))
  refine PyProof.Rows.callWith_builtin1 ?_ (by rfl) (by rfl)
  show wpAny _ _ (spliced ((false, eval (.Name x p2) _) :: backTo p3 (starEach [] _))) _ _ _
  refine Calls.spliced_cons (ldx _ p2 _ _ _ (fun _ _ e => e) ?_)
  refine Calls.spliced_nil ?_
  have ht : IsTup h₁ a vs := ⟨o, kp _ _ ho, hcl, n, hdt⟩
  have hl63 := line63
  refine len_tuple ht (by rw [hsz]; omega) ?_
  show wpAny _ _ (spliced ((false, eval (.Name x p4) _) :: backTo p5 (starEach [] _))) _ _ _
  refine Calls.spliced_cons (ldx _ p4 _ _ _ (fun _ _ e => e) ?_)
  refine Calls.spliced_nil ⟨by show 2 ≤ sizeLine; decide, ?_⟩
  refine ⟨_, _, rfl, fun b o e => Heap.get?_push_of_some _ (kp b o e), ?_⟩
  have rt : Reads (h₁.push { cls := .type "tuple", data := .seq [Value.int vs.size (s.toks + [(x, Value.ref a)].length + 1), Value.ref a].toArray }) (.ref a) (.tuple ds) [] :=
    PyProof.Rows.Reads.keeps (fun b o e => Heap.get?_push_of_some _ (kp b o e)) (.tuple ho hcl hdt ra)
  have ra2 : ReadsAll (h₁.push { cls := .type "tuple", data := .seq [Value.int vs.size (s.toks + [(x, Value.ref a)].length + 1), Value.ref a].toArray }) [Value.int vs.size (s.toks + [(x, Value.ref a)].length + 1), Value.ref a] [PyData.int ds.length, .tuple ds] ([] ++ ([] ++ [])) :=
    .cons (by rw [hsz]; exact .int _ _) (.cons rt .nil)
  exact .tuple (Heap.get?_push_size _ rfl) rfl rfl ra2
end

/-! ### min(.., key=f) -/
mutual
theorem reads_but {h h' : Heap} {a : Addr} (k : ∀ b o, b ≠ a → h.get? b = some o → h'.get? b = some o) (ha : ∀ o, h.get? a = some o → o.cls ≠ .type "tuple") :
    ∀ (d : PyData) (v : Value) (as : List Addr), pureD d = true → Reads h v d as → Reads h' v d as
  | .none, _, _, _, r => by cases r; exact .none
  | .bool _, _, _, _, r => by cases r; exact .bool _
  | .int _, _, _, _, r => by cases r; exact .int _ _
  | .str _, _, _, _, r => by cases r; exact .str _ _
  | .list _, _, _, p, _ => by simp [pureD] at p
  | .dict _, _, _, p, _ => by simp [pureD] at p
  | .tuple xs, _, _, p, r => by
    cases r with
    | tuple ho hc hd ra => exact .tuple (k _ _ (fun z => ha _ (z ▸ ho) hc) ho) hc hd (readsAll_but k ha xs _ _ (by simpa [pureD] using p) ra)
theorem readsAll_but {h h' : Heap} {a : Addr} (k : ∀ b o, b ≠ a → h.get? b = some o → h'.get? b = some o) (ha : ∀ o, h.get? a = some o → o.cls ≠ .type "tuple") :
    ∀ (ds : List PyData) (vs : List Value) (as : List Addr), pureDs ds = true → ReadsAll h vs ds as → ReadsAll h' vs ds as
  | [], _, _, _, r => by cases r; exact .nil
  | d :: ds, _, _, p, r => by
    have p' : pureD d = true ∧ pureDs ds = true := by simpa [pureDs] using p
    cases r with
    | cons r1 r2 => exact .cons (reads_but k ha d _ _ p'.1 r1) (readsAll_but k ha ds _ _ p'.2 r2)
end
/-- the first of the least keys among 0 .. j -/
def bestIx (kf : Nat → PyData) : Nat → Nat
  | 0 => 0
  | j + 1 => if PySem.W.dataLt (kf (j + 1)) (kf (bestIx kf j)) = true then j + 1 else bestIx kf j
theorem bestIx_le (kf : Nat → PyData) : ∀ j, bestIx kf j ≤ j
  | 0 => Nat.le_refl _
  | j + 1 => by
    unfold bestIx
    split
    · exact Nat.le_refl _
    · exact Nat.le_succ_of_le (bestIx_le kf j)
section
variable {prog : Program} {w : World} {A : Around} {E : Value → Shared → Prop} {s : Shared} {h₀ : Heap} {f l I S : Addr} {vs : List Value} {R : Result → Shared → Prop} {Q : Value → Shared → Prop}
theorem isList_keeps {h h' : Heap} {a : Addr} {xs : Array Value} (hl : h.IsList a xs) (k : ∀ b o, h.get? b = some o → h'.get? b = some o) : h'.IsList a xs := by
  obtain ⟨o, e, r⟩ := hl
  exact ⟨o, k _ _ e, r⟩
theorem isListIter_keeps {h h' : Heap} {a l : Addr} {i : Nat} (hl : h.IsListIter a l i) (k : ∀ b o, h.get? b = some o → h'.get? b = some o) : h'.IsListIter a l i := by
  obtain ⟨o, e, r⟩ := hl
  exact ⟨o, k _ _ e, r⟩
theorem min_loop (kf : Nat → PyData) (hh : A.handled = none) (hl0 : h₀.IsList l vs.toArray) (hlI : l ≠ I) (hSI : S ≠ I) (hS0 : h₀.get? S = none) (hI0 : h₀.get? I = none)
    (hal : ∀ i j, i < vs.length → j < vs.length → PySem.W.alike (kf i) (kf j) = true) (hnn : ∀ i, kf i ≠ .none) (hpu : ∀ i, i < vs.length → pureD (kf i) = true) (hu : ∀ i, A.units + 1 + (kf i).depth < cLine)
    (turn : ∀ (i : Nat) (v : Value), vs[i]? = some v → ∀ (h : Heap) (tk : Nat), (∀ b o, h₀.get? b = some o → h.get? b = some o) →
      wpAny (model prog w) A.in1 (call (.ref f) [v]) (PySem.W.KeyPure (kf i) { s with heap := h, toks := tk }) (fun _ _ => False) { s with heap := h, toks := tk })
    (hR : ∀ v h' tk', vs[bestIx kf (vs.length - 1)]? = some v → (∀ b o, h₀.get? b = some o → h'.get? b = some o) → R (.ok (.ret v)) { s with heap := h', toks := tk' }) :
    ∀ (r j : Nat) (h : Heap) (tk : Nat) (vb kb : Value) (c : Nat), vs.length - (j + 1) = r → j + 1 ≤ vs.length → (∀ b o, h₀.get? b = some o → h.get? b = some o) →
      h.get? S = some (seqObj "list" #[vb, kb] c) → Reads h kb (kf (bestIx kf j)) [] → h.IsListIter I l (j + 1) → vs[bestIx kf j]? = some vb →
      codeAny (model prog w) A (.builtin "min.loop" ⟨[.ref I, .ref f, .ref S], []⟩) R { s with heap := h, toks := tk } := by
  have hname : (toString "min" ++ toString ".loop" : String) = "min.loop" := by decide
  have W := Walks.list (prog := prog) (w := w) (A := A.in1) hh I l hlI vs.toArray
  have hsz : vs.toArray.size = vs.length := List.size_toArray ..
  have n0I : ∀ {b o}, h₀.get? b = some o → b ∉ [I] := fun {b o} e z => by rw [List.mem_singleton.mp z, hI0] at e; cases e
  have n0S : ∀ {b o}, h₀.get? b = some o → b ≠ S := fun {b o} e z => by rw [z, hS0] at e; cases e
  have iTup : ∀ {h : Heap} {j}, h.IsListIter I l j → ∀ o, h.get? I = some o → o.cls ≠ .type "tuple" := fun {h j} hi o e z => by
    obtain ⟨o', e', c', _⟩ := hi
    rw [e] at e'; cases e'
    rw [c'] at z
    injection z with z
    exact absurd z (by decide)
  intro r
  induction r with
  | zero =>
    intro j h tk vb kb c hr hj K0 nS rk hit hvb
    have hin : j + 1 = vs.length := by omega
    refine codeAny_builtin PySem.F.entry_min_loop ?_
    rw [Around.under_plainId PySem.F.plain_min_loop _]
    show wpAny _ A.in1 (seqItems? (.ref S) >>= _) _ _ _
    refine wpAny_bind (wpAny_seqItems nS rfl ?_)
    show wpAny _ A.in1 (tryCatch (pyNext (.ref I)) _ >>= _) _ _ _
    refine wpAny_bind (wpAny_tryCatch (W.done _ _ _ ⟨by rw [hsz, ← hin]; exact hit, isList_keeps hl0 K0⟩ fun h' tk' hk' => ?_))
    have hS' := hk' S _ (by simpa using hSI) nS
    have s1 := Heap.SameBut.update h' S (Obj.mapSeq fun _ => (#[] : Array Value))
    show wpAny _ A.in1 (updateSeq S (fun _ => #[]) >>= _) _ _ _
    refine wpAny_bind ?_
    refine wpAny_updateSeq hS' rfl (wpAny_bind (wpAny_letGo (wpAny_pure ?_)))
    refine hR vb _ _ (by rw [← hin]; exact hvb) fun b o e => (s1.2 b (n0S e)).trans (hk' b o (n0I e) (K0 b o e))
  | succ r ih =>
    intro j h tk vb kb c hr hj K0 nS rk hit hvb
    have hlt : j + 1 < vs.length := by omega
    refine codeAny_builtin PySem.F.entry_min_loop ?_
    rw [Around.under_plainId PySem.F.plain_min_loop _]
    show wpAny _ A.in1 (seqItems? (.ref S) >>= _) _ _ _
    refine wpAny_bind (wpAny_seqItems nS rfl ?_)
    show wpAny _ A.in1 (tryCatch (pyNext (.ref I)) _ >>= _) _ _ _
    refine wpAny_bind (wpAny_tryCatch (W.item (j + 1) _ _ _ (by rw [hsz]; exact hlt) ⟨hit, isList_keeps hl0 K0⟩ fun v h' tk' hP hst' hk' => ?_))
    have hv : vs[j + 1]? = some v := by simpa using hP
    have K1 : ∀ b o, h₀.get? b = some o → h'.get? b = some o := fun b o e => hk' b o (n0I e) (K0 b o e)
    have nS1 := hk' S _ (by simpa using hSI) nS
    have bl := bestIx_le kf j
    have rk1 : Reads h' kb (kf (bestIx kf j)) [] := reads_but (a := I) (fun b o hb e => hk' b o (by simpa using hb) e) (iTup hit) _ _ _ (hpu _ (by omega)) rk
    show wpAny _ A.in1 (tryCatch (holding [v] (call (.ref f) [v])) _ >>= _) _ _ _
    refine wpAny_bind (wpAny_tryCatch (wpAny_holding (wpAny_mono (turn (j + 1) v hv h' tk' K1) (fun kx s'' he => ?_) fun _ _ hF => hF.elim)))
    obtain ⟨h2, tk2, rfl, kp2, r2⟩ := he
    have K2 : ∀ b o, h₀.get? b = some o → h2.get? b = some o := fun b o e => kp2 b o (K1 b o e)
    have nS2 := kp2 _ _ nS1
    have rk2 : Reads h2 kb (kf (bestIx kf j)) [] := PyProof.Rows.Reads.keeps kp2 rk1
    have hit2 : h2.IsListIter I l (j + 1 + 1) := isListIter_keeps hst'.1 kp2
    show wpAny _ A.in1 (tryCatch (holding [v, kx] (richCompare .Lt kx kb >>= _)) _ >>= _) _ _ _
    refine wpAny_bind (wpAny_tryCatch (wpAny_holding (wpAny_bind (PySem.W.rcLt_alike (kf (j + 1)) (kf (bestIx kf j)) A.in1 { s with heap := h2, toks := tk2 } kx kb [] [] r2 rk2 (hal _ _ hlt (by omega)) (hnn _)
      (Nat.lt_of_le_of_lt (Nat.add_le_add_left (Nat.min_le_left _ _) _) (hu (j + 1))) prog w _ _ ?_))))
    refine wpAny_bind (wpAny_holding (wpAny_truthy_bool ?_))
    refine wpAny_bind (wpAny_letGo (wpAny_pure ?_))
    cases hb' : PySem.W.dataLt (kf (j + 1)) (kf (bestIx kf j)) with
    | true =>
      have s1 := Heap.SameBut.update h2 S (Obj.mapSeq fun _ => #[v, kx])
      obtain ⟨c2, hc2⟩ : ∃ c2, (h2.update S (Obj.mapSeq fun _ => #[v, kx])).get? S = some (seqObj "list" #[v, kx] c2) := ⟨_, get?_update_seq nS2 fun _ => #[v, kx]⟩
      have eb : bestIx kf (j + 1) = j + 1 := by
        show (if PySem.W.dataLt (kf (j + 1)) (kf (bestIx kf j)) = true then j + 1 else bestIx kf j) = j + 1
        rw [if_pos hb']
      simp only [if_true]
      refine wpAny_bind ?_
      refine wpAny_updateSeq nS2 rfl (wpAny_bind (wpAny_letGo ?_))
      rw [hname]
      refine wpAny_pure ⟨plainId_quiet PySem.F.plain_min_loop _, ih (j + 1) _ _ v kx c2 (by omega) hlt (fun b o e => (s1.2 b (n0S e)).trans (K2 b o e)) hc2 ?_ ?_ (by rw [eb]; exact hv)⟩
      · rw [eb]
        exact reads_but (a := S) (fun b o hb e => (s1.2 b hb).trans e) (fun o e z => by rw [nS2] at e; cases e; injection z with z; exact absurd z (by decide)) _ _ _ (hpu _ hlt) r2
      · obtain ⟨oI, e1, e2, e3⟩ := hit2
        exact ⟨oI, (s1.2 I hSI.symm).trans e1, e2, e3⟩
    | false =>
      have eb : bestIx kf (j + 1) = bestIx kf j := by
        show (if PySem.W.dataLt (kf (j + 1)) (kf (bestIx kf j)) = true then j + 1 else bestIx kf j) = bestIx kf j
        rw [if_neg (by rw [hb']; exact Bool.false_ne_true)]
      simp only [Bool.false_eq_true, if_false]
      refine wpAny_bind (wpAny_letGo ?_)
      rw [hname]
      exact wpAny_pure ⟨plainId_quiet PySem.F.plain_min_loop _, ih (j + 1) _ _ vb kb c (by omega) hlt K2 nS2 (by rw [eb]; exact rk2) hit2 (by rw [eb]; exact hvb)⟩
theorem min_key (kf : Nat → PyData) (hh : A.handled = none) (hl0 : s.heap.IsList l vs.toArray) (hne : 0 < vs.length)
    (hal : ∀ i j, i < vs.length → j < vs.length → PySem.W.alike (kf i) (kf j) = true) (hnn : ∀ i, kf i ≠ .none) (hpu : ∀ i, i < vs.length → pureD (kf i) = true) (hu : ∀ i, A.units + 2 + (kf i).depth < cLine)
    (turn : ∀ (i : Nat) (v : Value), vs[i]? = some v → ∀ (h : Heap) (tk : Nat), (∀ b o, s.heap.get? b = some o → h.get? b = some o) →
      wpAny (model prog w) A.in1 (call (.ref f) [v]) (PySem.W.KeyPure (kf i) { s with heap := h, toks := tk }) (fun _ _ => False) { s with heap := h, toks := tk })
    (hQ : ∀ v h' tk', vs[bestIx kf (vs.length - 1)]? = some v → (∀ b o, s.heap.get? b = some o → h'.get? b = some o) → Q v { s with heap := h', toks := tk' }) :
    wpAny (model prog w) A (call (.builtin "min") [.ref l] [(Str.ofString "key", .ref f)]) Q E s := by
  have hname : (toString "min" ++ toString ".loop" : String) = "min.loop" := by decide
  obtain ⟨ol, hol, _⟩ := id hl0
  have hll : l < s.heap.objs.size := Heap.lt_size hol
  refine kmk_tree PySem.F.kind_min PySem.F.plain_min PySem.F.entry_min (kmk_min_key _ _) ?_
  show wpAny _ A.in1 (Builtin.Builtins.bindParams "min" ["key", "default"] 0 ⟨[], [(Str.ofString "key", .ref f)]⟩ >>= _) _ _ s
  refine wpAny_bind (wpAny_of_eq (show Builtin.Builtins.bindParams "min" ["key", "default"] 0 ⟨[], [(Str.ofString "key", .ref f)]⟩ = pure [some (.ref f), none] from rfl) ?_)
  refine wpAny_bind (wpAny_pure ?_)
  refine wpAny_bind (wpAny_pyIter_list hl0 ?_)
  refine wpAny_bind (wpAny_newList ?_ (Nat.zero_le _))
  rw [hname]
  generalize hI : s.heap.objs.size = I at hll
  have hS : (s.heap.push { cls := .type "list_iterator", data := .fields #[.ref l, .int 0 0] }).objs.size = I + 1 := by rw [← hI]; exact size_push' ..
  rw [hS]
  have hlI : l ≠ I := Nat.ne_of_lt hll
  have hSI : I + 1 ≠ I := Nat.ne_of_gt (Nat.lt_succ_self _)
  have z0 : ∀ b, I ≤ b → s.heap.get? b = none := fun b hb => Heap.get?_none_of_le (by rw [hI]; exact hb)
  refine wpAny_pure ⟨plainId_quiet PySem.F.plain_min_loop _, ?_⟩
  have K0 : ∀ b o, s.heap.get? b = some o → ((s.heap.push { cls := .type "list_iterator", data := .fields #[.ref l, .int 0 0] }).push (seqObj "list" #[] 0)).get? b = some o := fun b o e => Heap.get?_push_of_some _ (Heap.get?_push_of_some _ e)
  have gI : ((s.heap.push { cls := .type "list_iterator", data := .fields #[.ref l, .int 0 0] }).push (seqObj "list" #[] 0)).get? I = some { cls := .type "list_iterator", data := .fields #[.ref l, .int 0 0] } := by
    rw [← hI]; exact Heap.get?_push_of_some _ (Heap.get?_push_size _ rfl)
  have gS : ((s.heap.push { cls := .type "list_iterator", data := .fields #[.ref l, .int 0 0] }).push (seqObj "list" #[] 0)).get? (I + 1) = some (seqObj "list" #[] 0) := by
    rw [← hS]; exact Heap.get?_push_size _ rfl
  have W := Walks.list (prog := prog) (w := w) (A := A.in1) hh I l hlI vs.toArray
  have hsz : vs.toArray.size = vs.length := List.size_toArray ..
  have n0I : ∀ {b o}, s.heap.get? b = some o → b ∉ [I] := fun {b o} e z => by rw [List.mem_singleton.mp z, z0 I (Nat.le_refl _)] at e; cases e
  have n0S : ∀ {b o}, s.heap.get? b = some o → b ≠ I + 1 := fun {b o} e z => by rw [z, z0 (I + 1) (Nat.le_succ _)] at e; cases e
  refine codeAny_builtin PySem.F.entry_min_loop ?_
  rw [Around.under_plainId PySem.F.plain_min_loop _]
  show wpAny _ A.in1 (seqItems? (.ref _) >>= _) _ _ _
  refine wpAny_bind (wpAny_seqItems gS rfl ?_)
  show wpAny _ A.in1 (tryCatch (pyNext (.ref I)) _ >>= _) _ _ _
  refine wpAny_bind (wpAny_tryCatch (W.item 0 _ _ _ (by rw [hsz]; exact hne) ⟨⟨_, gI, rfl, rfl⟩, isList_keeps hl0 K0⟩ fun v h' tk' hP hst' hk' => ?_))
  have hv : vs[0]? = some v := by simpa using hP
  have K1 : ∀ b o, s.heap.get? b = some o → h'.get? b = some o := fun b o e => hk' b o (n0I e) (K0 b o e)
  have nS1 := hk' (I + 1) _ (by simpa using hSI) gS
  show wpAny _ A.in1 (tryCatch (holding [v] (call (.ref f) [v])) _ >>= _) _ _ _
  refine wpAny_bind (wpAny_tryCatch (wpAny_holding (wpAny_mono (turn 0 v hv h' tk' K1) (fun kx s'' he => ?_) fun _ _ hF => hF.elim)))
  obtain ⟨h2, tk2, rfl, kp2, r2⟩ := he
  have nS2 := kp2 _ _ nS1
  have s1 := Heap.SameBut.update h2 (I + 1) (Obj.mapSeq fun _ => #[v, kx])
  obtain ⟨c2, hc2⟩ : ∃ c2, (h2.update (I + 1) (Obj.mapSeq fun _ => #[v, kx])).get? (I + 1) = some (seqObj "list" #[v, kx] c2) := ⟨_, get?_update_seq nS2 fun _ => #[v, kx]⟩
  show wpAny _ A.in1 (updateSeq (I + 1) (fun _ => #[v, kx]) >>= _) _ _ _
  refine wpAny_bind ?_
  refine wpAny_updateSeq nS2 rfl ?_
  rw [hname]
  refine wpAny_pure ⟨plainId_quiet PySem.F.plain_min_loop _, min_loop kf hh hl0 hlI hSI (z0 _ (Nat.le_succ _)) (z0 _ (Nat.le_refl _)) hal hnn hpu (fun i => Nat.lt_of_le_of_lt (by omega) (hu i)) turn hQ _ 0 _ _ v kx c2 rfl hne (fun b o e => (s1.2 b (n0S e)).trans (kp2 b o (K1 b o e))) hc2 ?_ ?_ hv⟩
  · exact reads_but (a := I + 1) (fun b o hb e => (s1.2 b hb).trans e) (fun o e z => by rw [nS2] at e; cases e; injection z with z; exact absurd z (by decide)) _ _ _ (hpu _ hne) r2
  · obtain ⟨oI, e1, e2, e3⟩ := isListIter_keeps hst'.1 kp2
    exact ⟨oI, (s1.2 I hSI.symm).trans e1, e2, e3⟩
end

/-! ### the rules -/
/-- a list of tuples: each with what it reads as -/
def TupsAt (K : PySem.W.Frag) (H : Hp) (bs : List (V × List PyData)) : Prop := ∀ b ∈ bs, Dp K H b.1 (.tuple b.2) ∧ pureDs b.2 = true ∧ b.2.length ≤ sizeLine ∧ (keyLL b.2).depth ≤ 60
def AlikeLL (bs : List (V × List PyData)) : Prop := ∀ b ∈ bs, ∀ c ∈ bs, PySem.W.alike (keyLL b.2) (keyLL c.2) = true
abbrev keyOf (b : V × List PyData) : PyData := keyLL b.2
def tSortLL (K : PySem.W.Frag) (T : List (Addr × Str)) (P : Addr) (te : TE) : TE := fun σ H Q => te σ H fun x H1 => ∃ a bs, x = .ref a ∧ SqL K H1 a (bs.map Prod.fst) ∧ TupsAt K H1 bs ∧ AlikeLL bs ∧ LamX.Tabs T H1 ∧
  ∀ H2, LamX.ExtN H1 H2 → LamX.Tabs T H2 → (∀ b ps, b ≠ P → H1 b = some (.tbl ps) → H2 b = some (.tbl ps)) → ∀ p, H2 p = none → Q (.ref p) (upd H2 p (.lst ((bs.mergeSort (PySem.W.dataLe false keyOf)).map Prod.fst)))
def tMinLL (K : PySem.W.Frag) (T : List (Addr × Str)) (P : Addr) (te : TE) : TE := fun σ H Q => te σ H fun x H1 => ∃ a bs, x = .ref a ∧ SqL K H1 a (bs.map Prod.fst) ∧ TupsAt K H1 bs ∧ AlikeLL bs ∧ bs ≠ [] ∧ LamX.Tabs T H1 ∧
  ∀ H2, LamX.ExtN H1 H2 → LamX.Tabs T H2 → (∀ b ps, b ≠ P → H1 b = some (.tbl ps) → H2 b = some (.tbl ps)) → ∀ b, bs[bestIx (fun i => keyLL (bs[i]?.map Prod.snd |>.getD [])) (bs.length - 1)]? = some b → Q b.1 H2
theorem extN_rd {H H' : Hp} {a : Addr} {u : HO} (e : LamX.ExtN H H') (hu : ∀ ps, u ≠ .tbl ps) (h : Rd H a u) : Rd H' a u := by
  rcases h with h | ⟨o, h⟩
  · exact .inl (e _ _ h hu)
  · exact .inr ⟨o, e _ _ h fun ps z => by cases z⟩
theorem extN_l {K : PySem.W.Frag} {H H' : Hp} {a : Addr} {xs : List V} (e : LamX.ExtN H H') (h : SqL K H a xs) : SqL K H' a xs := by
  rcases h with h | h
  · exact .inl (extN_rd e (fun ps z => by cases z) h)
  · exact .inr h
theorem extN_t {K : PySem.W.Frag} {H H' : Hp} {a : Addr} {xs : List V} (e : LamX.ExtN H H') (h : SqT K H a xs) : SqT K H' a xs := by
  rcases h with h | h
  · exact .inl (extN_rd e (fun ps z => by cases z) h)
  · exact .inr h
mutual
theorem Dp.extN {K : PySem.W.Frag} {H H' : Hp} (e : LamX.ExtN H H') : ∀ (d : PyData) (v : V), Dp K H v d → Dp K H' v d
  | .none, _, h => by cases h; exact .non
  | .bool _, _, h => by cases h; exact .bl _
  | .int _, _, h => by cases h; exact .int _
  | .str _, _, h => by cases h; exact .str _
  | .list ds, _, h => by
    cases h with
    | lst h1 h2 => exact .lst (extN_l e h1) (DpAll.extN e ds _ h2)
  | .tuple ds, _, h => by
    cases h with
    | tup h1 h2 => exact .tup (extN_t e h1) (DpAll.extN e ds _ h2)
  | .dict _, _, h => by cases h
theorem DpAll.extN {K : PySem.W.Frag} {H H' : Hp} (e : LamX.ExtN H H') : ∀ (ds : List PyData) (vs : List V), DpAll K H vs ds → DpAll K H' vs ds
  | [], _, h => by cases h; exact .nil
  | d :: ds, _, h => by
    cases h with
    | cons h1 h2 => exact .cons (Dp.extN e d _ h1) (DpAll.extN e ds _ h2)
end
theorem eachIs_of {R : Value → V × List PyData → Prop} : ∀ {bs : List (V × List PyData)} {us : List Value}, Vals (bs.map Prod.fst) us → (∀ b ∈ bs, ∀ u, RelV b.1 u → R u b) → PySem.W.EachIs R us bs
  | [], _, h, _ => by cases h; exact .nil
  | b :: bs, _, h, hr => by
    cases h with
    | cons r t => exact .cons (hr b List.mem_cons_self _ r) (eachIs_of t fun c hc u => hr c (List.mem_cons_of_mem _ hc) u)
theorem vals_of_each {R : Value → V × List PyData → Prop} (hR : ∀ (u : Value) (b : V × List PyData), R u b → RelV b.1 u) : ∀ {us : List Value} {bs : List (V × List PyData)}, PySem.W.EachIs R us bs → Vals (bs.map Prod.fst) us
  | _, _, .nil => .nil
  | _, _, .cons h t => .cons (hR _ _ h) (vals_of_each hR t)
section
variable {X : Cx} {pins : List (Addr × Obj)} {σ : L2.St} {H : Hp} {s : Shared}
/-- as lam_make2 of the hand layer; the other tables stay -/
theorem lam_make3 {T : List (Addr × Str)} {c P : Addr} {params : Arguments} {body : Expr} {scope : Scope} {pos : Pos} {E : Value → Shared → Prop} {Q : Value → Shared → Prop} (I : Inv X pins σ H s) (TB : LamX.TabB X.base X.mg c P) (hcode : X.env.code = .ref c)
    (hm : (P, X.env.qual ++ "<lambda>") ∈ T) (hu : ∀ p ∈ T, p.1 = P → p.2 = X.env.qual ++ "<lambda>") (hT : LamX.Tabs T H) (hdef : defaultsOf params X.env = ([], [])) (hfree : ∀ y ∈ scope.names, y.2 = .free → ∃ c, X.env.cells.lookup y.1 = some c)
    (h : ∀ (f c' : Addr) (pm ctv : Value) (H1 : Hp) (s' : Shared), Inv X pins σ H1 s' → LamX.ExtN H H1 → LamX.Tabs T H1 → (∀ b ps, b ≠ P → H b = some (.tbl ps) → H1 b = some (.tbl ps)) →
      s'.heap.get? f = some (PySem.W.kla_obj "<lambda>" (X.env.qual ++ "<lambda>") params body scope (cloFrom X.env.cells scope.names []) pm c' ctv) → H1 f = none → f ∉ frs X.stack → H1 c' = some (LamX.CodeO c' (X.env.qual ++ "<lambda>")) → Q (.ref f) s') :
    wpAny (model X.prog X.w) X.A (eval (.Lambda params body scope pos) X.env) Q E s := by
  obtain ⟨ps, hP, ht, ha⟩ := hT _ hm
  refine PySem.W.kla_eval hdef ?_
  have bP : s.heap.BuiltinsAt X.mg P := TB.bm.keeps I.bk
  have hP' : s.heap.get? P = some { cls := .none, data := .fields ps } := I.hok P _ hP
  have nofr : ∀ f, s.heap.objs.size ≤ f → f ∉ frs X.stack := fun f hf z => by
    rcases List.mem_cons.mp (I.stkSub _ z) with e | e
    · have h1 := I.lt
      rw [← e] at h1
      exact Nat.lt_irrefl _ (Nat.lt_of_lt_of_le h1 hf)
    · exact I.nofs hf e
  cases hc : codeAmong pos ps.toList with
  | none =>
    refine PySem.W.kla_makeFunction (mg := X.mg) (c := c) (P := P) (ps := ps) (closure_ok hfree) I.ok.glob (I.mod.glob.keeps I.bk) hcode (TB.code.keeps I.bk) hP' ht hc TB.gP bP fun c' ctv h' tk hx hge hlt hrec htb => ?_
    obtain ⟨c2, oc, vs, t, e2, hoc, hd, hv⟩ := hrec
    cases e2
    have hsz : s.heap.objs.size ≤ h'.objs.size := Nat.le_trans hge (Nat.le_of_lt hlt)
    have nC : H c' = none := I.hok.fresh hge
    have I1 := LamX.inv_table (t' := tk) (more := #[rawInt pos.line, rawInt pos.col, .ref c']) (h' := h'.push (PySem.W.kla_obj "<lambda>" (X.env.qual ++ "<lambda>") params body scope (cloFrom X.env.cells scope.names []) ((X.mg "__name__").getD .none) c' ctv)) I hP
      (fun b o hb e => Heap.get?_push_of_some _ (hx b o hb e)) (Heap.get?_push_of_some _ htb) hge ⟨oc, vs, t, Heap.get?_push_of_some _ hoc, hd, hv⟩
    have hE : LamX.ExtN H (upd (upd H P (.tbl (ps ++ #[rawInt pos.line, rawInt pos.col, .ref c']))) c' (LamX.CodeO c' (X.env.qual ++ "<lambda>"))) := fun b o e n => by
      rw [upd_ne (ne_of_none e nC), upd_ne (fun z => n ps (Option.some.inj (e.symm.trans (by rw [z]; exact hP))))]
      exact e
    have eL : (ps ++ #[rawInt pos.line, rawInt pos.col, .ref c']).toList = ps.toList ++ [rawInt pos.line, rawInt pos.col, .ref c'] := by simp
    refine h h'.objs.size c' ((X.mg "__name__").getD .none) ctv _ _ I1 hE (fun p hp => ?_) (fun b qs hb e => by rw [upd_ne (ne_of_none e nC), upd_ne hb]; exact e) (Heap.get?_push_size _ rfl) ?_ (nofr _ hsz) upd_same
    · by_cases hb : p.1 = P
      · rw [hu p hp hb, hb]
        refine ⟨_, by rw [upd_ne (ne_of_none hP nC), upd_same], by rw [eL]; exact PySem.TriplesOk_snoc _ _ _ _ ht, fun p' cv hcv => ?_⟩
        rw [eL] at hcv
        rcases LamX.among_app _ ht hcv with z | z
        · obtain ⟨c0, e1, e2⟩ := ha p' cv z
          exact ⟨c0, e1, hE _ _ e2 LamX.codeO_ne⟩
        · exact ⟨c', z, upd_same⟩
      · obtain ⟨ps', a1, a2, a3⟩ := hT p hp
        refine ⟨ps', by rw [upd_ne (ne_of_none a1 nC), upd_ne hb]; exact a1, a2, fun p' cv hcv => ?_⟩
        obtain ⟨c0, e1, e2⟩ := a3 p' cv hcv
        exact ⟨c0, e1, hE _ _ e2 LamX.codeO_ne⟩
    · have n1 : h'.objs.size ≠ c' := Nat.ne_of_gt hlt
      have n2 : h'.objs.size ≠ P := Nat.ne_of_gt (Nat.lt_of_lt_of_le (Heap.lt_size hP') hsz)
      rw [upd_ne n1, upd_ne n2]
      exact I.hok.fresh hsz
  | some cv =>
    obtain ⟨c', e, hco⟩ := ha pos cv hc
    subst e
    refine PySem.W.kla_makeFunctionHit (mg := X.mg) (c := c) (P := P) (ps := ps) (closure_ok hfree) I.ok.glob (I.mod.glob.keeps I.bk) hcode (TB.code.keeps I.bk) hP' ht hc bP fun ctv h' tk hx hsz => ?_
    have I1 : Inv X pins σ H { s with heap := h'.push (PySem.W.kla_obj "<lambda>" (X.env.qual ++ "<lambda>") params body scope (cloFrom X.env.cells scope.names []) ((X.mg "__name__").getD .none) c' ctv), toks := tk } := I.kept fun b o e => Heap.get?_push_of_some _ (hx b o e)
    exact h h'.objs.size c' ((X.mg "__name__").getD .none) ctv H _ I1 (LamX.ExtN.refl H) hT (fun _ _ _ e => e) (Heap.get?_push_size _ rfl) (I.hok.fresh hsz) (nofr _ hsz) hco
end
section
variable {X : Cx} {T : List (Addr × Str)} {c P : Addr} {e : Expr} {te : TE} {x : Str} {params : Arguments} {p p1 p2 p3 p4 p5 lpos kpos pos : Pos} {k5 k : Nat} {scope : Scope}
/-- what the making of the lambda asks -/
structure LamAt (X : Cx) (T : List (Addr × Str)) (c P : Addr) (x : Str) (params : Arguments) (body : Expr) (scope : Scope) : Prop where
  tab : LamX.TabB X.base X.mg c P
  code : X.env.code = .ref c
  mem : (P, X.env.qual ++ "<lambda>") ∈ T
  uniq : ∀ p ∈ T, p.1 = P → p.2 = X.env.qual ++ "<lambda>"
  key : LamKey scope x
  nofree : ∀ y ∈ scope.names, y.2 ≠ .free
  deff : defaultsOf params X.env = ([], [])
  bind : ∀ (q : Str) (cl : List (Str × Addr)) (pm cv ctv v : Value), bindArgs (PySem.W.kla_fn "<lambda>" q params body scope cl pm cv ctv) ⟨[v], []⟩ = pure [(x, v)]
/-- the lambda is made; each of its calls gives the key -/
theorem lam_key {pins : List (Addr × Obj)} {σ : L2.St} {H : Hp} {s : Shared} {Q' : Value → Shared → Prop} {E : Value → Shared → Prop} (hr : Room k X.A)
    (L : LamAt X T c P x params (.Tuple [.Call (.Name "len" p1) [.Name x p2] [] p3, .Name x p4] k5 p5) scope) (hm : X.mg "len" = none) (hd : (x == ("__debug__" : Str)) = false) (I : Inv X pins σ H s) (hT : LamX.Tabs T H)
    (h : ∀ (f : Addr) (H2 : Hp) (s2 : Shared), Inv X pins σ H2 s2 → LamX.ExtN H H2 → LamX.Tabs T H2 → (∀ b ps, b ≠ P → H b = some (.tbl ps) → H2 b = some (.tbl ps)) →
      (∀ (A : Around) (v : Value) (ds : List PyData) (hh : Heap) (tk : Nat), A.depth ≤ X.A.depth → (∀ b o, s2.heap.get? b = some o → hh.get? b = some o) → ds.length ≤ sizeLine → pureDs ds = true → (∃ as, Reads hh v (.tuple ds) as) →
        wpAny (model X.prog X.w) A (call (.ref f) [v]) (PySem.W.KeyPure (keyLL ds) { s2 with heap := hh, toks := tk }) (fun _ _ => False) { s2 with heap := hh, toks := tk }) → Q' (.ref f) s2) :
    wpAny (model X.prog X.w) X.A (eval (.Lambda params (.Tuple [.Call (.Name "len" p1) [.Name x p2] [] p3, .Name x p4] k5 p5) scope lpos) X.env) Q' E s := by
  refine lam_make3 I L.tab L.code L.mem L.uniq hT L.deff (fun y hy e => absurd e (L.nofree y hy)) fun f c' pm ctv H2 s2 I2 eN T2 oth hf hfn hfr hco => ?_
  refine h f H2 s2 I2 eN T2 oth fun A v ds hh tk hA kp hl hp hrd => ?_
  obtain ⟨⟨oc, vs, t, hoc, hdc, hvc⟩, _, _⟩ := I2.hok c' _ hco
  obtain ⟨mb, b1, b2⟩ := I2.mod.blt
  have kb : ∀ b o, X.base.get? b = some o → hh.get? b = some o := fun b o e => kp b o (I2.bk b o e)
  exact call_lenKey (s := { s2 with heap := hh, toks := tk }) (mg := X.mg) (mb := mb) L.key hd (kp _ _ hf) ⟨oc, vs, t, kp _ _ hoc, hdc, hvc⟩ (fun v => L.bind _ _ _ _ _ v) (I2.mod.glob.keeps kb) hm (b1.keeps kb) ((b2 "len" (by decide)).trans PySem.boot_len) (I2.mod.nolimit.keeps kb)
    (by have := hr.dp; omega) hl hp hrd
theorem pe_sortedLL (hr : Room k X.A) (L : LamAt X T c P x params (.Tuple [.Call (.Name "len" p1) [.Name x p2] [] p3, .Name x p4] k5 p5) scope) (hm : X.mg "len" = none) (hms : X.mg "sorted" = none) (hgs : Gl X "sorted") (hd : (x == ("__debug__" : Str)) = false) (he : PE X e te)
    (hst : backTo pos (starEach [e] X.env) = (false, eval e X.env) :: backTo pos (starEach [] X.env) := by rfl) :
    PE X (.Call (.Name "sorted" p) [e] [⟨some "key", .Lambda params (.Tuple [.Call (.Name "len" p1) [.Name x p2] [] p3, .Name x p4] k5 p5) scope lpos, kpos⟩] pos) (tSortLL X.K T P te) := by
  refine ⟨fun pins s σ H Q I h => ?_⟩
  refine wpAny_Call_Name_kw (ld_blt I hgs hms (show bootBuiltins "sorted" = some (.builtin "sorted") by decide +kernel) ?_)
  refine PyProof.Rows.callWith_kw ?_ hst (by rw [hst]; rfl) rfl rfl
  rw [hst]
  refine Calls.spliced_cons (thn (he.run pins s σ H _ I h) fun u s1 ⟨v, H1, I1, r1, a, bs, ea, hl, ht, hal, hT, q⟩ => ?_)
  subst ea
  obtain rfl : u = Value.ref a := r1
  refine Calls.spliced_nil ?_
  show wpAny _ _ (evalAll [do let v ← eval (.Lambda params (.Tuple [.Call (.Name "len" p1) [.Name x p2] [] p3, .Name x p4] k5 p5) scope lpos) X.env; standAt pos; pure v]) _ _ s1
  refine wpAny_evalAll_cons (wpAny_bind (lam_key hr L hm hd I1 hT fun f H2 s2 I2 eN T2 oth key => wpAny_bind (wpAny_standAt (wpAny_pure (wpAny_evalAll_nil ?_)))))
  show wpAny _ _ (call (.builtin "sorted") [.ref a] [(Str.ofString "key", .ref f)]) _ _ s2
  obtain ⟨its, rv, pl, hz⟩ := I2.list (extN_l eN hl)
  have hlb : (bs.map Prod.fst).length = bs.length := List.length_map ..
  have rd : ∀ b ∈ bs, ∀ u, RelV b.1 u → ∃ as, Reads s2.heap u (.tuple b.2) as := fun b hb u hu => Dp.reads I2 _ _ _ (Dp.extN eN _ _ (ht b hb).1) hu
  have hun := hr.un
  refine PySem.W.sorted_key_data (β := V × List PyData) (R := fun (u : Value) (b : V × List PyData) => RelV b.1 u ∧ ∃ as, Reads s2.heap u (.tuple b.2) as) (b := false) keyOf pl.isList (eachIs_of rv fun b hb u hu => ⟨hu, rd b hb u hu⟩)
    (fun d hd d' hd' => ?_) (.inl fun d hd => ?_) (by rw [← hlb]; exact hz) (fun b hb => ?_) (PyProof.Rows.ksk_s1 _ _) (fun _ => PyProof.Rows.ksk_l1 _ _) (fun _ => PyProof.Rows.ksk_t1 _ _) (fun u b hR hb hh tk kp => ?_) fun out cc h' tk kp hnone hD hlen eo => ?_
  · obtain ⟨b, hb, rfl⟩ := List.mem_map.mp hd
    obtain ⟨b', hb', rfl⟩ := List.mem_map.mp hd'
    exact hal b hb b' hb'
  · obtain ⟨b, hb, rfl⟩ := List.mem_map.mp hd
    exact ⟨_, _, rfl⟩
  · have := (ht b hb).2.2.2
    show X.A.units + 2 + (keyLL b.2).depth < cLine
    omega
  · obtain ⟨as, q2⟩ := hR.2
    exact key _ u b.2 hh tk (Nat.le_refl _) kp (ht b hb).2.2.1 (ht b hb).2.1 ⟨as, PyProof.Rows.Reads.keeps kp q2⟩
  · have vo := vals_of_each (fun (u : Value) (b : V × List PyData) (h : RelV b.1 u ∧ ∃ as, Reads s2.heap u (.tuple b.2) as) => h.1) eo
    have hlen2 : ((bs.mergeSort (PySem.W.dataLe false keyOf)).map Prod.fst).length ≤ sizeLine := by
      rw [List.length_map, List.length_mergeSort, ← hlb]; exact hz
    refine ⟨.ref _, upd H2 (s2.heap.objs.size + 1) (.lst ((bs.mergeSort (PySem.W.dataLe false keyOf)).map Prod.fst)), I2.laid (t' := tk) kp (Nat.le_succ _) ⟨hlen2, out, cc, vo, hD⟩, rfl, q H2 eN T2 oth _ (I2.hok.fresh (Nat.le_succ _))⟩
theorem pe_minLL (hr : Room k X.A) (L : LamAt X T c P x params (.Tuple [.Call (.Name "len" p1) [.Name x p2] [] p3, .Name x p4] k5 p5) scope) (hm : X.mg "len" = none) (hms : X.mg "min" = none) (hgs : Gl X "min") (hd : (x == ("__debug__" : Str)) = false) (he : PE X e te)
    (hst : backTo pos (starEach [e] X.env) = (false, eval e X.env) :: backTo pos (starEach [] X.env) := by rfl) :
    PE X (.Call (.Name "min" p) [e] [⟨some "key", .Lambda params (.Tuple [.Call (.Name "len" p1) [.Name x p2] [] p3, .Name x p4] k5 p5) scope lpos, kpos⟩] pos) (tMinLL X.K T P te) := by
  refine ⟨fun pins s σ H Q I h => ?_⟩
  refine wpAny_Call_Name_kw (ld_blt I hgs hms (show bootBuiltins "min" = some (.builtin "min") by decide +kernel) ?_)
  refine PyProof.Rows.callWith_kw ?_ hst (by rw [hst]; rfl) rfl rfl
  rw [hst]
  refine Calls.spliced_cons (thn (he.run pins s σ H _ I h) fun u s1 ⟨v, H1, I1, r1, a, bs, ea, hl, ht, hal, hne, hT, q⟩ => ?_)
  subst ea
  obtain rfl : u = Value.ref a := r1
  refine Calls.spliced_nil ?_
  show wpAny _ _ (evalAll [do let v ← eval (.Lambda params (.Tuple [.Call (.Name "len" p1) [.Name x p2] [] p3, .Name x p4] k5 p5) scope lpos) X.env; standAt pos; pure v]) _ _ s1
  refine wpAny_evalAll_cons (wpAny_bind (lam_key hr L hm hd I1 hT fun f H2 s2 I2 eN T2 oth key => wpAny_bind (wpAny_standAt (wpAny_pure (wpAny_evalAll_nil ?_)))))
  show wpAny _ _ (call (.builtin "min") [.ref a] [(Str.ofString "key", .ref f)]) _ _ s2
  obtain ⟨its, rv, pl, hz⟩ := I2.list (extN_l eN hl)
  have hlb : its.length = bs.length := by rw [← rv.length, List.length_map]
  have hpos : 0 < bs.length := List.length_pos_iff.mpr hne
  have rd : ∀ b ∈ bs, ∀ u, RelV b.1 u → ∃ as, Reads s2.heap u (.tuple b.2) as := fun b hb u hu => Dp.reads I2 _ _ _ (Dp.extN eN _ _ (ht b hb).1) hu
  have hun := hr.un
  have kfe : ∀ {i : Nat} {b : V × List PyData}, bs[i]? = some b → keyLL (bs[i]?.map Prod.snd |>.getD []) = keyLL b.2 := fun {i b} e => by rw [e]; rfl
  have at_ : ∀ i, i < its.length → ∃ b, bs[i]? = some b ∧ b ∈ bs := fun i hi => ⟨bs[i]'(by omega), List.getElem?_eq_getElem _, List.getElem_mem _⟩
  refine min_key (fun i => keyLL (bs[i]?.map Prod.snd |>.getD [])) hr.hd pl.isList (by omega) (fun i j hi hj => ?_) (fun i z => by unfold keyLL at z; cases z) (fun i hi => ?_) (fun i => ?_) (fun i u hu hh tk kp => ?_) fun u h' tk' hu kp => ?_
  · obtain ⟨b, e1, m1⟩ := at_ i hi
    obtain ⟨b', e2, m2⟩ := at_ j hj
    show PySem.W.alike (keyLL (bs[i]?.map Prod.snd |>.getD [])) (keyLL (bs[j]?.map Prod.snd |>.getD [])) = true
    rw [kfe e1, kfe e2]
    exact hal b m1 b' m2
  · obtain ⟨b, e1, m1⟩ := at_ i hi
    show pureD (keyLL (bs[i]?.map Prod.snd |>.getD [])) = true
    rw [kfe e1]
    have := (ht b m1).2.1
    simp [keyLL, pureD, pureDs, this]
  · show X.A.units + 2 + (keyLL (bs[i]?.map Prod.snd |>.getD [])).depth < cLine
    cases e1 : bs[i]? with
    | none =>
      have : (keyLL ((Option.none : Option (V × List PyData)).map Prod.snd |>.getD [])).depth ≤ 3 := by simp [keyLL, PyData.depth, PyData.depthAll]
      omega
    | some b =>
      have := (ht b (List.mem_of_getElem? e1)).2.2.2
      have e3 : keyLL ((some b).map Prod.snd |>.getD []) = keyLL b.2 := rfl
      rw [e3]
      omega
  · have hi : i < its.length := (List.getElem?_eq_some_iff.mp hu).1
    obtain ⟨b, e1, m1⟩ := at_ i hi
    obtain ⟨u', hu', ru⟩ := rv.get (show (bs.map Prod.fst)[i]? = some b.1 by rw [List.getElem?_map, e1]; rfl)
    rw [hu] at hu'; cases hu'
    show wpAny _ _ _ (PySem.W.KeyPure (keyLL (bs[i]?.map Prod.snd |>.getD [])) _) _ _
    rw [kfe e1]
    obtain ⟨as, q2⟩ := rd b m1 u ru
    exact key _ u b.2 hh tk (Nat.le_refl _) kp (ht b m1).2.2.1 (ht b m1).2.1 ⟨as, PyProof.Rows.Reads.keeps kp q2⟩
  · rw [hlb] at hu
    have hi : bestIx (fun i => keyLL (bs[i]?.map Prod.snd |>.getD [])) (bs.length - 1) < its.length := (List.getElem?_eq_some_iff.mp hu).1
    obtain ⟨b, e1, m1⟩ := at_ _ hi
    obtain ⟨u', hu', ru⟩ := rv.get (show (bs.map Prod.fst)[bestIx (fun i => keyLL (bs[i]?.map Prod.snd |>.getD [])) (bs.length - 1)]? = some b.1 by rw [List.getElem?_map, e1]; rfl)
    rw [hu] at hu'; cases hu'
    exact ⟨b.1, H2, I2.kept (t' := tk') kp, ru, q H2 eN T2 oth b e1⟩
end
end DL
set_option Elab.async false
set_option linter.all false
set_option maxRecDepth 100000
set_option maxHeartbeats 2000000
/-! iterators that the hand layer has not: a list or a tuple, enumerate of a tuple, the items of a dict with tuple keys. -/
namespace DL
open PySem PySem.Spec PyProof.Rows L2

/-! ### enumerate(tuple) -/
set_option maxHeartbeats 4000000 in
theorem enum_new1 {v : Value} {o : Obj} {H : Heap → Prop} (B : Begins v o H) :
    Meets (Builtin.«enumerate.__new__» ⟨[.type "enumerate", v], []⟩) (fun _ R s => H s.heap ∧
      R (.ok (.ret (.ref (s.heap.push o).objs.size))) { s with heap := (s.heap.push o).push { cls := .type "enumerate", data := .fields #[.none, .bool false, .ref s.heap.objs.size, rawInt 0, .none, .none] } }) :=
  .of_wp fun prog w A R s hw => by
    obtain ⟨hp, g, d, tk, os⟩ := s; obtain ⟨h1, hfin⟩ := hw
    have hsub := sub_enumerate
    have q1 : ∀ {A' : Around} {E : Value → Shared → Prop} {Q : Value → Shared → Prop}, Q (.ref hp.objs.size) ⟨hp.push o, g, d, tk, os⟩ → wpAny (model prog w) A' (pyIter v) Q E ⟨hp, g, d, tk, os⟩ :=
      fun q => B.iter prog w _ _ ⟨hp, g, d, tk, os⟩ _ h1 q
    wp_walk using q1
    refine wpAny_stack_any fun st => wpAny_pure ?_
    split
    · rename_i c _ _ _ _ _
      cases (c == Value.type "enumerate")
      · wp_walk using q1
        exact ⟨_, rfl, hfin⟩
      · wp_walk using q1
        exact ⟨_, rfl, hfin⟩
    · wp_walk using q1
      exact ⟨_, rfl, hfin⟩
section
variable {prog : Program} {w : World} {A : Around} {E : Value → Shared → Prop} {s : Shared}
theorem enum_call1 {v : Value} {o : Obj} {H : Heap → Prop} {Q : Value → Shared → Prop} (B : Begins v o H) (h1 : H s.heap)
    (hfin : ∀ h', IsEnum h' (s.heap.objs.size + 1) s.heap.objs.size 0 .none → h'.get? s.heap.objs.size = some o → h'.objs.size = s.heap.objs.size + 2 →
      (∀ b x, s.heap.get? b = some x → h'.get? b = some x) → Q (.ref (s.heap.objs.size + 1)) { s with heap := h' }) :
    wpAny (model prog w) A (call (.type "enumerate") [v]) Q E s := by
  refine callType_new F.called_enumerate (by decide) (F.typeCall_enumerate_1 _) (F.newCall_enumerate_1 _) (fun obj => F.args_object_init_2 obj _) F.entry_enumerate_new (enum_new1 B) ⟨h1, ?_⟩
  have hz : (s.heap.push o).objs.size = s.heap.objs.size + 1 := Heap.size_push ..
  show _ ∧ _
  rw [hz]
  have he : IsEnum ((s.heap.push o).push { cls := .type "enumerate", data := .fields #[.none, .bool false, .ref s.heap.objs.size, rawInt 0, .none, .none] }) (s.heap.objs.size + 1) s.heap.objs.size 0 .none := by
    have z := Heap.get?_push_size (s.heap.push o) (o := { cls := .type "enumerate", data := .fields #[.none, .bool false, .ref s.heap.objs.size, rawInt 0, .none, .none] }) rfl
    rw [hz] at z; exact z
  exact ⟨⟨_, he, rfl⟩, hfin _ he (Heap.get?_push_of_some _ (Heap.get?_push_size _ B.free)) (by rw [Heap.size_push, hz]) fun b x y => Heap.get?_push_of_some _ (Heap.get?_push_of_some _ y)⟩
end
/-- the tuple at a, each item in a new pair -/
def IteT (K : PySem.W.Frag) (a : Addr) : It :=
  ⟨fun i H => ∃ (xs : List V) (x : V), SqT K H a xs ∧ xs[i]? = some x, fun i H v H' => ∃ T x, v = .ref T ∧ H T = none ∧ H' = upd H T (.tup [.int (i : Nat), x]) ∧ ∀ xs, SqT K H a xs → xs[i]? = some x, fun i H => ∃ xs : List V, SqT K H a xs ∧ xs.length = i⟩
theorem turn_enumT {P : Program} {w : World} {K : PySem.W.Frag} {elts : List Expr} {kk : Nat} {tpos : Pos} (a e it : Addr) (hae : a ≠ e) (hai : a ≠ it) :
    Turn P w K (.Tuple elts kk tpos) (IteT K a) [e, it] e (fun i h => (∃ old, IsEnum h e it ((i : Nat) : Int) old) ∧ h.IsTupleIter it a i ∧ e ≠ it) where
  mem := by simp
  obj := fun i h st b hb => by
    obtain ⟨⟨old, he⟩, ⟨o, ho, hc, hd⟩, _⟩ := st
    have e' : b = e ∨ b = it := by simpa using hb
    rcases e' with z | z
    · rw [z]; exact ⟨_, he, fun v q => nomatch q⟩
    · rw [z]; exact ⟨o, ho, fun v q => by rw [hd] at q; cases q⟩
  keep := fun i h h' st k => let ⟨⟨old, he⟩, hi, hne⟩ := st; ⟨⟨old, k e (by simp) _ he⟩, hi.at fun o q => k it (by simp) o q, hne⟩
  item := by
    intro X hP hw hK hc i pins s σ H E I hf st hg
    subst hP hw hK
    obtain ⟨⟨old, he⟩, hit, hne⟩ := st
    obtain ⟨xs, x, hq, hx⟩ := hg
    obtain ⟨its, rv, p, hz⟩ := I.tuple hq
    obtain ⟨u, hu, ru⟩ := rv.get hx
    have hel : e < s.heap.objs.size := Heap.lt_size he
    have hil : it < s.heap.objs.size := by obtain ⟨_, q, _⟩ := hit; exact Heap.lt_size q
    have hn : i < its.toArray.size := by rw [List.size_toArray]; exact (List.getElem?_eq_some_iff.mp hu).1
    have pT : s.heap.IsTuple a its.toArray := p
    refine wpAny_pyNext_enum_itemD (Draws.tuple (A := X.A.in1) (I.ok.hd hc) it a hai its.toArray) he ⟨hit, pT⟩ hn hne (by simp [hne, Ne.symm hae]) fun y h' tk hP ho st' hT hsz hk => ?_
    obtain rfl : y = u := by
      have z : its[i]? = some y := by simpa using hP
      rw [hu] at z; exact (Option.some.inj z).symm
    refine ⟨_, rfl, wpAny_letOwnedTupleGo_enum (s := { s with heap := h', toks := tk + 1 }) ho fun h'' he' sb => ?_⟩
    have hT2 : h''.get? s.heap.objs.size = some { cls := .type "tuple", data := .seq #[.int i tk, y] } := (sb.2 _ (Nat.ne_of_gt hel)).trans hT
    have new : ObjOk X.prog X.w (upd H s.heap.objs.size (.tup [.int (i : Nat), x])) h'' s.heap.objs.size (.tup [.int (i : Nat), x]) :=
      ⟨by show 2 ≤ sizeLine; decide, [.int i tk, y], .cons ⟨_, rfl⟩ (.cons ru .nil), ⟨_, hT2, rfl, _, rfl⟩⟩
    have I1 : Inv X pins σ (upd H s.heap.objs.size (.tup [.int (i : Nat), x])) { s with heap := h'', toks := tk + 1 } :=
      I.turnedNew (ch := [e, it]) (fun b ob hb q => (sb.2 b (fun z => hb (by simp [z]))).trans (hk b ob (fun z => hb (by simp [z])) (fun z => hb (by simp [z])) q)) hf (Nat.le_refl _) new
    refine ⟨.ref s.heap.objs.size, _, I1, rfl, ⟨_, x, rfl, I.hok.fresh (Nat.le_refl _), rfl, fun ys hy => by rw [I.tuple_inj hy hq]; exact hx⟩, ⟨⟨y, ?_⟩, st'.1.at fun o q => (sb.2 it (Ne.symm hne)).trans q, hne⟩, fun b hb => ?_⟩
    · have e1 : ((i + 1 : Nat) : Int) = (i : Int) + 1 := by omega
      rw [e1]; exact he'
    · have hb' : b < s.heap.objs.size := by
        have e' : b = e ∨ b = it := by simpa using hb
        rcases e' with z | z
        · rw [z]; exact hel
        · rw [z]; exact hil
      rw [upd_ne (Nat.ne_of_lt hb')]
      exact (hf b hb).1
  done := by
    intro X hP hw hK hc i pins s σ H E I hf st hg
    subst hP hw hK
    obtain ⟨⟨old, he⟩, hit, hne⟩ := st
    obtain ⟨xs, hq, hx⟩ := hg
    obtain ⟨its, rv, p, hz⟩ := I.tuple hq
    obtain ⟨f0, f1, f2, f3, f4, f5⟩ := hf it (by simp)
    have hl := rv.length
    have pT : s.heap.IsTuple a its.toArray := p
    have hn : its.toArray.size = i := by rw [List.size_toArray, ← hl]; exact hx
    have D := Draws.tuple (prog := X.prog) (w := X.w) (A := X.A.in1) (I.ok.hd hc) it a hai its.toArray
    exact wpAny_pyNext_enum_endD D he ⟨by rw [hn]; exact hit, pT⟩ fun h' eb => ⟨rfl, I.turned (t' := s.toks) (fun b o hb q => eb b o hb q) f0 f1 f3 f4 f5⟩
  self := fun A i s Q E st h => let ⟨⟨_, he⟩, _⟩ := st; wpAny_pyIter_enum he h
def iEnumT (K : PySem.W.Frag) (ta : TA) : TI := fun σ H R => ta σ H fun vs H1 => ∃ a xs, vs = [.ref a] ∧ ((SqL K H1 a xs ∧ R (Ite K a) H1) ∨ (SqT K H1 a xs ∧ R (IteT K a) H1))
theorem pi_enumT {X : Cx} {e : Expr} {ta : TA} {p pos tpos : Pos} {elts : List Expr} {kk : Nat} (hg : Gl X "enumerate") (hm : X.mg "enumerate" = none) (ha : PA X [e] ta) (hs : starEach [e] X.env = [(false, eval e X.env)] := by rfl) :
    PI X (.Tuple elts kk tpos) (.Call (.Name "enumerate" p) [e] [] pos) (iEnumT X.K ta) := by
  refine ⟨fun pins s σ H R I h => ?_⟩
  refine Call_ (ld_blt I hg hm boot_enumerate (PyProof.Rows.callWith_type1 (thn (ha.run pos pins s σ H _ I h) fun us s1 ⟨vs, H1, I1, r1, q1⟩ => ?_) hs rfl))
  obtain ⟨a, xs, ex, q1⟩ := q1
  subst ex
  have fresh2 : ∀ b, b ∈ [s1.heap.objs.size + 1, s1.heap.objs.size] → FpOk X pins H1 b := fun b hb => by
    have e' : b = s1.heap.objs.size + 1 ∨ b = s1.heap.objs.size := by simpa using hb
    have hle : s1.heap.objs.size ≤ b := by
      rcases e' with z | z
      · rw [z]; exact Nat.le_add_right _ _
      · rw [z]; exact Nat.le_refl _
    exact I1.fpOk hle (I1.hok.fresh hle)
  cases r1 with
  | cons r rr =>
    cases rr
    cases r
    rcases q1 with ⟨hq, q⟩ | ⟨hq, q⟩
    · obtain ⟨its, rv, p', hz⟩ := I1.list hq
      refine call_enumerate_list p'.isList fun h' he hit hsz hk => wpAny_pyIter_enum he ?_
      have I2 : Inv X pins σ H1 { s1 with heap := h' } := I1.kept (t' := s1.toks) hk
      exact ⟨s1.heap.objs.size + 1, [s1.heap.objs.size + 1, s1.heap.objs.size], _, _, H1, rfl, I2, turn_enum a (s1.heap.objs.size + 1) s1.heap.objs.size, ⟨⟨.none, he⟩, hit, Nat.succ_ne_self _⟩, fresh2, q⟩
    · obtain ⟨its, rv, p', hz⟩ := I1.tuple hq
      have pT : s1.heap.IsTuple a its.toArray := p'
      have hlt : a < s1.heap.objs.size := by obtain ⟨o, ho, _⟩ := id pT; exact Heap.lt_size ho
      refine enum_call1 (begins_tuple a its.toArray) pT fun h' he hit hsz hk => wpAny_pyIter_enum he ?_
      have I2 : Inv X pins σ H1 { s1 with heap := h' } := I1.kept (t' := s1.toks) hk
      exact ⟨s1.heap.objs.size + 1, [s1.heap.objs.size + 1, s1.heap.objs.size], _, _, H1, rfl, I2, turn_enumT a (s1.heap.objs.size + 1) s1.heap.objs.size (Nat.ne_of_lt (Nat.lt_succ_of_lt hlt)) (Nat.ne_of_lt hlt), ⟨⟨.none, he⟩, ⟨_, hit, rfl, rfl⟩, Nat.succ_ne_self _⟩, fresh2, q⟩

/-! ### a list or a tuple -/
def iSeq (K : PySem.W.Frag) (tl : TE) : TI := fun σ H R => tl σ H fun x H1 => ∃ a xs, x = .ref a ∧ ((SqL K H1 a xs ∧ R (Itl K a) H1) ∨ (SqT K H1 a xs ∧ R (Itt K a) H1))
theorem pi_seq {X : Cx} {tg l : Expr} {tl : TE} (hl : PE X l tl) : PI X tg l (iSeq X.K tl) := by
  refine ⟨fun pins s σ H R I h => ?_⟩
  refine thn (hl.run pins s σ H _ I h) fun v s1 ⟨x, H1, I1, r1, q1⟩ => ?_
  obtain ⟨a, xs, e, q1⟩ := q1
  subst e
  cases r1
  have fr : ∀ b ∈ [s1.heap.objs.size], FpOk X pins H1 b := fun b hb => by
    have e : b = s1.heap.objs.size := by simpa using hb
    subst e
    exact I1.fpOk (Nat.le_refl _) (I1.hok.fresh (Nat.le_refl _))
  rcases q1 with ⟨hq, q⟩ | ⟨hq, q⟩
  · obtain ⟨its, rv, p, hz⟩ := I1.list hq
    refine wpAny_pyIter_list p.isList ?_
    exact ⟨s1.heap.objs.size, [s1.heap.objs.size], _, _, H1, rfl, I1.kept (t' := s1.toks) fun b o e => Heap.get?_push_of_some _ e, turn_list a _, ⟨_, Heap.get?_push_size _ rfl, rfl, rfl⟩, fr, q⟩
  · obtain ⟨its, rv, p, hz⟩ := I1.tuple hq
    refine wpAny_pyIter_tuple (show s1.heap.IsTuple a its.toArray from p) ?_
    exact ⟨s1.heap.objs.size, [s1.heap.objs.size], _, _, H1, rfl, I1.kept (t' := s1.toks) fun b o e => Heap.get?_push_of_some _ e, turn_tuple a _, ⟨_, Heap.get?_push_size _ rfl, rfl, rfl⟩, fr, q⟩

/-! ### the items of a dict with tuple keys -/
theorem frzT2 {X : Cx} {pins : List (Addr × Obj)} {σ : L2.St} {H : Hp} {s : Shared} {d : Addr} {o : Obj} {kvs : List (List Key × V)} (I : Inv X pins σ H s) (h : H d = some (.frz o (.dT kvs))) :
    (d == sysModules) = false ∧ s.heap.get? d = some o ∧ o.ExactDict ∧ ∃ (es : Array DictEntry) (ep : Nat), o.data = .dict es ep ∧ es.size = kvs.length ∧
      ∀ (i : Nat) (k : List Key) (v : V), kvs[i]? = some (k, v) → ∃ (en : DictEntry) (q : Addr), es[i]? = some en ∧ en.key = .ref q ∧ H q = some (.tup (k.map kV)) ∧ RelV v en.val := by
  obtain ⟨hd, z, hs, xs, pr, o', es, ep, ho, hx, hdt, he, _⟩ := I.hok d _ h
  rw [hd] at ho
  cases ho
  refine ⟨hs, hd, hx, es, ep, hdt, ?_, fun i k v e => ?_⟩
  · have l1 : es.size = xs.length := size_of_entries he
    have l2 : kvs.length = xs.length := Paired.length pr
    omega
  · obtain ⟨b, hb, e1, e2, e3⟩ := paired_get pr e
    have q := entry_at he i
    rw [hb] at q
    exact ⟨_, b.2.1, q, rfl, e2, e3⟩
def ItiT (d : Addr) (o : Obj) (kvs : List (List Key × V)) : It :=
  ⟨fun i H => H d = some (.frz o (.dT kvs)) ∧ i < kvs.length, fun i H x H' => ∃ T k v q, kvs[i]? = some (k, v) ∧ x = .ref T ∧ H T = none ∧ H q = some (.tup (k.map kV)) ∧ H' = upd H T (.tup [.ref q, v]), fun i H => H d = some (.frz o (.dT kvs)) ∧ kvs.length ≤ i⟩
theorem turn_itemsT {P : Program} {w : World} {K : PySem.W.Frag} {d : Addr} {o : Obj} {es : Array DictEntry} {ep : Nat} {kvs : List (List Key × V)} {elts : List Expr} {kk : Nat} {tpos : Pos} (it : Addr) (hod : o.data = .dict es ep) :
    Turn P w K (.Tuple elts kk tpos) (ItiT d o kvs) [it] it (fun i h => ∃ ok ov, IsItemIter h it d i kvs.length ep ok ov) where
  mem := by simp
  obj := fun i h st b hb => by
    have e : b = it := by simpa using hb
    subst e
    obtain ⟨ok, ov, e⟩ := st
    exact ⟨_, e, fun v z => nomatch z⟩
  keep := fun i h h' st k => let ⟨ok, ov, e⟩ := st; ⟨ok, ov, k it (by simp) _ e⟩
  item := by
    intro X hP hw hK hc i pins s σ H E I hf st hg
    subst hP hw hK
    obtain ⟨hd, hi⟩ := hg
    obtain ⟨hs, hgd, hx, es', ep', hdt, hsz, ent⟩ := frzT2 I hd
    obtain ⟨rfl, rfl⟩ := dict_ep hod hdt
    obtain ⟨⟨k, v⟩, hkv⟩ : ∃ p, kvs[i]? = some p := ⟨kvs[i], List.getElem?_eq_getElem hi⟩
    obtain ⟨en, q, hen, hkey, hq, ru⟩ := ent i k v hkv
    obtain ⟨ok, ov, he⟩ := st
    have hi' : i < es'.size := by omega
    have een : es'[i] = en := by
      rw [Array.getElem?_eq_getElem hi'] at hen; exact Option.some.inj hen
    rw [← hsz] at he
    have hlt : it < s.heap.objs.size := Heap.lt_size he
    refine DT.nextI he ⟨o, hgd, hx, hdt⟩ hi' fun h' ho hT hz hk => ?_
    rw [een] at ho hT
    refine ⟨_, rfl, wpAny_letOwnedTupleGo_items (s := { s with heap := h' }) ho fun h'' he' sb => ?_⟩
    have hT2 : h''.get? s.heap.objs.size = some { cls := .type "tuple", data := .seq #[en.key, en.val] } := (sb.2 _ (Nat.ne_of_gt hlt)).trans hT
    have new : ObjOk X.prog X.w (upd H s.heap.objs.size (.tup [.ref q, v])) h'' s.heap.objs.size (.tup [.ref q, v]) :=
      ⟨by show 2 ≤ sizeLine; decide, [en.key, en.val], .cons hkey (.cons ru .nil), ⟨_, hT2, rfl, _, rfl⟩⟩
    have I1 : Inv X pins σ (upd H s.heap.objs.size (.tup [.ref q, v])) { s with heap := h'' } :=
      I.turnedNew (t' := s.toks) (ch := [it]) (fun b ob hb e => (sb.2 b (by simpa using hb)).trans (hk b ob (by simpa using hb) e)) hf (Nat.le_refl _) new
    refine ⟨.ref s.heap.objs.size, _, I1, rfl, ⟨_, k, v, q, hkv, rfl, I.hok.fresh (Nat.le_refl _), hq, rfl⟩, ⟨en.key, en.val, ?_⟩, fun b hb => ?_⟩
    · rw [← hsz]; exact he'
    · have e : b = it := by simpa using hb
      rw [e, upd_ne (Nat.ne_of_lt hlt)]
      exact (hf it (by simp)).1
  done := by
    intro X hP hw hK hc i pins s σ H E I hf st hg
    subst hP hw hK
    obtain ⟨hd, hi⟩ := hg
    obtain ⟨f0, f1, f2, f3, f4, f5⟩ := hf it (by simp)
    obtain ⟨hs, hgd, hx, es', ep', hdt, hsz, ent⟩ := frzT2 I hd
    obtain ⟨rfl, rfl⟩ := dict_ep hod hdt
    obtain ⟨ok, ov, he⟩ := st
    rw [← hsz] at he
    exact DT.endI (I.ok.hd hc) he ⟨o, hgd, hx, hdt⟩ (by omega) fun h' eb => ⟨rfl, I.turned (t' := s.toks) (fun b ob hb e => eb b ob hb e) f0 f1 f3 f4 f5⟩
  self := fun A i s Q E st h => let ⟨_, _, e⟩ := st; PySem.W.kcp_self e h
def iItemsT (td : TE) : TI := fun σ H R => td σ H fun x H1 => ∃ d o kvs, x = .ref d ∧ H1 d = some (.frz o (.dT kvs)) ∧ R (ItiT d o kvs) H1
theorem pi_itemsT {X : Cx} {e : Expr} {td : TE} {apos cpos tpos : Pos} {elts : List Expr} {kk : Nat} (he : PE X e td) (hbase : attributeBase e "items" X.env (eval e X.env) = eval e X.env := by rfl) (hline : (apos.endLine == cpos.line) = true := by rfl) :
    PI X (.Tuple elts kk tpos) (.Call (.Attribute e "items" apos) [] [] cpos) (iItemsT td) := by
  refine ⟨fun pins s σ H R I h => ?_⟩
  refine wpAny_Call_method (T := "dict") (id := "dict.items") hbase rfl hline F.plainAttrs_dict F.slot_dict_items F.type_dict_items (thn (he.run pins s σ H _ I h) fun u s1 ⟨x, H1, I1, rx, d, o, kvs, ex, hd, q⟩ => ?_)
  subst ex
  obtain rfl : u = Value.ref d := rx
  obtain ⟨hs, hgd, hx, es, ep, hdt, hsz, ent⟩ := frzT2 I1 hd
  have hR : DT.Raw s1.heap d es ep := ⟨o, hgd, hx, hdt⟩
  refine ⟨hR.typeIs, (fun a z => by cases z; exact ⟨o, hgd, hx.2.1⟩), ?_⟩
  have I2 : Inv X pins σ H1 { s1 with heap := s1.heap.push { cls := .type "dict_items", data := .fields #[.ref d] } } := I1.kept (t' := s1.toks) fun b ob q => Heap.get?_push_of_some _ q
  have fin : wpAny (model X.prog X.w) X.A (pyIter (.ref s1.heap.objs.size)) (PIE X pins σ (.Tuple elts kk tpos) R) X.xe { s1 with heap := s1.heap.push { cls := .type "dict_items", data := .fields #[.ref d] } } := by
    refine DT.iterI (d := d) ⟨_, Heap.get?_push_size _ rfl, rfl, rfl⟩ (hR.push _) (pi_one (tk := s1.toks) I2 _ (turn_itemsT _ hdt) ⟨.none, .none, ?_⟩ q)
    rw [← hsz]
    exact Heap.get?_push_size _ rfl
  show wpAny _ _ (callWith cpos (.builtin "dict.items") [.ref d] [] []) _ X.xe s1
  exact method_meetsIn F.slot_dict_items F.entry_dict_items rfl (PySem.evalArgs_none ⟨rfl, hR.typeIs, F.args_dict_items_1 _, _, DT.meetsItems hs, ⟨hR, fin⟩⟩)
end DL
set_option Elab.async false
set_option linter.all false
set_option maxRecDepth 100000
set_option maxHeartbeats 2000000
/-! A layer over data: what a def computes, as a predicate transformer over its slots' data; the heap is out of sight. -/
namespace DL
open PySem PySem.Spec PyProof.Rows L2

/-! ### the predicate transformers -/
def Dm (α : Type) : Type := (α → Prop) → Prop
namespace Dm
def ret {α : Type} (a : α) : Dm α := fun Q => Q a
def bnd {α β : Type} (m : Dm α) (f : α → Dm β) : Dm β := fun Q => m fun a => f a Q
end Dm
instance : Monad Dm where
  pure := Dm.ret
  bind := Dm.bnd
def stuck {α : Type} : Dm α := fun _ => False
def must (p : Prop) : Dm Unit := fun Q => p ∧ Q ()
/-- any value of which p is true -/
def some_of {α : Type} (p : α → Prop) : Dm α := fun Q => ∀ a, p a → Q a

/-! ### lambdas -/
/-- a lambda that was made: its words, the cells it took, its code object, the tuple of its defaults; par: its one parameter and that one's default, if it has one -/
structure LamR where
  params : Arguments
  body : Expr
  scope : Scope
  q : Str
  cl : List (Str × Addr)
  c : Addr
  dV : Value
  par : Option (Str × Int)
abbrev LamR.fd (r : LamR) (pm ctv : Value) : FuncData :=
  { name := "<lambda>", qualname := r.q, params := r.params, body := .expr r.body, scope := r.scope, globals := mainGlobals, closure := r.cl, defaults := r.dV, kwdefaults := .none, doc := .none, pyModule := pm, annotations := none, code := .ref r.c, closureTuple := ctv, builtins := builtinsNs }
def LamO (f : Addr) (r : LamR) : HO := .ext fun h => ∃ (od : Option Addr) (sl : Array (Option Value)) (pm ctv : Value), h.get? f = some (⟨.type "function", od, .func (r.fd pm ctv), sl⟩ : Obj)
def DfOk (H : Hp) (r : LamR) : Prop := match r.par with
  | none => r.dV = .none
  | some (_, i) => ∃ t, r.dV = .ref t ∧ H t = some (.tup [.int i])
def FnV (H : Hp) (v : V) (r : LamR) : Prop := ∃ f, v = .ref f ∧ H f = some (LamO f r) ∧ H r.c = some (LamX.CodeO r.c r.q) ∧ DfOk H r
inductive FnVs (H : Hp) : List V → List LamR → Prop
  | nil : FnVs H [] []
  | cons {v : V} {vs : List V} {r : LamR} {rs : List LamR} : FnV H v r → FnVs H vs rs → FnVs H (v :: vs) (r :: rs)

/-! ### slots -/
inductive Sl where
  | no
  | val (d : PyData)
  | ls (ds : List PyData)
  | dt (kvs : List (List Key × PyData))
  | dk (kvs : List (Key × PyData))
  | fs (rs : List LamR)
  | fn (r : LamR)
  | adr (a : Addr)
  | xs (ad dx : Addr) (fld : Str) (d : PyData)
  | row
abbrev Ed := List Sl
def Sl.own : Sl → Bool
  | .ls _ => true
  | .dt _ => true
  | .dk _ => true
  | .fs _ => true
  | _ => false
inductive Out where
  | nx (E : Ed)
  | rt (d : PyData)
  | bk (E : Ed)
  | ct (E : Ed)

/-! ### data and heaps -/
def keyD : Key → PyData
  | .inl i => .int i
  | .inr s => .str s
def tupD (k : List Key) : PyData := .tuple (k.map keyD)
mutual
inductive Rp (H : Hp) : V → PyData → Prop
  | non : Rp H .non .none
  | bl (b : Bool) : Rp H (.bl b) (.bool b)
  | int (i : Int) : Rp H (.int i) (.int i)
  | str (x : Str) : Rp H (.str x) (.str x)
  | lst {a : Addr} {xs : List V} {ds : List PyData} {o : Obj} : H a = some (.frz o (.lst xs)) → RpAll H xs ds → Rp H (.ref a) (.list ds)
  | tup {a : Addr} {xs : List V} {ds : List PyData} : H a = some (.tup xs) → RpAll H xs ds → Rp H (.ref a) (.tuple ds)
  | dct {a : Addr} {kvs : List (List Key × V)} {ds : List PyData} {o : Obj} : H a = some (.frz o (.dT kvs)) → RpAll H (kvs.map Prod.snd) ds → Rp H (.ref a) (.dict (((kvs.map Prod.fst).map tupD).zip ds))
inductive RpAll (H : Hp) : List V → List PyData → Prop
  | nil : RpAll H [] []
  | cons {v : V} {vs : List V} {d : PyData} {ds : List PyData} : Rp H v d → RpAll H vs ds → RpAll H (v :: vs) (d :: ds)
end
/-- what never changes -/
def Stab : HO → Prop
  | .tup _ => True
  | .frz _ _ => True
  | .ext _ => True
  | .xd _ => True
  | _ => False
def ExtS (H H' : Hp) : Prop := ∀ b o, H b = some o → Stab o → H' b = some o
theorem ExtS.refl (H : Hp) : ExtS H H := fun _ _ h _ => h
theorem ExtS.trans {H H1 H2 : Hp} (a : ExtS H H1) (b : ExtS H1 H2) : ExtS H H2 := fun c o h n => b c o (a c o h n) n
mutual
theorem Rp.ext {H H' : Hp} (e : ExtS H H') {d : PyData} {v : V} : Rp H v d → Rp H' v d
  | .non => .non
  | .bl _ => .bl _
  | .int _ => .int _
  | .str _ => .str _
  | .lst h1 h2 => .lst (e _ _ h1 True.intro) (RpAll.ext e h2)
  | .tup h1 h2 => .tup (e _ _ h1 True.intro) (RpAll.ext e h2)
  | .dct h1 h2 => .dct (e _ _ h1 True.intro) (RpAll.ext e h2)
theorem RpAll.ext {H H' : Hp} (e : ExtS H H') {ds : List PyData} {vs : List V} : RpAll H vs ds → RpAll H' vs ds
  | .nil => .nil
  | .cons h1 h2 => .cons (Rp.ext e h1) (RpAll.ext e h2)
end
theorem FnV.ext {H H' : Hp} (e : ExtS H H') {v : V} {r : LamR} (h : FnV H v r) : FnV H' v r := by
  obtain ⟨f, h1, h2, h3, h4⟩ := h
  refine ⟨f, h1, e _ _ h2 True.intro, e _ _ h3 True.intro, ?_⟩
  unfold DfOk at h4 ⊢
  split at h4
  · exact h4
  · obtain ⟨t, q1, q2⟩ := h4
    exact ⟨t, q1, e _ _ q2 True.intro⟩
theorem FnVs.ext {H H' : Hp} (e : ExtS H H') : ∀ {vs : List V} {rs : List LamR}, FnVs H vs rs → FnVs H' vs rs
  | _, _, .nil => .nil
  | _, _, .cons h t => .cons (h.ext e) (t.ext e)
theorem FnVs.length {H : Hp} : ∀ {vs : List V} {rs : List LamR}, FnVs H vs rs → vs.length = rs.length
  | _, _, .nil => rfl
  | _, _, .cons _ t => congrArg (· + 1) t.length
theorem FnVs.app {H : Hp} : ∀ {vs ws : List V} {rs ss : List LamR}, FnVs H vs rs → FnVs H ws ss → FnVs H (vs ++ ws) (rs ++ ss)
  | _, _, _, _, .nil, h => h
  | _, _, _, _, .cons h t, k => .cons h (t.app k)
end DL
set_option Elab.async false
set_option linter.all false
set_option maxRecDepth 100000
set_option maxHeartbeats 2000000
namespace DL
open PySem PySem.Spec PyProof.Rows L2

/-! ### what changes: the tables of code objects; the drawn row -/
/-- an exception, as data: its class's name, what its own __init__ set -/
structure ExD where
  name : Str
  fld : Option (Str × PyData)
structure Gb where
  K : PySem.W.Frag
  TL : List (Addr × Str)
  TG : List Addr
  cls : Str → Value := fun _ => .none
  W : L2.WX := fun _ _ _ _ => False
  Px : ExD → Prop := fun _ => False
/-- where exceptions of Px go to W -/
def Gb.wx (G : Gb) (W : L2.WX) (Px : ExD → Prop) : Gb := { G with W := W, Px := Px }
def GOk (G : Gb) (H : Hp) : Prop := LamX.Tabs G.TL H ∧ ∀ P ∈ G.TG, GxR.TabG H P
/-- all stays but tables of code objects; of the row, if it is there, only what never changes -/
def Ext (ρ : Option Addr) (H H' : Hp) : Prop := ∀ b o, H b = some o → (∀ ps, o ≠ .tbl ps) → (ρ = some b → Stab o) → H' b = some o
theorem Ext.refl (ρ : Option Addr) (H : Hp) : Ext ρ H H := fun _ _ h _ _ => h
theorem Ext.trans {ρ : Option Addr} {H H1 H2 : Hp} (a : Ext ρ H H1) (b : Ext ρ H1 H2) : Ext ρ H H2 := fun c o h n r => b c o (a c o h n r) n r
theorem Stab.noTbl {o : HO} (h : Stab o) : ∀ ps, o ≠ .tbl ps := fun ps e => by rw [e] at h; exact h
theorem Ext.toS {ρ : Option Addr} {H H' : Hp} (a : Ext ρ H H') : ExtS H H' := fun b o h s => a b o h s.noTbl fun _ => s
/-- nothing is lost -/
def Grow (H H' : Hp) : Prop := ∀ b o, H b = some o → H' b = some o
theorem Grow.ext {H H' : Hp} (g : Grow H H') (ρ : Option Addr) : Ext ρ H H' := fun b o h _ _ => g b o h
theorem Grow.upd {H : Hp} {p : Addr} {o : HO} (h : H p = none) : Grow H (upd H p o) := fun b x e => by
  rw [upd_ne (ne_of_none e h)]; exact e
theorem Ext.upd {ρ : Option Addr} {H H' : Hp} {p : Addr} {o : HO} (e : Ext ρ H H') (h : H p = none) : Ext ρ H (upd H' p o) := fun b x hb n r => by
  rw [upd_ne (ne_of_none hb h)]; exact e b x hb n r
theorem GOk.grow {G : Gb} {H H' : Hp} (g : GOk G H) (e : ∀ b ps, H b = some (.tbl ps) → H' b = some (.tbl ps)) (e2 : ∀ b φ, H b = some (.ext φ) → H' b = some (.ext φ)) : GOk G H' := by
  refine ⟨fun p hp => ?_, fun P hP => ?_⟩
  · obtain ⟨ps, h1, h2, h3⟩ := g.1 p hp
    refine ⟨ps, e _ _ h1, h2, fun pos cv hc => ?_⟩
    obtain ⟨c, e3, e4⟩ := h3 pos cv hc
    exact ⟨c, e3, e2 _ _ e4⟩
  · obtain ⟨ps, h1, h2⟩ := g.2 P hP
    exact ⟨ps, e _ _ h1, h2⟩
theorem GOk.upd {G : Gb} {H : Hp} {p : Addr} {o o' : HO} (g : GOk G H) (h : H p = none ∨ (H p = some o' ∧ (∀ ps, o' ≠ .tbl ps) ∧ ∀ φ, o' ≠ .ext φ)) : GOk G (upd H p o) := by
  have ne : ∀ b x, H b = some x → ((∃ ps, x = .tbl ps) ∨ ∃ φ, x = .ext φ) → b ≠ p := fun b x e k z => by
    subst z
    rcases h with h | ⟨h, n1, n2⟩
    · rw [h] at e; cases e
    · rw [h] at e; cases e
      rcases k with ⟨ps, k⟩ | ⟨φ, k⟩
      · exact n1 ps k
      · exact n2 φ k
  refine g.grow (fun b ps e => ?_) fun b φ e => ?_
  · rw [upd_ne (ne b _ e (.inl ⟨_, rfl⟩))]; exact e
  · rw [upd_ne (ne b _ e (.inr ⟨_, rfl⟩))]; exact e
/-- the numbers of a row that is drawn from -/
def RowFit (xs : List Int) (i s c : Int) : Prop := 0 ≤ i ∧ 0 ≤ s ∧ s < 2147483648 ∧ xs.length ≤ 63
/-- the script -/
def ScrAt (K : PySem.W.Frag) (H : Hp) (a : Addr) (xs : List Int) : Prop := (∃ o, H a = some (.frz o (.lst (xs.map V.int)))) ∨
  ∃ (o : Obj) (its : Array Value) (n : Nat), K.lookup a = some o ∧ o.cls = .type "list" ∧ o.dict = none ∧ o.data = .seq its n ∧ its.size ≤ sizeLine ∧ Vals (xs.map V.int) its.toList
theorem ScrAt.ext {K : PySem.W.Frag} {H H' : Hp} {a : Addr} {xs : List Int} (e : ExtS H H') (h : ScrAt K H a xs) : ScrAt K H' a xs := by
  rcases h with ⟨o, h⟩ | h
  · exact .inl ⟨o, e _ _ h True.intro⟩
  · exact .inr h
theorem ScrAt.seq {K : PySem.W.Frag} {H : Hp} {a : Addr} {xs : List Int} (h : ScrAt K H a xs) : SqL K H a (xs.map V.int) := by
  rcases h with ⟨o, h⟩ | h
  · exact .inl (.inr ⟨o, h⟩)
  · exact .inr h
def RowAt (K : PySem.W.Frag) (H : Hp) (b : Addr) : Prop := ∃ (a : Addr) (xs : List Int) (_ : Unit) (i s c : Int), H b = some (.lst [.ref a, .int i, .int s, .int c]) ∧ ScrAt K H a xs ∧ RowFit xs i s c
def RowIs (K : PySem.W.Frag) (ρ : Option Addr) (H : Hp) : Prop := ∀ b, ρ = some b → RowAt K H b
theorem RowIs.none (K : PySem.W.Frag) (H : Hp) : RowIs K Option.none H := fun b e => nomatch e
theorem RowIs.upd {K : PySem.W.Frag} {ρ : Option Addr} {H : Hp} {p : Addr} {o : HO} (r : RowIs K ρ H) (h1 : ρ ≠ some p) (h2 : ∀ x, H p = some x → ¬ Stab x) : RowIs K ρ (upd H p o) := fun b e => by
  obtain ⟨a, xs, u, i, s, c, e1, e2, f⟩ := r b e
  refine ⟨a, xs, u, i, s, c, ?_, e2.ext fun b x hb hs => ?_, f⟩
  · rw [upd_ne (fun z => h1 (by rw [← z]; exact e))]; exact e1
  · rw [upd_ne (fun z => h2 x (by rw [← z]; exact hb) hs)]; exact hb
theorem RowIs.new {K : PySem.W.Frag} {ρ : Option Addr} {H : Hp} {p : Addr} {o : HO} (r : RowIs K ρ H) (h : H p = Option.none) : RowIs K ρ (L2.upd H p o) :=
  r.upd (fun z => by obtain ⟨a, xs, o', i, s, c, e1, _⟩ := r p z; rw [h] at e1; cases e1) fun x e => by rw [h] at e; cases e

/-- free, or a table of code objects -/
def Fr0 (H : Hp) (a : Addr) : Prop := ∀ o, H a = some o → ∃ ps, o = .tbl ps
theorem Fr0.ne {H : Hp} {a b : Addr} {o : HO} (f : Fr0 H a) (h : H b = some o) (n : ∀ ps, o ≠ .tbl ps) : b ≠ a := fun z => by
  subst z
  obtain ⟨ps, e⟩ := f o h
  exact n ps e
theorem Fr0.of_none {H : Hp} {a : Addr} (h : H a = none) : Fr0 H a := fun o e => by rw [h] at e; cases e
theorem Ext.free {K : PySem.W.Frag} {ρ : Option Addr} {H H' : Hp} {p : Addr} (e : Ext ρ H H') (r : RowIs K ρ H') (h : H' p = none) : Fr0 H p := fun o q => Classical.byContradiction fun n => by
  have := e p o q (fun ps z => n ⟨ps, z⟩) (fun z => by
    obtain ⟨_, _, _, _, _, _, w, _⟩ := r p z
    rw [h] at w; cases w)
  rw [h] at this; cases this

/-! ### the slots -/
def SlOk (H : Hp) (ρ : Option Addr) (v : Option (Option V)) : Sl → Prop
  | .no => True
  | .val d => ∃ x, v = some (some x) ∧ Rp H x d
  | .ls ds => ∃ a vs, v = some (some (.ref a)) ∧ H a = some (.lst vs) ∧ RpAll H vs ds ∧ ρ ≠ some a
  | .dt kvs => ∃ a kv, v = some (some (.ref a)) ∧ H a = some (.dT kv) ∧ kv.map Prod.fst = kvs.map Prod.fst ∧ RpAll H (kv.map Prod.snd) (kvs.map Prod.snd)
  | .dk kvs => ∃ a kv, v = some (some (.ref a)) ∧ H a = some (.dK kv) ∧ kv.map Prod.fst = kvs.map Prod.fst ∧ RpAll H (kv.map Prod.snd) (kvs.map Prod.snd)
  | .fs rs => ∃ a vs, v = some (some (.ref a)) ∧ H a = some (.lst vs) ∧ FnVs H vs rs ∧ ρ ≠ some a
  | .fn r => ∃ x, v = some (some x) ∧ FnV H x r
  | .adr a => v = some (some (.ref a))
  | .xs ad dx fld d => v = some (some (.ref ad)) ∧ ∃ y, H dx = some (.xd [(fld, y)]) ∧ Rp H y d
  | .row => ∃ a, v = some (some (.ref a)) ∧ ρ = some a
/-- the error's own dict -/
def FldOk (H0 H' : Hp) (d : Option Addr) : Option (Str × PyData) → Prop
  | none => d = none
  | some (x, pd) => ∃ a v, d = some a ∧ H' a = some (.xd [(x, v)]) ∧ Rp H' v pd ∧ Fr0 H0 a
structure DInv (G : Gb) (H0 : Hp) (ρ0 ρ : Option Addr) (σ : L2.St) (H : Hp) (E : Ed) : Prop where
  g : GOk G H
  ext : Ext ρ0 H0 H
  row : RowIs G.K ρ H
  rho : ρ = ρ0 ∨ (ρ0 = none ∧ ∃ b, ρ = some b ∧ Fr0 H0 b)
  len : E.length = σ.length
  slot : ∀ (i : Nat) (sl : Sl), E[i]? = some sl → SlOk H ρ σ[i]? sl
  fresh : ∀ (i : Nat) (sl : Sl) (a : Addr), E[i]? = some sl → sl.own = true → σ[i]? = some (some (.ref a)) → Fr0 H0 a
  dist : ∀ (i j : Nat) (sl sl' : Sl) (a : Addr), E[i]? = some sl → sl.own = true → E[j]? = some sl' → sl'.own = true → σ[i]? = some (some (.ref a)) → σ[j]? = some (some (.ref a)) → i = j
  xc : ∀ e : ExD, G.Px e → ∀ (σ' : L2.St) (H' : Hp) (d : Option Addr), Ext ρ0 H0 H' → GOk G H' → RowIs G.K ρ0 H' → FldOk H0 H' d e.fld → G.W (G.cls e.name) d σ' H'
theorem SlOk.ext {K : PySem.W.Frag} {ρ : Option Addr} {H H' : Hp} {v : Option (Option V)} (e : Ext ρ H H') (r : RowIs K ρ H) : ∀ {sl : Sl}, SlOk H ρ v sl → SlOk H' ρ v sl
  | .no, _ => True.intro
  | .val d, ⟨x, h1, h2⟩ => ⟨x, h1, h2.ext e.toS⟩
  | .ls ds, ⟨a, vs, h1, h2, h3, h4⟩ => ⟨a, vs, h1, e _ _ h2 (fun ps z => by cases z) (fun z => absurd z h4), h3.ext e.toS, h4⟩
  | .dt kvs, ⟨a, kv, h1, h2, h3, h4⟩ => ⟨a, kv, h1, e _ _ h2 (fun ps z => by cases z) (fun z => by
      obtain ⟨_, _, _, _, _, _, q, _⟩ := r a z
      rw [h2] at q; cases q), h3, h4.ext e.toS⟩
  | .dk kvs, ⟨a, kv, h1, h2, h3, h4⟩ => ⟨a, kv, h1, e _ _ h2 (fun ps z => by cases z) (fun z => by
      obtain ⟨_, _, _, _, _, _, q, _⟩ := r a z
      rw [h2] at q; cases q), h3, h4.ext e.toS⟩
  | .fs rs, ⟨a, vs, h1, h2, h3, h4⟩ => ⟨a, vs, h1, e _ _ h2 (fun ps z => by cases z) (fun z => absurd z h4), h3.ext e.toS, h4⟩
  | .fn r, ⟨x, h1, h2⟩ => ⟨x, h1, h2.ext e.toS⟩
  | .adr a, h => h
  | .xs _ _ _ _, ⟨h1, y, h2, h3⟩ => ⟨h1, y, e.toS _ _ h2 True.intro, h3.ext e.toS⟩
  | .row, h => h
section
variable {G : Gb} {H0 H H' : Hp} {ρ0 ρ : Option Addr} {σ : L2.St} {E : Ed}
theorem DInv.entry (I : DInv G H0 ρ0 ρ σ H E) (e : Ext ρ H H') : Ext ρ0 H0 H' := fun b o hb n r => by
  have h1 := I.ext b o hb n r
  refine e b o h1 n fun z => ?_
  rcases I.rho with q | ⟨q1, b', q2, q3⟩
  · exact r (q ▸ z)
  · rw [q2] at z
    cases z
    exact absurd rfl (q3.ne hb n)
theorem DInv.to (I : DInv G H0 ρ0 ρ σ H E) (e : Ext ρ H H') (g : GOk G H') (r : RowIs G.K ρ H') : DInv G H0 ρ0 ρ σ H' E :=
  ⟨g, I.entry e, r, I.rho, I.len, fun i sl h => (I.slot i sl h).ext e I.row, I.fresh, I.dist, I.xc⟩
/-- a new thing is laid -/
theorem DInv.new {p : Addr} {o : HO} (I : DInv G H0 ρ0 ρ σ H E) (h : H p = none) : DInv G H0 ρ0 ρ σ (upd H p o) E :=
  I.to ((Ext.refl ρ H).upd h) (I.g.upd (o' := .tup []) (.inl h)) (I.row.new h)
theorem DInv.row0 (I : DInv G H0 ρ0 ρ σ H E) : RowIs G.K ρ0 H := fun b e => by
  rcases I.rho with q | ⟨q1, _⟩
  · exact I.row b (q ▸ e)
  · rw [q1] at e; cases e
/-- an owned thing's object changes -/
theorem DInv.ls_put {i : Nat} {a : Addr} {o : HO} {sl sl' : Sl} (I : DInv G H0 ρ0 ρ σ H E) (hi : E[i]? = some sl) (ho : sl.own = true) (hσ : σ[i]? = some (some (.ref a))) (hn : sl'.own = true)
    (ns : ∀ x, H a = some x → ¬ Stab x ∧ (∀ ps, x ≠ .tbl ps) ∧ ∀ φ, x ≠ .ext φ) (hr : ρ ≠ some a) (new : SlOk (upd H a o) ρ σ[i]? sl') : DInv G H0 ρ0 ρ σ (upd H a o) (E.set i sl') := by
  have eS : ExtS H (upd H a o) := fun b x hb s => by
    rw [upd_ne (fun z => (ns x (by rw [← z]; exact hb)).1 s)]; exact hb
  have hl : i < E.length := (List.getElem?_eq_some_iff.mp hi).1
  refine ⟨?_, fun b x hb n r => ?_, I.row.upd hr fun x e => (ns x e).1, I.rho, by rw [List.length_set]; exact I.len, fun j s h => ?_, fun j s b h h2 h3 => ?_, fun j k s s' b h h2 h3 h4 h5 h6 => ?_, I.xc⟩
  · cases hx : H a with
    | none => exact I.g.upd (o' := .tup []) (.inl hx)
    | some x => exact I.g.upd (.inr ⟨hx, (ns x hx).2⟩)
  · rw [upd_ne ((I.fresh i sl a hi ho hσ).ne hb n)]
    exact I.ext b x hb n r
  · by_cases hj : j = i
    · subst hj
      rw [List.getElem?_set_self hl] at h
      cases h
      exact new
    · rw [List.getElem?_set_ne (Ne.symm hj)] at h
      have q := I.slot j s h
      cases s with
      | no => exact True.intro
      | val d => obtain ⟨x, q1, q2⟩ := q; exact ⟨x, q1, q2.ext eS⟩
      | row => exact q
      | fn r => obtain ⟨x, q1, q2⟩ := q; exact ⟨x, q1, q2.ext eS⟩
      | adr a => exact q
      | xs ad dx fld d => obtain ⟨q1, y, q2, q3⟩ := q; exact ⟨q1, y, eS _ _ q2 True.intro, q3.ext eS⟩
      | fs rs =>
        obtain ⟨b, us, q1, q2, q3, q4⟩ := q
        refine ⟨b, us, q1, ?_, q3.ext eS, q4⟩
        rw [upd_ne (fun z => hj (I.dist j i _ _ a h rfl hi ho (by rw [q1, z]) hσ))]; exact q2
      | ls es =>
        obtain ⟨b, us, q1, q2, q3, q4⟩ := q
        refine ⟨b, us, q1, ?_, q3.ext eS, q4⟩
        rw [upd_ne (fun z => hj (I.dist j i _ _ a h rfl hi ho (by rw [q1, z]) hσ))]; exact q2
      | dt es =>
        obtain ⟨b, us, q1, q2, q3, q4⟩ := q
        refine ⟨b, us, q1, ?_, q3, q4.ext eS⟩
        rw [upd_ne (fun z => hj (I.dist j i _ _ a h rfl hi ho (by rw [q1, z]) hσ))]; exact q2
      | dk es =>
        obtain ⟨b, us, q1, q2, q3, q4⟩ := q
        refine ⟨b, us, q1, ?_, q3, q4.ext eS⟩
        rw [upd_ne (fun z => hj (I.dist j i _ _ a h rfl hi ho (by rw [q1, z]) hσ))]; exact q2
  · by_cases hj : j = i
    · subst hj
      exact I.fresh j sl b hi ho h3
    · rw [List.getElem?_set_ne (Ne.symm hj)] at h
      exact I.fresh j s b h h2 h3
  · have at_ : ∀ (j : Nat) (s : Sl), (E.set i sl')[j]? = some s → s.own = true → ∃ s2, E[j]? = some s2 ∧ s2.own = true := fun j s h h2 => by
      by_cases hj : j = i
      · subst hj; exact ⟨sl, hi, ho⟩
      · rw [List.getElem?_set_ne (Ne.symm hj)] at h; exact ⟨s, h, h2⟩
    obtain ⟨s1, a1, a2⟩ := at_ j s h h2
    obtain ⟨s2, b1, b2⟩ := at_ k s' h3 h4
    exact I.dist j k s1 s2 b a1 a2 b1 b2 h5 h6
/-- a slot is set to a value that is not owned -/
theorem DInv.set {i : Nat} {x : V} {sl : Sl} (I : DInv G H0 ρ0 ρ σ H E) (no : sl.own = false) (h : SlOk H ρ (some (some x)) sl) : DInv G H0 ρ0 ρ (σ.set i (some x)) H (E.set i sl) := by
  have at_ : ∀ (j : Nat) (s : Sl), (E.set i sl)[j]? = some s → s.own = true → j ≠ i ∧ E[j]? = some s ∧ (σ.set i (some x))[j]? = σ[j]? := fun j s h h2 => by
    by_cases hj : j = i
    · subst hj
      have hl : j < E.length := by
        have := (List.getElem?_eq_some_iff.mp h).1
        rwa [List.length_set] at this
      rw [List.getElem?_set_self hl] at h
      cases h
      rw [no] at h2; cases h2
    · rw [List.getElem?_set_ne (Ne.symm hj)] at h ⊢
      exact ⟨hj, h, rfl⟩
  refine ⟨I.g, I.ext, I.row, I.rho, by rw [List.length_set, List.length_set]; exact I.len, fun j s hj => ?_, fun j s b h1 h2 h3 => ?_, fun j k s s' b h1 h2 h3 h4 h5 h6 => ?_, I.xc⟩
  · by_cases e : j = i
    · subst e
      have hl : j < E.length := by
        have := (List.getElem?_eq_some_iff.mp hj).1
        rwa [List.length_set] at this
      rw [List.getElem?_set_self hl] at hj
      cases hj
      rw [List.getElem?_set_self (by rw [← I.len]; exact hl)]
      exact h
    · rw [List.getElem?_set_ne (Ne.symm e)] at hj ⊢
      exact I.slot j s hj
  · obtain ⟨q1, q2, q3⟩ := at_ j s h1 h2
    rw [q3] at h3
    exact I.fresh j s b q2 h2 h3
  · obtain ⟨q1, q2, q3⟩ := at_ j s h1 h2
    obtain ⟨r1, r2, r3⟩ := at_ k s' h3 h4
    rw [q3] at h5
    rw [r3] at h6
    exact I.dist j k s s' b q2 h2 r2 h4 h5 h6
/-- a slot is set to a thing of one's own -/
theorem DInv.setOwn {i : Nat} {a : Addr} {sl : Sl} (I : DInv G H0 ρ0 ρ σ H E) (ho : sl.own = true) (h : SlOk H ρ (some (some (.ref a))) sl) (hf : Fr0 H0 a) (hd : ∀ (j : Nat) (s : Sl), E[j]? = some s → s.own = true → σ[j]? ≠ some (some (.ref a))) :
    DInv G H0 ρ0 ρ (σ.set i (some (.ref a))) H (E.set i sl) := by
  have at_ : ∀ (j : Nat) (s : Sl), (E.set i sl)[j]? = some s → s.own = true → (j = i ∧ (σ.set i (some (.ref a)))[j]? = some (some (.ref a))) ∨ (j ≠ i ∧ E[j]? = some s ∧ (σ.set i (some (.ref a)))[j]? = σ[j]?) := fun j s h h2 => by
    by_cases hj : j = i
    · subst hj
      have hl : j < E.length := by
        have := (List.getElem?_eq_some_iff.mp h).1
        rwa [List.length_set] at this
      exact .inl ⟨rfl, List.getElem?_set_self (by rw [← I.len]; exact hl)⟩
    · rw [List.getElem?_set_ne (Ne.symm hj)] at h ⊢
      exact .inr ⟨hj, h, rfl⟩
  refine ⟨I.g, I.ext, I.row, I.rho, by rw [List.length_set, List.length_set]; exact I.len, fun j s hj => ?_, fun j s b h1 h2 h3 => ?_, fun j k s s' b h1 h2 h3 h4 h5 h6 => ?_, I.xc⟩
  · by_cases e : j = i
    · subst e
      have hl : j < E.length := by
        have := (List.getElem?_eq_some_iff.mp hj).1
        rwa [List.length_set] at this
      rw [List.getElem?_set_self hl] at hj
      cases hj
      rw [List.getElem?_set_self (by rw [← I.len]; exact hl)]
      exact h
    · rw [List.getElem?_set_ne (Ne.symm e)] at hj ⊢
      exact I.slot j s hj
  · rcases at_ j s h1 h2 with ⟨q1, q2⟩ | ⟨q1, q2, q3⟩
    · rw [q2] at h3; cases h3; exact hf
    · rw [q3] at h3
      exact I.fresh j s b q2 h2 h3
  · rcases at_ j s h1 h2 with ⟨q1, q2⟩ | ⟨q1, q2, q3⟩
    · rcases at_ k s' h3 h4 with ⟨r1, r2⟩ | ⟨r1, r2, r3⟩
      · rw [q1, r1]
      · rw [q2] at h5; cases h5
        rw [r3] at h6
        exact absurd h6 (hd k s' r2 h4)
    · rcases at_ k s' h3 h4 with ⟨r1, r2⟩ | ⟨r1, r2, r3⟩
      · rw [r2] at h6; cases h6
        rw [q3] at h5
        exact absurd h5 (hd j s q2 h2)
      · rw [q3] at h5
        rw [r3] at h6
        exact I.dist j k s s' b q2 h2 r2 h4 h5 h6
/-- an owned thing is locked for ever: from now on it is a value -/
theorem DInv.freeze {i : Nat} {a : Addr} {sl : Sl} {od : Obj} {u : HO} {d : PyData} (I : DInv G H0 ρ0 ρ σ H E) (hi : E[i]? = some sl) (ho : sl.own = true) (hσ : σ[i]? = some (some (.ref a))) (hu : H a = some u) (ns : ¬ Stab u ∧ (∀ ps, u ≠ .tbl ps) ∧ ∀ φ, u ≠ .ext φ) (hr : ρ ≠ some a)
    (new : Rp (upd H a (.frz od u)) (.ref a) d) : DInv G H0 ρ0 ρ σ (upd H a (.frz od u)) (E.set i (.val d)) := by
  have eS : ExtS H (upd H a (.frz od u)) := fun b x hb s => by
    rw [upd_ne (fun z => ns.1 (by rw [z, hu] at hb; cases hb; exact s))]; exact hb
  have hl : i < E.length := (List.getElem?_eq_some_iff.mp hi).1
  refine ⟨I.g.upd (.inr ⟨hu, ns.2⟩), fun b x hb n r => ?_, I.row.upd hr fun x e => (by rw [hu] at e; cases e; exact ns.1), I.rho, by rw [List.length_set]; exact I.len, fun j s h => ?_, fun j s b h h2 h3 => ?_, fun j k s s' b h h2 h3 h4 h5 h6 => ?_, I.xc⟩
  · rw [upd_ne ((I.fresh i sl a hi ho hσ).ne hb n)]
    exact I.ext b x hb n r
  · by_cases hj : j = i
    · subst hj
      rw [List.getElem?_set_self hl] at h
      cases h
      exact ⟨_, hσ, new⟩
    · rw [List.getElem?_set_ne (Ne.symm hj)] at h
      have q := I.slot j s h
      cases s with
      | no => exact True.intro
      | val d => obtain ⟨x, q1, q2⟩ := q; exact ⟨x, q1, q2.ext eS⟩
      | row => exact q
      | fn r => obtain ⟨x, q1, q2⟩ := q; exact ⟨x, q1, q2.ext eS⟩
      | adr a => exact q
      | xs ad dx fld d => obtain ⟨q1, y, q2, q3⟩ := q; exact ⟨q1, y, eS _ _ q2 True.intro, q3.ext eS⟩
      | fs rs =>
        obtain ⟨b, us, q1, q2, q3, q4⟩ := q
        refine ⟨b, us, q1, ?_, q3.ext eS, q4⟩
        rw [upd_ne (fun z => hj (I.dist j i _ _ a h rfl hi ho (by rw [q1, z]) hσ))]; exact q2
      | ls es =>
        obtain ⟨b, us, q1, q2, q3, q4⟩ := q
        refine ⟨b, us, q1, ?_, q3.ext eS, q4⟩
        rw [upd_ne (fun z => hj (I.dist j i _ _ a h rfl hi ho (by rw [q1, z]) hσ))]; exact q2
      | dt es =>
        obtain ⟨b, us, q1, q2, q3, q4⟩ := q
        refine ⟨b, us, q1, ?_, q3, q4.ext eS⟩
        rw [upd_ne (fun z => hj (I.dist j i _ _ a h rfl hi ho (by rw [q1, z]) hσ))]; exact q2
      | dk es =>
        obtain ⟨b, us, q1, q2, q3, q4⟩ := q
        refine ⟨b, us, q1, ?_, q3, q4.ext eS⟩
        rw [upd_ne (fun z => hj (I.dist j i _ _ a h rfl hi ho (by rw [q1, z]) hσ))]; exact q2
  · by_cases hj : j = i
    · subst hj
      rw [List.getElem?_set_self hl] at h
      cases h; cases h2
    · rw [List.getElem?_set_ne (Ne.symm hj)] at h
      exact I.fresh j s b h h2 h3
  · by_cases hj : j = i
    · subst hj
      rw [List.getElem?_set_self hl] at h
      cases h; cases h2
    · by_cases hk : k = i
      · subst hk
        rw [List.getElem?_set_self hl] at h3
        cases h3; cases h4
      · rw [List.getElem?_set_ne (Ne.symm hj)] at h
        rw [List.getElem?_set_ne (Ne.symm hk)] at h3
        exact I.dist j k s s' b h h2 h3 h4 h5 h6
/-- a comprehension's own names are forgotten -/
def wipeE (E : Ed) : List Nat → Ed
  | [] => E
  | v :: vs => (wipeE E vs).set v .no
theorem DInv.forget {i : Nat} (I : DInv G H0 ρ0 ρ σ H E) : DInv G H0 ρ0 ρ (σ.set i none) H (E.set i .no) := by
  have at_ : ∀ (j : Nat) (s : Sl), (E.set i .no)[j]? = some s → s = .no ∨ (j ≠ i ∧ E[j]? = some s ∧ (σ.set i none)[j]? = σ[j]?) := fun j s h => by
    by_cases hj : j = i
    · subst hj
      have hl : j < E.length := by
        have := (List.getElem?_eq_some_iff.mp h).1
        rwa [List.length_set] at this
      rw [List.getElem?_set_self hl] at h
      cases h
      exact .inl rfl
    · rw [List.getElem?_set_ne (Ne.symm hj)] at h ⊢
      exact .inr ⟨hj, h, rfl⟩
  refine ⟨I.g, I.ext, I.row, I.rho, by rw [List.length_set, List.length_set]; exact I.len, fun j s h => ?_, fun j s b h1 h2 h3 => ?_, fun j k s s' b h1 h2 h3 h4 h5 h6 => ?_, I.xc⟩
  · rcases at_ j s h with rfl | ⟨q1, q2, q3⟩
    · exact True.intro
    · rw [q3]; exact I.slot j s q2
  · rcases at_ j s h1 with rfl | ⟨q1, q2, q3⟩
    · cases h2
    · rw [q3] at h3; exact I.fresh j s b q2 h2 h3
  · rcases at_ j s h1 with rfl | ⟨q1, q2, q3⟩
    · cases h2
    · rcases at_ k s' h3 with rfl | ⟨r1, r2, r3⟩
      · cases h4
      · rw [q3] at h5; rw [r3] at h6
        exact I.dist j k s s' b q2 h2 r2 h4 h5 h6
theorem DInv.wiped (I : DInv G H0 ρ0 ρ σ H E) : ∀ vs : List Nat, DInv G H0 ρ0 ρ (wipe σ vs) H (wipeE E vs)
  | [] => I
  | v :: vs => (DInv.wiped I vs).forget
end
end DL
set_option Elab.async false
set_option linter.all false
set_option maxRecDepth 100000
set_option maxHeartbeats 2000000
namespace DL
open PySem PySem.Spec PyProof.Rows L2

theorem RpAll.length {H : Hp} {vs : List V} {ds : List PyData} : RpAll H vs ds → vs.length = ds.length
  | .nil => rfl
  | .cons _ t => congrArg (· + 1) t.length
theorem RpAll.append {H : Hp} {vs us : List V} {ds es : List PyData} : RpAll H vs ds → RpAll H us es → RpAll H (vs ++ us) (ds ++ es)
  | .nil, h => h
  | .cons r t, h => .cons r (t.append h)
theorem RpAll.get {H : Hp} {vs : List V} {ds : List PyData} {i : Nat} {d : PyData} (h : RpAll H vs ds) (e : ds[i]? = some d) : ∃ v, vs[i]? = some v ∧ Rp H v d := by
  induction i generalizing vs ds with
  | zero =>
    cases h with
    | nil => simp at e
    | cons r t => cases (show some _ = some d from e); exact ⟨_, rfl, r⟩
  | succ i ih =>
    cases h with
    | nil => simp at e
    | cons r t => exact ih t (by simpa using e)
theorem RpAll.get' {H : Hp} {vs : List V} {ds : List PyData} {i : Nat} {v : V} (h : RpAll H vs ds) (e : vs[i]? = some v) : ∃ d, ds[i]? = some d ∧ Rp H v d := by
  have hl := h.length
  have hi : i < ds.length := by rw [← hl]; exact (List.getElem?_eq_some_iff.mp e).1
  obtain ⟨w, e2, r⟩ := h.get (List.getElem?_eq_getElem hi)
  rw [e] at e2; cases e2
  exact ⟨_, List.getElem?_eq_getElem hi, r⟩
theorem RpAll.drop {H : Hp} {vs : List V} {ds : List PyData} (n : Nat) (h : RpAll H vs ds) : RpAll H (vs.drop n) (ds.drop n) := by
  induction n generalizing vs ds with
  | zero => exact h
  | succ n ih =>
    cases h with
    | nil => exact .nil
    | cons r t => exact ih t
theorem RpAll.take {H : Hp} {vs : List V} {ds : List PyData} (n : Nat) (h : RpAll H vs ds) : RpAll H (vs.take n) (ds.take n) := by
  induction n generalizing vs ds with
  | zero => exact .nil
  | succ n ih =>
    cases h with
    | nil => exact .nil
    | cons r t => exact .cons r (ih t)
mutual
def noDict : PyData → Bool
  | .list xs => noDicts xs
  | .tuple xs => noDicts xs
  | .dict _ => false
  | _ => true
def noDicts : List PyData → Bool
  | [] => true
  | x :: xs => noDict x && noDicts xs
end
mutual
theorem Rp.dp {K : PySem.W.Frag} {H : Hp} {d : PyData} {v : V} : Rp H v d → noDict d = true → Dp K H v d
  | .non, _ => .non
  | .bl _, _ => .bl _
  | .int _, _ => .int _
  | .str _, _ => .str _
  | .lst h1 h2, n => .lst (.inl (.inr ⟨_, h1⟩)) (RpAll.dp h2 n)
  | .tup h1 h2, n => .tup (.inl (.inl h1)) (RpAll.dp h2 n)
  | .dct _ _, n => by simp [noDict] at n
theorem RpAll.dp {K : PySem.W.Frag} {H : Hp} {ds : List PyData} {vs : List V} : RpAll H vs ds → noDicts ds = true → DpAll K H vs ds
  | .nil, _ => .nil
  | .cons h1 h2, n => .cons (Rp.dp h1 (Bool.and_eq_true_iff.mp n).1) (RpAll.dp h2 (Bool.and_eq_true_iff.mp n).2)
end
/-- == can be asked -/
def eqOk (d : PyData) : Prop := noDict d = true ∧ SeqAt.shaped d = true

/-! ### readings of expressions -/
abbrev Fe := Ed → Dm PyData
def tE (G : Gb) (f : Fe) : TE := fun σ H Q => ∃ H0 ρ0 ρ E P, DInv G H0 ρ0 ρ σ H E ∧ f E P ∧ ∀ d, P d → ∀ v H', Ext ρ H H' → GOk G H' → RowIs G.K ρ H' → Rp H' v d → Q v H'
def tT (G : Gb) (f : Ed → Dm Bool) : TT := fun σ H Q => ∃ H0 ρ0 ρ E P, DInv G H0 ρ0 ρ σ H E ∧ f E P ∧ ∀ b, P b → ∀ H', Ext ρ H H' → GOk G H' → RowIs G.K ρ H' → Q b H'
/-- a list that was just made -/
def tN (G : Gb) (f : Ed → Dm (List PyData)) : TE := fun σ H Q => ∃ H0 ρ0 ρ E P, DInv G H0 ρ0 ρ σ H E ∧ f E P ∧ ∀ ds, P ds → ∀ p vs H', Ext ρ H H' → GOk G H' → RowIs G.K ρ H' → Fr0 H p → H' p = some (.lst vs) → RpAll H' vs ds → Q (.ref p) H'
/-- a list that can be read -/
def tL (G : Gb) (f : Ed → Dm (List PyData)) : TE := fun σ H Q => ∃ H0 ρ0 ρ E P, DInv G H0 ρ0 ρ σ H E ∧ f E P ∧ ∀ ds, P ds → ∀ p vs H', Ext ρ H H' → GOk G H' → RowIs G.K ρ H' → Rd H' p (.lst vs) → ρ ≠ some p → RpAll H' vs ds → Q (.ref p) H'
/-- arguments, data all -/
def tV (G : Gb) (f : Ed → Dm (List PyData)) : TA := fun σ H Q => ∃ H0 ρ0 ρ E P, DInv G H0 ρ0 ρ σ H E ∧ f E P ∧ ∀ ds, P ds → ∀ vs H', Ext ρ H H' → GOk G H' → RowIs G.K ρ H' → RpAll H' vs ds → Q vs H'
inductive ArgsOk (H : Hp) (ρ : Option Addr) : List V → List Sl → Prop where
  | nil : ArgsOk H ρ [] []
  | val {v : V} {d : PyData} {vs : List V} {as : List Sl} : Rp H v d → ArgsOk H ρ vs as → ArgsOk H ρ (v :: vs) (.val d :: as)
  | row {a : Addr} {vs : List V} {as : List Sl} : ρ = some a → ArgsOk H ρ vs as → ArgsOk H ρ (.ref a :: vs) (.row :: as)
  | adr {a : Addr} {vs : List V} {as : List Sl} : ArgsOk H ρ vs as → ArgsOk H ρ (.ref a :: vs) (.adr a :: as)
theorem ArgsOk.ext {H H' : Hp} {ρ : Option Addr} {vs : List V} {as : List Sl} (e : ExtS H H') : ArgsOk H ρ vs as → ArgsOk H' ρ vs as
  | .nil => .nil
  | .val h t => .val (h.ext e) (t.ext e)
  | .row h t => .row h (t.ext e)
  | .adr t => .adr (t.ext e)
/-- arguments, the row among them -/
def tA (G : Gb) (f : Ed → Dm (List Sl)) : TA := fun σ H Q => ∃ H0 ρ0 ρ E P, DInv G H0 ρ0 ρ σ H E ∧ f E P ∧ ∀ as, P as → ∀ vs H', Ext ρ H H' → GOk G H' → RowIs G.K ρ H' → ArgsOk H' ρ vs as → Q vs H'
section
variable {X : Cx} {G : Gb}
theorem PE.weak {e : Expr} {t u : TE} (h : PE X e t) (w : ∀ σ H Q, u σ H Q → t σ H Q) : PE X e u := ⟨fun pins s σ H Q I q => h.run pins s σ H Q I (w σ H Q q)⟩
theorem PT.weak {e : Expr} {t u : TT} (h : PT X e t) (w : ∀ σ H Q, u σ H Q → t σ H Q) : PT X e u := ⟨fun pins s σ H Q I q => h.run pins s σ H Q I (w σ H Q q)⟩
theorem PA.weak {es : List Expr} {t u : TA} (h : PA X es t) (w : ∀ σ H Q, u σ H Q → t σ H Q) : PA X es u := ⟨fun pos pins s σ H Q I q => h.run pos pins s σ H Q I (w σ H Q q)⟩
abbrev DE (G : Gb) (X : Cx) (e : Expr) (f : Fe) : Prop := PE X e (tE G f)
abbrev DT (G : Gb) (X : Cx) (e : Expr) (f : Ed → Dm Bool) : Prop := PT X e (tT G f)
abbrev DN (G : Gb) (X : Cx) (e : Expr) (f : Ed → Dm (List PyData)) : Prop := PE X e (tN G f)
abbrev DLs (G : Gb) (X : Cx) (e : Expr) (f : Ed → Dm (List PyData)) : Prop := PE X e (tL G f)
abbrev DV (G : Gb) (X : Cx) (es : List Expr) (f : Ed → Dm (List PyData)) : Prop := PA X es (tV G f)
abbrev DA (G : Gb) (X : Cx) (es : List Expr) (f : Ed → Dm (List Sl)) : Prop := PA X es (tA G f)
variable {H0 H : Hp} {ρ0 ρ : Option Addr} {σ : L2.St} {E : Ed}
theorem tE.use {f : Fe} {P : PyData → Prop} {Q : VK} (I : DInv G H0 ρ0 ρ σ H E) (h : f E P) (k : ∀ d, P d → ∀ v H', Ext ρ H H' → DInv G H0 ρ0 ρ σ H' E → Rp H' v d → Q v H') : tE G f σ H Q :=
  ⟨_, _, _, _, _, I, h, fun d hd v H' e g r hr => k d hd v H' e (I.to e g r) hr⟩
theorem tT.use {f : Ed → Dm Bool} {P : Bool → Prop} {Q : Bool → Hp → Prop} (I : DInv G H0 ρ0 ρ σ H E) (h : f E P) (k : ∀ b, P b → ∀ H', Ext ρ H H' → DInv G H0 ρ0 ρ σ H' E → Q b H') : tT G f σ H Q :=
  ⟨_, _, _, _, _, I, h, fun d hd H' e g r => k d hd H' e (I.to e g r)⟩
theorem tN.use {f : Ed → Dm (List PyData)} {P : List PyData → Prop} {Q : VK} (I : DInv G H0 ρ0 ρ σ H E) (h : f E P) (k : ∀ ds, P ds → ∀ p vs H', Ext ρ H H' → DInv G H0 ρ0 ρ σ H' E → Fr0 H p → H' p = some (.lst vs) → RpAll H' vs ds → Q (.ref p) H') : tN G f σ H Q :=
  ⟨_, _, _, _, _, I, h, fun ds hd p vs H' e g r => k ds hd p vs H' e (I.to e g r)⟩
theorem tL.use {f : Ed → Dm (List PyData)} {P : List PyData → Prop} {Q : VK} (I : DInv G H0 ρ0 ρ σ H E) (h : f E P) (k : ∀ ds, P ds → ∀ p vs H', Ext ρ H H' → DInv G H0 ρ0 ρ σ H' E → Rd H' p (.lst vs) → ρ ≠ some p → RpAll H' vs ds → Q (.ref p) H') : tL G f σ H Q :=
  ⟨_, _, _, _, _, I, h, fun ds hd p vs H' e g r => k ds hd p vs H' e (I.to e g r)⟩
theorem tV.use {f : Ed → Dm (List PyData)} {P : List PyData → Prop} {Q : List V → Hp → Prop} (I : DInv G H0 ρ0 ρ σ H E) (h : f E P) (k : ∀ ds, P ds → ∀ vs H', Ext ρ H H' → DInv G H0 ρ0 ρ σ H' E → RpAll H' vs ds → Q vs H') : tV G f σ H Q :=
  ⟨_, _, _, _, _, I, h, fun ds hd vs H' e g r => k ds hd vs H' e (I.to e g r)⟩
theorem tA.use {f : Ed → Dm (List Sl)} {P : List Sl → Prop} {Q : List V → Hp → Prop} (I : DInv G H0 ρ0 ρ σ H E) (h : f E P) (k : ∀ as, P as → ∀ vs H', Ext ρ H H' → DInv G H0 ρ0 ρ σ H' E → ArgsOk H' ρ vs as → Q vs H') : tA G f σ H Q :=
  ⟨_, _, _, _, _, I, h, fun ds hd vs H' e g r => k ds hd vs H' e (I.to e g r)⟩

/-! ### names, constants -/
def eVar (i : Nat) : Fe := fun E Q => match E[i]? with
  | some (.val d) => Q d
  | _ => False
theorem d_var (i : Nat) {x : Str} {pos : Pos} (hN : X.N[i]? = some x := by rfl) (hv : Vis X.env.scope x := by first | exact Or.inl rfl | exact Or.inr (Or.inl rfl) | exact Or.inr (Or.inr rfl)) (hd : (x == ("__debug__" : Str)) = false := by decide)
    (hcd : (x == ("__classdict__" : Str)) = false := by decide) : DE G X (.Name x pos) (eVar i) :=
  PE.weak (pe_var hN hv hd hcd) fun σ H Q ⟨H0, ρ0, ρ, E, P, I, h, k⟩ => by
    unfold eVar at h
    split at h
    · rename_i d e
      obtain ⟨v, hv, r⟩ := I.slot i _ e
      exact ⟨v, hv, k d h v H (Ext.refl _ _) I.g I.row r⟩
    · exact h.elim
def eC (d : PyData) : Fe := fun _ Q => Q d
theorem d_c {e : Expr} {v : V} {d : PyData} (h : PE X e (tC v)) (r : ∀ H, Rp H v d) : DE G X e (eC d) :=
  PE.weak h fun σ H Q ⟨H0, ρ0, ρ, E, P, I, h, k⟩ => k d h v H (Ext.refl _ _) I.g I.row (r H)
theorem d_int {i : Int} {j pos} : DE G X (.Constant (.int i) j pos) (eC (.int i)) := d_c pe_int fun _ => .int _
theorem d_bl {b : Bool} {j pos} : DE G X (.Constant (.bool b) j pos) (eC (.bool b)) := d_c pe_bl fun _ => .bl _
theorem d_non {j pos} : DE G X (.Constant .none j pos) (eC .none) := d_c pe_non fun _ => .non
theorem d_str {x : Str} {j pos} : DE G X (.Constant (.str x) j pos) (eC (.str x)) := d_c pe_str fun _ => .str _
theorem d_gint {x : Str} {i : Int} {t : Tok} {pos : Pos} (hg : Gl X x) (hm : X.mg x = some (.int i t)) (hd : (x == ("__debug__" : Str)) = false := by decide) : DE G X (.Name x pos) (eC (.int i)) := d_c (pe_glob (v := .int i) hg hm ⟨_, rfl⟩ hd) fun _ => .int _

/-! ### arguments -/
def vNil : Ed → Dm (List PyData) := fun _ Q => Q []
def vCons (f : Fe) (g : Ed → Dm (List PyData)) : Ed → Dm (List PyData) := fun E Q => f E fun d => g E fun ds => Q (d :: ds)
theorem dv_nil : DV G X [] vNil := PA.weak pa_nil fun σ H Q ⟨H0, ρ0, ρ, E, P, I, h, k⟩ => k [] h [] H (Ext.refl _ _) I.g I.row .nil
theorem dv_cons {e : Expr} {es : List Expr} {f : Fe} {g : Ed → Dm (List PyData)} (ha : DE G X e f) (hr : DV G X es g) (hs : starEach (e :: es) X.env = (false, eval e X.env) :: starEach es X.env := by rfl) : DV G X (e :: es) (vCons f g) :=
  PA.weak (pa_cons ha hr hs) fun σ H Q ⟨H0, ρ0, ρ, E, P, I, h, k⟩ => tE.use I h fun d hd v H1 e1 I1 r1 => tV.use I1 hd fun ds hds vs H2 e2 I2 r2 =>
    k _ hds _ _ (e1.trans e2) I2.g I2.row (.cons (r1.ext e2.toS) r2)
def aNil : Ed → Dm (List Sl) := fun _ Q => Q []
def aCons (f : Fe) (g : Ed → Dm (List Sl)) : Ed → Dm (List Sl) := fun E Q => f E fun d => g E fun ds => Q (.val d :: ds)
def aRow (i : Nat) (g : Ed → Dm (List Sl)) : Ed → Dm (List Sl) := fun E Q => match E[i]? with
  | some .row => g E fun ds => Q (.row :: ds)
  | _ => False
theorem da_nil : DA G X [] aNil := PA.weak pa_nil fun σ H Q ⟨H0, ρ0, ρ, E, P, I, h, k⟩ => k [] h [] H (Ext.refl _ _) I.g I.row .nil
theorem da_cons {e : Expr} {es : List Expr} {f : Fe} {g : Ed → Dm (List Sl)} (ha : DE G X e f) (hr : DA G X es g) (hs : starEach (e :: es) X.env = (false, eval e X.env) :: starEach es X.env := by rfl) : DA G X (e :: es) (aCons f g) :=
  PA.weak (pa_cons ha hr hs) fun σ H Q ⟨H0, ρ0, ρ, E, P, I, h, k⟩ => tE.use I h fun d hd v H1 e1 I1 r1 => tA.use I1 hd fun ds hds vs H2 e2 I2 r2 =>
    k _ hds _ _ (e1.trans e2) I2.g I2.row (.val (r1.ext e2.toS) r2)
theorem da_row (i : Nat) {x : Str} {pos : Pos} {es : List Expr} {g : Ed → Dm (List Sl)} (hr : DA G X es g) (hN : X.N[i]? = some x := by rfl) (hv : Vis X.env.scope x := by first | exact Or.inl rfl | exact Or.inr (Or.inl rfl) | exact Or.inr (Or.inr rfl)) (hd : (x == ("__debug__" : Str)) = false := by decide)
    (hcd : (x == ("__classdict__" : Str)) = false := by decide) (hs : starEach (.Name x pos :: es) X.env = (false, eval (.Name x pos) X.env) :: starEach es X.env := by rfl) : DA G X (.Name x pos :: es) (aRow i g) :=
  PA.weak (pa_cons (pe_var hN hv hd hcd) hr hs) fun σ H Q ⟨H0, ρ0, ρ, E, P, I, h, k⟩ => by
    unfold aRow at h
    split at h
    · rename_i e
      obtain ⟨a, hv, hr⟩ := I.slot i _ e
      exact ⟨.ref a, hv, tA.use I h fun ds hds vs H2 e2 I2 r2 => k _ hds _ _ e2 I2.g I2.row (.row hr r2)⟩
    · exact h.elim

/-! ### displays -/
def eTup (f : Ed → Dm (List PyData)) : Fe := fun E Q => f E fun ds => ds.length ≤ sizeLine ∧ Q (.tuple ds)
theorem d_tup {es : List Expr} {x1} {pos : Pos} {f : Ed → Dm (List PyData)} (h : DV G X es f) : DE G X (.Tuple es x1 pos) (eTup f) :=
  PE.weak (pe_tup h) fun σ H Q ⟨H0, ρ0, ρ, E, P, I, h, k⟩ => tV.use I h fun ds hds vs H1 e1 I1 r1 => ⟨by rw [r1.length]; exact hds.1, fun p hp =>
    k _ hds.2 _ _ (e1.trans ((Ext.refl ρ H1).upd hp)) (I1.new hp).g (I1.new hp).row (.tup upd_same (r1.ext ((Grow.upd hp).ext ρ).toS))⟩
def nLst (f : Ed → Dm (List PyData)) : Ed → Dm (List PyData) := fun E Q => f E fun ds => ds.length ≤ sizeLine ∧ Q ds
theorem dn_lst {es : List Expr} {pos : Pos} {f : Ed → Dm (List PyData)} (h : DV G X es f) : DN G X (.List es pos) (nLst f) :=
  PE.weak (pe_lst h) fun σ H Q ⟨H0, ρ0, ρ, E, P, I, h, k⟩ => tV.use I h fun ds hds vs H1 e1 I1 r1 => ⟨by rw [r1.length]; exact hds.1, fun p hp =>
    k _ hds.2 _ _ _ (e1.trans ((Ext.refl ρ H1).upd hp)) (I1.new hp).g (I1.new hp).row (e1.free I1.row hp) upd_same (r1.ext ((Grow.upd hp).ext ρ).toS)⟩
end
end DL
set_option Elab.async false
set_option linter.all false
set_option maxRecDepth 100000
set_option maxHeartbeats 2000000
namespace DL
open PySem PySem.Spec PyProof.Rows L2
section
variable {X : Cx} {G : Gb} {a b c : Expr} {f g h : Fe} {pos : Pos}

/-! ### operators: by values, by data -/
abbrev Od := PyData → PyData → Dm PyData
def OpD (G : Gb) (r : R2) (o : Od) : Prop := ∀ (H0 : Hp) (ρ0 ρ : Option Addr) (σ : L2.St) (H : Hp) (E : Ed) (x y : V) (a b : PyData) (P : PyData → Prop) (Q : VK), DInv G H0 ρ0 ρ σ H E → Rp H x a → Rp H y b → o a b P →
  (∀ d, P d → ∀ v H', Ext ρ H H' → DInv G H0 ρ0 ρ σ H' E → Rp H' v d → Q v H') → r x y H Q
def orR (r r' : R2) : R2 := fun x y H Q => r x y H Q ∨ r' x y H Q
theorem op_or {F : Value → Value → Sem Value} {r r' : R2} (h1 : OpR X F r) (h2 : OpR X F r') : OpR X F (orR r r') := fun pins s σ H x y v u Q I rx ry h =>
  h.elim (h1 pins s σ H x y v u Q I rx ry) (h2 pins s σ H x y v u Q I rx ry)
def eOp (o : Od) (f g : Fe) : Fe := fun E Q => f E fun a => g E fun b => o a b Q
theorem tOp_of {r : R2} {o : Od} (hr : OpD G r o) : ∀ σ H Q, tE G (eOp o f g) σ H Q → tOp r (tE G f) (tE G g) σ H Q := fun σ H Q ⟨H0, ρ0, ρ, E, P, I, h, k⟩ =>
  tE.use I h fun x hx v H1 e1 I1 r1 => tE.use I1 hx fun y hy w H2 e2 I2 r2 => hr _ _ _ _ _ _ _ _ _ _ P Q I2 (r1.ext e2.toS) r2 hy fun d hd z H3 e3 I3 r3 => k d hd z H3 ((e1.trans e2).trans e3) I3.g I3.row r3
theorem d_bin {op : Operator} {r : R2} {o : Od} (ho : OpR X (binaryOp op) r) (hr : OpD G r o) (ha : DE G X a f) (hb : DE G X b g) : DE G X (.BinOp a op b pos) (eOp o f g) := PE.weak (pe_op ho ha hb) (tOp_of hr)
theorem d_cmp {op : CmpOp} {r : R2} {o : Od} (ho : OpR X (compareOp op) r) (hr : OpD G r o) (ha : DE G X a f) (hb : DE G X b g) (hm : behindInMarks op b = false := by first | exact nomark _ (by decide) (by decide) | rfl) : DE G X (.Compare a [op] [b] pos) (eOp o f g) := PE.weak (pe_cmpR ho ha hb hm) (tOp_of hr)
/-- a value that is a bool -/
def asB (f : Fe) : Ed → Dm Bool := fun E Q => f E fun d => ∃ b, d = .bool b ∧ Q b
theorem tTest_of {t : TE} {f : Fe} (h : ∀ σ H Q, tE G f σ H Q → t σ H Q) : ∀ σ H Q, tT G (asB f) σ H Q → tTest t σ H Q := fun σ H Q ⟨H0, ρ0, ρ, E, P, I, h1, k⟩ => h σ H _ (tE.use I h1 fun d ⟨b, e, hb⟩ v H1 e1 I1 r1 => by
    subst e
    cases r1
    exact ⟨b, rfl, k b hb H1 e1 I1.g I1.row⟩)
theorem dt_cmp {op : CmpOp} {r : R2} {o : Od} (ho : OpR X (compareOp op) r) (hr : OpD G r o) (ha : DE G X a f) (hb : DE G X b g) (hm : behindInMarks op b = false := by first | exact nomark _ (by decide) (by decide) | rfl) : DT G X (.Compare a [op] [b] pos) (asB (eOp o f g)) := PT.weak (pt_cmpR ho ha hb hm) (tTest_of (tOp_of hr))
theorem dt_val (ha : DE G X a f) (he : ∀ whole, isTrue a X.env whole = (do let v ← whole; standAt a.pos; holding [v] (truthy v)) := by intro _; rfl) : DT G X a (asB f) := PT.weak (pt_val ha he) fun σ H Q h => tTest_of (t := tE G f) (fun _ _ _ q => q) σ H Q h
/-! a < b < c -/
def eChain (o o' : Od) (f g h : Fe) : Fe := fun E Q => f E fun a => g E fun b => o a b fun d => ∃ k, d = .bool k ∧ if k = true then h E fun c => o' b c Q else Q (.bool false)
theorem tChain_of {r r' : R2} {o o' : Od} (hr : OpD G r o) (hr' : OpD G r' o') : ∀ σ H Q, tE G (eChain o o' f g h) σ H Q → tChain r r' (tE G f) (tE G g) (tE G h) σ H Q := fun σ H Q ⟨H0, ρ0, ρ, E, P, I, h, k⟩ =>
  tE.use I h fun x hx v H1 e1 I1 r1 => tE.use I1 hx fun y hy w H2 e2 I2 r2 => hr _ _ _ _ _ _ _ _ _ _ _ _ I2 (r1.ext e2.toS) r2 hy fun d hd z H3 e3 I3 r3 => by
    obtain ⟨b, e, hd⟩ := hd
    subst e
    cases r3
    refine ⟨b, rfl, ?_⟩
    cases b with
    | false =>
      rw [if_neg Bool.false_ne_true] at hd ⊢
      exact k _ hd _ _ ((e1.trans e2).trans e3) I3.g I3.row (.bl _)
    | true =>
      rw [if_pos rfl] at hd ⊢
      exact tE.use I3 hd fun c hc u H4 e4 I4 r4 => hr' _ _ _ _ _ _ _ _ _ _ P Q I4 ((r2.ext e3.toS).ext e4.toS) r4 hc fun d hd z H5 e5 I5 r5 => k d hd z H5 ((((e1.trans e2).trans e3).trans e4).trans e5) I5.g I5.row r5
theorem d_chain {op op' : CmpOp} {r r' : R2} {o o' : Od} (ho : OpR X (compareOp op) r) (hr : OpD G r o) (ho' : OpR X (compareOp op') r') (hr' : OpD G r' o') (ha : DE G X a f) (hb : DE G X b g) (hc : DE G X c h) (hm : lastMarks [op, op'] [b, c] = false := by with_unfolding_all rfl) :
    DE G X (.Compare a [op, op'] [b, c] pos) (eChain o o' f g h) := PE.weak (pe_chain ho ho' ha hb hc hm) (tChain_of hr hr')
theorem dt_chain {op op' : CmpOp} {r r' : R2} {o o' : Od} (ho : OpR X (compareOp op) r) (hr : OpD G r o) (ho' : OpR X (compareOp op') r') (hr' : OpD G r' o') (ha : DE G X a f) (hb : DE G X b g) (hc : DE G X c h) (hm : lastMarks [op, op'] [b, c] = false := by with_unfolding_all rfl) :
    DT G X (.Compare a [op, op'] [b, c] pos) (asB (eChain o o' f g h)) := PT.weak (pt_chain ho ho' ha hb hc hm) (tTest_of (tChain_of hr hr'))

/-! ### + - * // % -/
def oAdd : Od := fun a b Q => match a, b with
  | .int i, .int j => Q (.int (i + j))
  | .tuple xs, .tuple ys => xs.length + ys.length ≤ sizeLine ∧ Q (.tuple (xs ++ ys))
  | _, _ => False
theorem opD_add : OpD G (orR (rI0 fun i j => .int (i + j)) (rCatA X.K)) oAdd := by
  intro H0 ρ0 ρ σ H E x y a b P Q I ra rb h k
  unfold oAdd at h
  split at h
  · cases ra; cases rb
    exact .inl ⟨_, _, rfl, rfl, k _ h _ _ (Ext.refl _ _) I (.int _)⟩
  · obtain ⟨hz, h⟩ := h
    cases ra with
    | @tup p xs _ h1 h2 =>
      cases rb with
      | @tup q ys _ h3 h4 =>
        refine .inr ⟨p, q, xs, ys, rfl, rfl, .inl (.inl h1), .inl (.inl h3), by rw [h2.length, h4.length]; exact hz, fun e => ?_, fun _ e => ?_, fun _ _ l hl => ?_⟩
        · subst e; cases h2; exact k _ h _ _ (Ext.refl _ _) I (.tup h3 h4)
        · subst e; cases h4; rw [List.append_nil] at h; exact k _ h _ _ (Ext.refl _ _) I (.tup h1 h2)
        · have e := ((Ext.refl ρ H).upd (o := .tup (xs ++ ys)) hl).toS
          exact k _ h _ _ ((Ext.refl ρ H).upd hl) (I.new hl) (.tup upd_same ((h2.ext e).append (h4.ext e)))
  · exact h.elim
theorem d_add (ha : DE G X a f) (hb : DE G X b g) : DE G X (.BinOp a .Add b pos) (eOp oAdd f g) := d_bin (op_or op_add op_catA) opD_add ha hb
/-- two ints -/
def oInt (p : Int → Int → Prop) (v : Int → Int → PyData) : Od := fun a b Q => match a, b with
  | .int i, .int j => p i j ∧ Q (v i j)
  | _, _ => False
theorem opD_int {p : Int → Int → Prop} {w : Int → Int → V} {v : Int → Int → PyData} (hv : ∀ H i j, Rp H (w i j) (v i j)) : OpD G (rI p w) (oInt p v) := by
  intro H0 ρ0 ρ σ H E x y a b P Q I ra rb h k
  unfold oInt at h
  split at h
  · cases ra; cases rb
    exact ⟨_, _, rfl, rfl, h.1, k _ h.2 _ _ (Ext.refl _ _) I (hv _ _ _)⟩
  · exact h.elim
def oI0 (v : Int → Int → PyData) : Od := fun a b Q => match a, b with
  | .int i, .int j => Q (v i j)
  | _, _ => False
theorem opD_i0 {w : Int → Int → V} {v : Int → Int → PyData} (hv : ∀ H i j, Rp H (w i j) (v i j)) : OpD G (rI0 w) (oI0 v) := by
  intro H0 ρ0 ρ σ H E x y a b P Q I ra rb h k
  unfold oI0 at h
  split at h
  · cases ra; cases rb
    exact ⟨_, _, rfl, rfl, k _ h _ _ (Ext.refl _ _) I (hv _ _ _)⟩
  · exact h.elim
abbrev oSub : Od := oI0 fun i j => .int (i - j)
abbrev oMul : Od := oInt CMul fun i j => .int (i * j)
abbrev oMod : Od := oInt (fun _ j => 0 < j) fun i j => .int (i % j)
abbrev oDiv : Od := oInt CDiv fun i j => .int (i / j)
theorem d_sub (ha : DE G X a f) (hb : DE G X b g) : DE G X (.BinOp a .Sub b pos) (eOp oSub f g) := d_bin op_sub (opD_i0 fun _ _ _ => .int _) ha hb
theorem d_mul (ha : DE G X a f) (hb : DE G X b g) : DE G X (.BinOp a .Mult b pos) (eOp oMul f g) := d_bin op_mul (opD_int fun _ _ _ => .int _) ha hb
theorem d_mod (ha : DE G X a f) (hb : DE G X b g) : DE G X (.BinOp a .Mod b pos) (eOp oMod f g) := d_bin op_mod (opD_int fun _ _ _ => .int _) ha hb
theorem d_div (ha : DE G X a f) (hb : DE G X b g) : DE G X (.BinOp a .FloorDiv b pos) (eOp oDiv f g) := d_bin op_fdiv (opD_int fun _ _ _ => .int _) ha hb

/-! ### comparisons -/
abbrev oLt : Od := oI0 fun i j => .bool (decide (i < j))
abbrev oLe : Od := oI0 fun i j => .bool (decide (i ≤ j))
abbrev oGt : Od := oI0 fun i j => .bool (decide (j < i))
abbrev oGe : Od := oI0 fun i j => .bool (decide (j ≤ i))
theorem opD_lt : OpD G (rI0 fun i j => .bl (decide (i < j))) oLt := opD_i0 fun _ _ _ => .bl _
theorem opD_le : OpD G (rI0 fun i j => .bl (decide (i ≤ j))) oLe := opD_i0 fun _ _ _ => .bl _
theorem opD_gt : OpD G (rI0 fun i j => .bl (decide (j < i))) oGt := opD_i0 fun _ _ _ => .bl _
theorem opD_ge : OpD G (rI0 fun i j => .bl (decide (j ≤ i))) oGe := opD_i0 fun _ _ _ => .bl _
def oEq : Od := fun a b Q => eqOk a ∧ eqOk b ∧ Q (.bool (PyData.eqv a b))
def oNe : Od := fun a b Q => eqOk a ∧ eqOk b ∧ Q (.bool (!PyData.eqv a b))
theorem opD_eq : OpD G (rEqD X.K) oEq := fun H0 ρ0 ρ σ H E x y a b P Q I ra rb ⟨h1, h2, h⟩ k => ⟨a, b, ra.dp h1.1, rb.dp h2.1, h1.2, h2.2, k _ h _ _ (Ext.refl _ _) I (.bl _)⟩
theorem opD_ne : OpD G (rNeD X.K) oNe := fun H0 ρ0 ρ σ H E x y a b P Q I ra rb ⟨h1, h2, h⟩ k => ⟨a, b, ra.dp h1.1, rb.dp h2.1, h1.2, h2.2, k _ h _ _ (Ext.refl _ _) I (.bl _)⟩
/-- x in a list, in a tuple, of data -/
def itemsOf : PyData → Option (List PyData)
  | .list xs => some xs
  | .tuple xs => some xs
  | _ => none
def rInX (K : PySem.W.Frag) (neg : Bool) : R2 := fun x y H Q => ∃ d ds e, (e = PyData.list ds ∨ e = .tuple ds) ∧ Dp K H x d ∧ Dp K H y e ∧ SeqAt.shaped d = true ∧ SeqAt.shaped e = true ∧ Q (.bl (if neg then !ds.any fun z => PyData.eqv z d else ds.any fun z => PyData.eqv z d)) H
theorem room_inX {A : Around} {ds : List PyData} {d : PyData} (sd : SeqAt.shaped d = true) (hu : A.units + 65 < cLine) : A.units + 1 + min (PyData.depthAll ds) d.depth < cLine := by
  have h1 := SeqAt.depth_of_shaped sd
  have h2 : min (PyData.depthAll ds) d.depth ≤ d.depth := Nat.min_le_right _ _
  omega
theorem op_inX (hu : X.A.units + 65 < cLine) : OpR X (compareOp .In) (rInX X.K false) := by
  intro pins s σ H x y v u Q I rx ry h
  obtain ⟨d, ds, e, he, hd, hE, sd, se, q⟩ := h
  obtain ⟨as, r1⟩ := Dp.reads I d x v hd rx
  obtain ⟨bs, r2⟩ := Dp.reads I e y u hE ry
  rcases he with rfl | rfl
  · exact SeqAt.in_list_reads r2 r1 (SeqAt.canLay_of_shaped se) (SeqAt.canLay_of_shaped sd) (room_inX sd hu) ⟨.bl _, H, I, rfl, q⟩
  · exact SeqAt.in_tuple_reads r2 r1 (SeqAt.canLay_of_shaped se) (SeqAt.canLay_of_shaped sd) (room_inX sd hu) ⟨.bl _, H, I, rfl, q⟩
theorem op_notInX (hu : X.A.units + 65 < cLine) : OpR X (compareOp .NotIn) (rInX X.K true) := by
  intro pins s σ H x y v u Q I rx ry h
  obtain ⟨d, ds, e, he, hd, hE, sd, se, q⟩ := h
  obtain ⟨as, r1⟩ := Dp.reads I d x v hd rx
  obtain ⟨bs, r2⟩ := Dp.reads I e y u hE ry
  rcases he with rfl | rfl
  · exact SeqAt.notIn_list_reads r2 r1 (SeqAt.canLay_of_shaped se) (SeqAt.canLay_of_shaped sd) (room_inX sd hu) ⟨.bl _, H, I, rfl, q⟩
  · exact SeqAt.notIn_tuple_reads r2 r1 (SeqAt.canLay_of_shaped se) (SeqAt.canLay_of_shaped sd) (room_inX sd hu) ⟨.bl _, H, I, rfl, q⟩
def oIn (neg : Bool) : Od := fun a b Q => eqOk a ∧ eqOk b ∧ ∃ ds, itemsOf b = some ds ∧ Q (.bool (if neg then !ds.any fun z => PyData.eqv z a else ds.any fun z => PyData.eqv z a))
theorem opD_in {neg : Bool} : OpD G (rInX X.K neg) (oIn neg) := fun H0 ρ0 ρ σ H E x y a b P Q I ra rb ⟨h1, h2, ds, e, h⟩ k =>
  ⟨a, ds, b, by cases b <;> simp_all [itemsOf], ra.dp h1.1, rb.dp h2.1, h1.2, h2.2, k _ h _ _ (Ext.refl _ _) I (.bl _)⟩
theorem hu65 {A : Around} {k : Nat} (hr : Room k A) : A.units + 65 < cLine := by have := hr.un; omega
theorem hu64 {A : Around} {k : Nat} (hr : Room k A) : A.units + 64 < cLine := by have := hr.un; omega

/-! ### is None -/
def noneD : PyData → Bool
  | .none => true
  | _ => false
def eIsN (f : Fe) : Fe := fun E Q => f E fun d => Q (.bool (noneD d))
def eNotN (f : Fe) : Fe := fun E Q => f E fun d => Q (.bool (!noneD d))
theorem isN_of {H : Hp} {v : V} {d : PyData} (r : Rp H v d) : decide (v = .non) = noneD d := by
  cases r <;> first | rfl | (rw [decide_eq_false (by intro z; cases z)]; rfl)
theorem tIsN_of : ∀ σ H Q, tE G (eIsN f) σ H Q → tIsN (tE G f) σ H Q := fun σ H Q ⟨H0, ρ0, ρ, E, P, I, h, k⟩ => tE.use I h fun d hd v H1 e1 I1 r1 => by
  have := k _ hd (.bl (noneD d)) H1 e1 I1.g I1.row (.bl _)
  rw [← isN_of r1] at this
  exact this
theorem tNotN_of : ∀ σ H Q, tE G (eNotN f) σ H Q → tNotN (tE G f) σ H Q := fun σ H Q ⟨H0, ρ0, ρ, E, P, I, h, k⟩ => tE.use I h fun d hd v H1 e1 I1 r1 => by
  have := k _ hd (.bl (!noneD d)) H1 e1 I1.g I1.row (.bl _)
  rw [← isN_of r1] at this
  exact this
theorem d_isN {j pos'} (ha : DE G X a f) : DE G X (.Compare a [.Is] [.Constant .none j pos'] pos) (eIsN f) := PE.weak (pe_cmp (pc_isN ha)) tIsN_of
theorem dt_isN {j pos'} (ha : DE G X a f) : DT G X (.Compare a [.Is] [.Constant .none j pos'] pos) (asB (eIsN f)) := PT.weak (pt_cmp (pc_isN ha)) fun σ H Q h => tTest_of tIsN_of σ H Q h
theorem d_notN {j pos'} (ha : DE G X a f) : DE G X (.Compare a [.IsNot] [.Constant .none j pos'] pos) (eNotN f) := PE.weak (pe_cmp (pc_notN ha)) tNotN_of
theorem dt_notN {j pos'} (ha : DE G X a f) : DT G X (.Compare a [.IsNot] [.Constant .none j pos'] pos) (asB (eNotN f)) := PT.weak (pt_cmp (pc_notN ha)) fun σ H Q h => tTest_of tNotN_of σ H Q h

/-! ### and, or, not, if -/
variable {tf tg : Ed → Dm Bool} {rest : List Expr}
def bAnd (tf tg : Ed → Dm Bool) : Ed → Dm Bool := fun E Q => tf E fun b => if b = true then tg E Q else Q false
def bOr (tf tg : Ed → Dm Bool) : Ed → Dm Bool := fun E Q => tf E fun b => if b = true then Q true else tg E Q
def bNot (tf : Ed → Dm Bool) : Ed → Dm Bool := fun E Q => tf E fun b => Q (!b)
abbrev DW (G : Gb) (X : Cx) (e : Expr) (f : Ed → Dm Bool) : Prop := PW X e (tT G f)
theorem PW.weak {e : Expr} {t u : TT} (h : PW X e t) (w : ∀ σ H Q, u σ H Q → t σ H Q) : PW X e u := ⟨fun wh pins s σ H Q I q => h.run wh pins s σ H Q I (w σ H Q q)⟩
theorem dw_and1 (ha : DT G X a tf) : DW G X (.BoolOp .And [a] pos) tf := pw_and1 ha
theorem dw_or1 (ha : DT G X a tf) : DW G X (.BoolOp .Or [a] pos) tf := pw_or1 ha
theorem dw_and (ha : DT G X a tf) (hb : DW G X (.BoolOp .And (b :: rest) pos) tg) : DW G X (.BoolOp .And (a :: b :: rest) pos) (bAnd tf tg) :=
  PW.weak (pw_and ha hb) fun σ H Q ⟨H0, ρ0, ρ, E, P, I, h, k⟩ => tT.use I h fun b hb H1 e1 I1 => by
    cases b with
    | true => rw [if_pos rfl] at hb ⊢; exact tT.use I1 hb fun b hb H2 e2 I2 => k b hb H2 (e1.trans e2) I2.g I2.row
    | false => rw [if_neg Bool.false_ne_true] at hb ⊢; exact k _ hb H1 e1 I1.g I1.row
theorem dw_or (ha : DT G X a tf) (hb : DW G X (.BoolOp .Or (b :: rest) pos) tg) : DW G X (.BoolOp .Or (a :: b :: rest) pos) (bOr tf tg) :=
  PW.weak (pw_or ha hb) fun σ H Q ⟨H0, ρ0, ρ, E, P, I, h, k⟩ => tT.use I h fun b hb H1 e1 I1 => by
    cases b with
    | false => rw [if_neg Bool.false_ne_true] at hb ⊢; exact tT.use I1 hb fun b hb H2 e2 I2 => k b hb H2 (e1.trans e2) I2.g I2.row
    | true => rw [if_pos rfl] at hb ⊢; exact k _ hb H1 e1 I1.g I1.row
theorem dt_not (ha : DT G X a tf) : DT G X (.UnaryOp .Not a pos) (bNot tf) := PT.weak (pt_not ha) fun σ H Q ⟨H0, ρ0, ρ, E, P, I, h, k⟩ => tT.use I h fun b hb H1 e1 I1 => k _ hb H1 e1 I1.g I1.row
theorem dt_w (h : DW G X a tf) : DT G X a tf := h.pt
/-- .. as values (bools) -/
def eAnd (f g : Fe) : Fe := fun E Q => f E fun d => ∃ b, d = .bool b ∧ if b = true then g E Q else Q (.bool false)
def eOr (f g : Fe) : Fe := fun E Q => f E fun d => ∃ b, d = .bool b ∧ if b = true then Q (.bool true) else g E Q
def eNot (f : Fe) : Fe := fun E Q => f E fun d => ∃ b, d = .bool b ∧ Q (.bool (!b))
theorem d_one {op} (ha : DE G X a f) : DE G X (.BoolOp op [a] pos) f := pe_one ha
theorem d_and (ha : DE G X a f) (hb : DE G X (.BoolOp .And (b :: rest) pos) g) : DE G X (.BoolOp .And (a :: b :: rest) pos) (eAnd f g) :=
  PE.weak (pe_and ha hb) fun σ H Q ⟨H0, ρ0, ρ, E, P, I, h, k⟩ => tE.use I h fun d ⟨b, e, hb⟩ v H1 e1 I1 r1 => by
    subst e
    cases r1
    refine ⟨b, rfl, ?_⟩
    cases b with
    | true => rw [if_pos rfl] at hb ⊢; exact tE.use I1 hb fun d hd v H2 e2 I2 r2 => k d hd v H2 (e1.trans e2) I2.g I2.row r2
    | false => rw [if_neg Bool.false_ne_true] at hb ⊢; exact k _ hb _ H1 e1 I1.g I1.row (.bl _)
theorem d_or (ha : DE G X a f) (hb : DE G X (.BoolOp .Or (b :: rest) pos) g) : DE G X (.BoolOp .Or (a :: b :: rest) pos) (eOr f g) :=
  PE.weak (pe_or ha hb) fun σ H Q ⟨H0, ρ0, ρ, E, P, I, h, k⟩ => tE.use I h fun d ⟨b, e, hb⟩ v H1 e1 I1 r1 => by
    subst e
    cases r1
    refine ⟨b, rfl, ?_⟩
    cases b with
    | false => rw [if_neg Bool.false_ne_true] at hb ⊢; exact tE.use I1 hb fun d hd v H2 e2 I2 r2 => k d hd v H2 (e1.trans e2) I2.g I2.row r2
    | true => rw [if_pos rfl] at hb ⊢; exact k _ hb _ H1 e1 I1.g I1.row (.bl _)
theorem d_not (ha : DE G X a f) : DE G X (.UnaryOp .Not a pos) (eNot f) := PE.weak (pe_not ha) fun σ H Q ⟨H0, ρ0, ρ, E, P, I, h, k⟩ => tE.use I h fun d ⟨b, e, hb⟩ v H1 e1 I1 r1 => by
  subst e
  cases r1
  exact ⟨b, rfl, k _ hb _ H1 e1 I1.g I1.row (.bl _)⟩
def eIf (t : Ed → Dm Bool) (f g : Fe) : Fe := fun E Q => t E fun b => if b = true then f E Q else g E Q
theorem d_if (hc : DT G X c tf) (ha : DE G X a f) (hb : DE G X b g) : DE G X (.IfExp c a b pos) (eIf tf f g) := PE.weak (pe_ifExp hc ha hb) fun σ H Q ⟨H0, ρ0, ρ, E, P, I, h, k⟩ => tT.use I h fun b hb H1 e1 I1 => by
  cases b with
  | true => rw [if_pos rfl] at hb ⊢; exact tE.use I1 hb fun d hd v H2 e2 I2 r2 => k d hd v H2 (e1.trans e2) I2.g I2.row r2
  | false => rw [if_neg Bool.false_ne_true] at hb ⊢; exact tE.use I1 hb fun d hd v H2 e2 I2 r2 => k d hd v H2 (e1.trans e2) I2.g I2.row r2
/-- a list in either branch, just made -/
def nIf (t : Ed → Dm Bool) (f g : Ed → Dm (List PyData)) : Ed → Dm (List PyData) := fun E Q => t E fun b => if b = true then f E Q else g E Q
end
end DL
set_option Elab.async false
set_option linter.all false
set_option maxRecDepth 100000
set_option maxHeartbeats 2000000
namespace DL
open PySem PySem.Spec PyProof.Rows L2
section
variable {X : Cx} {G : Gb} {a b c e : Expr} {f g h : Fe} {fl gl : Ed → Dm (List PyData)} {pos p : Pos}

/-! ### lists: new ones are locked for ever, then they are values -/
theorem pe_frz {t : TE} (h : PE X e t) : PE X e (fun σ H Q => t σ H fun v H1 => ∃ d u, v = .ref d ∧ H1 d = some u ∧ Mut (some u) ∧ ∀ od, Q v (upd H1 d (.frz od u))) := ⟨fun pins s σ H Q I hw =>
  thn (h.run pins s σ H _ I hw) fun v s1 ⟨x, H1, I1, r1, d, u, e, hu, mu, q⟩ => by
    obtain ⟨od, I2⟩ := I1.lock hu mu
    exact ⟨x, _, I2, r1, q od⟩⟩
theorem DInv.noRow {H0 H : Hp} {ρ0 ρ : Option Addr} {σ : L2.St} {E : Ed} {q : Addr} (I : DInv G H0 ρ0 ρ σ H E) (f : Fr0 H q) : ρ ≠ some q := fun z => by
  obtain ⟨_, _, _, _, _, _, w, _⟩ := I.row q z
  obtain ⟨ps, e⟩ := f _ w
  cases e
/-- an object that is new since H is changed -/
theorem DInv.fresh_put {H0 H H1 : Hp} {ρ0 ρ : Option Addr} {σ : L2.St} {E : Ed} {q : Addr} {u o : HO} (I : DInv G H0 ρ0 ρ σ H E) (e : Ext ρ H H1) (I1 : DInv G H0 ρ0 ρ σ H1 E) (f : Fr0 H q) (hu : H1 q = some u) (ns : ¬ Stab u ∧ (∀ ps, u ≠ .tbl ps) ∧ ∀ φ, u ≠ .ext φ) :
    Ext ρ H (upd H1 q o) ∧ DInv G H0 ρ0 ρ σ (upd H1 q o) E ∧ ExtS H1 (upd H1 q o) := by
  have e2 : Ext ρ H (upd H1 q o) := fun b x hb n r => by
    rw [upd_ne (f.ne hb n)]; exact e b x hb n r
  refine ⟨e2, I.to e2 (I1.g.upd (.inr ⟨hu, ns.2⟩)) (I1.row.upd (I.noRow f) fun x z => by rw [hu] at z; cases z; exact ns.1), fun b x hb s => ?_⟩
  rw [upd_ne (fun z => by subst z; rw [hu] at hb; cases hb; exact ns.1 s)]; exact hb
theorem chg_lst {vs : List V} : ¬ Stab (.lst vs) ∧ (∀ ps, HO.lst vs ≠ .tbl ps) ∧ ∀ φ, HO.lst vs ≠ .ext φ := ⟨fun z => z, (fun ps z => by cases z), fun φ z => by cases z⟩
theorem chg_dT {vs : List (List Key × V)} : ¬ Stab (.dT vs) ∧ (∀ ps, HO.dT vs ≠ .tbl ps) ∧ ∀ φ, HO.dT vs ≠ .ext φ := ⟨fun z => z, (fun ps z => by cases z), fun φ z => by cases z⟩
theorem chg_dK {vs : List (Key × V)} : ¬ Stab (.dK vs) ∧ (∀ ps, HO.dK vs ≠ .tbl ps) ∧ ∀ φ, HO.dK vs ≠ .ext φ := ⟨fun z => z, (fun ps z => by cases z), fun φ z => by cases z⟩
def eFrz (f : Ed → Dm (List PyData)) : Fe := fun E Q => f E fun ds => Q (.list ds)
theorem d_frz (ha : DN G X e fl) : DE G X e (eFrz fl) := PE.weak (pe_frz ha) fun σ H Q ⟨H0, ρ0, ρ, E, P, I, h, k⟩ =>
  tN.use I h fun ds hds p vs H1 e1 I1 f1 h1 r1 => ⟨p, _, rfl, h1, True.intro, fun od => by
    obtain ⟨e2, I2, s2⟩ := I.fresh_put (o := .frz od (.lst vs)) e1 I1 f1 h1 chg_lst
    exact k _ hds _ _ e2 I2.g I2.row (.lst upd_same (r1.ext s2))⟩
/-- a list that can be read: a value, one just made, one's own -/
def asL (f : Fe) : Ed → Dm (List PyData) := fun E Q => f E fun d => ∃ ds, d = .list ds ∧ Q ds
theorem dl_val (ha : DE G X e f) : DLs G X e (asL f) := PE.weak ha fun σ H Q ⟨H0, ρ0, ρ, E, P, I, h, k⟩ => tE.use I h fun d ⟨ds, ed, hd⟩ v H1 e1 I1 r1 => by
  subst ed
  cases r1 with
  | lst h1 h2 => exact k _ hd _ _ _ e1 I1.g I1.row (.inr ⟨_, h1⟩) (fun z => by
      obtain ⟨_, _, _, _, _, _, w, _⟩ := I1.row _ z
      rw [h1] at w; cases w) h2
theorem dl_new (ha : DN G X e fl) : DLs G X e fl := PE.weak ha fun σ H Q ⟨H0, ρ0, ρ, E, P, I, h, k⟩ => tN.use I h fun ds hds p vs H1 e1 I1 f1 h1 r1 =>
  k _ hds _ _ _ e1 I1.g I1.row (.inl h1) (I.noRow f1) r1
def lOwn (i : Nat) : Ed → Dm (List PyData) := fun E Q => match E[i]? with
  | some (.ls ds) => Q ds
  | _ => False
theorem dl_own (i : Nat) {x : Str} {pos : Pos} (hN : X.N[i]? = some x := by rfl) (hv : Vis X.env.scope x := by first | exact Or.inl rfl | exact Or.inr (Or.inl rfl) | exact Or.inr (Or.inr rfl)) (hd : (x == ("__debug__" : Str)) = false := by decide)
    (hcd : (x == ("__classdict__" : Str)) = false := by decide) : DLs G X (.Name x pos) (lOwn i) := PE.weak (pe_var hN hv hd hcd) fun σ H Q ⟨H0, ρ0, ρ, E, P, I, h, k⟩ => by
  unfold lOwn at h
  split at h
  · rename_i e
    obtain ⟨a, vs, h1, h2, h3, h4⟩ := I.slot i _ e
    exact ⟨_, h1, k _ h _ _ _ (Ext.refl _ _) I.g I.row (.inl h2) h4 h3⟩
  · exact h.elim

/-! ### calls of built-in functions, the arguments values -/
def CallD (G : Gb) (r : List V → Hp → VK → Prop) (F : List PyData → Dm PyData) : Prop := ∀ (H0 : Hp) (ρ0 ρ : Option Addr) (σ : L2.St) (H : Hp) (E : Ed) (vs : List V) (ds : List PyData) (P : PyData → Prop) (Q : VK), DInv G H0 ρ0 ρ σ H E → RpAll H vs ds → F ds P →
  (∀ d, P d → ∀ v H', Ext ρ H H' → DInv G H0 ρ0 ρ σ H' E → Rp H' v d → Q v H') → r vs H Q
def eBlt (F : List PyData → Dm PyData) (fl : Ed → Dm (List PyData)) : Fe := fun E Q => fl E fun ds => F ds Q
theorem tCB_of {r : List V → Hp → VK → Prop} {F : List PyData → Dm PyData} (hr : CallD G r F) : ∀ σ H Q, tE G (eBlt F fl) σ H Q → tCB r (tV G fl) σ H Q := fun σ H Q ⟨H0, ρ0, ρ, E, P, I, h, k⟩ =>
  tV.use I h fun ds hds vs H1 e1 I1 r1 => hr _ _ _ _ _ _ _ _ P Q I1 r1 hds fun d hd v H2 e2 I2 r2 => k d hd v H2 (e1.trans e2) I2.g I2.row r2
theorem d_callB {id : String} {x : Str} {es : List Expr} {r : List V → Hp → VK → Prop} {F : List PyData → Dm PyData} (hc : CallR X (.builtin id) r) (hr : CallD G r F) (hg : Gl X x) (hm : X.mg x = none) (hv : bootBuiltins x = some (.builtin id)) (ha : DV G X (e :: es) fl) (hn : x ≠ "__name__" := by decide) (hdb : (x == ("__debug__" : Str)) = false := by decide)
    (he : starEach (e :: es) X.env = (false, eval e X.env) :: starEach es X.env := by rfl) (hpl : (backTo pos (starEach es X.env)).any (·.1) = false := by rfl) : DE G X (.Call (.Name x p) (e :: es) [] pos) (eBlt F fl) := PE.weak (pe_callB hc hg hm hv ha hn hdb he hpl) (tCB_of hr)
theorem d_callTy {T : String} {x : Str} {es : List Expr} {r : List V → Hp → VK → Prop} {F : List PyData → Dm PyData} (hc : CallR X (.type T) r) (hr : CallD G r F) (hg : Gl X x) (hm : X.mg x = none) (hv : bootBuiltins x = some (.type T)) (ha : DV G X (e :: es) fl) (hn : x ≠ "__name__" := by decide) (hdb : (x == ("__debug__" : Str)) = false := by decide)
    (he : starEach (e :: es) X.env = (false, eval e X.env) :: starEach es X.env := by rfl) (hpl : (backTo pos (starEach es X.env)).any (·.1) = false := by rfl) : DE G X (.Call (.Name x p) (e :: es) [] pos) (eBlt F fl) := PE.weak (pe_callTy hc hg hm hv ha hn hdb he hpl) (tCB_of hr)
/-- len -/
def lenOf : PyData → Option Nat
  | .list ds => some ds.length
  | .tuple ds => some ds.length
  | _ => none
def fLen : List PyData → Dm PyData := fun ds Q => match ds with
  | [d] => ∃ n, lenOf d = some n ∧ Q (.int n)
  | _ => False
theorem callD_len : CallD G (fun xs H Q => ∃ x n, xs = [x] ∧ LenV X.K x H n ∧ Q (.int n) H) fLen := by
  intro H0 ρ0 ρ σ H E vs ds P Q I ra h k
  unfold fLen at h
  split at h
  · obtain ⟨n, hn, h⟩ := h
    cases ra with
    | cons r t =>
      cases t
      have q := k _ h (.int n) H (Ext.refl _ _) I (.int _)
      cases r with
      | lst h1 h2 => cases hn; rw [← h2.length] at q; exact ⟨_, _, rfl, .inl ⟨_, .inl (.inr ⟨_, h1⟩), rfl⟩, q⟩
      | tup h1 h2 => cases hn; rw [← h2.length] at q; exact ⟨_, _, rfl, .inr ⟨_, .inl (.inl h1), rfl⟩, q⟩
      | _ => cases hn
  · exact h.elim
theorem d_len {x : Str} (hx : x = "len") (hg : Gl X x) (hm : X.mg x = none) (ha : DV G X [a] fl) (he : starEach [a] X.env = (false, eval a X.env) :: starEach [] X.env := by rfl) : DE G X (.Call (.Name x p) [a] [] pos) (eBlt fLen fl) := by
  subst hx
  exact d_callB call_len callD_len hg hm PySem.boot_len ha (he := he)
def eLenL (fl : Ed → Dm (List PyData)) : Fe := fun E Q => fl E fun ds => Q (.int ds.length)
theorem pa_one (h : PE X e te) (he : starEach [e] X.env = (false, eval e X.env) :: starEach [] X.env := by rfl) : PA X [e] (tCons te tNil) := pa_cons h pa_nil he
theorem d_lenL (hg : Gl X "len") (hm : X.mg "len" = none) (ha : DLs G X a fl) (he : starEach [a] X.env = (false, eval a X.env) :: starEach [] X.env := by rfl) : DE G X (.Call (.Name "len" p) [a] [] pos) (eLenL fl) :=
  PE.weak (pe_callB call_len hg hm PySem.boot_len (pa_one ha he) (he := he)) fun σ H Q ⟨H0, ρ0, ρ, E, P, I, h, k⟩ => by
    show tL G fl σ H fun x H1 => ∃ y n, [x] = [y] ∧ LenV X.K y H1 n ∧ Q (.int n) H1
    refine tL.use I h fun ds hds p vs H1 e1 I1 h1 h2 r1 => ?_
    have q := k _ hds (.int ds.length) H1 e1 I1.g I1.row (.int _)
    rw [← r1.length] at q
    exact ⟨_, _, rfl, .inl ⟨_, .inl h1, rfl⟩, q⟩
/-- tuple(l) -/
def eTupL (fl : Ed → Dm (List PyData)) : Fe := fun E Q => fl E fun ds => Q (.tuple ds)
theorem d_tupleL (hg : Gl X "tuple") (hm : X.mg "tuple" = none) (ha : DLs G X a fl) (he : starEach [a] X.env = (false, eval a X.env) :: starEach [] X.env := by rfl) : DE G X (.Call (.Name "tuple" p) [a] [] pos) (eTupL fl) :=
  PE.weak (pe_tupleOf hg hm ha he) fun σ H Q ⟨H0, ρ0, ρ, E, P, I, h, k⟩ => tL.use I h fun ds hds p vs H1 e1 I1 h1 h2 r1 => .inl ⟨p, vs, rfl, .inl h1, fun q hq =>
    k _ hds _ _ (e1.trans ((Ext.refl ρ H1).upd hq)) (I1.new hq).g (I1.new hq).row (.tup upd_same (r1.ext ((Ext.refl ρ H1).upd hq).toS))⟩
/-- tuple(range(n)) -/
def rgD (a b : Int) : List PyData := (List.range (b - a).toNat).map fun i => .int (a + (i : Nat))
theorem rp_rg {H : Hp} (a b : Int) : RpAll H (rgV a b) (rgD a b) := by
  unfold rgV rgD
  generalize (b - a).toNat = n
  generalize List.range n = l
  induction l with
  | nil => exact .nil
  | cons x r ih => exact .cons (.int _) ih
def eTupRg (f : Fe) : Fe := fun E Q => f E fun d => ∃ n, d = .int n ∧ RgOk 0 n ∧ Q (.tuple (rgD 0 n))
theorem d_tupRg {p' : Pos} {pos' : Pos} (hc : X.calm = true) (hg : Gl X "tuple") (hm : X.mg "tuple" = none) (hg2 : Gl X "range") (hm2 : X.mg "range" = none) (ha : DE G X a f) (na : starEach [a] X.env = (false, eval a X.env) :: starEach [] X.env := by rfl)
    (nb : starEach [.Call (.Name "range" p') [a] [] pos'] X.env = (false, eval (.Call (.Name "range" p') [a] [] pos') X.env) :: starEach [] X.env := by rfl) : DE G X (.Call (.Name "tuple" p) [.Call (.Name "range" p') [a] [] pos'] [] pos) (eTupRg f) :=
  PE.weak (pe_tupRg hc hg hm (prg_1 hg2 hm2 ha na) nb) fun σ H Q ⟨H0, ρ0, ρ, E, P, I, h, k⟩ => tE.use I h fun d ⟨n, ed, ok, hd⟩ v H1 e1 I1 r1 => by
    subst ed
    cases r1
    exact ⟨n, rfl, ok, fun q hq => k _ hd _ _ (e1.trans ((Ext.refl ρ H1).upd hq)) (I1.new hq).g (I1.new hq).row (.tup upd_same (rp_rg 0 n))⟩
/-- list(xs) of a list, a tuple -/
def nList (f : Fe) : Ed → Dm (List PyData) := fun E Q => f E fun d => ∃ ds, itemsOf d = some ds ∧ Q ds
theorem dn_list (hg : Gl X "list") (hm : X.mg "list" = none) (ha : DE G X a f) (he : starEach [a] X.env = (false, eval a X.env) :: starEach [] X.env := by rfl) : DN G X (.Call (.Name "list" p) [a] [] pos) (nList f) :=
  PE.weak (pe_callTy call_list_of hg hm (by decide +kernel) (pa_one ha he) (he := he)) fun σ H Q ⟨H0, ρ0, ρ, E, P, I, h, k⟩ => tE.use I h fun d ⟨ds, ed, hd⟩ v H1 e1 I1 r1 => by
    cases r1 with
    | lst h1 h2 => cases ed; exact ⟨_, _, rfl, .inl (.inl (.inr ⟨_, h1⟩)), fun q hq => k _ hd _ _ _ (e1.trans ((Ext.refl ρ H1).upd hq)) (I1.new hq).g (I1.new hq).row (e1.free I1.row hq) upd_same (h2.ext ((Ext.refl ρ H1).upd hq).toS)⟩
    | tup h1 h2 => cases ed; exact ⟨_, _, rfl, .inr (.inl (.inl h1)), fun q hq => k _ hd _ _ _ (e1.trans ((Ext.refl ρ H1).upd hq)) (I1.new hq).g (I1.new hq).row (e1.free I1.row hq) upd_same (h2.ext ((Ext.refl ρ H1).upd hq).toS)⟩
    | _ => cases ed
/-- int(i) -/
def fInt : List PyData → Dm PyData := fun ds Q => match ds with
  | [.int i] => Q (.int i)
  | [.bool b] => Q (.int (if b then 1 else 0))
  | _ => False
theorem callD_int : CallD G (fun xs H Q => (∃ i, xs = [.int i] ∧ Q (.int i) H) ∨ ∃ k, xs = [.bl k] ∧ Q (.int (if k then 1 else 0)) H) fInt := by
  intro H0 ρ0 ρ σ H E vs ds P Q I ra h k
  unfold fInt at h
  split at h
  · cases ra with
    | cons r t => cases t; cases r; exact .inl ⟨_, rfl, k _ h _ _ (Ext.refl _ _) I (.int _)⟩
  · cases ra with
    | cons r t => cases t; cases r; exact .inr ⟨_, rfl, k _ h _ _ (Ext.refl _ _) I (.int _)⟩
  · exact h.elim

/-! ### subscripts -/
def rIxD (K : PySem.W.Frag) : R2 := fun x y H Q => rIxL K x y H Q ∨ rIxT K x y H Q
theorem ixR_or {r r' : R2} (h1 : IxR X r) (h2 : IxR X r') : IxR X (orR r r') := fun v' sl pins s σ H x y v u Q I rx ry h hs => h.elim (fun h => h1 v' sl pins s σ H x y v u Q I rx ry h hs) fun h => h2 v' sl pins s σ H x y v u Q I rx ry h hs
def oIx : Od := fun a b Q => ∃ ds i d, itemsOf a = some ds ∧ b = .int i ∧ atI ds i = some d ∧ Q d
theorem atI_rel {H : Hp} {vs : List V} {ds : List PyData} {i : Int} {d : PyData} (r : RpAll H vs ds) (h : atI ds i = some d) : ∃ v, atI vs i = some v ∧ Rp H v d := by
  unfold atI at h ⊢
  rw [r.length]
  cases e : ixN ds.length i with
  | none => rw [e] at h; cases h
  | some j =>
    rw [e] at h
    exact r.get h
theorem opD_ix : OpD G (orR (rIxL X.K) (rIxT X.K)) oIx := by
  intro H0 ρ0 ρ σ H E x y a b P Q I ra rb ⟨ds, i, d, e1, e2, e3, h⟩ k
  subst e2
  cases rb
  cases ra with
  | lst h1 h2 => cases e1; obtain ⟨v, q1, q2⟩ := atI_rel h2 e3; exact .inl ⟨_, _, _, v, rfl, rfl, .inl (.inr ⟨_, h1⟩), q1, k _ h _ _ (Ext.refl _ _) I q2⟩
  | tup h1 h2 => cases e1; obtain ⟨v, q1, q2⟩ := atI_rel h2 e3; exact .inr ⟨_, _, _, v, rfl, rfl, .inl (.inl h1), q1, k _ h _ _ (Ext.refl _ _) I q2⟩
  | _ => cases e1
theorem d_ix (ha : DE G X a f) (hb : DE G X b g) (hs : PlainIx b := by intro _ _; rfl) : DE G X (.Subscript a b pos) (eOp oIx f g) := PE.weak (pe_ix (ixR_or ix_list ix_tup) ha hb hs) (tOp_of opD_ix)
/-- of a list of one's own -/
def eIxL (fl : Ed → Dm (List PyData)) (g : Fe) : Fe := fun E Q => fl E fun ds => g E fun b => ∃ i d, b = .int i ∧ atI ds i = some d ∧ Q d
theorem rd_ext {H H' : Hp} {ρ : Option Addr} {q : Addr} {vs : List V} (e : Ext ρ H H') (hr : ρ ≠ some q) (h : Rd H q (.lst vs)) : Rd H' q (.lst vs) := by
  rcases h with h | ⟨o, h⟩
  · exact .inl (e _ _ h (fun ps z => by cases z) fun z => absurd z hr)
  · exact .inr ⟨o, e _ _ h (fun ps z => by cases z) fun z => absurd z hr⟩
theorem d_ixL (ha : DLs G X a fl) (hb : DE G X b g) (hs : PlainIx b := by intro _ _; rfl) : DE G X (.Subscript a b pos) (eIxL fl g) := PE.weak (pe_ix ix_list ha hb hs) fun σ H Q ⟨H0, ρ0, ρ, E, P, I, h, k⟩ =>
  tL.use I h fun ds hds p vs H1 e1 I1 h1 h2 r1 => tE.use I1 hds fun d ⟨i, d', e, ha, hd⟩ v H2 e2 I2 r2 => by
    subst e
    cases r2
    obtain ⟨v, q1, q2⟩ := atI_rel (r1.ext e2.toS) ha
    exact ⟨_, _, _, v, rfl, rfl, .inl (rd_ext e2 h2 h1), q1, k _ hd _ _ (e1.trans e2) I2.g I2.row q2⟩
/-- t[lo:], t[:hi], t[lo:hi] of a tuple -/
def sPart (f : Fe) : Ed → Dm (Option Int) := fun E Q => f E fun d => ∃ i, d = .int i ∧ Q (some i)
def sNone : Ed → Dm (Option Int) := fun _ Q => Q none
def tPt (G : Gb) (f : Ed → Dm (Option Int)) : TO := fun σ H Q => ∃ H0 ρ0 ρ E P, DInv G H0 ρ0 ρ σ H E ∧ f E P ∧ ∀ o, P o → ∀ H', Ext ρ H H' → GOk G H' → RowIs G.K ρ H' → Q o H'
abbrev DPt (G : Gb) (X : Cx) (e : Option Expr) (f : Ed → Dm (Option Int)) : Prop := PO X e (tPt G f)
theorem tPt.use {H0 H : Hp} {ρ0 ρ : Option Addr} {σ : L2.St} {E : Ed} {f : Ed → Dm (Option Int)} {P : Option Int → Prop} {Q : Option Int → Hp → Prop} (I : DInv G H0 ρ0 ρ σ H E) (h : f E P) (k : ∀ b, P b → ∀ H', Ext ρ H H' → DInv G H0 ρ0 ρ σ H' E → Q b H') : tPt G f σ H Q :=
  ⟨_, _, _, _, _, I, h, fun d hd H' e g r => k d hd H' e (I.to e g r)⟩
theorem PO.weak {e : Option Expr} {t u : TO} (h : PO X e t) (w : ∀ σ H Q, u σ H Q → t σ H Q) : PO X e u := ⟨fun pins s σ H Q I q => h.run pins s σ H Q I (w σ H Q q)⟩
theorem dp_some (ha : DE G X e f) : DPt G X (some e) (sPart f) := PO.weak (po_some ha) fun σ H Q ⟨H0, ρ0, ρ, E, P, I, h, k⟩ => tE.use I h fun d ⟨i, ed, hd⟩ v H1 e1 I1 r1 => by
  subst ed
  cases r1
  exact ⟨i, rfl, k _ hd _ e1 I1.g I1.row⟩
theorem dp_none : DPt G X none sNone := PO.weak po_none fun σ H Q ⟨H0, ρ0, ρ, E, P, I, h, k⟩ => k none h H (Ext.refl _ _) I.g I.row
def cutD (xs : List PyData) (lo hi : Option Int) : List PyData := (xs.drop (HT.sIx xs.length 0 lo)).take (HT.sIx xs.length xs.length hi - HT.sIx xs.length 0 lo)
def eSl (f : Fe) (lo hi : Ed → Dm (Option Int)) : Fe := fun E Q => f E fun d => lo E fun l => hi E fun u => ∃ ds, d = .tuple ds ∧ Q (.tuple (cutD ds l u))
theorem d_sl {lo hi : Option Expr} {fo fh : Ed → Dm (Option Int)} {p2 : Pos} (ha : DE G X a f) (hl : DPt G X lo fo) (hu : DPt G X hi fh) : DE G X (.Subscript a (.Slice lo hi none p2) pos) (eSl f fo fh) :=
  PE.weak (pe_slice sl_tupA ha hl hu) fun σ H Q ⟨H0, ρ0, ρ, E, P, I, h, k⟩ => tE.use I h fun d hd v H1 e1 I1 r1 => tPt.use I1 hd fun l hl H2 e2 I2 => tPt.use I2 hl fun u ⟨ds, ed, hu⟩ H3 e3 I3 => by
    subst ed
    cases r1 with
    | @tup q xs _ h1 h2 =>
      have h1 := e3.toS _ _ (e2.toS _ _ h1 True.intro) True.intro
      have h2 := (h2.ext e2.toS).ext e3.toS
      have cut : cutV xs l u = (xs.drop (HT.sIx xs.length 0 l)).take (HT.sIx xs.length xs.length u - HT.sIx xs.length 0 l) := rfl
      have rc : RpAll H3 (cutV xs l u) (cutD ds l u) := by
        unfold cutV cutD
        rw [h2.length]
        exact (h2.drop _).take _
      refine ⟨q, xs, rfl, .inl (.inl h1), fun hw => ?_, fun _ l hl => k _ hu _ _ (((e1.trans e2).trans e3).trans ((Ext.refl ρ H3).upd hl)) (I3.new hl).g (I3.new hl).row (.tup upd_same (rc.ext ((Ext.refl ρ H3).upd hl).toS))⟩
      have : cutD ds l u = ds := by
        unfold cutD
        rw [← h2.length, hw.1, hw.2, h2.length, List.drop_zero, Nat.sub_zero, List.take_length]
      rw [this] at hu
      exact k _ hu _ _ ((e1.trans e2).trans e3) I3.g I3.row (.tup h1 h2)
end
end DL
set_option Elab.async false
set_option linter.all false
set_option maxRecDepth 100000
set_option maxHeartbeats 2000000
namespace DL
open PySem PySem.Spec PyProof.Rows L2

/-! ### what is walked -/
def Yld (J : It) (i : Nat) (H : Hp) (d : PyData) : Prop := J.go i H ∧ ∀ x H', J.yld i H x H' → Grow H H' ∧ Rp H' x d
def SrvS (J : It) (H1 : Hp) (ds : List PyData) : Prop := ∀ i H, ExtS H1 H → (∀ d, ds[i]? = some d → Yld J i H d) ∧ (i = ds.length → J.stop i H)
def SrvW (ρ : Option Addr) (J : It) (H1 : Hp) (ds : List PyData) : Prop := ∀ i H, Ext ρ H1 H → (∀ d, ds[i]? = some d → Yld J i H d) ∧ (i = ds.length → J.stop i H)
abbrev Fi := Ed → Dm (List PyData)
def tIS (G : Gb) (f : Fi) : TI := fun σ H R => ∃ H0 ρ0 ρ E P, DInv G H0 ρ0 ρ σ H E ∧ f E P ∧ ∀ ds, P ds → ∀ J H', Ext ρ H H' → GOk G H' → RowIs G.K ρ H' → SrvS J H' ds → R J H'
def tIW (G : Gb) (f : Fi) : TI := fun σ H R => ∃ H0 ρ0 ρ E P, DInv G H0 ρ0 ρ σ H E ∧ f E P ∧ ∀ ds, P ds → ∀ J H', Ext ρ H H' → GOk G H' → RowIs G.K ρ H' → SrvW ρ J H' ds → R J H'
theorem RowIs.grow {K : PySem.W.Frag} {ρ : Option Addr} {H H' : Hp} (g : Grow H H') (r : RowIs K ρ H) : RowIs K ρ H' := fun b e => by
  obtain ⟨a, xs, o, i, s, c, e1, e2, f⟩ := r b e
  exact ⟨a, xs, o, i, s, c, g _ _ e1, e2.ext fun b x hb _ => g _ _ hb, f⟩
section
variable {X : Cx} {G : Gb} {a b c e tg : Expr} {f g h : Fe} {fl gl : Fi} {pos p : Pos}
abbrev DIS (G : Gb) (X : Cx) (tg e : Expr) (f : Fi) : Prop := PI X tg e (tIS G f)
abbrev DIW (G : Gb) (X : Cx) (tg e : Expr) (f : Fi) : Prop := PI X tg e (tIW G f)
theorem PI.weak {wi wj : TI} (h : PI X tg e wi) (w : ∀ σ H R, wj σ H R → wi σ H R) : PI X tg e wj := ⟨fun pins s σ H R I q => h.run pins s σ H R I (w σ H R q)⟩
variable {H0 H H' : Hp} {ρ0 ρ : Option Addr} {σ : L2.St} {E : Ed}
theorem DInv.grow (I : DInv G H0 ρ0 ρ σ H E) (g : Grow H H') : DInv G H0 ρ0 ρ σ H' E := I.to (g.ext ρ) (I.g.grow (fun b ps => g b _) fun b φ => g b _) (I.row.grow g)
theorem di_weak (h : DIS G X tg e fl) : DIW G X tg e fl := PI.weak h fun σ H R ⟨H0, ρ0, ρ, E, P, I, h, k⟩ => ⟨H0, ρ0, ρ, E, P, I, h, fun ds hd J H' e g r s => k ds hd J H' e g r fun i H x => s i H x.toS⟩
theorem srv_list {K : PySem.W.Frag} {a : Addr} {xs : List V} {ds : List PyData} (hl : Rd H a (.lst xs)) (hr : ρ ≠ some a) (r : RpAll H xs ds) : SrvW ρ (Itl K a) H ds := fun i H2 e => by
  have h2 : SqL K H2 a xs := .inl (rd_ext e hr hl)
  have r2 := r.ext e.toS
  refine ⟨fun d hd => ?_, fun hi => ⟨xs, h2, by rw [r.length, hi]; exact Nat.le_refl _⟩⟩
  obtain ⟨v, hv, rv⟩ := r2.get hd
  exact ⟨⟨xs, v, h2, hv⟩, fun x H' ⟨e1, e2⟩ => by
    subst e1
    have z := e2 xs h2
    rw [hv] at z; cases z
    exact ⟨fun _ _ q => q, rv⟩⟩
theorem srv_frz {K : PySem.W.Frag} {a : Addr} {xs : List V} {ds : List PyData} {o : Obj} (hl : H a = some (.frz o (.lst xs))) (r : RpAll H xs ds) : SrvS (Itl K a) H ds := fun i H2 e => by
  have h2 : SqL K H2 a xs := .inl (.inr ⟨o, e _ _ hl True.intro⟩)
  have r2 := r.ext e
  refine ⟨fun d hd => ?_, fun hi => ⟨xs, h2, by rw [r.length, hi]; exact Nat.le_refl _⟩⟩
  obtain ⟨v, hv, rv⟩ := r2.get hd
  exact ⟨⟨xs, v, h2, hv⟩, fun x H' ⟨e1, e2⟩ => by
    subst e1
    have z := e2 xs h2
    rw [hv] at z; cases z
    exact ⟨fun _ _ q => q, rv⟩⟩
theorem srv_tup {K : PySem.W.Frag} {a : Addr} {xs : List V} {ds : List PyData} (hl : H a = some (.tup xs)) (r : RpAll H xs ds) : SrvS (Itt K a) H ds := fun i H2 e => by
  have h2 : SqT K H2 a xs := .inl (.inl (e _ _ hl True.intro))
  have r2 := r.ext e
  refine ⟨fun d hd => ?_, fun hi => ⟨xs, h2, by rw [r.length, hi]; exact Nat.le_refl _⟩⟩
  obtain ⟨v, hv, rv⟩ := r2.get hd
  exact ⟨⟨xs, v, h2, hv⟩, fun x H' ⟨e1, e2⟩ => by
    subst e1
    have z := e2 xs h2
    rw [hv] at z; cases z
    exact ⟨fun _ _ q => q, rv⟩⟩
/-- a list or a tuple -/
def iVal (f : Fe) : Fi := fun E Q => f E fun d => ∃ ds, itemsOf d = some ds ∧ Q ds
theorem di_val (ha : DE G X e f) : DIS G X tg e (iVal f) := PI.weak (pi_seq ha) fun σ H R ⟨H0, ρ0, ρ, E, P, I, h, k⟩ => tE.use I h fun d ⟨ds, ed, hd⟩ v H1 e1 I1 r1 => by
  cases r1 with
  | lst h1 h2 => cases ed; exact ⟨_, _, rfl, .inl ⟨.inl (.inr ⟨_, h1⟩), k _ hd _ _ e1 I1.g I1.row (srv_frz h1 h2)⟩⟩
  | tup h1 h2 => cases ed; exact ⟨_, _, rfl, .inr ⟨.inl (.inl h1), k _ hd _ _ e1 I1.g I1.row (srv_tup h1 h2)⟩⟩
  | _ => cases ed
theorem di_list (ha : DLs G X e fl) : DIW G X tg e fl := PI.weak (pi_list ha) fun σ H R ⟨H0, ρ0, ρ, E, P, I, h, k⟩ => tL.use I h fun ds hds p vs H1 e1 I1 h1 h2 r1 => ⟨_, rfl, ⟨_, .inl h1⟩, k _ hds _ _ e1 I1.g I1.row (srv_list h1 h2 r1)⟩
/-- range -/
theorem srv_range {lo : Int} {n : Nat} : SrvS (Itr lo n) H ((List.range n).map fun i => .int (lo + (i : Nat))) := fun i H2 e => by
  refine ⟨fun d hd => ?_, fun hi => by rw [List.length_map, List.length_range] at hi; exact Nat.le_of_eq hi.symm⟩
  rw [List.getElem?_map] at hd
  have hi : i < n := by
    cases q : (List.range n)[i]? with
    | none => rw [q] at hd; cases hd
    | some j => have := (List.getElem?_eq_some_iff.mp q).1; simpa using this
  rw [List.getElem?_range hi] at hd
  cases hd
  exact ⟨hi, fun x H' ⟨e1, e2⟩ => by subst e1 e2; exact ⟨fun _ _ q => q, .int _⟩⟩
def smallI (n : Int) : Prop := -(2 ^ 62) ≤ n ∧ n < 2 ^ 62
def iRg1 (f : Fe) : Fi := fun E Q => f E fun d => ∃ n, d = .int n ∧ smallI n ∧ Q (rgD 0 n)
theorem di_range1 (hg : Gl X "range") (hm : X.mg "range" = none) (ha : DE G X a f) (hs : starEach [a] X.env = [(false, eval a X.env)] := by rfl) : DIS G X tg (.Call (.Name "range" p) [a] [] pos) (iRg1 f) :=
  PI.weak (pi_range1 hg hm (pa_cons ha pa_nil hs) hs) fun σ H R ⟨H0, ρ0, ρ, E, P, I, h, k⟩ => by
    show tE G f σ H fun x H1 => ∃ j : Int, [x] = [V.int j] ∧ -(2 ^ 62) ≤ j ∧ j < 2 ^ 62 ∧ R (Itr 0 j.toNat) H1
    refine tE.use I h fun d ⟨n, ed, hn, hd⟩ v H1 e1 I1 r1 => ?_
    subst ed
    cases r1
    have z := k _ hd (Itr 0 n.toNat) _ e1 I1.g I1.row
    unfold rgD at z
    rw [Int.sub_zero] at z
    exact ⟨n, rfl, hn.1, hn.2, z srv_range⟩
def iRg2 (f g : Fe) : Fi := fun E Q => f E fun d => g E fun d' => ∃ m n, d = .int m ∧ d' = .int n ∧ smallI m ∧ smallI n ∧ Q (rgD m n)
theorem di_range2 (hg : Gl X "range") (hm : X.mg "range" = none) (ha : DE G X a f) (hb : DE G X b g) (hs : starEach [a, b] X.env = [(false, eval a X.env), (false, eval b X.env)] := by rfl) (hs2 : starEach [b] X.env = [(false, eval b X.env)] := by rfl) :
    DIS G X tg (.Call (.Name "range" p) [a, b] [] pos) (iRg2 f g) :=
  PI.weak (pi_range2 hg hm (pa_cons ha (pa_cons hb pa_nil hs2) (by rw [hs, hs2])) hs hs2) fun σ H R ⟨H0, ρ0, ρ, E, P, I, h, k⟩ => by
    show tE G f σ H fun x H1 => tE G g σ H1 fun y H2 => ∃ i j : Int, [x, y] = [V.int i, V.int j] ∧ (-(2 ^ 62) ≤ i ∧ i < 2 ^ 62 ∧ -(2 ^ 62) ≤ j ∧ j < 2 ^ 62) ∧ R (Itr i (j - i).toNat) H2
    refine tE.use I h fun d hd v H1 e1 I1 r1 => tE.use I1 hd fun d' ⟨m, n, ed, ed', hm, hn, hd2⟩ w H2 e2 I2 r2 => ?_
    subst ed ed'
    cases r1
    cases r2
    exact ⟨m, n, rfl, ⟨hm.1, hm.2, hn.1, hn.2⟩, k _ hd2 _ _ (e1.trans e2) I2.g I2.row srv_range⟩
/-- enumerate -/
def enumD (ds : List PyData) : List PyData := ds.mapIdx fun i d => .tuple [.int (i : Nat), d]
theorem enum_at {ds : List PyData} {i : Nat} {d : PyData} (h : (enumD ds)[i]? = some d) : ∃ x, ds[i]? = some x ∧ d = .tuple [.int (i : Nat), x] := by
  unfold enumD at h
  rw [List.getElem?_mapIdx] at h
  cases q : ds[i]? with
  | none => rw [q] at h; cases h
  | some x => rw [q] at h; cases h; exact ⟨x, rfl, rfl⟩
def iEnumD (f : Fe) : Fi := fun E Q => f E fun d => ∃ ds, itemsOf d = some ds ∧ Q (enumD ds)
theorem di_enum {elts : List Expr} {kk : Nat} {tpos : Pos} (hg : Gl X "enumerate") (hm : X.mg "enumerate" = none) (ha : DE G X a f) (hs : starEach [a] X.env = [(false, eval a X.env)] := by rfl) :
    DIS G X (.Tuple elts kk tpos) (.Call (.Name "enumerate" p) [a] [] pos) (iEnumD f) :=
  PI.weak (pi_enumT hg hm (pa_cons ha pa_nil hs) hs) fun σ H R ⟨H0, ρ0, ρ, E, P, I, h, k⟩ => by
    show tE G f σ H fun x H1 => ∃ a xs, [x] = [V.ref a] ∧ ((SqL X.K H1 a xs ∧ R (Ite X.K a) H1) ∨ (SqT X.K H1 a xs ∧ R (IteT X.K a) H1))
    refine tE.use I h fun d ⟨ds, ed, hd⟩ v H1 e1 I1 r1 => ?_
    have z := k _ hd
    cases r1 with
    | @lst q xs _ o h1 h2 =>
      cases ed
      refine ⟨_, xs, rfl, .inl ⟨.inl (.inr ⟨_, h1⟩), z _ _ e1 I1.g I1.row fun i H2 e => ?_⟩⟩
      have q2 : SqL X.K H2 q xs := .inl (.inr ⟨o, e _ _ h1 True.intro⟩)
      refine ⟨fun d hd => ?_, fun hi => ⟨xs, q2, by rw [h2.length, hi]; unfold enumD; rw [List.length_mapIdx]; exact Nat.le_refl _⟩⟩
      obtain ⟨y, hy, rfl⟩ := enum_at hd
      obtain ⟨v, hv, rv⟩ := (h2.ext e).get hy
      exact ⟨⟨xs, v, q2, hv⟩, fun x H' ⟨T, x', e1, hT, e2, e3⟩ => by
        subst e1 e2
        have w := e3 xs q2
        rw [hv] at w; cases w
        exact ⟨Grow.upd hT, .tup upd_same (.cons (.int _) (.cons (rv.ext ((Grow.upd hT).ext none).toS) .nil))⟩⟩
    | @tup q xs _ h1 h2 =>
      cases ed
      refine ⟨_, xs, rfl, .inr ⟨.inl (.inl h1), z _ _ e1 I1.g I1.row fun i H2 e => ?_⟩⟩
      have q2 : SqT X.K H2 q xs := .inl (.inl (e _ _ h1 True.intro))
      refine ⟨fun d hd => ?_, fun hi => ⟨xs, q2, by rw [h2.length, hi]; unfold enumD; rw [List.length_mapIdx]⟩⟩
      obtain ⟨y, hy, rfl⟩ := enum_at hd
      obtain ⟨v, hv, rv⟩ := (h2.ext e).get hy
      exact ⟨⟨xs, v, q2, hv⟩, fun x H' ⟨T, x', e1, hT, e2, e3⟩ => by
        subst e1 e2
        have w := e3 xs q2
        rw [hv] at w; cases w
        exact ⟨Grow.upd hT, .tup upd_same (.cons (.int _) (.cons (rv.ext ((Grow.upd hT).ext none).toS) .nil))⟩⟩
    | _ => cases ed
/-- zip of two lists, of two tuples -/
def zipD (xs ys : List PyData) : List PyData := List.zipWith (fun a b => .tuple [a, b]) xs ys
def iZipD (f g : Fe) : Fi := fun E Q => f E fun d => g E fun d' => (∃ xs ys, d = .tuple xs ∧ d' = .tuple ys ∧ Q (zipD xs ys)) ∨ (∃ xs ys, d = .list xs ∧ d' = .list ys ∧ Q (zipD xs ys))
theorem di_zip {elts : List Expr} {kk : Nat} {tpos : Pos} (hg : Gl X "zip") (hm : X.mg "zip" = none) (ha : DE G X a f) (hb : DE G X b g)
    (hs : starEach [a, b] X.env = (false, eval a X.env) :: starEach [b] X.env := by rfl) (hs2 : starEach [b] X.env = (false, eval b X.env) :: starEach [] X.env := by rfl) (hpl : (backTo pos (starEach [b] X.env)).any (·.1) = false := by rfl) :
    DIS G X (.Tuple elts kk tpos) (.Call (.Name "zip" p) [a, b] [] pos) (iZipD f g) :=
  PI.weak (RZ.pi_zipA hg hm (pa_cons ha (pa_cons hb pa_nil hs2) hs) hs hpl) fun σ H R ⟨H0, ρ0, ρ, E, P, I, h, k⟩ => by
    show tE G f σ H fun x H1 => tE G g σ H1 fun y H2 => ∃ a b xs ys, [x, y] = [V.ref a, V.ref b] ∧ ((SqL X.K H2 a xs ∧ SqL X.K H2 b ys ∧ R (Itz X.K a b) H2) ∨ (SqT X.K H2 a xs ∧ SqT X.K H2 b ys ∧ R (RZ.ItzT X.K a b) H2))
    refine tE.use I h fun d hd v H1 e1 I1 r1 => tE.use I1 hd fun d' hd w H2 e2 I2 r2 => ?_
    have r1' := r1.ext e2.toS
    rcases hd with ⟨ds, es, rfl, rfl, hd⟩ | ⟨ds, es, rfl, rfl, hd⟩
    · cases r1' with
      | @tup q xs _ h1 h2 =>
        cases r2 with
        | @tup q' ys _ h3 h4 =>
          refine ⟨_, _, xs, ys, rfl, .inr ⟨.inl (.inl h1), .inl (.inl h3), k _ hd _ _ (e1.trans e2) I2.g I2.row fun i H3 e => ?_⟩⟩
          have q2 : SqT X.K H3 q xs := .inl (.inl (e _ _ h1 True.intro))
          have q3 : SqT X.K H3 q' ys := .inl (.inl (e _ _ h3 True.intro))
          refine ⟨fun d hd => ?_, fun hi => ⟨xs, ys, q2, q3, ?_⟩⟩
          · unfold zipD at hd
            rw [List.getElem?_zipWith] at hd
            cases u1 : ds[i]? with
            | none => rw [u1] at hd; simp at hd
            | some d1 =>
              cases u2 : es[i]? with
              | none => rw [u1, u2] at hd; simp at hd
              | some d2 =>
                rw [u1, u2] at hd
                cases hd
                obtain ⟨v1, hv1, rv1⟩ := (h2.ext e).get u1
                obtain ⟨v2, hv2, rv2⟩ := (h4.ext e).get u2
                exact ⟨⟨xs, ys, v1, v2, q2, q3, hv1, hv2⟩, fun x H' ⟨T, x1, x2, e1, hT, e2, e3, e4⟩ => by
                  subst e1 e2
                  have w1 := e3 xs q2
                  have w2 := e4 ys q3
                  rw [hv1] at w1; cases w1
                  rw [hv2] at w2; cases w2
                  have eG := ((Grow.upd (o := .tup [v1, v2]) hT).ext none).toS
                  exact ⟨Grow.upd hT, .tup upd_same (.cons (rv1.ext eG) (.cons (rv2.ext eG) .nil))⟩⟩
          · unfold zipD at hi
            rw [List.length_zipWith] at hi
            rw [h2.length, h4.length]
            omega
    · cases r1' with
      | @lst q xs _ o h1 h2 =>
        cases r2 with
        | @lst q' ys _ o' h3 h4 =>
          refine ⟨_, _, xs, ys, rfl, .inl ⟨.inl (.inr ⟨_, h1⟩), .inl (.inr ⟨_, h3⟩), k _ hd _ _ (e1.trans e2) I2.g I2.row fun i H3 e => ?_⟩⟩
          have q2 : SqL X.K H3 q xs := .inl (.inr ⟨o, e _ _ h1 True.intro⟩)
          have q3 : SqL X.K H3 q' ys := .inl (.inr ⟨o', e _ _ h3 True.intro⟩)
          refine ⟨fun d hd => ?_, fun hi => ⟨xs, ys, q2, q3, ?_⟩⟩
          · unfold zipD at hd
            rw [List.getElem?_zipWith] at hd
            cases u1 : ds[i]? with
            | none => rw [u1] at hd; simp at hd
            | some d1 =>
              cases u2 : es[i]? with
              | none => rw [u1, u2] at hd; simp at hd
              | some d2 =>
                rw [u1, u2] at hd
                cases hd
                obtain ⟨v1, hv1, rv1⟩ := (h2.ext e).get u1
                obtain ⟨v2, hv2, rv2⟩ := (h4.ext e).get u2
                exact ⟨⟨xs, ys, v1, v2, q2, q3, hv1, hv2⟩, fun x H' ⟨T, x1, x2, e1, hT, e2, e3, e4⟩ => by
                  subst e1 e2
                  have w1 := e3 xs q2
                  have w2 := e4 ys q3
                  rw [hv1] at w1; cases w1
                  rw [hv2] at w2; cases w2
                  have eG := ((Grow.upd (o := .tup [v1, v2]) hT).ext none).toS
                  exact ⟨Grow.upd hT, .tup upd_same (.cons (rv1.ext eG) (.cons (rv2.ext eG) .nil))⟩⟩
          · unfold zipD at hi
            rw [List.length_zipWith] at hi
            rw [h2.length, h4.length]
            omega
/-- the items of a dict with tuple keys that is a value -/
def pairsD (kvs : List (PyData × PyData)) : List PyData := kvs.map fun p => .tuple [p.1, p.2]
def iItems (f : Fe) : Fi := fun E Q => f E fun d => ∃ kvs, d = .dict kvs ∧ Q (pairsD kvs)
theorem rp_key {H : Hp} : ∀ k : List Key, RpAll H (k.map kV) (k.map keyD)
  | [] => .nil
  | .inl i :: r => .cons (.int i) (rp_key r)
  | .inr s :: r => .cons (.str s) (rp_key r)
theorem zip_keys {H : Hp} {kvs : List (List Key × V)} {ds : List PyData} {i : Nat} {q : PyData × PyData} (r : RpAll H (kvs.map Prod.snd) ds) (h : (((kvs.map Prod.fst).map tupD).zip ds)[i]? = some q) : ∃ k v, kvs[i]? = some (k, v) ∧ q.1 = tupD k ∧ Rp H v q.2 := by
  rw [List.getElem?_zip_eq_some, List.getElem?_map, List.getElem?_map] at h
  obtain ⟨h1, h2⟩ := h
  cases e : kvs[i]? with
  | none => rw [e] at h1; cases h1
  | some kv =>
    rw [e] at h1
    obtain ⟨v, hv, rv⟩ := r.get h2
    rw [List.getElem?_map, e] at hv
    cases hv
    exact ⟨kv.1, kv.2, rfl, (Option.some.inj h1).symm, rv⟩
theorem di_items {elts : List Expr} {kk : Nat} {tpos apos cpos : Pos} (ha : DE G X a f) (hbase : attributeBase a "items" X.env (eval a X.env) = eval a X.env := by rfl) (hline : (apos.endLine == cpos.line) = true := by rfl) :
    DIS G X (.Tuple elts kk tpos) (.Call (.Attribute a "items" apos) [] [] cpos) (iItems f) :=
  PI.weak (pi_itemsT ha hbase hline) fun σ H R ⟨H0, ρ0, ρ, E, P, I, h, k⟩ => tE.use I h fun d ⟨kvs, ed, hd⟩ v H1 e1 I1 r1 => by
    subst ed
    cases r1 with
    | @dct q kv ds o h1 h2 =>
      refine ⟨q, o, kv, rfl, h1, k _ hd _ _ e1 I1.g I1.row fun i H2 e => ?_⟩
      have q2 := e _ _ h1 True.intro
      have hl : (((kv.map Prod.fst).map tupD).zip ds).length = kv.length := by
        rw [List.length_zip, List.length_map, List.length_map, ← h2.length, List.length_map, Nat.min_self]
      refine ⟨fun d hd => ?_, fun hi => ⟨q2, by unfold pairsD at hi; rw [List.length_map, hl] at hi; exact Nat.le_of_eq hi.symm⟩⟩
      unfold pairsD at hd
      rw [List.getElem?_map] at hd
      cases u : (((kv.map Prod.fst).map tupD).zip ds)[i]? with
      | none => rw [u] at hd; cases hd
      | some z =>
        rw [u] at hd
        cases hd
        obtain ⟨kk, v, ek, e3, rv⟩ := zip_keys (h2.ext e) u
        refine ⟨⟨q2, (List.getElem?_eq_some_iff.mp ek).1⟩, fun x H' ⟨T, k', v', q', e4, e5, hT, hq, e6⟩ => ?_⟩
        rw [ek] at e4; cases e4
        subst e5 e6
        have eG := ((Grow.upd (o := .tup [.ref q', v]) hT).ext none).toS
        refine ⟨Grow.upd hT, .tup upd_same (.cons ?_ (.cons (rv.ext eG) .nil))⟩
        rw [e3]
        exact (Rp.tup hq (rp_key kk)).ext eG
end
end DL
set_option Elab.async false
set_option linter.all false
set_option maxRecDepth 100000
set_option maxHeartbeats 2000000
namespace DL
open PySem PySem.Spec PyProof.Rows L2

/-! ### targets: names -/
theorem wipe_one (σ : L2.St) (i : Nat) (x : Option V) : ∀ vs : List Nat, (wipe (σ.set i x) vs).set i none = (wipe σ vs).set i none
  | [] => by show (σ.set i x).set i none = σ.set i none; rw [List.set_set]
  | v :: vs => by
    show ((wipe (σ.set i x) vs).set v none).set i none = ((wipe σ vs).set v none).set i none
    by_cases h : v = i
    · subst h; rw [wipe_one σ v x vs]
    · rw [List.set_comm _ _ h, wipe_one σ i x vs, List.set_comm _ _ h]
theorem wipe_set (σ : L2.St) (i : Nat) (x : Option V) : ∀ vs : List Nat, i ∈ vs → wipe (σ.set i x) vs = wipe σ vs
  | [], h => by cases h
  | v :: vs, h => by
    show (wipe (σ.set i x) vs).set v none = (wipe σ vs).set v none
    by_cases e : v = i
    · subst e; exact wipe_one σ v x vs
    · have : i ∈ vs := by
        rcases List.mem_cons.mp h with q | q
        · exact absurd q.symm e
        · exact q
      rw [wipe_set σ i x vs this]
theorem wipe_wipe (σ : L2.St) (ws : List Nat) : ∀ vs : List Nat, (∀ i ∈ vs, i ∈ ws) → wipe (wipe σ vs) ws = wipe σ ws
  | [], _ => rfl
  | v :: vs, hv => by
    show wipe ((wipe σ vs).set v none) ws = _
    rw [wipe_set _ _ _ _ (hv v List.mem_cons_self), wipe_wipe σ ws vs fun i hi => hv i (List.mem_cons_of_mem _ hi)]
abbrev Fg := PyData → Ed → Dm Ed
def tTg (G : Gb) (is : List Nat) (g : Fg) : TG := fun v σ H Q => ∃ H0 ρ0 ρ E d P, DInv G H0 ρ0 ρ σ H E ∧ Rp H v d ∧ g d E P ∧ ∀ E', P E' → ∀ σ', DInv G H0 ρ0 ρ σ' H E' → (∀ vs, (∀ i ∈ is, i ∈ vs) → wipe σ' vs = wipe σ vs) → Q σ' H
abbrev DG (G : Gb) (X : Cx) (tg : Expr) (is : List Nat) (g : Fg) : Prop := PG X tg (tTg G is g)
theorem PG.weak {X : Cx} {tg : Expr} {t u : TG} (h : PG X tg t) (w : ∀ v σ H Q, u v σ H Q → t v σ H Q) : PG X tg u := ⟨fun pins s σ H v uu Q I r q => h.run pins s σ H v uu Q I r (w v σ H Q q)⟩
section
variable {X : Cx} {G : Gb} {a b c e tg : Expr} {f g h : Fe} {fl gl : Fi} {pos p : Pos} {H0 H H' : Hp} {ρ0 ρ : Option Addr} {σ : L2.St} {E : Ed}
def gNm (i : Nat) : Fg := fun d E Q => Q (E.set i (.val d))
theorem dg_name (i : Nat) {x : Str} (hN : X.N.Nodup) (hi : X.N[i]? = some x := by rfl) (hx : Loc X.env.scope x := by first | exact Or.inl rfl | exact Or.inr rfl) (hf : X.fn x = true ∨ X.env.scope.names.lookup x = some .local := by first | exact .inl rfl | exact .inr rfl) : DG G X (.Name x pos) [i] (gNm i) :=
  PG.weak (pg_name hN hi hx hf) fun v σ H Q ⟨H0, ρ0, ρ, E, d, P, I, r, h, k⟩ => k _ h _ (I.set rfl ⟨v, rfl, r⟩) fun vs hv => wipe_set σ i _ vs (hv i (List.mem_singleton.mpr rfl))
def gTp2 (g1 g2 : Fg) : Fg := fun d E Q => ∃ x y, d = .tuple [x, y] ∧ g1 x E fun E1 => g2 y E1 Q
theorem tTg_mono {is : List Nat} {g1 : Fg} {v : V} {d : PyData} {P : Ed → Prop} {Q : L2.St → Hp → Prop} (I : DInv G H0 ρ0 ρ σ H E) (r : Rp H v d) (h : g1 d E P)
    (k : ∀ E', P E' → ∀ σ', DInv G H0 ρ0 ρ σ' H E' → (∀ vs, (∀ i ∈ is, i ∈ vs) → wipe σ' vs = wipe σ vs) → Q σ' H) : tTg G is g1 v σ H Q := ⟨_, _, _, _, _, _, I, r, h, k⟩
theorem dg_tup2 {i1 i2 : List Nat} {g1 g2 : Fg} {k : Nat} (hc : X.calm = true) (h1 : DG G X a i1 g1) (h2 : DG G X b i2 g2) (hs1 : (assignEach (a :: [b]) X.env).map (·.2) = assign a X.env :: (assignEach [b] X.env).map (·.2) := by rfl)
    (hs2 : (assignEach (b :: []) X.env).map (·.2) = assign b X.env :: (assignEach [] X.env).map (·.2) := by rfl) (hn : (assignEach [a, b] X.env).length = 2 := by rfl) (hst : (assignEach [a, b] X.env).findIdx? (·.1) = none := by rfl) :
    DG G X (.Tuple [a, b] k pos) (i1 ++ i2) (gTp2 g1 g2) :=
  PG.weak (pg_tup hc (pgs_cons h1 (pgs_cons h2 pgs_nil hs2) hs1) hn hst) fun v σ H Q ⟨H0, ρ0, ρ, E, d, P, I, r, ⟨x, y, ed, hg⟩, k⟩ => by
    subst ed
    cases r with
    | @tup q xs _ e1 e2 =>
      cases e2 with
      | cons r1 t1 =>
        cases t1 with
        | cons r2 t2 =>
          cases t2
          refine ⟨q, _, rfl, .inl (.inl e1), rfl, _, _, rfl, tTg_mono I r1 hg fun E1 hE1 σ1 I1 w1 => ⟨_, _, rfl, tTg_mono I1 r2 hE1 fun E2 hE2 σ2 I2 w2 => ⟨rfl, k E2 hE2 σ2 I2 fun vs hv => ?_⟩⟩⟩
          rw [w2 vs fun i hi => hv i (List.mem_append_right _ hi), w1 vs fun i hi => hv i (List.mem_append_left _ hi)]
def gTp3 (g1 g2 g3 : Fg) : Fg := fun d E Q => ∃ x y z, d = .tuple [x, y, z] ∧ g1 x E fun E1 => g2 y E1 fun E2 => g3 z E2 Q
theorem dg_tup3 {i1 i2 i3 : List Nat} {g1 g2 g3 : Fg} {k : Nat} (hc : X.calm = true) (h1 : DG G X a i1 g1) (h2 : DG G X b i2 g2) (h3 : DG G X c i3 g3) (hs1 : (assignEach (a :: [b, c]) X.env).map (·.2) = assign a X.env :: (assignEach [b, c] X.env).map (·.2) := by rfl)
    (hs2 : (assignEach (b :: [c]) X.env).map (·.2) = assign b X.env :: (assignEach [c] X.env).map (·.2) := by rfl) (hs3 : (assignEach (c :: []) X.env).map (·.2) = assign c X.env :: (assignEach [] X.env).map (·.2) := by rfl) (hn : (assignEach [a, b, c] X.env).length = 3 := by rfl) (hst : (assignEach [a, b, c] X.env).findIdx? (·.1) = none := by rfl) :
    DG G X (.Tuple [a, b, c] k pos) (i1 ++ (i2 ++ i3)) (gTp3 g1 g2 g3) :=
  PG.weak (pg_tup hc (pgs_cons h1 (pgs_cons h2 (pgs_cons h3 pgs_nil hs3) hs2) hs1) hn hst) fun v σ H Q ⟨H0, ρ0, ρ, E, d, P, I, r, ⟨x, y, z, ed, hg⟩, k⟩ => by
    subst ed
    cases r with
    | @tup q xs _ e1 e2 =>
      cases e2 with
      | cons r1 t1 =>
        cases t1 with
        | cons r2 t2 =>
          cases t2 with
          | cons r3 t3 =>
            cases t3
            refine ⟨q, _, rfl, .inl (.inl e1), rfl, _, _, rfl, tTg_mono I r1 hg fun E1 hE1 σ1 I1 w1 => ⟨_, _, rfl, tTg_mono I1 r2 hE1 fun E2 hE2 σ2 I2 w2 => ⟨_, _, rfl, tTg_mono I2 r3 hE2 fun E3 hE3 σ3 I3 w3 => ⟨rfl, k E3 hE3 σ3 I3 fun vs hv => ?_⟩⟩⟩⟩
            rw [w3 vs fun i hi => hv i (List.mem_append_right _ (List.mem_append_right _ hi)), w2 vs fun i hi => hv i (List.mem_append_right _ (List.mem_append_left _ hi)), w1 vs fun i hi => hv i (List.mem_append_left _ hi)]

/-! ### list comprehensions -/
/-- the items one by one; E: the slots with the comprehension's own names forgotten -/
def compL (g : Fg) (t : Ed → Dm Bool) (f : Fe) (E : Ed) : List PyData → Dm (List PyData)
  | [], Q => Q []
  | d :: ds, Q => g d E fun E1 => t E1 fun b => if b = true then f E1 fun y => compL g t f E ds fun ys => Q (y :: ys) else compL g t f E ds Q
def nComp (fi : Fi) (g : Fg) (t : Ed → Dm Bool) (f : Fe) (vs : List Nat) : Fi := fun E Q => fi E fun ds => ds.length ≤ sizeLine ∧ compL g t f (wipeE E vs) ds Q
def tYesD : Ed → Dm Bool := fun _ Q => Q true
abbrev DTs (G : Gb) (X : Cx) (ifs : List Expr) (t : Ed → Dm Bool) : Prop := PTs X ifs (tT G t)
theorem dts_nil : DTs G X [] tYesD := ⟨fun pins s σ H Q I ⟨H0, ρ0, ρ, E, P, J, h, k⟩ => pts_nil.run pins s σ H Q I (k _ h H (Ext.refl _ _) J.g J.row)⟩
theorem dts_one {t : Ed → Dm Bool} (h : DT G X c t) : DTs G X [c] t := pts_one h
theorem tT.use' {t : Ed → Dm Bool} {P : Bool → Prop} {Q : Bool → Hp → Prop} (I : DInv G H0 ρ0 ρ σ H E) (h : t E P) (k : ∀ b, P b → ∀ H', Ext ρ H H' → DInv G H0 ρ0 ρ σ H' E → Q b H') : tT G t σ H Q := tT.use I h k
theorem tLc_of {fi : Fi} {gd : Fg} {t : Ed → Dm Bool} {is vs : List Nat} (his : ∀ i ∈ is, i ∈ vs) : ∀ σ H Q, tN G (nComp fi gd t f vs) σ H Q → tLc (tIW G fi) (tTg G is gd) (tT G t) (tE G f) vs σ H Q :=
  fun σ H Q ⟨H0, ρ0, ρ, E, P, I, h, k⟩ => ⟨H0, ρ0, ρ, E, _, I, h, fun ds ⟨hz, hds⟩ J H1 e1 g1 r1 sv D hD => by
    have I1 := I.to e1 g1 r1
    have fD : Fr0 H1 D := Fr0.of_none hD
    refine ⟨fun i m H2 => ∃ acc ys, H2 D = some (.lst acc) ∧ RpAll H2 acc ys ∧ i + m = ds.length ∧ acc.length ≤ i ∧ DInv G H0 ρ0 ρ σ H2 E ∧ Ext ρ H1 H2 ∧ compL gd t f (wipeE E vs) (ds.drop i) fun zs => P (ys ++ zs),
      ⟨ds.length, [], [], upd_same, .nil, Nat.zero_add _, Nat.le_refl _, I1.new hD, (Ext.refl ρ H1).upd hD, hds⟩, ?_⟩
    rintro i m H2 ⟨acc, ys, hA, rA, em, hl, I2, e2, hc2⟩
    by_cases hlt : i < ds.length
    · have ed : ds.drop i = ds[i] :: ds.drop (i + 1) := List.drop_eq_getElem_cons hlt
      rw [ed] at hc2
      obtain ⟨s1, s2⟩ := sv i H2 e2
      obtain ⟨go, yl⟩ := s1 _ (List.getElem?_eq_getElem hlt)
      refine .inr ⟨go, fun H' => ∃ acc ys, H' D = some (.lst acc) ∧ RpAll H' acc ys ∧ acc.length ≤ i + 1 ∧ DInv G H0 ρ0 ρ σ H' E ∧ Ext ρ H1 H' ∧ compL gd t f (wipeE E vs) (ds.drop (i + 1)) fun zs => P (ys ++ zs),
        fun H' ⟨acc, ys, q1, q2, q3, q4, q5, q6⟩ => ⟨m - 1, by omega, acc, ys, q1, q2, by omega, q3, q4, q5, q6⟩, fun x H3 hy => ?_⟩
      obtain ⟨gr, rx⟩ := yl x H3 hy
      have I3 := I2.grow gr
      have hA3 := gr _ _ hA
      have rA3 := rA.ext (gr.ext ρ).toS
      have e3 : Ext ρ H1 H3 := e2.trans (gr.ext ρ)
      refine tTg_mono (I3.wiped vs) rx hc2 fun E1 hE1 σ1 J1 w1 => ⟨?_, ?_⟩
      · rw [w1 _ his]
        exact wipe_wipe σ vs vs fun i hi => hi
      · refine tT.use J1 hE1 fun b hb H4 e4 J4 => ?_
        have I4 := I3.to e4 J4.g J4.row
        have hA4 : H4 D = some (.lst acc) := e4 _ _ hA3 (fun ps z => by cases z) fun z => absurd z (I1.noRow fD)
        have rA4 := rA3.ext e4.toS
        cases b with
        | false =>
          rw [if_neg Bool.false_ne_true] at hb ⊢
          exact ⟨acc, ys, hA4, rA4, by omega, I4, e3.trans e4, hb⟩
        | true =>
          rw [if_pos rfl] at hb ⊢
          refine tE.use J4 hb fun y hy v H5 e5 J5 ry => ?_
          have I5 := I4.to e5 J5.g J5.row
          have hA5 : H5 D = some (.lst acc) := e5 _ _ hA4 (fun ps z => by cases z) fun z => absurd z (I1.noRow fD)
          have rA5 := rA4.ext e5.toS
          obtain ⟨f1, f2, f3⟩ := I1.fresh_put (o := .lst (acc ++ [v])) ((e3.trans e4).trans e5) I5 fD hA5 chg_lst
          refine ⟨acc, hA5, by omega, acc ++ [v], ys ++ [y], upd_same, (rA5.ext f3).append (.cons (ry.ext f3) .nil), by rw [List.length_append]; show acc.length + 1 ≤ _; omega, f2, f1, ?_⟩
          have : (fun zs => P (ys ++ [y] ++ zs)) = fun zs => P (ys ++ y :: zs) := by funext zs; rw [List.append_assoc]; rfl
          rw [this]
          exact hy
    · have hi : i = ds.length := by omega
      obtain ⟨s1, s2⟩ := sv i H2 e2
      refine .inl ⟨s2 hi, ?_⟩
      rw [List.drop_of_length_le (by omega)] at hc2
      have hP : P (ys ++ []) := hc2
      rw [List.append_nil] at hP
      exact k _ hP D acc H2 (e1.trans e2) I2.g I2.row (e1.free r1 hD) hA rA⟩

theorem dn_comp {elt tg iter : Expr} {ifs : List Expr} {scope : Scope} {own : List (Str × Nat)} {fi : Fi} {gd : Fg} {t : Ed → Dm Bool} {is : List Nat} (hc : X.calm = true) (hN : X.N.Nodup) (hi : DIW G X tg iter fi) (ok : BlkOk X.N X.env.scope scope own) (his : ∀ i ∈ is, i ∈ own.map (·.2))
    (hg : ∀ (s : Shared) (H : Hp) (C : Addr) (cl : List (Str × Addr)) (fp : List Addr), DG G (X.blk s H scope (compEnvC scope cl C X.env) fp) tg is gd) (ht : ∀ (s : Shared) (H : Hp) (C : Addr) (cl : List (Str × Addr)) (fp : List Addr), DTs G (X.blk s H scope (compEnvC scope cl C X.env) fp) ifs t)
    (he : ∀ (s : Shared) (H : Hp) (C : Addr) (cl : List (Str × Addr)) (fp : List Addr), DE G (X.blk s H scope (compEnvC scope cl C X.env) fp) elt f) (hs : ∀ x, foldedSetIterable iter X.env x = pure x := by intro _; rfl) :
    DN G X (.ListComp elt [⟨tg, iter, ifs, 0⟩] scope pos) (nComp fi gd t f (own.map (·.2))) :=
  PE.weak (pe_lc hc hN hi ok hg ht he hs) (tLc_of his)
/-! ### all, any of a generator expression -/
structure GbOk (G : Gb) (P : Addr) : Prop where
  mem : P ∈ G.TG
  apart : ∀ p ∈ G.TL, p.1 ≠ P
/-- each item's answer is known -/
def genL (g : Fg) (f : Fe) (E : Ed) (ds : List PyData) (bs : List Bool) : Prop := bs.length = ds.length ∧ ∀ (i : Nat) (d : PyData), ds[i]? = some d → g d E fun E1 => f E1 fun y => ∃ b, bs[i]? = some b ∧ y = .bool b
def eGen (q : List Bool → Bool) (fi : Fi) (g : Fg) (f : Fe) (vs : List Nat) : Fe := fun E Q => fi E fun ds => ∃ bs, genL g f (wipeE E vs) ds bs ∧ Q (.bool (q bs))
theorem all_range (bs : List Bool) : (List.range bs.length).all (fun i => bs[i]?.getD false) = bs.all id := by
  induction bs with
  | nil => rfl
  | cons b r ih =>
    rw [List.length_cons, List.range_succ_eq_map, List.all_cons, List.all_map, List.all_cons]
    show (b && _) = _
    congr 1
theorem any_range (bs : List Bool) : (List.range bs.length).any (fun i => bs[i]?.getD false) = bs.any id := by
  induction bs with
  | nil => rfl
  | cons b r ih =>
    rw [List.length_cons, List.range_succ_eq_map, List.any_cons, List.any_map, List.any_cons]
    show (b || _) = _
    congr 1
theorem tGen_of {P : Addr} {fi : Fi} {gd : Fg} {vs is : List Nat} {q : List Bool → Bool} {qf : Nat → (Nat → Bool) → Bool} (ok : GbOk G P) (hq : ∀ bs, qf bs.length (fun i => bs[i]?.getD false) = q bs) (his : ∀ i ∈ is, i ∈ vs) :
    ∀ σ H Q, tE G (eGen q fi gd f vs) σ H Q → tGen P (tIW G fi) (tTg G is gd) (tE G f) vs qf σ H Q := fun σ H Q ⟨H0, ρ0, ρ, E, Pd, I, h, k⟩ => ⟨H0, ρ0, ρ, E, _, I, h, fun ds ⟨bs, ⟨hl, hb⟩, hP⟩ J H1 e1 g1 r1 sv => by
    refine ⟨g1.2 P ok.mem, fun H2 ⟨t2, s2⟩ => ?_⟩
    obtain ⟨ps, hps, _⟩ := g1.2 P ok.mem
    have e2 : Ext ρ H1 H2 := fun b o hbo n _ => by
      rw [s2 b fun z => by subst z; rw [hps] at hbo; cases hbo; exact n ps rfl]; exact hbo
    have g2 : GOk G H2 := by
      refine ⟨fun p hp => ?_, fun P' hP' => ?_⟩
      · obtain ⟨ps', q1, q2, q3⟩ := g1.1 p hp
        refine ⟨ps', by rw [s2 _ (ok.apart p hp)]; exact q1, q2, fun pos cv hc => ?_⟩
        obtain ⟨c, q4, q5⟩ := q3 pos cv hc
        exact ⟨c, q4, by rw [s2 c fun z => by subst z; rw [hps] at q5; cases q5]; exact q5⟩
      · by_cases z : P' = P
        · subst z; exact t2
        · obtain ⟨ps', q1, q2⟩ := g1.2 P' hP'
          exact ⟨ps', by rw [s2 _ z]; exact q1, q2⟩
    have r2 : RowIs G.K ρ H2 := fun b eb => (r1 b eb).elim fun a w => by
      obtain ⟨xs, o, i, s, c, w1, w2, w3⟩ := w
      exact ⟨a, xs, o, i, s, c, by rw [s2 b fun z => by subst z; rw [hps] at w1; cases w1]; exact w1, w2.ext (fun b x hb hs => by rw [s2 b fun z => by subst z; rw [hps] at hb; cases hb; exact hs]; exact hb), w3⟩
    refine ⟨ds.length, fun i => bs[i]?.getD false, fun i H3 => Ext ρ H1 H3 ∧ DInv G H0 ρ0 ρ σ H3 E, ⟨e2, I.to (e1.trans e2) g2 r2⟩, ⟨fun i H3 hi ⟨e3, I3⟩ => ?_, fun H3 ⟨e3, I3⟩ => (sv _ H3 e3).2 rfl⟩, fun i H3 _ ⟨e3, I3⟩ => ?_⟩
    · obtain ⟨go, yl⟩ := (sv i H3 e3).1 _ (List.getElem?_eq_getElem hi)
      refine ⟨go, fun x H4 hy => ?_⟩
      obtain ⟨gr, rx⟩ := yl x H4 hy
      have I4 := I3.grow gr
      refine tTg_mono (I4.wiped vs) rx (hb i _ (List.getElem?_eq_getElem hi)) fun E1 hE1 σ1 J1 w1 => ⟨?_, tE.use J1 hE1 fun y ⟨b, hbi, ey⟩ v H5 e5 J5 ry => ?_⟩
      · rw [w1 _ his]
        exact wipe_wipe σ vs vs fun i hi => hi
      · subst ey
        cases ry
        exact ⟨by show V.bl b = V.bl (bs[i]?.getD false); rw [hbi]; rfl, (e3.trans (gr.ext ρ)).trans e5, I4.to e5 J5.g J5.row⟩
    · rw [← hl, hq]
      exact k _ hP _ H3 (e1.trans e3) I3.g I3.row (.bl _)⟩
theorem d_all {c P : Addr} {elt tg iter : Expr} {scope : Scope} {gpos : Pos} {own : List (Str × Nat)} {fi : Fi} {gd : Fg} {k : Nat} {is : List Nat} (hr : Room (k + 1) X.A) (hg0 : Gl X "all") (hm : X.mg "all" = none) (TB : GxR.TabB X.base X.mg c P) (hcode : X.env.code = .ref c) (hc : X.calm = true) (hN : X.N.Nodup)
    (hi : DIW G X tg iter fi) (Go : GenOk X.N X.env.scope scope own) (ok : GbOk G P) (his : ∀ i ∈ is, i ∈ own.map (·.2))
    (hg : ∀ (s : Shared) (H : Hp) (A : Around) (C : Addr) (code : Value) (fp : List Addr) (pn : List (Addr × Obj)), DG G (genCx X s H (gEnv X scope C code) A fp pn) tg is gd)
    (he : ∀ (s : Shared) (H : Hp) (A : Around) (C : Addr) (code : Value) (fp : List Addr) (pn : List (Addr × Obj)), Room k A → DE G (genCx X s H (gEnv X scope C code) A fp pn) elt f)
    (hs : ∀ v, genFold iter X.env v = pure v := by intro _; rfl) (hst : starEach [.GeneratorExp elt [⟨tg, iter, [], 0⟩] scope gpos] X.env = (false, eval (.GeneratorExp elt [⟨tg, iter, [], 0⟩] scope gpos) X.env) :: starEach [] X.env := by rfl) :
    DE G X (.Call (.Name "all" p) [.GeneratorExp elt [⟨tg, iter, [], 0⟩] scope gpos] [] pos) (eGen (fun bs => bs.all id) fi gd f (own.map (·.2))) :=
  PE.weak (pe_allG hr hg0 hm TB hcode hc hN hi Go hg he hs hst) (tGen_of ok all_range his)
theorem d_any {c P : Addr} {elt tg iter : Expr} {scope : Scope} {gpos : Pos} {own : List (Str × Nat)} {fi : Fi} {gd : Fg} {k : Nat} {is : List Nat} (hr : Room (k + 1) X.A) (hg0 : Gl X "any") (hm : X.mg "any" = none) (TB : GxR.TabB X.base X.mg c P) (hcode : X.env.code = .ref c) (hc : X.calm = true) (hN : X.N.Nodup)
    (hi : DIW G X tg iter fi) (Go : GenOk X.N X.env.scope scope own) (ok : GbOk G P) (his : ∀ i ∈ is, i ∈ own.map (·.2))
    (hg : ∀ (s : Shared) (H : Hp) (A : Around) (C : Addr) (code : Value) (fp : List Addr) (pn : List (Addr × Obj)), DG G (genCx X s H (gEnv X scope C code) A fp pn) tg is gd)
    (he : ∀ (s : Shared) (H : Hp) (A : Around) (C : Addr) (code : Value) (fp : List Addr) (pn : List (Addr × Obj)), Room k A → DE G (genCx X s H (gEnv X scope C code) A fp pn) elt f)
    (hs : ∀ v, genFold iter X.env v = pure v := by intro _; rfl) (hst : starEach [.GeneratorExp elt [⟨tg, iter, [], 0⟩] scope gpos] X.env = (false, eval (.GeneratorExp elt [⟨tg, iter, [], 0⟩] scope gpos) X.env) :: starEach [] X.env := by rfl) :
    DE G X (.Call (.Name "any" p) [.GeneratorExp elt [⟨tg, iter, [], 0⟩] scope gpos] [] pos) (eGen (fun bs => bs.any id) fi gd f (own.map (·.2))) :=
  PE.weak (pe_anyG hr hg0 hm TB hcode hc hN hi Go hg he hs hst) (tGen_of ok any_range his)
end
end DL
set_option Elab.async false
set_option linter.all false
set_option maxRecDepth 100000
set_option maxHeartbeats 2000000
namespace DL
open PySem PySem.Spec PyProof.Rows L2

/-! ### statements -/
abbrev Fs := Ed → Dm Out
def tS (G : Gb) (f : Fs) : TS := fun D σ H => ∃ H0 ρ0 ρ E P, DInv G H0 ρ0 ρ σ H E ∧ f E P ∧ (∀ E', P (.nx E') → ∀ ρ' σ' H', ExtS H H' → DInv G H0 ρ0 ρ' σ' H' E' → D.nx σ' H') ∧
  (∀ d, P (.rt d) → ∀ v H', Ext ρ0 H0 H' → GOk G H' → RowIs G.K ρ0 H' → Rp H' v d → D.rt v H') ∧ (∀ E', P (.bk E') → ∀ ρ' σ' H', ExtS H H' → DInv G H0 ρ0 ρ' σ' H' E' → D.bk σ' H') ∧
  (∀ E', P (.ct E') → ∀ ρ' σ' H', ExtS H H' → DInv G H0 ρ0 ρ' σ' H' E' → D.ct σ' H')
theorem PS.weak {X : Cx} {st : Stmt} {t u : TS} (h : PS X st t) (w : ∀ D σ H, u D σ H → t D σ H) : PS X st u := ⟨fun pins s σ H D I q => h.run pins s σ H D I (w D σ H q)⟩
theorem PSs.weak {X : Cx} {st : List Stmt} {t u : TS} (h : PSs X st t) (w : ∀ D σ H, u D σ H → t D σ H) : PSs X st u := ⟨fun pins s σ H D I q => h.run pins s σ H D I (w D σ H q)⟩
section
variable {X : Cx} {G : Gb} {a b c e tg : Expr} {f g h : Fe} {fl gl : Fi} {pos p : Pos} {H0 H H' : Hp} {ρ0 ρ : Option Addr} {σ : L2.St} {E : Ed} {st : Stmt} {sts : List Stmt} {fs gs : Fs}
abbrev DS (G : Gb) (X : Cx) (st : Stmt) (f : Fs) : Prop := PS X st (tS G f)
abbrev DSs (G : Gb) (X : Cx) (sts : List Stmt) (f : Fs) : Prop := PSs X sts (tS G f)
theorem tS.use {D : Ends} {P : Out → Prop} {H1 : Hp} (e : ExtS H H1) (I : DInv G H0 ρ0 ρ σ H1 E) (h : fs E P) (k1 : ∀ E', P (.nx E') → ∀ ρ' σ' H', ExtS H H' → DInv G H0 ρ0 ρ' σ' H' E' → D.nx σ' H')
    (k2 : ∀ d, P (.rt d) → ∀ v H', Ext ρ0 H0 H' → GOk G H' → RowIs G.K ρ0 H' → Rp H' v d → D.rt v H') (k3 : ∀ E', P (.bk E') → ∀ ρ' σ' H', ExtS H H' → DInv G H0 ρ0 ρ' σ' H' E' → D.bk σ' H')
    (k4 : ∀ E', P (.ct E') → ∀ ρ' σ' H', ExtS H H' → DInv G H0 ρ0 ρ' σ' H' E' → D.ct σ' H') : tS G fs D σ H1 :=
  ⟨H0, ρ0, ρ, E, P, I, h, fun E' h ρ' σ' H' x => k1 E' h ρ' σ' H' (e.trans x), k2, fun E' h ρ' σ' H' x => k3 E' h ρ' σ' H' (e.trans x), fun E' h ρ' σ' H' x => k4 E' h ρ' σ' H' (e.trans x)⟩
def sNil : Fs := fun E Q => Q (.nx E)
def sSeq (f g : Fs) : Fs := fun E Q => f E fun o => match o with
  | .nx E' => g E' Q
  | o => Q o
theorem ss_nil : DSs G X [] sNil := PSs.weak pss_nil fun D σ H ⟨H0, ρ0, ρ, E, P, I, h, k1, k2, k3, k4⟩ => k1 E h ρ σ H (ExtS.refl _) I
theorem ss_cons (h1 : DS G X st fs) (h2 : DSs G X sts gs) : DSs G X (st :: sts) (sSeq fs gs) := PSs.weak (pss_cons h1 h2) fun D σ H ⟨H0, ρ0, ρ, E, P, I, h, k1, k2, k3, k4⟩ =>
  ⟨H0, ρ0, ρ, E, _, I, h, fun E' hE ρ' σ' H' x I' => tS.use x I' hE k1 k2 k3 k4, k2, k3, k4⟩
theorem ss_one (h1 : DS G X st fs) : DSs G X [st] fs := pss_one h1
def sStuck : Fs := fun _ _ => False
theorem s_never : DS G X st sStuck := PS.weak ps_never fun D σ H ⟨H0, ρ0, ρ, E, P, I, h, _⟩ => h.elim
theorem ss_never : DSs G X sts sStuck := PSs.weak pss_never fun D σ H ⟨H0, ρ0, ρ, E, P, I, h, _⟩ => h.elim
theorem s_pass : DS G X (.Pass pos) sNil := PS.weak ps_pass fun D σ H ⟨H0, ρ0, ρ, E, P, I, h, k1, k2, k3, k4⟩ => k1 E h ρ σ H (ExtS.refl _) I
def sBreak : Fs := fun E Q => Q (.bk E)
def sCont : Fs := fun E Q => Q (.ct E)
theorem s_break : DS G X (.Break pos) sBreak := PS.weak ps_break fun D σ H ⟨H0, ρ0, ρ, E, P, I, h, k1, k2, k3, k4⟩ => k3 E h ρ σ H (ExtS.refl _) I
theorem s_cont : DS G X (.Continue pos) sCont := PS.weak ps_continue fun D σ H ⟨H0, ρ0, ρ, E, P, I, h, k1, k2, k3, k4⟩ => k4 E h ρ σ H (ExtS.refl _) I
def sExpr (f : Fe) : Fs := fun E Q => f E fun _ => Q (.nx E)
theorem s_expr (ha : DE G X e f) (hs : swapsWith e none pos.line X.env = pure false := by rfl) : DS G X (.Expr e pos) (sExpr f) := PS.weak (ps_expr ha hs) fun D σ H ⟨H0, ρ0, ρ, E, P, I, h, k1, k2, k3, k4⟩ =>
  tE.use I h fun d hd v H1 e1 I1 r1 => k1 E hd ρ σ H1 e1.toS I1
theorem s_doc {x j pos pos'} : DS G X (.Expr (.Constant (.str x) j pos) pos') sNil := PS.weak ps_doc fun D σ H ⟨H0, ρ0, ρ, E, P, I, h, k1, k2, k3, k4⟩ => k1 E h ρ σ H (ExtS.refl _) I
def sRet (f : Fe) : Fs := fun E Q => f E fun d => Q (.rt d)
theorem s_ret (ha : DE G X e f) : DS G X (.Return (some e) pos) (sRet f) := PS.weak (ps_ret ha) fun D σ H ⟨H0, ρ0, ρ, E, P, I, h, k1, k2, k3, k4⟩ =>
  tE.use I h fun d hd v H1 e1 I1 r1 => k2 d hd v H1 I1.ext I1.g I1.row0 r1
def sRetN : Fs := fun E Q => Q (.rt .none)
theorem s_retN : DS G X (.Return none pos) sRetN := PS.weak ps_retN fun D σ H ⟨H0, ρ0, ρ, E, P, I, h, k1, k2, k3, k4⟩ => k2 _ h _ H I.ext I.g I.row0 .non
def sIf (t : Ed → Dm Bool) (f g : Fs) : Fs := fun E Q => t E fun b => if b = true then f E Q else g E Q
theorem s_if {t : Ed → Dm Bool} {xs ys : List Stmt} (hc : DT G X c t) (ha : DSs G X xs fs) (hb : DSs G X ys gs) : DS G X (.If c xs ys pos) (sIf t fs gs) := PS.weak (ps_if hc ha hb) fun D σ H ⟨H0, ρ0, ρ, E, P, I, h, k1, k2, k3, k4⟩ =>
  tT.use I h fun b hb H1 e1 I1 => by
    cases b with
    | true => rw [if_pos rfl] at hb ⊢; exact tS.use e1.toS I1 hb k1 k2 k3 k4
    | false => rw [if_neg Bool.false_ne_true] at hb ⊢; exact tS.use e1.toS I1 hb k1 k2 k3 k4

/-! ### what a name is set to: a value, a list or a dict that was just made -/
def NewSl (H H' : Hp) (v : V) : Sl → Prop
  | .val d => Rp H' v d
  | .ls ds => ∃ p vs, v = .ref p ∧ Fr0 H p ∧ H' p = some (.lst vs) ∧ RpAll H' vs ds
  | .dt kvs => ∃ p kv, v = .ref p ∧ Fr0 H p ∧ H' p = some (.dT kv) ∧ kv.map Prod.fst = kvs.map Prod.fst ∧ RpAll H' (kv.map Prod.snd) (kvs.map Prod.snd)
  | .dk kvs => ∃ p kv, v = .ref p ∧ Fr0 H p ∧ H' p = some (.dK kv) ∧ kv.map Prod.fst = kvs.map Prod.fst ∧ RpAll H' (kv.map Prod.snd) (kvs.map Prod.snd)
  | .fs rs => ∃ p vs, v = .ref p ∧ Fr0 H p ∧ H' p = some (.lst vs) ∧ FnVs H' vs rs
  | .fn r => FnV H' v r
  | .adr a => v = .ref a
  | _ => False
abbrev Fx := Ed → Dm Sl
def tX (G : Gb) (f : Fx) : TE := fun σ H Q => ∃ H0 ρ0 ρ E P, DInv G H0 ρ0 ρ σ H E ∧ f E P ∧ ∀ sl, P sl → ∀ v H', Ext ρ H H' → GOk G H' → RowIs G.K ρ H' → NewSl H H' v sl → Q v H'
abbrev DX (G : Gb) (X : Cx) (e : Expr) (f : Fx) : Prop := PE X e (tX G f)
theorem tX.use {f : Fx} {P : Sl → Prop} {Q : VK} (I : DInv G H0 ρ0 ρ σ H E) (h : f E P) (k : ∀ sl, P sl → ∀ v H', Ext ρ H H' → DInv G H0 ρ0 ρ σ H' E → NewSl H H' v sl → Q v H') : tX G f σ H Q :=
  ⟨_, _, _, _, _, I, h, fun d hd v H' e g r hr => k d hd v H' e (I.to e g r) hr⟩
def xV (f : Fe) : Fx := fun E Q => f E fun d => Q (.val d)
def xL (f : Fi) : Fx := fun E Q => f E fun ds => Q (.ls ds)
theorem x_val (ha : DE G X e f) : DX G X e (xV f) := PE.weak ha fun σ H Q ⟨H0, ρ0, ρ, E, P, I, h, k⟩ => tE.use I h fun d hd v H1 e1 I1 r1 => k _ hd v H1 e1 I1.g I1.row r1
theorem x_ls (ha : DN G X e fl) : DX G X e (xL fl) := PE.weak ha fun σ H Q ⟨H0, ρ0, ρ, E, P, I, h, k⟩ => tN.use I h fun ds hd p vs H1 e1 I1 f1 h1 r1 => k _ hd _ H1 e1 I1.g I1.row ⟨p, vs, rfl, f1, h1, r1⟩
def xD0 : Fx := fun E Q => Q (.dt [])
def xK0 : Fx := fun E Q => Q (.dk [])
theorem x_dt0 : DX G X (.Dict [] [] pos) xD0 := PE.weak pe_dnewT fun σ H Q ⟨H0, ρ0, ρ, E, P, I, h, k⟩ => fun q hq => k _ h _ _ ((Ext.refl ρ H).upd hq) (I.new hq).g (I.new hq).row ⟨q, [], rfl, Fr0.of_none hq, upd_same, rfl, .nil⟩
theorem x_dk0 : DX G X (.Dict [] [] pos) xK0 := PE.weak pe_dnewK fun σ H Q ⟨H0, ρ0, ρ, E, P, I, h, k⟩ => fun q hq => k _ h _ _ ((Ext.refl ρ H).upd hq) (I.new hq).g (I.new hq).row ⟨q, [], rfl, Fr0.of_none hq, upd_same, rfl, .nil⟩
/-- {k: v}, k a tuple of ints and texts -/
def tDisp1 (tk tv : TE) : TE := fun σ H Q => ∀ p, H p = none → tk σ (upd H p (.dT [])) fun x H1 => tv σ H1 fun y H2 => H2 p = some (.dT []) ∧ ∃ (q : Addr) (k : List Key), x = .ref q ∧ H2 q = some (.tup (k.map kV)) ∧ Q (.ref p) (upd H2 p (.dT [(k, y)]))
theorem pe_disp1 {ek ev : Expr} {tk tv : TE} (hu : X.A.units + 1 < cLine) (hk : PE X ek tk) (hv : PE X ev tv) : PE X (.Dict [some ek] [ev] pos) (tDisp1 tk tv) := by
  refine ⟨fun pins s σ H Q I q => ?_⟩
  have hn := I.hok.fresh (Nat.le_refl s.heap.objs.size)
  have I1 := I.laid (a := s.heap.objs.size) (o := .dT []) (h' := s.heap.push { cls := .type "dict", data := .dict #[] }) (t' := s.toks) (fun _ _ q => Heap.get?_push_of_some _ q) (Nat.le_refl _) (dt_empty s.heap I.big)
  have hu0 : (tupleKind (mixKind X.prog X.w)).room X.A := (show X.A.units < cLine by omega)
  rw [arm_eval_Dict]
  have hsh : (evalEachOpt [some ek] X.env).zip ((evalEach [ev] X.env).map fun v => do let x ← v; standAt pos; pure x) = (pairTrees [some ek] [ev] X.env pos).map fun p => (some p.1, p.2) := rfl
  rw [hsh, dictDisplay_pairs _ (by intro z; cases z) (by show 1 < 17; decide)]
  refine wpAny_bind (wpAny_standAt (wpAny_bind (wpAny_subDictH (knd := tupleKind (mixKind X.prog X.w)) (Q := fun d s' => wpAny (model X.prog X.w) X.A (pure (Value.ref d)) (EP X pins σ Q) X.xe s') hu0 (by show 1 ≤ 15; decide) ?_)))
  refine pairTrees_cons_walk (thn (hk.run pins _ σ _ _ I1 (q _ hn)) fun u s1 ⟨x, H1, I2, rx, q1⟩ => thn (hv.run pins s1 σ H1 _ I2 q1) fun w2 s2 ⟨y, H2, I3, ry, q2⟩ => pairTrees_nil_walk ?_)
  obtain ⟨hp, b, k, ex, hb, q2⟩ := q2
  subst ex
  obtain rfl : u = Value.ref b := rx
  obtain ⟨z, hd, xs, rel, dd⟩ := dt_of I3.hok hp
  have e0 : xs = [] := by have := Paired.length rel; exact List.eq_nil_of_length_eq_zero (by rw [← this]; rfl)
  subst e0
  refine ⟨[(k, b, w2)], ⟨rfl, rfl, key_of I3.hok hb, True.intro⟩, dd, fun h' tk dd' hs => wpAny_pure ?_⟩
  have rel2 : KT H2 [(k, y)] (storedH [] k b w2) := rel.put k hb ry
  obtain ⟨q', es, ep, hq', h2, h3, h4, _, h5⟩ := dd'
  have I4 := d_write (t' := tk) (ob := .dT [(k, y)]) I3 (by rw [hp]; exact True.intro) hs ⟨q', hq'⟩ ⟨by show 1 ≤ sizeLine; decide, hd, _, rel2.keeps fun c ys ec => by
    rw [upd_ne (ne_of ec hp (fun z => nomatch z))]; exact ec, q', es, ep, hq', h2, h3, h4, h5⟩
  exact ⟨.ref s.heap.objs.size, _, I4, rfl, q2⟩
def xD1 (f g : Fe) : Fx := fun E Q => f E fun d => g E fun d' => ∃ k : List Key, d = tupD k ∧ Q (.dt [(k, d')])
theorem key_rp {H : Hp} : ∀ {k : List Key} {xs : List V}, RpAll H xs (k.map keyD) → xs = k.map kV
  | [], _, h => by cases h; rfl
  | .inl i :: k, _, h => by
    cases h with
    | cons r t => cases r; rw [key_rp t]; rfl
  | .inr i :: k, _, h => by
    cases h with
    | cons r t => cases r; rw [key_rp t]; rfl
theorem x_dt1 {ek ev : Expr} (hu : X.A.units + 1 < cLine) (hk : DE G X ek f) (hv : DE G X ev g) : DX G X (.Dict [some ek] [ev] pos) (xD1 f g) :=
  PE.weak (pe_disp1 hu hk hv) fun σ H Q ⟨H0, ρ0, ρ, E, P, I, h, k⟩ => fun q hq => by
    have I1 := I.new (o := .dT []) hq
    have f0 : Fr0 H q := Fr0.of_none hq
    refine tE.use I1 h fun d hd v H1 e1 I2 r1 => tE.use I2 hd fun d' ⟨kk, ed, hd2⟩ w H2 e2 I3 r2 => ?_
    subst ed
    have hp : H2 q = some (.dT []) := e2 _ _ (e1 _ _ upd_same (fun ps z => by cases z) fun z => absurd z (I.noRow f0)) (fun ps z => by cases z) fun z => absurd z (I.noRow f0)
    cases r1 with
    | @tup b xs _ h1 h2 =>
      have := key_rp h2
      subst this
      refine ⟨hp, b, kk, rfl, e2.toS _ _ h1 True.intro, ?_⟩
      have e0 : Ext ρ H H2 := (((Ext.refl ρ H).upd hq).trans e1).trans e2
      obtain ⟨g1, g2, g3⟩ := I.fresh_put (o := .dT [(kk, w)]) e0 I3 f0 hp chg_dT
      exact k _ hd2 _ _ g1 g2.g g2.row ⟨q, _, rfl, f0, upd_same, rfl, .cons (r2.ext g3) .nil⟩

/-! ### assignments -/
theorem DInv.fr0 {q : Addr} (I : DInv G H0 ρ0 ρ σ H E) (f : Fr0 H q) : Fr0 H0 q := fun o e => Classical.byContradiction fun n => by
  have := I.ext q o e (fun ps z => n ⟨ps, z⟩) (fun z => by
    obtain ⟨_, _, _, _, _, _, w, _⟩ := I.row0 q z
    obtain ⟨ps, e2⟩ := f _ w
    cases e2)
  obtain ⟨ps, e2⟩ := f o this
  exact n ⟨ps, e2⟩
theorem DInv.notOwned {q : Addr} (I : DInv G H0 ρ0 ρ σ H E) (f : Fr0 H q) : ∀ (j : Nat) (s : Sl), E[j]? = some s → s.own = true → σ[j]? ≠ some (some (.ref q)) := fun j s hj ho z => by
  have h := I.slot j s hj
  cases s with
  | ls ds =>
    obtain ⟨a, vs, h1, h2, _⟩ := h
    rw [z] at h1; cases h1
    obtain ⟨ps, e⟩ := f _ h2
    cases e
  | dt ds =>
    obtain ⟨a, vs, h1, h2, _⟩ := h
    rw [z] at h1; cases h1
    obtain ⟨ps, e⟩ := f _ h2
    cases e
  | dk ds =>
    obtain ⟨a, vs, h1, h2, _⟩ := h
    rw [z] at h1; cases h1
    obtain ⟨ps, e⟩ := f _ h2
    cases e
  | fs ds =>
    obtain ⟨a, vs, h1, h2, _⟩ := h
    rw [z] at h1; cases h1
    obtain ⟨ps, e⟩ := f _ h2
    cases e
  | _ => cases ho
/-- a new thing comes to a slot -/
theorem DInv.take {i : Nat} {v : V} {sl : Sl} {H1 : Hp} (I : DInv G H0 ρ0 ρ σ H E) (I1 : DInv G H0 ρ0 ρ σ H1 E) (n : NewSl H H1 v sl) : DInv G H0 ρ0 ρ (σ.set i (some v)) H1 (E.set i sl) := by
  cases sl with
  | val d => exact I1.set rfl ⟨v, rfl, n⟩
  | ls ds =>
    obtain ⟨p, vs, rfl, f, h1, h2⟩ := n
    exact I1.setOwn rfl ⟨p, vs, rfl, h1, h2, I.noRow f⟩ (I.fr0 f) (I.notOwned f)
  | dt ds =>
    obtain ⟨p, vs, rfl, f, h1, h2, h3⟩ := n
    exact I1.setOwn rfl ⟨p, vs, rfl, h1, h2, h3⟩ (I.fr0 f) (I.notOwned f)
  | dk ds =>
    obtain ⟨p, vs, rfl, f, h1, h2, h3⟩ := n
    exact I1.setOwn rfl ⟨p, vs, rfl, h1, h2, h3⟩ (I.fr0 f) (I.notOwned f)
  | fs ds =>
    obtain ⟨p, vs, rfl, f, h1, h2⟩ := n
    exact I1.setOwn rfl ⟨p, vs, rfl, h1, h2, I.noRow f⟩ (I.fr0 f) (I.notOwned f)
  | fn r => exact I1.set rfl ⟨v, rfl, n⟩
  | adr a => exact I1.set rfl (by rw [show v = .ref a from n]; rfl)
  | xs _ _ _ _ => exact n.elim
  | no => exact n.elim
  | row => exact n.elim
theorem fr0_back {q : Addr} {H1 : Hp} (I1 : DInv G H0 ρ0 ρ σ H1 E) (e : Ext ρ H H1) (f : Fr0 H1 q) : Fr0 H q := fun o h => Classical.byContradiction fun n => by
  have := e q o h (fun ps z => n ⟨ps, z⟩) (fun z => absurd z (I1.noRow f))
  obtain ⟨ps, e2⟩ := f o this
  exact n ⟨ps, e2⟩
def sSet (i : Nat) (f : Fx) : Fs := fun E Q => f E fun sl => Q (.nx (E.set i sl))
theorem s_set (i : Nat) {x : Str} {pos' : Pos} {fx : Fx} (hN : X.N.Nodup) (he : DX G X e fx) (hi : X.N[i]? = some x := by rfl) (hx : Loc X.env.scope x := by first | exact Or.inl rfl | exact Or.inr rfl) (hs : swapsWith e (some (.Name x pos')) pos.line X.env = pure false := by rfl)
    (hf : X.fn x = true ∨ X.env.scope.names.lookup x = some .local := by first | exact .inl rfl | exact .inr rfl) : DS G X (.Assign [.Name x pos'] e pos) (sSet i fx) :=
  PS.weak (ps_set hN hi hx he hs hf) fun D σ H ⟨H0, ρ0, ρ, E, P, I, h, k1, k2, k3, k4⟩ => tX.use I h fun sl hsl v H1 e1 I1 n => k1 _ hsl ρ _ H1 e1.toS (I.take I1 n)
/-- name = [.. for ..] -/
theorem s_setLc (i : Nat) {y : Str} {py : Pos} {elt tg iter : Expr} {ifs : List Expr} {scope : Scope} {own : List (Str × Nat)} {pos spos : Pos} {fi : Fi} {gd : Fg} {t : Ed → Dm Bool} {is : List Nat} (hc : X.calm = true) (hN : X.N.Nodup) (hi : DIW G X tg iter fi) (ok : BlkOk X.N X.env.scope scope own) (his : ∀ i ∈ is, i ∈ own.map (·.2))
    (hg : ∀ (s : Shared) (H : Hp) (C : Addr) (cl : List (Str × Addr)) (fp : List Addr), DG G (X.blk s H scope (compEnvC scope cl C X.env) fp) tg is gd) (ht : ∀ (s : Shared) (H : Hp) (C : Addr) (cl : List (Str × Addr)) (fp : List Addr), DTs G (X.blk s H scope (compEnvC scope cl C X.env) fp) ifs t)
    (he : ∀ (s : Shared) (H : Hp) (C : Addr) (cl : List (Str × Addr)) (fp : List Addr), DE G (X.blk s H scope (compEnvC scope cl C X.env) fp) elt f)
    (hsw : swapsWith (.ListComp elt [⟨tg, iter, ifs, 0⟩] scope pos) (some (.Name y py)) spos.line X.env = pure true) (hy : X.N[i]? = some y := by rfl) (hyl : X.env.scope.names.lookup y = some .local := by rfl) (hs : ∀ x, foldedSetIterable iter X.env x = pure x := by intro _; rfl) :
    DS G X (.Assign [.Name y py] (.ListComp elt [⟨tg, iter, ifs, 0⟩] scope pos) spos) (sSet i (xL (nComp fi gd t f (own.map (·.2))))) := by
  exact PS.weak (ps_setLc hc hN hy hyl hsw hi ok hg ht he hs) fun D σ H ⟨H0, ρ0, ρ, E, P, I, h, k1, k2, k3, k4⟩ => tLc_of his σ H _ (tN.use I h fun ds hd p vs H1 e1 I1 f1 h1 r1 => k1 _ hd ρ _ H1 e1.toS (I.take I1 ⟨p, vs, rfl, f1, h1, r1⟩))
/-- several at once, the names plain locals -/
def sPar2 (i j : Nat) (f g : Fx) : Fs := fun E Q => f E fun s1 => g E fun s2 => Q (.nx ((E.set i s1).set j s2))
theorem NewSl.ext {H1 H2 : Hp} {v : V} {sl : Sl} (n : NewSl H H1 v sl) (e : Ext ρ H1 H2) (hr : ∀ q, Fr0 H q → ρ ≠ some q) : NewSl H H2 v sl := by
  cases sl with
  | val d => exact Rp.ext e.toS n
  | ls ds => obtain ⟨p, vs, rfl, f, h1, h2⟩ := n; exact ⟨p, vs, rfl, f, e _ _ h1 (fun ps z => by cases z) fun z => absurd z (hr p f), h2.ext e.toS⟩
  | dt ds => obtain ⟨p, vs, rfl, f, h1, h2, h3⟩ := n; exact ⟨p, vs, rfl, f, e _ _ h1 (fun ps z => by cases z) fun z => absurd z (hr p f), h2, h3.ext e.toS⟩
  | dk ds => obtain ⟨p, vs, rfl, f, h1, h2, h3⟩ := n; exact ⟨p, vs, rfl, f, e _ _ h1 (fun ps z => by cases z) fun z => absurd z (hr p f), h2, h3.ext e.toS⟩
  | fs ds => obtain ⟨p, vs, rfl, f, h1, h2⟩ := n; exact ⟨p, vs, rfl, f, e _ _ h1 (fun ps z => by cases z) fun z => absurd z (hr p f), h2.ext e.toS⟩
  | fn r => exact FnV.ext e.toS n
  | adr a => exact n
  | xs _ _ _ _ => exact n.elim
  | no => exact n.elim
  | row => exact n.elim
/-- two new things, one after the other -/
theorem take2 {i j : Nat} {v w : V} {s1 s2 : Sl} {H1 H2 : Hp} (I : DInv G H0 ρ0 ρ σ H E) (I1 : DInv G H0 ρ0 ρ σ H1 E) (e1 : Ext ρ H H1) (n1 : NewSl H H1 v s1) (I2 : DInv G H0 ρ0 ρ σ H2 E) (e2 : Ext ρ H1 H2) (n2 : NewSl H1 H2 w s2) :
    DInv G H0 ρ0 ρ ((σ.set i (some v)).set j (some w)) H2 ((E.set i s1).set j s2) := by
  have J1 : DInv G H0 ρ0 ρ (σ.set i (some v)) H1 (E.set i s1) := I.take I1 n1
  have J2 : DInv G H0 ρ0 ρ (σ.set i (some v)) H2 (E.set i s1) := J1.to e2 I2.g I2.row
  exact J1.take J2 n2
theorem s_par2 (i j : Nat) {x y : Str} {px py pt : Pos} {kt k2 pt2} {fx gx : Fx} (hc : X.calm = true) (hN : X.N.Nodup) (hij : i ≠ j) (ha : DX G X a fx) (hb : DX G X b gx) (hw : swappedStores [.Tuple [.Name x px, .Name y py] kt pt] (.Tuple [a, b] k2 pt2) X.env = pure (some [x, y]))
    (hi : X.N[i]? = some x := by rfl) (hj : X.N[j]? = some y := by rfl) (hx : X.env.scope.names.lookup x = some .local := by rfl) (hy : X.env.scope.names.lookup y = some .local := by rfl)
    (hs : swapsWithSole [.Tuple [.Name x px, .Name y py] kt pt] (.Tuple [a, b] k2 pt2) pos.line X.env = pure false := by rfl) (hs1 : starEach [a, b] X.env = (false, eval a X.env) :: starEach [b] X.env := by rfl) (hs2 : starEach [b] X.env = (false, eval b X.env) :: starEach [] X.env := by rfl) :
    DS G X (.Assign [.Tuple [.Name x px, .Name y py] kt pt] (.Tuple [a, b] k2 pt2) pos) (sPar2 i j fx gx) :=
  PS.weak (ps_par hc hN hi hj hij hx hy (pa_cons ha (pa_cons hb pa_nil hs2) hs1) hw hs) fun D σ H ⟨H0, ρ0, ρ, E, P, I, h, k1, k2, k3, k4⟩ => by
    show tX G fx σ H fun v H1 => tX G gx σ H1 fun w H2 => ∃ v' w', [v, w] = [v', w'] ∧ D.nx ((σ.set i (some v')).set j (some w')) H2
    exact tX.use I h fun s1 hs1 v H1 e1 I1 n1 => tX.use I1 hs1 fun s2 hs2 w H2 e2 I2 n2 => ⟨v, w, rfl, k1 _ hs2 ρ _ H2 (e1.trans e2).toS (take2 I I1 e1 n1 I2 e2 n2)⟩
def sPar3 (i j l : Nat) (f g h : Fx) : Fs := fun E Q => f E fun s1 => g E fun s2 => h E fun s3 => Q (.nx (((E.set i s1).set j s2).set l s3))
theorem s_par3 (i j l : Nat) {x y z : Str} {px py pz pt : Pos} {kt k2 pt2} {fx gx hx' : Fx} (hc : X.calm = true) (hN : X.N.Nodup) (hij : i ≠ j) (hil : i ≠ l) (hjl : j ≠ l) (ha : DX G X a fx) (hb : DX G X b gx) (hcc : DX G X c hx') (hw : swappedStores [.Tuple [.Name x px, .Name y py, .Name z pz] kt pt] (.Tuple [a, b, c] k2 pt2) X.env = pure (some [x, y, z]))
    (hi : X.N[i]? = some x := by rfl) (hj : X.N[j]? = some y := by rfl) (hl : X.N[l]? = some z := by rfl) (hx : X.env.scope.names.lookup x = some .local := by rfl) (hy : X.env.scope.names.lookup y = some .local := by rfl) (hz : X.env.scope.names.lookup z = some .local := by rfl)
    (hs : swapsWithSole [.Tuple [.Name x px, .Name y py, .Name z pz] kt pt] (.Tuple [a, b, c] k2 pt2) pos.line X.env = pure false := by rfl) (hs1 : starEach [a, b, c] X.env = (false, eval a X.env) :: starEach [b, c] X.env := by rfl) (hs2 : starEach [b, c] X.env = (false, eval b X.env) :: starEach [c] X.env := by rfl) (hs3 : starEach [c] X.env = (false, eval c X.env) :: starEach [] X.env := by rfl) :
    DS G X (.Assign [.Tuple [.Name x px, .Name y py, .Name z pz] kt pt] (.Tuple [a, b, c] k2 pt2) pos) (sPar3 i j l fx gx hx') :=
  PS.weak (ps_par3 hc hN hi hj hl hij hil hjl hx hy hz (pa_cons ha (pa_cons hb (pa_cons hcc pa_nil hs3) hs2) hs1) hw hs) fun D σ H ⟨H0, ρ0, ρ, E, P, I, h, k1, k2, k3, k4⟩ => by
    show tX G fx σ H fun v H1 => tX G gx σ H1 fun w H2 => tX G hx' σ H2 fun u H3 => ∃ v' w' u', [v, w, u] = [v', w', u'] ∧ D.nx (((σ.set i (some v')).set j (some w')).set l (some u')) H3
    exact tX.use I h fun s1 hs1 v H1 e1 I1 n1 => tX.use I1 hs1 fun s2 hs2 w H2 e2 I2 n2 => tX.use I2 hs2 fun s3 hs3 u H3 e3 I3 n3 => ⟨v, w, u, rfl, k1 _ hs3 ρ _ H3 ((e1.trans e2).trans e3).toS (by
      have J2 := take2 (i := i) (j := j) I I1 e1 n1 I2 e2 n2
      exact J2.take (J2.to e3 I3.g I3.row) n3)⟩
/-- a tuple taken apart -/
def sAsg (f : Fe) (g : Fg) : Fs := fun E Q => f E fun d => g d E fun E' => Q (.nx E')
theorem s_asg {is : List Nat} {gd : Fg} (he : DE G X e f) (hg : DG G X tg is gd) (hs : swapsWithSole [tg] e pos.line X.env = pure false := by rfl) (hw : swappedStores [tg] e X.env = pure none := by rfl) (h1 : (assignEach [tg] X.env).map (·.2) = [assign tg X.env] := by rfl) :
    DS G X (.Assign [tg] e pos) (sAsg f gd) := PS.weak (ps_asg he hg hs hw h1) fun D σ H ⟨H0, ρ0, ρ, E, P, I, h, k1, k2, k3, k4⟩ => tE.use I h fun d hd v H1 e1 I1 r1 => tTg_mono I1 r1 hd fun E' hE' σ' I' _ => k1 E' hE' ρ σ' H1 e1.toS I'
/-- a list of one's own becomes a value ahead of a statement -/
theorem ps_frz {t : TS} (h : PS X st t) : PS X st (fun D σ H => ∃ d u, H d = some u ∧ Mut (some u) ∧ ∀ od, t D σ (upd H d (.frz od u))) := ⟨fun pins s σ H D I ⟨d, u, hu, mu, q⟩ => by
  obtain ⟨od, I2⟩ := I.lock hu mu
  exact h.run pins s σ _ D I2 (q od)⟩
def dictD (kvs : List (List Key × PyData)) : PyData := .dict (((kvs.map Prod.fst).map tupD).zip (kvs.map Prod.snd))
def sFrz (j : Nat) (f : Fs) : Fs := fun E Q => match E[j]? with
  | some (.ls ds) => f (E.set j (.val (.list ds))) Q
  | some (.dt kvs) => f (E.set j (.val (dictD kvs))) Q
  | _ => False
theorem s_frz (j : Nat) (h : DS G X st fs) : DS G X st (sFrz j fs) := PS.weak (ps_frz h) fun D σ H ⟨H0, ρ0, ρ, E, P, I, h, k1, k2, k3, k4⟩ => by
  unfold sFrz at h
  split at h
  · rename_i ds e
    obtain ⟨a, vs, h1, h2, h3, h4⟩ := I.slot j _ e
    have eS : ∀ od, ExtS H (upd H a (.frz od (.lst vs))) := fun od b x hb s => by
      rw [upd_ne (fun z => by subst z; rw [h2] at hb; cases hb; exact s)]; exact hb
    exact ⟨a, _, h2, True.intro, fun od => tS.use (eS od) (I.freeze e rfl h1 h2 chg_lst h4 (.lst upd_same (h3.ext (eS od)))) h k1 k2 k3 k4⟩
  · rename_i kvs e
    obtain ⟨a, kv, h1, h2, h3, h4⟩ := I.slot j _ e
    have eS : ∀ od, ExtS H (upd H a (.frz od (.dT kv))) := fun od b x hb s => by
      rw [upd_ne (fun z => by subst z; rw [h2] at hb; cases hb; exact s)]; exact hb
    have hr : ρ ≠ some a := fun z => by
      obtain ⟨_, _, _, _, _, _, w, _⟩ := I.row a z
      rw [h2] at w; cases w
    refine ⟨a, _, h2, True.intro, fun od => tS.use (eS od) (I.freeze e rfl h1 h2 chg_dT hr ?_) h k1 k2 k3 k4⟩
    unfold dictD
    rw [← h3]
    exact .dct upd_same (h4.ext (eS od))
  · exact h.elim
/-- .. behind a statement -/
theorem ps_frzA {t : TS} (h : PS X st t) : PS X st (fun D σ H => t { D with nx := fun σ' H' => ∃ d u, H' d = some u ∧ Mut (some u) ∧ ∀ od, D.nx σ' (upd H' d (.frz od u)) } σ H) := ⟨fun pins s σ H D I q =>
  thn (h.run pins s σ H _ I q) fun fl s1 r => by
    cases fl with
    | next =>
      obtain ⟨σ', H', I', d, u, hu, mu, q⟩ := r
      obtain ⟨od, I2⟩ := I'.lock hu mu
      exact ⟨σ', _, I2, q od⟩
    | brk => exact r
    | cont => exact r
    | ret v => exact r⟩
def sThenFrz (j : Nat) (f : Fs) : Fs := fun E Q => f E fun o => match o with
  | .nx E' => match E'[j]? with
    | some (.ls ds) => Q (.nx (E'.set j (.val (.list ds))))
    | _ => False
  | o => Q o
theorem s_thenFrz (j : Nat) (h : DS G X st fs) : DS G X st (sThenFrz j fs) := PS.weak (ps_frzA h) fun D σ H ⟨H0, ρ0, ρ, E, P, I, h, k1, k2, k3, k4⟩ =>
  ⟨H0, ρ0, ρ, E, _, I, h, fun E' hE ρ' σ' H' x I' => by
    have hE : (match E'[j]? with
      | some (.ls ds) => P (.nx (E'.set j (.val (.list ds))))
      | _ => False) := hE
    split at hE
    · rename_i ds e
      obtain ⟨a, vs, h1, h2, h3, h4⟩ := I'.slot j _ e
      have eS : ∀ od, ExtS H' (upd H' a (.frz od (.lst vs))) := fun od b x hb s => by
        rw [upd_ne (fun z => by subst z; rw [h2] at hb; cases hb; exact s)]; exact hb
      exact ⟨a, _, h2, True.intro, fun od => k1 _ hE ρ' σ' _ (x.trans (eS od)) (I'.freeze e rfl h1 h2 chg_lst h4 (.lst upd_same (h3.ext (eS od))))⟩
    · exact hE.elim, k2, k3, k4⟩

/-! ### loops -/
def sForL (g : Fg) (body : Fs) : List PyData → Fs
  | [], E, Q => Q (.nx E)
  | d :: ds, E, Q => g d E fun E1 => body E1 fun o => match o with
    | .nx E' => sForL g body ds E' Q
    | .ct E' => sForL g body ds E' Q
    | .bk E' => Q (.nx E')
    | .rt d => Q (.rt d)
def sFor (fi : Fi) (g : Fg) (body : Fs) : Fs := fun E Q => fi E fun ds => sForL g body ds E Q
theorem s_for {fi : Fi} {gd : Fg} {is : List Nat} {iter : Expr} {body : List Stmt} (hp : PassesOwn (model X.prog X.w) X.A X.env X.xe) (hc : X.calm = true) (hi : DIS G X tg iter fi) (hg : DG G X tg is gd) (hb : DSs G X body fs) (hs : ∀ x, foldedSetIterable iter X.env x = pure x := by intro _; rfl) :
    DS G X (.For tg iter body [] pos) (sFor fi gd fs) := PS.weak (ps_for hp hc hi hg hb hs) fun D σ H ⟨H0, ρ0, ρ, E, P, I, h, k1, k2, k3, k4⟩ => ⟨H0, ρ0, ρ, E, _, I, h, fun ds hds J H1 e1 g1 r1 sv => by
    have I1 := I.to e1 g1 r1
    refine ⟨fun i m σ2 H2 => ∃ ρ2 E2, DInv G H0 ρ0 ρ2 σ2 H2 E2 ∧ ExtS H1 H2 ∧ i + m = ds.length ∧ sForL gd fs (ds.drop i) E2 P, ⟨ds.length, ρ, E, I1, ExtS.refl _, Nat.zero_add _, hds⟩, ?_⟩
    rintro i m σ2 H2 ⟨ρ2, E2, I2, e2, em, hf⟩
    obtain ⟨s1, s2⟩ := sv i H2 e2
    by_cases hlt : i < ds.length
    · have ed : ds.drop i = ds[i] :: ds.drop (i + 1) := List.drop_eq_getElem_cons hlt
      rw [ed] at hf
      obtain ⟨go, yl⟩ := s1 _ (List.getElem?_eq_getElem hlt)
      refine .inr ⟨go, fun σ3 H3 => ∃ ρ2 E2, DInv G H0 ρ0 ρ2 σ3 H3 E2 ∧ ExtS H1 H3 ∧ sForL gd fs (ds.drop (i + 1)) E2 P, fun σ3 H3 ⟨ρ3, E3, q1, q2, q3⟩ => ⟨m - 1, by omega, ρ3, E3, q1, q2, by omega, q3⟩, fun x H3 hy => ?_⟩
      obtain ⟨gr, rx⟩ := yl x H3 hy
      have I3 := I2.grow gr
      have e3 : ExtS H1 H3 := e2.trans (gr.ext none).toS
      exact tTg_mono I3 rx hf fun E3 hE3 σ3 J3 _ => ⟨H0, ρ0, ρ2, E3, _, J3, hE3, fun E' hE ρ' σ' H' x I' => ⟨ρ', E', I', e3.trans x, hE⟩, k2, fun E' hE ρ' σ' H' x I' => k1 E' hE ρ' σ' H' ((e1.toS.trans e3).trans x) I', fun E' hE ρ' σ' H' x I' => ⟨ρ', E', I', e3.trans x, hE⟩⟩
    · have hi : i = ds.length := by omega
      rw [List.drop_of_length_le (by omega)] at hf
      exact .inl ⟨s2 hi, k1 _ hf ρ2 σ2 H2 (e1.toS.trans e2) I2⟩⟩
/-- while: an invariant with a measure -/
def sWhile (t : Ed → Dm Bool) (body : Fs) : Fs := fun E Q => ∃ W : Nat → Ed → Prop, (∃ m, W m E) ∧ ∀ m E, W m E → t E fun b => if b = true then body E fun o => (match o with
    | .nx E' => ∃ m', m' < m ∧ W m' E'
    | .ct E' => ∃ m', m' < m ∧ W m' E'
    | .bk E' => Q (.nx E')
    | .rt d => Q (.rt d)) else Q (.nx E)
theorem s_while {t : Ed → Dm Bool} {body : List Stmt} (hp : PassesOwn (model X.prog X.w) X.A X.env X.xe) (hc : DT G X c t) (hb : DSs G X body fs) : DS G X (.While c body [] pos) (sWhile t fs) :=
  PS.weak (ps_while hp hc hb) fun D σ H ⟨H0, ρ0, ρ, E, P, I, ⟨W, ⟨m0, w0⟩, hW⟩, k1, k2, k3, k4⟩ => by
    refine ⟨fun m σ2 H2 => ∃ ρ2 E2, DInv G H0 ρ0 ρ2 σ2 H2 E2 ∧ ExtS H H2 ∧ W m E2, ⟨m0, ρ, E, I, ExtS.refl _, w0⟩, ?_⟩
    rintro m σ2 H2 ⟨ρ2, E2, I2, x2, w2⟩
    refine tT.use I2 (hW m E2 w2) fun b hb H3 e3 I3 => ?_
    cases b with
    | true =>
      rw [if_pos rfl] at hb ⊢
      exact ⟨fun σ' H' => ∃ m', m' < m ∧ ∃ ρ2 E2, DInv G H0 ρ0 ρ2 σ' H' E2 ∧ ExtS H H' ∧ W m' E2, fun σ' H' h => h, ⟨H0, ρ0, ρ2, E2, _, I3, hb, fun E' ⟨m', hm, hE⟩ ρ' σ' H' x I' => ⟨m', hm, ρ', E', I', (x2.trans e3.toS).trans x, hE⟩, k2,
        fun E' hE ρ' σ' H' x I' => k1 E' hE ρ' σ' H' ((x2.trans e3.toS).trans x) I', fun E' ⟨m', hm, hE⟩ ρ' σ' H' x I' => ⟨m', hm, ρ', E', I', (x2.trans e3.toS).trans x, hE⟩⟩⟩
    | false =>
      rw [if_neg Bool.false_ne_true] at hb ⊢
      exact k1 _ hb ρ2 σ2 H3 (x2.trans e3.toS) I3
end
end DL
set_option Elab.async false
set_option linter.all false
set_option maxRecDepth 100000
set_option maxHeartbeats 2000000
namespace DL
open PySem PySem.Spec PyProof.Rows L2
section
variable {X : Cx} {G : Gb} {a b c e tg : Expr} {f g h : Fe} {fl gl : Fi} {pos p : Pos} {H0 H H' : Hp} {ρ0 ρ : Option Addr} {σ : L2.St} {E : Ed} {st : Stmt} {sts : List Stmt} {fs gs : Fs}

/-! ### name op= value -/
def sAugI (i : Nat) (o : Int → Int → Int) (f : Fe) : Fs := fun E Q => ∃ m, E[i]? = some (.val (.int m)) ∧ f E fun d => ∃ n, d = .int n ∧ Q (.nx (E.set i (.val (.int (o m n)))))
theorem s_augI {op : Operator} {o : Int → Int → Int} (i : Nat) {x : Str} {pos' : Pos} (ho : PIp X op (ipI o)) (hN : X.N.Nodup) (he : DE G X e f) (hi : X.N[i]? = some x := by rfl) (hx : Loc X.env.scope x := by first | exact Or.inl rfl | exact Or.inr rfl) (hf : X.fn x = true ∨ X.env.scope.names.lookup x = some .local := by first | exact .inl rfl | exact .inr rfl) :
    DS G X (.AugAssign (.Name x pos') op e pos) (sAugI i o f) := PS.weak (ps_aug hN hi hx he ho hf) fun D σ H ⟨H0, ρ0, ρ, E, P, I, ⟨m, hm, h⟩, k1, k2, k3, k4⟩ => by
  obtain ⟨v, hv, r⟩ := I.slot i _ hm
  cases r
  exact ⟨_, hv, tE.use I h fun d ⟨n, ed, hd⟩ w H1 e1 I1 r1 => by
    subst ed
    cases r1
    exact ⟨m, n, rfl, rfl, k1 _ hd ρ _ H1 e1.toS (I1.set rfl ⟨_, rfl, .int _⟩)⟩⟩
def sAugL (i : Nat) (f : Fi) : Fs := fun E Q => ∃ xs, E[i]? = some (.ls xs) ∧ f E fun ys => xs.length + ys.length ≤ sizeLine ∧ Q (.nx (E.set i (.ls (xs ++ ys))))
theorem DInv.unset {i : Nat} {v : V} (I : DInv G H0 ρ0 ρ σ H E) (h : σ[i]? = some (some v)) : σ.set i (some v) = σ := by
  apply List.ext_getElem?
  intro j
  by_cases e : i = j
  · subst e
    rw [List.getElem?_set_self (List.getElem?_eq_some_iff.mp h).1, h]
  · rw [List.getElem?_set_ne e]
theorem own_put {i : Nat} {q : Addr} {vs us : List V} {xs ys : List PyData} {H1 : Hp} (I1 : DInv G H0 ρ0 ρ σ H1 E) (hm : E[i]? = some (.ls xs)) (h1 : σ[i]? = some (some (.ref q))) (h2 : H1 q = some (.lst vs)) (h4 : ρ ≠ some q) (r : RpAll H1 us ys) :
    ExtS H1 (upd H1 q (.lst us)) ∧ DInv G H0 ρ0 ρ σ (upd H1 q (.lst us)) (E.set i (.ls ys)) := by
  have eS : ExtS H1 (upd H1 q (.lst us)) := fun b x hb s => by
    rw [upd_ne (fun z => by subst z; rw [h2] at hb; cases hb; exact s)]; exact hb
  exact ⟨eS, I1.ls_put (sl' := .ls ys) hm rfl h1 rfl (fun x hx => by rw [h2] at hx; cases hx; exact chg_lst) h4 ⟨q, us, h1, upd_same, r.ext eS, h4⟩⟩
theorem s_augL (i : Nat) {x : Str} {pos' : Pos} (hN : X.N.Nodup) (he : DN G X e fl) (hi : X.N[i]? = some x := by rfl) (hx : Loc X.env.scope x := by first | exact Or.inl rfl | exact Or.inr rfl) (hf : X.fn x = true ∨ X.env.scope.names.lookup x = some .local := by first | exact .inl rfl | exact .inr rfl) :
    DS G X (.AugAssign (.Name x pos') .Add e pos) (sAugL i fl) := PS.weak (ps_aug (ti := rExt2) hN hi hx he iop_ext hf) fun D σ H ⟨H0, ρ0, ρ, E, P, I, ⟨xs, hm, h⟩, k1, k2, k3, k4⟩ => by
  obtain ⟨q, vs, h1, h2, h3, h4⟩ := I.slot i _ hm
  refine ⟨_, h1, tN.use I h fun ys ⟨hz, hd⟩ p ws H1 e1 I1 f1 h5 r1 => ?_⟩
  have h2' : H1 q = some (.lst vs) := e1 _ _ h2 (fun ps z => by cases z) fun z => absurd z h4
  obtain ⟨eS, I2⟩ := own_put I1 hm h1 h2' h4 ((h3.ext e1.toS).append r1)
  refine ⟨q, p, vs, ws, rfl, rfl, h2', h5, by rw [h3.length, r1.length]; exact hz, ?_⟩
  show D.nx (σ.set i (some (.ref q))) (upd H1 q (.lst (vs ++ ws)))
  rw [I.unset h1]
  exact k1 _ hd ρ _ _ (e1.toS.trans eS) I2

/-! ### append -/
def sApp (i : Nat) (f : Fe) : Fs := fun E Q => ∃ xs, E[i]? = some (.ls xs) ∧ f E fun y => xs.length < sizeLine ∧ Q (.nx (E.set i (.ls (xs ++ [y]))))
theorem s_app (i : Nat) {x : Str} {p1 apos cpos : Pos} (he : DE G X e f) (hi : X.N[i]? = some x := by rfl) (hv : Vis X.env.scope x := by first | exact Or.inl rfl | exact Or.inr (Or.inl rfl) | exact Or.inr (Or.inr rfl)) (hd : (x == ("__debug__" : Str)) = false := by decide) (hcd : (x == ("__classdict__" : Str)) = false := by decide)
    (hbase : attributeBase (.Name x p1) "append" X.env (eval (.Name x p1) X.env) = eval (.Name x p1) X.env := by rfl)
    (hfew : ((backTo cpos (starEach [e] X.env)).all (fun x => !x.1) && (backToKw cpos (keywordEach [] X.env)).all (fun x => x.1.isSome)
      && decide (([e] : List Expr).length + ([] : List Keyword).length + (if ([] : List Keyword).isEmpty then 0 else 1) < 30)) = true := by rfl)
    (hline : (apos.endLine == cpos.line) = true := by rfl) (hs : starEach [e] X.env = (false, eval e X.env) :: starEach [] X.env := by rfl) (hplain : (backTo cpos (starEach [] X.env)).any (·.1) = false := by rfl)
    (hsw : swapsWith (.Call (.Attribute (.Name x p1) "append" apos) [e] [] cpos) none pos.line X.env = pure false := by rfl) :
    DS G X (.Expr (.Call (.Attribute (.Name x p1) "append" apos) [e] [] cpos) pos) (sApp i f) :=
  PS.weak (ps_expr (pe_bm PySem.F.plainAttrs_list PySem.F.slot_list_append PySem.F.type_list_append mt_append (pe_var hi hv hd hcd) (pa_cons he pa_nil hs) hbase hfew hline hs hplain) hsw) fun D σ H ⟨H0, ρ0, ρ, E, P, I, ⟨xs, hm, h⟩, k1, k2, k3, k4⟩ => by
  obtain ⟨q, vs, h1, h2, h3, h4⟩ := I.slot i _ hm
  show ∃ v, σ[i]? = some (some v) ∧ tyV X.K "list" v H ∧ tE G f σ H fun y H1 => rAppend v [y] H1 fun _ H2 => D.nx σ H2
  refine ⟨_, h1, .inl ⟨rfl, _, .inl (.inl h2)⟩, tE.use I h fun y ⟨hz, hd⟩ w H1 e1 I1 r1 => ?_⟩
  have h2' : H1 q = some (.lst vs) := e1 _ _ h2 (fun ps z => by cases z) fun z => absurd z h4
  obtain ⟨eS, I2⟩ := own_put I1 hm h1 h2' h4 ((h3.ext e1.toS).append (.cons r1 .nil))
  exact ⟨q, vs, w, rfl, rfl, h2', by rw [h3.length]; exact hz, k1 _ hd ρ _ _ (e1.toS.trans eS) I2⟩

/-! ### dicts of one's own -/
def valD {κ : Type} [DecidableEq κ] (kvs : List (κ × PyData)) (k : κ) : Option PyData := (kvs.find? fun p => decide (p.1 = k)).map Prod.snd
def putD {κ : Type} [DecidableEq κ] (kvs : List (κ × PyData)) (k : κ) (v : PyData) : List (κ × PyData) :=
  if (kvs.any fun kv => decide (kv.1 = k)) = true then kvs.map (fun kv => if kv.1 = k then (kv.1, v) else kv) else kvs ++ [(k, v)]
/-- alike, key by key -/
def RpKv {κ : Type} (H : Hp) (kv : List (κ × V)) (kvs : List (κ × PyData)) : Prop := kv.map Prod.fst = kvs.map Prod.fst ∧ RpAll H (kv.map Prod.snd) (kvs.map Prod.snd)
theorem RpKv.cases {κ : Type} {H : Hp} {p : κ × V} {kv : List (κ × V)} {kvs : List (κ × PyData)} (h : RpKv H (p :: kv) kvs) : ∃ q qs, kvs = q :: qs ∧ p.1 = q.1 ∧ Rp H p.2 q.2 ∧ RpKv H kv qs := by
  cases kvs with
  | nil => cases h.1
  | cons q qs =>
    obtain ⟨h1, h2⟩ := h
    rw [List.map_cons, List.map_cons] at h1 h2
    injection h1 with a1 a2
    cases h2 with
    | cons r t => exact ⟨q, qs, rfl, a1, r, a2, t⟩
theorem RpKv.nil0 {κ : Type} {H : Hp} {kvs : List (κ × PyData)} (h : RpKv H ([] : List (κ × V)) kvs) : kvs = [] := by
  cases kvs with
  | nil => rfl
  | cons q qs => cases h.1
theorem RpKv.cons {κ : Type} {H : Hp} {p : κ × V} {q : κ × PyData} {kv : List (κ × V)} {kvs : List (κ × PyData)} (h1 : p.1 = q.1) (h2 : Rp H p.2 q.2) (h : RpKv H kv kvs) : RpKv H (p :: kv) (q :: kvs) :=
  ⟨by rw [List.map_cons, List.map_cons, h1, h.1], .cons h2 h.2⟩
theorem RpKv.val {κ : Type} [DecidableEq κ] {H : Hp} {k : κ} : ∀ {kv : List (κ × V)} {kvs : List (κ × PyData)}, RpKv H kv kvs → (valV kv k = none ∧ valD kvs k = none) ∨ ∃ v d, valV kv k = some v ∧ valD kvs k = some d ∧ Rp H v d
  | [], kvs, h => by rw [h.nil0]; exact .inl ⟨rfl, rfl⟩
  | p :: kv, kvs, h => by
    obtain ⟨q, qs, rfl, e, r, t⟩ := h.cases
    by_cases hk : p.1 = k
    · refine .inr ⟨p.2, q.2, valV_pos hk, ?_, r⟩
      simp [valD, List.find?_cons, ← e, hk]
    · have hq : ¬ q.1 = k := by rw [← e]; exact hk
      have e1 : valD (q :: qs) k = valD qs k := by simp [valD, List.find?_cons, hq]
      rw [valV_neg hk, e1]
      exact t.val
theorem RpKv.repl {κ : Type} [DecidableEq κ] {H : Hp} {k : κ} {v : V} {d : PyData} (r : Rp H v d) : ∀ {kv : List (κ × V)} {kvs : List (κ × PyData)}, RpKv H kv kvs → RpKv H (kv.map fun p => if p.1 = k then (p.1, v) else p) (kvs.map fun p => if p.1 = k then (p.1, d) else p)
  | [], kvs, h => by rw [h.nil0]; exact ⟨rfl, .nil⟩
  | p :: kv, kvs, h => by
    obtain ⟨q, qs, rfl, e, r', t⟩ := h.cases
    rw [List.map_cons, List.map_cons]
    refine RpKv.cons ?_ ?_ (RpKv.repl r t)
    · rw [e]; split <;> first | rfl | exact e
    · rw [e]; split <;> first | exact r | exact r'
theorem RpKv.app {κ : Type} {H : Hp} {kv kw : List (κ × V)} {kvs kws : List (κ × PyData)} (h : RpKv H kv kvs) (h2 : RpKv H kw kws) : RpKv H (kv ++ kw) (kvs ++ kws) :=
  ⟨by rw [List.map_append, List.map_append, h.1, h2.1], by rw [List.map_append, List.map_append]; exact h.2.append h2.2⟩
theorem RpKv.any {κ : Type} [DecidableEq κ] {H : Hp} {k : κ} {kv : List (κ × V)} {kvs : List (κ × PyData)} (h : RpKv H kv kvs) : (kv.any fun p => decide (p.1 = k)) = (kvs.any fun p => decide (p.1 = k)) := by
  have e1 : (kv.any fun p => decide (p.1 = k)) = (kv.map Prod.fst).any fun x => decide (x = k) := by rw [List.any_map]; rfl
  have e2 : (kvs.any fun p => decide (p.1 = k)) = (kvs.map Prod.fst).any fun x => decide (x = k) := by rw [List.any_map]; rfl
  rw [e1, e2, h.1]
theorem RpKv.put {κ : Type} [DecidableEq κ] {H : Hp} {k : κ} {v : V} {d : PyData} (r : Rp H v d) {kv : List (κ × V)} {kvs : List (κ × PyData)} (h : RpKv H kv kvs) : RpKv H (putK kv k v) (putD kvs k d) := by
  unfold putK putD
  rw [← h.any (k := k)]
  split
  · exact h.repl r
  · exact h.app ⟨rfl, .cons r .nil⟩
theorem RpKv.ext {κ : Type} {H H' : Hp} {kv : List (κ × V)} {kvs : List (κ × PyData)} (e : ExtS H H') (h : RpKv H kv kvs) : RpKv H' kv kvs := ⟨h.1, h.2.ext e⟩
theorem RpKv.len {κ : Type} {H : Hp} {kv : List (κ × V)} {kvs : List (κ × PyData)} (h : RpKv H kv kvs) : kv.length = kvs.length := by
  have := congrArg List.length h.1
  rwa [List.length_map, List.length_map] at this
/-- what the own dict in slot i has at a key -/
def dGet (E : Ed) (i : Nat) (y : PyData) (r : Option PyData) : Prop := (∃ kvs k, E[i]? = some (.dt kvs) ∧ y = tupD k ∧ r = valD kvs k) ∨ ∃ kvs k, E[i]? = some (.dk kvs) ∧ y = keyD k ∧ r = valD kvs k
theorem key_v {v : V} {k : Key} (r : Rp H v (keyD k)) : v = kV k := by
  cases k with
  | inl i => cases r; rfl
  | inr s => cases r; rfl
theorem DInv.dget {i : Nat} {y : PyData} {r : Option PyData} {w : V} (I : DInv G H0 ρ0 ρ σ H E) (g : dGet E i y r) (ry : Rp H w y) : ∃ q rv, σ[i]? = some (some (.ref q)) ∧ DGet H q w rv ∧ ((rv = none ∧ r = none) ∨ ∃ v d, rv = some v ∧ r = some d ∧ Rp H v d) := by
  rcases g with ⟨kvs, k, hi, rfl, rfl⟩ | ⟨kvs, k, hi, rfl, rfl⟩
  · obtain ⟨q, kv, h1, h2, h3⟩ := I.slot i _ hi
    cases ry with
    | @tup b xs _ e1 e2 =>
      have := key_rp e2
      subst this
      exact ⟨q, _, h1, .inr ⟨kv, k, b, .inl h2, rfl, e1, rfl⟩, RpKv.val h3⟩
  · obtain ⟨q, kv, h1, h2, h3⟩ := I.slot i _ hi
    have := key_v ry
    subst this
    exact ⟨q, _, h1, .inl ⟨kv, k, .inl h2, rfl, rfl⟩, RpKv.val h3⟩
theorem DInv.own_at {i : Nat} {H1 : Hp} {y : PyData} {r : Option PyData} (I : DInv G H0 ρ0 ρ σ H E) (g : dGet E i y r) : ∃ q, σ[i]? = some (some (.ref q)) := by
  rcases g with ⟨kvs, k, hi, rfl, rfl⟩ | ⟨kvs, k, hi, rfl, rfl⟩
  · obtain ⟨q, kv, h1, h2, h3⟩ := I.slot i _ hi; exact ⟨q, h1⟩
  · obtain ⟨q, kv, h1, h2, h3⟩ := I.slot i _ hi; exact ⟨q, h1⟩
def ownD (E : Ed) (i : Nat) : Prop := (∃ kvs, E[i]? = some (.dt kvs)) ∨ ∃ kvs, E[i]? = some (.dk kvs)
theorem DInv.ownAt {i : Nat} (I : DInv G H0 ρ0 ρ σ H E) (g : ownD E i) : ∃ q, σ[i]? = some (some (.ref q)) := by
  rcases g with ⟨kvs, hi⟩ | ⟨kvs, hi⟩
  · obtain ⟨q, kv, h1, h2, h3⟩ := I.slot i _ hi; exact ⟨q, h1⟩
  · obtain ⟨q, kv, h1, h2, h3⟩ := I.slot i _ hi; exact ⟨q, h1⟩
def eDGet (i : Nat) (f : Fe) : Fe := fun E Q => ownD E i ∧ f E fun y => ∃ d, dGet E i y (some d) ∧ Q d
theorem d_dget (i : Nat) {x : Str} {p1 : Pos} (hu : X.A.units + 1 < cLine) (hk : DE G X b f) (hi : X.N[i]? = some x := by rfl) (hv : Vis X.env.scope x := by first | exact Or.inl rfl | exact Or.inr (Or.inl rfl) | exact Or.inr (Or.inr rfl)) (hd : (x == ("__debug__" : Str)) = false := by decide) (hcd : (x == ("__classdict__" : Str)) = false := by decide) (hs : NoSl b := by intro _ _; rfl) :
    DE G X (.Subscript (.Name x p1) b pos) (eDGet i f) := PE.weak (pe_dget hu (pe_var hi hv hd hcd) hk hs) fun σ H Q ⟨H0, ρ0, ρ, E, P, I, ⟨ho, h⟩, k⟩ => by
  obtain ⟨q, hq⟩ := I.ownAt ho
  refine ⟨_, hq, tE.use I h fun y ⟨d, hg, hd⟩ w H1 e1 I1 r1 => ?_⟩
  obtain ⟨q', rv, hq', g, hr⟩ := I1.dget hg r1
  rw [hq] at hq'; cases hq'
  rcases hr with ⟨_, z⟩ | ⟨v, d', rfl, z, r⟩
  · cases z
  · cases z
    exact ⟨q, v, rfl, g, k _ hd v H1 e1 I1.g I1.row r⟩
def eDIn (neg : Bool) (i : Nat) (f : Fe) : Fe := fun E Q => f E fun y => ∃ r, dGet E i y r ∧ Q (.bool (if neg then !r.isSome else r.isSome))
theorem tDIn_of {i : Nat} {td : TE} (hv : td = tVar i) : ∀ σ H Q, tE G (eDIn false i f) σ H Q → tDIn (tE G f) td σ H Q := fun σ H Q ⟨H0, ρ0, ρ, E, P, I, h, k⟩ => tE.use I h fun y ⟨r, hg, hd⟩ w H1 e1 I1 r1 => by
  obtain ⟨q, rv, hq, g, hr⟩ := I1.dget hg r1
  subst hv
  refine ⟨_, hq, q, rv, rfl, g, ?_⟩
  have e : rv.isSome = r.isSome := by
    rcases hr with ⟨z1, z2⟩ | ⟨v, d', z1, z2, _⟩ <;> rw [z1, z2] <;> rfl
  rw [e]
  exact k _ hd _ H1 e1 I1.g I1.row (.bl _)
theorem tDNotIn_of {i : Nat} {td : TE} (hv : td = tVar i) : ∀ σ H Q, tE G (eDIn true i f) σ H Q → tDNotIn (tE G f) td σ H Q := fun σ H Q ⟨H0, ρ0, ρ, E, P, I, h, k⟩ => tE.use I h fun y ⟨r, hg, hd⟩ w H1 e1 I1 r1 => by
  obtain ⟨q, rv, hq, g, hr⟩ := I1.dget hg r1
  subst hv
  refine ⟨_, hq, q, rv, rfl, g, ?_⟩
  have e : rv.isSome = r.isSome := by
    rcases hr with ⟨z1, z2⟩ | ⟨v, d', z1, z2, _⟩ <;> rw [z1, z2] <;> rfl
  rw [e]
  exact k _ hd _ H1 e1 I1.g I1.row (.bl _)
section
variable {x : Str} {p1 : Pos} (i : Nat) (hu : X.A.units + 1 < cLine) (hk : DE G X a f) (hi : X.N[i]? = some x) (hv : Vis X.env.scope x) (hd : (x == ("__debug__" : Str)) = false) (hcd : (x == ("__classdict__" : Str)) = false)
include hu hk hi hv hd hcd
theorem d_din (hm : behindInMarks .In (.Name x p1) = false := by rfl) : DE G X (.Compare a [.In] [.Name x p1] pos) (eDIn false i f) := PE.weak (pe_cmp (pc_din hu hk (pe_var hi hv hd hcd)) hm) (tDIn_of rfl)
theorem dt_din (hm : behindInMarks .In (.Name x p1) = false := by rfl) : DT G X (.Compare a [.In] [.Name x p1] pos) (asB (eDIn false i f)) := PT.weak (pt_cmp (pc_din hu hk (pe_var hi hv hd hcd)) hm) fun σ H Q h => tTest_of (tDIn_of rfl) σ H Q h
theorem d_dnin (hm : behindInMarks .NotIn (.Name x p1) = false := by rfl) : DE G X (.Compare a [.NotIn] [.Name x p1] pos) (eDIn true i f) := PE.weak (pe_cmp (pc_dnotin hu hk (pe_var hi hv hd hcd)) hm) (tDNotIn_of rfl)
theorem dt_dnin (hm : behindInMarks .NotIn (.Name x p1) = false := by rfl) : DT G X (.Compare a [.NotIn] [.Name x p1] pos) (asB (eDIn true i f)) := PT.weak (pt_cmp (pc_dnotin hu hk (pe_var hi hv hd hcd)) hm) fun σ H Q h => tTest_of (tDNotIn_of rfl) σ H Q h
end
def sDPutD (i : Nat) (fk fv : Fe) : Fs := fun E Q => ownD E i ∧ fv E fun d => fk E fun y => (∃ kvs k, E[i]? = some (.dt kvs) ∧ y = tupD k ∧ kvs.length < sizeLine ∧ Q (.nx (E.set i (.dt (putD kvs k d))))) ∨ ∃ kvs k, E[i]? = some (.dk kvs) ∧ y = keyD k ∧ kvs.length < sizeLine ∧ Q (.nx (E.set i (.dk (putD kvs k d))))
theorem s_dput (i : Nat) {x : Str} {p1 pos' : Pos} {fk fv : Fe} (hu : X.A.units + 1 < cLine) (hk : DE G X b fk) (he : DE G X e fv) (hi : X.N[i]? = some x := by rfl) (hv : Vis X.env.scope x := by first | exact Or.inl rfl | exact Or.inr (Or.inl rfl) | exact Or.inr (Or.inr rfl)) (hd : (x == ("__debug__" : Str)) = false := by decide) (hcd : (x == ("__classdict__" : Str)) = false := by decide)
    (hs : swapsWith e (some (.Subscript (.Name x p1) b pos')) pos.line X.env = pure false := by rfl) : DS G X (.Assign [.Subscript (.Name x p1) b pos'] e pos) (sDPutD i fk fv) :=
  PS.weak (ps_dput hu (pe_var hi hv hd hcd) hk he hs) fun D σ H ⟨H0, ρ0, ρ, E, P, I, ⟨ho, h⟩, k1, k2, k3, k4⟩ => by
  obtain ⟨q, hq⟩ := I.ownAt ho
  refine tE.use I h fun d hd v H1 e1 I1 r1 => ⟨_, hq, tE.use I1 hd fun y hy w H2 e2 I2 r2 => ?_⟩
  have r1' := r1.ext e2.toS
  rcases hy with ⟨kvs, k, hi, rfl, hz, hP⟩ | ⟨kvs, k, hi, rfl, hz, hP⟩
  · obtain ⟨q', kv, h1, h2, h3⟩ := I2.slot i _ hi
    rw [hq] at h1; cases h1
    have h3 : RpKv H2 kv kvs := h3
    cases r2 with
    | @tup b xs _ q1 q2 =>
      have := key_rp q2
      subst this
      have hr : ρ ≠ some q := fun z => by
        obtain ⟨_, _, _, _, _, _, w, _⟩ := I2.row q z
        rw [h2] at w; cases w
      have eS : ExtS H2 (upd H2 q (.dT (putK kv k v))) := fun b x hb s => by
        rw [upd_ne (fun z => by subst z; rw [h2] at hb; cases hb; exact s)]; exact hb
      have n3 := (h3.put (k := k) r1').ext eS
      exact ⟨q, _, rfl, .inr ⟨kv, k, b, h2, rfl, q1, by rw [h3.len]; exact hz, rfl⟩, k1 _ hP ρ _ _ ((e1.toS.trans e2.toS).trans eS) (I2.ls_put (sl' := .dt (putD kvs k d)) hi rfl hq rfl (fun x hx => by rw [h2] at hx; cases hx; exact chg_dT) hr ⟨q, _, hq, upd_same, n3.1, n3.2⟩)⟩
  · obtain ⟨q', kv, h1, h2, h3⟩ := I2.slot i _ hi
    rw [hq] at h1; cases h1
    have h3 : RpKv H2 kv kvs := h3
    have := key_v r2
    subst this
    have hr : ρ ≠ some q := fun z => by
      obtain ⟨_, _, _, _, _, _, w, _⟩ := I2.row q z
      rw [h2] at w; cases w
    have eS : ExtS H2 (upd H2 q (.dK (putK kv k v))) := fun b x hb s => by
      rw [upd_ne (fun z => by subst z; rw [h2] at hb; cases hb; exact s)]; exact hb
    have n3 := (h3.put (k := k) r1').ext eS
    exact ⟨q, _, rfl, .inl ⟨kv, k, h2, rfl, by rw [h3.len]; exact hz, rfl⟩, k1 _ hP ρ _ _ ((e1.toS.trans e2.toS).trans eS) (I2.ls_put (sl' := .dk (putD kvs k d)) hi rfl hq rfl (fun x hx => by rw [h2] at hx; cases hx; exact chg_dK) hr ⟨q, _, hq, upd_same, n3.1, n3.2⟩)⟩
end
end DL
set_option Elab.async false
set_option linter.all false
set_option maxRecDepth 100000
set_option maxHeartbeats 2000000
namespace DL
open PySem PySem.Spec PyProof.Rows L2

/-! ### defs -/
abbrev Ff := List Sl → Dm PyData
def spD (G : Gb) (F : Ff) : Sp := fun vs H Q _ => ∃ ρ as P, ArgsOk H ρ vs as ∧ GOk G H ∧ RowIs G.K ρ H ∧ F as P ∧ ∀ d, P d → ∀ v H', Ext ρ H H' → GOk G H' → RowIs G.K ρ H' → Rp H' v d → Q v H'
/-- np parameters, n slots -/
def endP (Q : PyData → Prop) : Out → Prop
  | .rt d => Q d
  | .nx _ => Q .none
  | _ => False
def runDef (np n : Nat) (body : Fs) : Ff := fun as Q => as.length = np ∧ body (as ++ List.replicate (n - np) .no) (endP Q)
theorem ArgsOk.length {H : Hp} {ρ : Option Addr} {vs : List V} {as : List Sl} : ArgsOk H ρ vs as → vs.length = as.length
  | .nil => rfl
  | .val _ t => congrArg (· + 1) t.length
  | .row _ t => congrArg (· + 1) t.length
  | .adr t => congrArg (· + 1) t.length
theorem ArgsOk.at' {H : Hp} {ρ : Option Addr} : ∀ {vs : List V} {as : List Sl} {i : Nat} {sl : Sl}, ArgsOk H ρ vs as → as[i]? = some sl → SlOk H ρ (vs.map some)[i]? sl ∧ sl.own = false
  | _, _, i, sl, .nil, e => by simp at e
  | _, _, 0, sl, .val h t, e => by cases (show some _ = some sl from e); exact ⟨⟨_, rfl, h⟩, rfl⟩
  | _, _, i + 1, sl, .val h t, e => t.at' (i := i) (by simpa using e)
  | _, _, 0, sl, .row h t, e => by cases (show some _ = some sl from e); exact ⟨⟨_, rfl, h⟩, rfl⟩
  | _, _, i + 1, sl, .row h t, e => t.at' (i := i) (by simpa using e)
  | _, _, 0, sl, .adr t, e => by cases (show some _ = some sl from e); exact ⟨rfl, rfl⟩
  | _, _, i + 1, sl, .adr t, e => t.at' (i := i) (by simpa using e)
theorem DInv.start {G : Gb} {H : Hp} {ρ : Option Addr} {vs : List V} {as : List Sl} {N : List Str} (h : ArgsOk H ρ vs as) (g : GOk G H) (r : RowIs G.K ρ H) (hn : as.length ≤ N.length)
    (xc : ∀ e : ExD, G.Px e → ∀ (σ' : L2.St) (H' : Hp) (d : Option Addr), Ext ρ H H' → GOk G H' → RowIs G.K ρ H' → FldOk H H' d e.fld → G.W (G.cls e.name) d σ' H') : DInv G H ρ ρ (L2.start N vs) H (as ++ List.replicate (N.length - as.length) .no) := by
  have hl := h.length
  have sl0 : ∀ (i : Nat) (sl : Sl), (as ++ List.replicate (N.length - as.length) Sl.no)[i]? = some sl → SlOk H ρ (L2.start N vs)[i]? sl ∧ sl.own = false := fun i sl e => by
    unfold L2.start
    by_cases hi : i < as.length
    · rw [List.getElem?_append_left hi] at e
      rw [List.getElem?_append_left (by rw [List.length_map, hl]; exact hi)]
      exact h.at' e
    · rw [List.getElem?_append_right (by omega)] at e
      have : sl = .no := by
        have := List.mem_of_getElem? e
        exact (List.mem_replicate.mp this).2
      subst this
      exact ⟨True.intro, rfl⟩
  refine ⟨g, Ext.refl _ _, r, .inl rfl, ?_, fun i sl e => (sl0 i sl e).1, fun i sl a e o => ?_, fun i j s s' a e o => ?_, xc⟩
  · unfold L2.start
    rw [List.length_append, List.length_append, List.length_replicate, List.length_replicate, List.length_map, hl]
  · rw [(sl0 i sl e).2] at o; cases o
  · rw [(sl0 i s e).2] at o; cases o
section
variable {P : Program} {w : World} {K : PySem.W.Frag} {mg : Str → Option Value} {base : Heap}
/-- a def keeps what its body reads as -/
theorem fnD {G : Gb} (hP : ∀ e, ¬ G.Px e) {x qual : Str} {st : Stmt} {f : Addr} {fd : FuncData} {N ps : List Str} {k : Nat} {fs : Fs} (F : Fun K x qual st f fd) (S : FnScope N ps (defScope st)) (hn : ps.length ≤ N.length)
    (body : ∀ (cdv : Value) (A : Around) (outer : List Env) (s : Shared) (H : Hp) (E : XK), Room k (A.deeper (envOfC qual (defScope st) s.heap.objs.size f cdv)) → DSs G (cxOf CX0 P w K mg base N qual (defScope st) f cdv A outer s H E).nox (defBody st) fs) :
    FnOk P w K mg base CX0 (k + 1) f fd ps (spD G (runDef ps.length N.length fs)) := by
  refine F.ok S (fun vs H Q E ⟨ρ, as, P, ha, _, _, hF, _⟩ => ha.length.trans hF.1) fun cdv A outer s H vs Q E hr ⟨ρ, as, Pd, ha, g, r, ⟨hl, hF⟩, q⟩ => ?_
  refine ⟨_, body cdv A outer s H E hr, ?_⟩
  refine ⟨H, ρ, ρ, _, endP Pd, DInv.start (N := N) ha g r (by rw [hl]; exact hn) (fun e he => absurd he (hP e)), ?_, ?_, ?_, ?_, ?_⟩
  · rw [hl]; exact hF
  · exact fun E' hE ρ' σ' H' x I' => q _ hE .non H' I'.ext I'.g I'.row0 .non
  · exact fun d hd v H' e g r rp => q _ hd v H' e g r rp
  · exact fun E' hE => hE.elim
  · exact fun E' hE => hE.elim
end
section
variable {X : Cx} {G : Gb} {a b c e tg : Expr} {f g h : Fe} {fl gl : Fi} {pos p : Pos} {H0 H H' : Hp} {ρ0 ρ : Option Addr} {σ : L2.St} {E : Ed}
/-- a call of a def -/
def eCall (F : Ff) (fa : Ed → Dm (List Sl)) : Fe := fun E Q => fa E fun as => F as Q
theorem d_call {F : Ff} {fa : Ed → Dm (List Sl)} {x : Str} {fn : Addr} {fd : FuncData} {ps : List Str} {k : Nat} {es : List Expr} (O : FnOk X.prog X.w X.K X.mg X.base CX0 k fn fd ps (spD G F)) (hr : Room k X.A) (hg : Gl X x) (hm : X.mg x = some (.ref fn)) (hk : PySem.W.keepIn X.K (.ref fn) = true) (hb : Binds X.K fd ps [])
    (ha : DA G X (e :: es) fa) (hdb : (x == ("__debug__" : Str)) = false := by decide) (he : starEach (e :: es) X.env = (false, eval e X.env) :: starEach es X.env := by rfl) (hpl : (backTo pos (starEach es X.env)).any (·.1) = false := by rfl) :
    DE G X (.Call (.Name x p) (e :: es) [] pos) (eCall F fa) := PE.weak (pe_call (pos := pos) (p := p) O hr hg hm hk hb .nil (pass0 (X := X)) ha hdb he hpl) fun σ H Q ⟨H0, ρ0, ρ, E, P, I, h, k⟩ => tA.use I h fun as has vs H1 e1 I1 r1 => by
  show spD G F (vs ++ []) H1 Q _
  rw [List.append_nil]
  exact ⟨ρ, as, P, r1, I1.g, I1.row, has, fun d hd v H2 e2 g2 r2 rp => k d hd v H2 (e1.trans e2) g2 r2 rp⟩

/-! ### isinstance -/
def tyD : PyData → String
  | .none => "NoneType"
  | .bool _ => "bool"
  | .int _ => "int"
  | .str _ => "str"
  | .list _ => "list"
  | .tuple _ => "tuple"
  | .dict _ => "dict"
theorem kitD {pins : List (Addr × Obj)} {s : Shared} {d : PyData} {v : V} {u : Value} (J : Inv X pins σ H s) (rv : RelV v u) (r : Rp H v d) : ∃ P : Heap → Prop, PySem.W.KitX X.K u (.type (tyD d)) P ∧ P s.heap ∧ u ≠ .builtin "__main__.__loader__#opaque" := by
  cases r with
  | non => exact kit_of J rv (.base .non)
  | bl b => exact kit_of J rv (.base (.bl b))
  | int i => exact kit_of J rv (.base (.int i))
  | str x => exact kit_of J rv (.base (.str x))
  | lst h1 h2 => exact kit_of J rv (.base (.frz h1))
  | tup h1 h2 => exact kit_of J rv (.base (.tup h1))
  | @dct q kv ds o h1 h2 =>
    cases (show u = Value.ref q from rv)
    obtain ⟨hs, hgd, hx, _⟩ := J.frzT h1
    exact ⟨_, PySem.W.kitx_dict, ⟨o, hgd, hx.1⟩, fun z => nomatch z⟩
/-- isinstance(x, T), T a built-in class -/
def rIsD (K : PySem.W.Frag) (n : String) (q : String → Bool) : List V → Hp → VK → Prop := fun xs H Q => ∃ x d, xs = [x, .ty n] ∧ Rp H x d ∧ PySem.W.kitOne K (.type (tyD d)) (.type n) = some (q (tyD d)) ∧ Q (.bl (q (tyD d))) H
theorem call_isD {n : String} {q : String → Bool} : CallR X (.builtin "isinstance") (rIsD X.K n q) := by
  intro pins s σ H xs us Q I r h
  obtain ⟨x, d, rfl, rd, e, hq⟩ := h
  obtain ⟨u1, u2, rfl, r1, r2⟩ := vals2 r
  obtain rfl : u2 = Value.type n := r2
  obtain ⟨P, Z, p, hx⟩ := kitD I r1 rd
  exact PySem.W.kia_one Z I.kIn p e hx fun tk => ⟨.bl _, H, I.tok tk, rfl, hq⟩
def isInt (t : String) : Bool := t == "int" || t == "bool"
def isTy (n : String) (t : String) : Bool := t == n
def eIsi (q : String → Bool) (f : Fe) : Fe := fun E Q => f E fun d => Q (.bool (q (tyD d)))
theorem tyD_cases (d : PyData) (q : String → Prop) (h1 : q "NoneType") (h2 : q "bool") (h3 : q "int") (h4 : q "str") (h5 : q "list") (h6 : q "tuple") (h7 : q "dict") : q (tyD d) := by cases d <;> assumption
theorem d_isi {n : String} {x : Str} {q : String → Bool} {px : Pos} (hq : ∀ (K : PySem.W.Frag) (d : PyData), PySem.W.kitOne K (.type (tyD d)) (.type n) = some (q (tyD d))) (hg : Gl X "isinstance") (hm : X.mg "isinstance" = none) (ha : DE G X a f) (hgx : Gl X x) (hmx : X.mg x = none) (hvx : bootBuiltins x = some (.type n)) (hn : x ≠ "__name__" := by decide) (hd : (x == ("__debug__" : Str)) = false := by decide)
    (he : starEach [a, .Name x px] X.env = (false, eval a X.env) :: starEach [.Name x px] X.env := by rfl) (he2 : starEach [.Name x px] X.env = (false, eval (.Name x px) X.env) :: starEach [] X.env := by rfl) (hpl : (backTo pos (starEach [.Name x px] X.env)).any (·.1) = false := by rfl) :
    DE G X (.Call (.Name "isinstance" p) [a, .Name x px] [] pos) (eIsi q f) :=
  PE.weak (pe_callB (call_isD (n := n) (q := q)) hg hm (by decide +kernel) (pa_cons ha (pa_cons (pe_bltn (v := .ty n) hgx hmx hvx rfl hn hd) pa_nil he2) he) (he := he) (hpl := hpl)) fun σ H Q ⟨H0, ρ0, ρ, E, P, I, h, k⟩ => by
    show tE G f σ H fun x H1 => rIsD X.K n q [x, .ty n] H1 Q
    exact tE.use I h fun d hd v H1 e1 I1 r1 => ⟨v, d, rfl, r1, hq X.K d, k _ hd _ H1 e1 I1.g I1.row (.bl _)⟩
theorem isi_int (K : PySem.W.Frag) (d : PyData) : PySem.W.kitOne K (.type (tyD d)) (.type "int") = some (isInt (tyD d)) :=
  tyD_cases d (fun t => PySem.W.kitOne K (.type t) (.type "int") = some (isInt t)) (kit_ty (by decide +kernel)) (kit_ty (by decide +kernel)) (kit_ty (by decide +kernel)) (kit_ty (by decide +kernel)) (kit_ty (by decide +kernel)) (kit_ty (by decide +kernel)) (kit_ty (by decide +kernel))
theorem isi_bool (K : PySem.W.Frag) (d : PyData) : PySem.W.kitOne K (.type (tyD d)) (.type "bool") = some (isTy "bool" (tyD d)) :=
  tyD_cases d (fun t => PySem.W.kitOne K (.type t) (.type "bool") = some (isTy "bool" t)) (kit_ty (by decide +kernel)) (kit_ty (by decide +kernel)) (kit_ty (by decide +kernel)) (kit_ty (by decide +kernel)) (kit_ty (by decide +kernel)) (kit_ty (by decide +kernel)) (kit_ty (by decide +kernel))
theorem isi_tuple (K : PySem.W.Frag) (d : PyData) : PySem.W.kitOne K (.type (tyD d)) (.type "tuple") = some (isTy "tuple" (tyD d)) :=
  tyD_cases d (fun t => PySem.W.kitOne K (.type t) (.type "tuple") = some (isTy "tuple" t)) (kit_ty (by decide +kernel)) (kit_ty (by decide +kernel)) (kit_ty (by decide +kernel)) (kit_ty (by decide +kernel)) (kit_ty (by decide +kernel)) (kit_ty (by decide +kernel)) (kit_ty (by decide +kernel))
theorem isi_list (K : PySem.W.Frag) (d : PyData) : PySem.W.kitOne K (.type (tyD d)) (.type "list") = some (isTy "list" (tyD d)) :=
  tyD_cases d (fun t => PySem.W.kitOne K (.type t) (.type "list") = some (isTy "list" t)) (kit_ty (by decide +kernel)) (kit_ty (by decide +kernel)) (kit_ty (by decide +kernel)) (kit_ty (by decide +kernel)) (kit_ty (by decide +kernel)) (kit_ty (by decide +kernel)) (kit_ty (by decide +kernel))
theorem isi_str (K : PySem.W.Frag) (d : PyData) : PySem.W.kitOne K (.type (tyD d)) (.type "str") = some (isTy "str" (tyD d)) :=
  tyD_cases d (fun t => PySem.W.kitOne K (.type t) (.type "str") = some (isTy "str" t)) (kit_ty (by decide +kernel)) (kit_ty (by decide +kernel)) (kit_ty (by decide +kernel)) (kit_ty (by decide +kernel)) (kit_ty (by decide +kernel)) (kit_ty (by decide +kernel)) (kit_ty (by decide +kernel))
/-- isinstance(x, (tuple, list)) -/
def rIsTL (K : PySem.W.Frag) : List V → Hp → VK → Prop := fun xs H Q => ∃ x d tp, xs = [x, .ref tp] ∧ H tp = some (.tup [.ty "tuple", .ty "list"]) ∧ Rp H x d ∧ Q (.bl (tyD d == "tuple" || tyD d == "list")) H
theorem call_isTL : CallR X (.builtin "isinstance") (rIsTL X.K) := by
  intro pins s σ H xs us Q I r h
  obtain ⟨x, d, tp, rfl, hT, rd, hq⟩ := h
  obtain ⟨u1, u2, rfl, r1, r2⟩ := vals2 r
  cases (show u2 = Value.ref tp from r2)
  obtain ⟨P, Z, p, hx⟩ := kitD I r1 rd
  obtain ⟨_, its, rv, o, h1, h2, n, h3⟩ := (show ObjOk X.prog X.w H s.heap tp (.tup [.ty "tuple", .ty "list"]) from I.hok tp _ hT)
  have e3 := ClsV.all (.cons (.ty "tuple") (.cons (.ty "list") .nil)) rv
  subst e3
  obtain ⟨oc, od, dt, sl⟩ := o
  simp only at h2 h3
  subst h2 h3
  have e : PySem.W.kitAny X.K (.type (tyD d)) [.type "tuple", .type "list"] = some (tyD d == "tuple" || tyD d == "list") := by
    refine kitAny_cons (isi_tuple X.K d) (fun hb => ?_) fun hb => ?_
    · refine kitAny_cons (isi_list X.K d) (fun hb2 => ?_) fun hb2 => ?_
      · unfold isTy at hb hb2; rw [hb, hb2]; exact rfl
      · unfold isTy at hb2; rw [hb2, Bool.or_true]
    · unfold isTy at hb; rw [hb]; rfl
  exact PySem.W.kia_tup Z I.kIn p h1 e hx fun tk => ⟨.bl _, H, I.tok tk, rfl, hq⟩
def isTL (t : String) : Bool := t == "tuple" || t == "list"
theorem d_isiTL {p1 p2 p3 : Pos} {kk : Nat} (hg : Gl X "isinstance") (hm : X.mg "isinstance" = none) (ha : DE G X a f) (hg1 : Gl X "tuple") (hm1 : X.mg "tuple" = none) (hg2 : Gl X "list") (hm2 : X.mg "list" = none)
    (he : starEach [a, .Tuple [.Name "tuple" p1, .Name "list" p2] kk p3] X.env = (false, eval a X.env) :: starEach [.Tuple [.Name "tuple" p1, .Name "list" p2] kk p3] X.env := by rfl) (he2 : starEach [.Tuple [.Name "tuple" p1, .Name "list" p2] kk p3] X.env = (false, eval (.Tuple [.Name "tuple" p1, .Name "list" p2] kk p3) X.env) :: starEach [] X.env := by rfl)
    (he3 : starEach [.Name "tuple" p1, .Name "list" p2] X.env = (false, eval (.Name "tuple" p1) X.env) :: starEach [.Name "list" p2] X.env := by rfl) (he4 : starEach [.Name "list" p2] X.env = (false, eval (.Name "list" p2) X.env) :: starEach [] X.env := by rfl)
    (hpl : (backTo pos (starEach [.Tuple [.Name "tuple" p1, .Name "list" p2] kk p3] X.env)).any (·.1) = false := by rfl) :
    DE G X (.Call (.Name "isinstance" p) [a, .Tuple [.Name "tuple" p1, .Name "list" p2] kk p3] [] pos) (eIsi isTL f) :=
  PE.weak (pe_callB (call_isTL) hg hm (by decide +kernel) (pa_cons ha (pa_cons (pe_tup (pa_cons (pe_bltn (v := .ty "tuple") hg1 hm1 boot_tuple rfl) (pa_cons (pe_bltn (v := .ty "list") hg2 hm2 boot_list rfl) pa_nil he4) he3)) pa_nil he2) he) (he := he) (hpl := hpl)) fun σ H Q ⟨H0, ρ0, ρ, E, P, I, h, k⟩ => by
    show tE G f σ H fun x H1 => 2 ≤ sizeLine ∧ ∀ q, H1 q = none → rIsTL X.K [x, .ref q] (upd H1 q (.tup [.ty "tuple", .ty "list"])) Q
    refine tE.use I h fun d hd v H1 e1 I1 r1 => ⟨by decide, fun q hq => ?_⟩
    have e2 : Ext ρ H1 (upd H1 q (.tup [.ty "tuple", .ty "list"])) := (Ext.refl ρ H1).upd hq
    exact ⟨v, d, q, rfl, upd_same, r1.ext e2.toS, k _ hd _ _ (e1.trans e2) (I1.new hq).g (I1.new hq).row (.bl _)⟩

/-! ### truth -/
def truD : PyData → Option Bool
  | .none => some false
  | .bool b => some b
  | .int i => some (i != 0)
  | .list ds => some (!ds.isEmpty)
  | .tuple ds => some (!ds.isEmpty)
  | _ => none
def bTru (f : Fe) : Ed → Dm Bool := fun E Q => f E fun d => ∃ b, truD d = some b ∧ Q b
theorem empty_eq {vs : List V} {ds : List PyData} (h : RpAll H vs ds) : (!vs.isEmpty) = !ds.isEmpty := by cases h <;> rfl
theorem dt_tru (ha : DE G X a f) (he : ∀ whole, isTrue a X.env whole = (do let v ← whole; standAt a.pos; holding [v] (truthy v)) := by intro _; rfl) : DT G X a (bTru f) :=
  PT.weak (pt_truth ha he) fun σ H Q ⟨H0, ρ0, ρ, E, P, I, h, k⟩ => tE.use I h fun d ⟨b, hb, hd⟩ v H1 e1 I1 r1 => ⟨b, (by
    cases r1 with
    | non => cases hb; rfl
    | bl b => cases hb; rfl
    | int i => cases hb; rfl
    | str x => cases hb
    | lst h1 h2 => cases hb; exact .inl ⟨_, .inl (.inr ⟨_, h1⟩), (empty_eq h2).symm⟩
    | tup h1 h2 => cases hb; exact .inr (.inl ⟨_, .inl (.inl h1), (empty_eq h2).symm⟩)
    | dct h1 h2 => cases hb), k _ hd H1 e1 I1.g I1.row⟩
def bTruL (fl : Fi) : Ed → Dm Bool := fun E Q => fl E fun ds => Q (!ds.isEmpty)
theorem dt_truL (ha : DLs G X a fl) (he : ∀ whole, isTrue a X.env whole = (do let v ← whole; standAt a.pos; holding [v] (truthy v)) := by intro _; rfl) : DT G X a (bTruL fl) :=
  PT.weak (pt_truth ha he) fun σ H Q ⟨H0, ρ0, ρ, E, P, I, h, k⟩ => tL.use I h fun ds hd q vs H1 e1 I1 h1 h2 r1 => ⟨!ds.isEmpty, .inl ⟨_, .inl h1, (empty_eq r1).symm⟩, k _ hd H1 e1 I1.g I1.row⟩
end
end DL
set_option Elab.async false
set_option linter.all false
set_option maxRecDepth 100000
set_option maxHeartbeats 2000000
namespace DL
open PySem PySem.Spec PyProof.Rows L2
/-- the tuples' items; what sorting them by (len(x), x) asks -/
structure SortOkLL (bs : List (List PyData)) : Prop where
  pure : ∀ b ∈ bs, pureDs b = true ∧ b.length ≤ sizeLine ∧ (keyLL b).depth ≤ 60
  alike : ∀ b ∈ bs, ∀ c ∈ bs, PySem.W.alike (keyLL b) (keyLL c) = true
def sortLL (bs : List (List PyData)) : List (List PyData) := bs.mergeSort (PySem.W.dataLe false keyLL)
/-- the first with the least key -/
def minLL (bs : List (List PyData)) : Option (List PyData) := bs[bestIx (fun i => keyLL (bs[i]?.getD [])) (bs.length - 1)]?
mutual
theorem noDict_pure : ∀ d : PyData, pureD d = true → noDict d = true
  | .none, _ => rfl
  | .bool _, _ => rfl
  | .int _, _ => rfl
  | .str _, _ => rfl
  | .list _, h => by simp [pureD] at h
  | .dict _, h => by simp [pureD] at h
  | .tuple xs, h => noDicts_pure xs (by simpa [pureD] using h)
theorem noDicts_pure : ∀ ds : List PyData, pureDs ds = true → noDicts ds = true
  | [], _ => rfl
  | d :: ds, h => by
    have h' : pureD d = true ∧ pureDs ds = true := by simpa [pureDs] using h
    simp [noDicts, noDict_pure d h'.1, noDicts_pure ds h'.2]
end
section
variable {X : Cx} {G : Gb} {a b c e tg : Expr} {f g h : Fe} {fl gl : Fi} {pos p : Pos} {H0 H H' : Hp} {ρ0 ρ : Option Addr} {σ : L2.St} {E : Ed}
theorem RpAll.pairs : ∀ {vs : List V} {bs : List (List PyData)}, RpAll H vs (bs.map PyData.tuple) → ∃ ps : List (V × List PyData), ps.map Prod.fst = vs ∧ ps.map Prod.snd = bs ∧ ∀ q ∈ ps, Rp H q.1 (.tuple q.2)
  | _, [], h => by cases h; exact ⟨[], rfl, rfl, fun q hq => by cases hq⟩
  | _, b :: bs, h => by
    cases h with
    | cons r t =>
      obtain ⟨ps, e1, e2, e3⟩ := t.pairs
      exact ⟨(_, b) :: ps, by rw [List.map_cons, e1], by rw [List.map_cons, e2], fun q hq => by
        rcases List.mem_cons.mp hq with z | z
        · rw [z]; exact r
        · exact e3 q z⟩
theorem RpAll.of_pairs : ∀ {ps : List (V × List PyData)}, (∀ q ∈ ps, Rp H q.1 (.tuple q.2)) → RpAll H (ps.map Prod.fst) ((ps.map Prod.snd).map PyData.tuple)
  | [], _ => .nil
  | q :: ps, h => .cons (h q List.mem_cons_self) (RpAll.of_pairs fun r hr => h r (List.mem_cons_of_mem _ hr))
theorem extN_ext {H1 H2 : Hp} (e : LamX.ExtN H1 H2) : Ext ρ H1 H2 := fun b o h n _ => e b o h n
/-- the lambda's table has changed -/
theorem DInv.lam {P : Addr} {H1 : Hp} (I : DInv G H0 ρ0 ρ σ H E) (e : LamX.ExtN H H1) (t : LamX.Tabs G.TL H1) (o : ∀ b ps, b ≠ P → H b = some (.tbl ps) → H1 b = some (.tbl ps)) (hP : P ∉ G.TG) : DInv G H0 ρ0 ρ σ H1 E := by
  refine I.to (extN_ext e) ⟨t, fun P' hP' => ?_⟩ fun b eb => ?_
  · obtain ⟨ps, q1, q2⟩ := I.g.2 P' hP'
    exact ⟨ps, o _ _ (fun z => hP (z ▸ hP')) q1, q2⟩
  · obtain ⟨a, xs, ob, i, s, c, w1, w2, w3⟩ := I.row b eb
    exact ⟨a, xs, ob, i, s, c, e _ _ w1 (fun ps z => by cases z), w2.ext (fun b x hb hs => e _ _ hb hs.noTbl), w3⟩
def nSortLL (fl : Fi) : Fi := fun E Q => fl E fun ds => ∃ bs, ds = bs.map PyData.tuple ∧ SortOkLL bs ∧ Q ((sortLL bs).map .tuple)
section
variable {cc P : Addr} {x : Str} {params : Arguments} {p1 p2 p3 p4 p5 lpos kpos : Pos} {k5 k : Nat} {scope : Scope}
theorem dn_sortLL (hr : Room k X.A) (L : LamAt X G.TL cc P x params (.Tuple [.Call (.Name "len" p1) [.Name x p2] [] p3, .Name x p4] k5 p5) scope) (hP : P ∉ G.TG) (hm : X.mg "len" = none) (hms : X.mg "sorted" = none) (hgs : Gl X "sorted") (hd : (x == ("__debug__" : Str)) = false) (ha : DLs G X a fl)
    (hst : backTo pos (starEach [a] X.env) = (false, eval a X.env) :: backTo pos (starEach [] X.env) := by rfl) :
    DN G X (.Call (.Name "sorted" p) [a] [⟨some "key", .Lambda params (.Tuple [.Call (.Name "len" p1) [.Name x p2] [] p3, .Name x p4] k5 p5) scope lpos, kpos⟩] pos) (nSortLL fl) :=
  PE.weak (pe_sortedLL hr L hm hms hgs hd ha hst) fun σ H Q ⟨H0, ρ0, ρ, E, Pd, I, h, kk⟩ => tL.use I h fun ds ⟨bs, ed, ok, hd⟩ q vs H1 e1 I1 h1 h2 r1 => by
    subst ed
    obtain ⟨ps, q1, q2, q3⟩ := r1.pairs
    have inb : ∀ r ∈ ps, r.2 ∈ bs := fun r hr => by rw [← q2]; exact List.mem_map.mpr ⟨r, hr, rfl⟩
    refine ⟨q, ps, rfl, by rw [q1]; exact .inl h1, fun r hr => ⟨(q3 r hr).dp (noDicts_pure _ (ok.pure r.2 (inb r hr)).1), ok.pure r.2 (inb r hr)⟩, fun r hr s hs => ok.alike _ (inb r hr) _ (inb s hs), I1.g.1, fun H2 eN T2 oth l hl => ?_⟩
    have I2 := I1.lam eN T2 oth hP
    have e2 : Ext ρ H1 H2 := extN_ext eN
    have e3 : Ext ρ H2 (upd H2 l (.lst ((ps.mergeSort (PySem.W.dataLe false keyOf)).map Prod.fst))) := (Ext.refl ρ H2).upd hl
    have hs : (ps.mergeSort (PySem.W.dataLe false keyOf)).map Prod.snd = sortLL bs := by
      have z := List.map_mergeSort (r := PySem.W.dataLe false keyOf) (s := PySem.W.dataLe false keyLL) (f := Prod.snd) (l := ps) (fun a _ b _ => rfl)
      rw [z, q2]; rfl
    refine kk _ hd l _ _ ((e1.trans e2).trans e3) (I2.new hl).g (I2.new hl).row ((e1.trans e2).free I2.row hl) upd_same ?_
    rw [← hs]
    exact RpAll.of_pairs fun r hr => ((q3 r ((List.mergeSort_perm ps _).mem_iff.mp hr)).ext e2.toS).ext e3.toS
def eMinLL (fl : Fi) : Fe := fun E Q => fl E fun ds => ∃ bs, ds = bs.map PyData.tuple ∧ SortOkLL bs ∧ ∃ b, minLL bs = some b ∧ Q (.tuple b)
theorem d_minLL (hr : Room k X.A) (L : LamAt X G.TL cc P x params (.Tuple [.Call (.Name "len" p1) [.Name x p2] [] p3, .Name x p4] k5 p5) scope) (hP : P ∉ G.TG) (hm : X.mg "len" = none) (hms : X.mg "min" = none) (hgs : Gl X "min") (hd : (x == ("__debug__" : Str)) = false) (ha : DLs G X a fl)
    (hst : backTo pos (starEach [a] X.env) = (false, eval a X.env) :: backTo pos (starEach [] X.env) := by rfl) :
    DE G X (.Call (.Name "min" p) [a] [⟨some "key", .Lambda params (.Tuple [.Call (.Name "len" p1) [.Name x p2] [] p3, .Name x p4] k5 p5) scope lpos, kpos⟩] pos) (eMinLL fl) :=
  PE.weak (pe_minLL hr L hm hms hgs hd ha hst) fun σ H Q ⟨H0, ρ0, ρ, E, Pd, I, h, kk⟩ => tL.use I h fun ds ⟨bs, ed, ok, b0, hb0, hd⟩ q vs H1 e1 I1 h1 h2 r1 => by
    subst ed
    obtain ⟨ps, q1, q2, q3⟩ := r1.pairs
    have inb : ∀ r ∈ ps, r.2 ∈ bs := fun r hr => by rw [← q2]; exact List.mem_map.mpr ⟨r, hr, rfl⟩
    have hl : ps.length = bs.length := by rw [← q2, List.length_map]
    have ne : ps ≠ [] := fun z => by
      subst z
      have : bs = [] := List.eq_nil_of_length_eq_zero hl.symm
      subst this
      unfold minLL at hb0
      simp at hb0
    refine ⟨q, ps, rfl, by rw [q1]; exact .inl h1, fun r hr => ⟨(q3 r hr).dp (noDicts_pure _ (ok.pure r.2 (inb r hr)).1), ok.pure r.2 (inb r hr)⟩, fun r hr s hs => ok.alike _ (inb r hr) _ (inb s hs), ne, I1.g.1, fun H2 eN T2 oth b hb => ?_⟩
    have I2 := I1.lam eN T2 oth hP
    have e2 : Ext ρ H1 H2 := extN_ext eN
    have hk : (fun i : Nat => keyLL (ps[i]?.map Prod.snd |>.getD [])) = fun i : Nat => keyLL (bs[i]?.getD []) := by
      funext i
      rw [← q2, List.getElem?_map]
    have hb1 : bs[bestIx (fun i => keyLL (bs[i]?.getD [])) (bs.length - 1)]? = some b.2 := by
      rw [← hk, ← hl]
      have : bs[bestIx (fun i => keyLL (ps[i]?.map Prod.snd |>.getD [])) (ps.length - 1)]? = (ps[bestIx (fun i => keyLL (ps[i]?.map Prod.snd |>.getD [])) (ps.length - 1)]?).map Prod.snd := by
        rw [← List.getElem?_map, q2]
      rw [this, hb]; rfl
    have e0 : b0 = b.2 := by
      unfold minLL at hb0
      rw [hb1] at hb0
      exact (Option.some.inj hb0).symm
    subst e0
    exact kk _ hd b.1 H2 (e1.trans e2) I2.g I2.row ((q3 b (List.mem_of_getElem? hb)).ext e2.toS)
end

/-! ### max, min, sorted of a list of ints; max, min of two -/
theorem rp_ints : ∀ {vs : List V} {ns : List Int}, RpAll H vs (ns.map PyData.int) → vs = ns.map V.int
  | _, [], h => by cases h; rfl
  | _, n :: ns, h => by
    cases h with
    | cons r t => cases r; rw [rp_ints t]; rfl
theorem rp_ofInts : ∀ ns : List Int, RpAll H (ns.map V.int) (ns.map PyData.int)
  | [] => .nil
  | n :: ns => .cons (.int n) (rp_ofInts ns)
def eMaxL (fl : Fi) : Fe := fun E Q => fl E fun ds => ∃ ns : List Int, ds = ns.map .int ∧ 0 < ns.length ∧ ∀ m, m ∈ ns → (∀ y, y ∈ ns → y ≤ m) → Q (.int m)
def eMinL (fl : Fi) : Fe := fun E Q => fl E fun ds => ∃ ns : List Int, ds = ns.map .int ∧ 0 < ns.length ∧ ∀ m, m ∈ ns → (∀ y, y ∈ ns → m ≤ y) → Q (.int m)
theorem d_maxL (hc : X.calm = true) (hg : Gl X "max") (hm : X.mg "max" = none) (ha : DLs G X a fl) (he : starEach [a] X.env = (false, eval a X.env) :: starEach [] X.env := by rfl) : DE G X (.Call (.Name "max" p) [a] [] pos) (eMaxL fl) :=
  PE.weak (pe_callB (cr_max hc) hg hm (by decide +kernel) (pa_one ha he) (he := he)) fun σ H Q ⟨H0, ρ0, ρ, E, P, I, h, k⟩ => by
    show tL G fl σ H fun x H1 => rMax X.K [x] H1 Q
    exact tL.use I h fun ds ⟨ns, ed, hn, hd⟩ q vs H1 e1 I1 h1 h2 r1 => by
      subst ed
      have := rp_ints r1
      subst this
      exact ⟨q, ns, rfl, .inl h1, hn, fun m h3 h4 => k _ (hd m h3 h4) _ H1 e1 I1.g I1.row (.int _)⟩
theorem d_minL (hc : X.calm = true) (hg : Gl X "min") (hm : X.mg "min" = none) (ha : DLs G X a fl) (he : starEach [a] X.env = (false, eval a X.env) :: starEach [] X.env := by rfl) : DE G X (.Call (.Name "min" p) [a] [] pos) (eMinL fl) :=
  PE.weak (pe_callB (cr_min hc) hg hm (by decide +kernel) (pa_one ha he) (he := he)) fun σ H Q ⟨H0, ρ0, ρ, E, P, I, h, k⟩ => by
    show tL G fl σ H fun x H1 => rMin X.K [x] H1 Q
    exact tL.use I h fun ds ⟨ns, ed, hn, hd⟩ q vs H1 e1 I1 h1 h2 r1 => by
      subst ed
      have := rp_ints r1
      subst this
      exact ⟨q, ns, rfl, .inl h1, hn, fun m h3 h4 => k _ (hd m h3 h4) _ H1 e1 I1.g I1.row (.int _)⟩
def nSortI (fl : Fi) : Fi := fun E Q => fl E fun ds => ∃ ns : List Int, ds = ns.map .int ∧ ∀ ns' : List Int, ns'.Perm ns → ns'.Pairwise (· ≤ ·) → Q (ns'.map .int)
theorem dn_sortI (hg : Gl X "sorted") (hm : X.mg "sorted" = none) (ha : DLs G X a fl) (he : starEach [a] X.env = (false, eval a X.env) :: starEach [] X.env := by rfl) : DN G X (.Call (.Name "sorted" p) [a] [] pos) (nSortI fl) :=
  PE.weak (pe_callB cr_sortedI hg hm (by decide +kernel) (pa_one ha he) (he := he)) fun σ H Q ⟨H0, ρ0, ρ, E, P, I, h, k⟩ => by
    show tL G fl σ H fun x H1 => rSortedI X.K [x] H1 Q
    exact tL.use I h fun ds ⟨ns, ed, hd⟩ q vs H1 e1 I1 h1 h2 r1 => by
      subst ed
      have := rp_ints r1
      subst this
      exact ⟨q, ns, rfl, .inl h1, fun ns' l h3 h4 hl => k _ (hd ns' h3 h4) l _ _ (e1.trans ((Ext.refl ρ H1).upd hl)) (I1.new hl).g (I1.new hl).row (e1.free I1.row hl) upd_same (rp_ofInts ns')⟩
def fMax2 : List PyData → Dm PyData := fun ds Q => match ds with
  | [.int i, .int j] => Q (.int (if j > i then j else i))
  | _ => False
def fMin2 : List PyData → Dm PyData := fun ds Q => match ds with
  | [.int i, .int j] => Q (.int (if j < i then j else i))
  | _ => False
theorem callD_max2 : CallD G (fun xs H Q => ∃ i j, xs = [.int i, .int j] ∧ Q (.int (if j > i then j else i)) H) fMax2 := by
  intro H0 ρ0 ρ σ H E vs ds P Q I ra h k
  unfold fMax2 at h
  split at h
  · cases ra with
    | cons r t => cases t with
      | cons r2 t2 => cases t2; cases r; cases r2; exact ⟨_, _, rfl, k _ h _ _ (Ext.refl _ _) I (.int _)⟩
  · exact h.elim
theorem callD_min2 : CallD G (fun xs H Q => ∃ i j, xs = [.int i, .int j] ∧ Q (.int (if j < i then j else i)) H) fMin2 := by
  intro H0 ρ0 ρ σ H E vs ds P Q I ra h k
  unfold fMin2 at h
  split at h
  · cases ra with
    | cons r t => cases t with
      | cons r2 t2 => cases t2; cases r; cases r2; exact ⟨_, _, rfl, k _ h _ _ (Ext.refl _ _) I (.int _)⟩
  · exact h.elim

/-! ### list(d) of a dict of one's own -/
def nListD (i : Nat) : Fi := fun E Q => match E[i]? with
  | some (.dt kvs) => Q (kvs.map fun kv => tupD kv.1)
  | some (.dk kvs) => Q (kvs.map fun kv => keyD kv.1)
  | _ => False
theorem rp_keysK {kv : List (Key × V)} {kvs : List (Key × PyData)} (e : kv.map Prod.fst = kvs.map Prod.fst) : RpAll H (kv.map fun q => kV q.1) (kvs.map fun q => keyD q.1) := by
  have e1 : (kv.map fun q => kV q.1) = (kv.map Prod.fst).map kV := by rw [List.map_map]; rfl
  have e2 : (kvs.map fun q => keyD q.1) = (kvs.map Prod.fst).map keyD := by rw [List.map_map]; rfl
  rw [e1, e2, e]
  exact rp_key _
theorem rp_keysT {bs : List Addr} : ∀ {kv : List (List Key × V)} {kvs : List (List Key × PyData)} {bs : List Addr}, kv.map Prod.fst = kvs.map Prod.fst → IsKeys H kv bs → RpAll H (bs.map V.ref) (kvs.map fun q => tupD q.1)
  | [], [], _, _, h => by cases h; exact .nil
  | [], _ :: _, _, e, _ => by cases e
  | _ :: _, [], _, e, _ => by cases e
  | q :: kv, r :: kvs, _, e, h => by
    rw [List.map_cons, List.map_cons] at e
    injection e with a1 a2
    cases h with
    | cons x t =>
      refine .cons ?_ (rp_keysT (bs := []) a2 t)
      show Rp H _ (tupD r.1)
      rw [← a1]
      exact .tup x (rp_key _)
def rListX : List V → Hp → VK → Prop := fun xs H Q => (∃ d kvs, xs = [V.ref d] ∧ Rd H d (.dT kvs) ∧ ∀ p bs, H p = none → IsKeys H kvs bs → Q (.ref p) (upd H p (.lst (bs.map V.ref)))) ∨ rListD xs H Q
theorem call_listX (hc : X.calm = true) : CallR X (.type "list") rListX := fun pins s σ H xs us Q I r h => h.elim (call_list_dT hc pins s σ H xs us Q I r) (call_list_dK hc pins s σ H xs us Q I r)
theorem dn_listD (i : Nat) {x : Str} {p1 : Pos} (hc : X.calm = true) (hg : Gl X "list") (hm : X.mg "list" = none) (hi : X.N[i]? = some x := by rfl) (hv : Vis X.env.scope x := by first | exact Or.inl rfl | exact Or.inr (Or.inl rfl) | exact Or.inr (Or.inr rfl)) (hd : (x == ("__debug__" : Str)) = false := by decide) (hcd : (x == ("__classdict__" : Str)) = false := by decide)
    (he : starEach [.Name x p1] X.env = (false, eval (.Name x p1) X.env) :: starEach [] X.env := by rfl) : DN G X (.Call (.Name "list" p) [.Name x p1] [] pos) (nListD i) :=
  PE.weak (pe_callTy (call_listX hc) hg hm (by decide +kernel) (pa_one (pe_var hi hv hd hcd) he) (he := he)) fun σ H Q ⟨H0, ρ0, ρ, E, P, I, h, k⟩ => by
    show ∃ v, σ[i]? = some (some v) ∧ rListX [v] H Q
    unfold nListD at h
    split at h
    · rename_i kvs e
      obtain ⟨q, kv, h1, h2, h3, h4⟩ := I.slot i _ e
      exact ⟨_, h1, .inl ⟨q, kv, rfl, .inl h2, fun l bs hl hk => k _ h l _ _ ((Ext.refl ρ H).upd hl) (I.new hl).g (I.new hl).row (Fr0.of_none hl) upd_same ((rp_keysT (bs := bs) h3 hk).ext ((Ext.refl ρ H).upd hl).toS)⟩⟩
    · rename_i kvs e
      obtain ⟨q, kv, h1, h2, h3, h4⟩ := I.slot i _ e
      exact ⟨_, h1, .inr ⟨q, kv, rfl, h2, fun l hl => k _ h l _ _ ((Ext.refl ρ H).upd hl) (I.new hl).g (I.new hl).row (Fr0.of_none hl) upd_same (rp_keysK h3)⟩⟩
    · exact h.elim

/-! ### list + list -/
def rCatX (K : PySem.W.Frag) : R2 := fun x y H Q => ∃ l b xs zs, x = .ref l ∧ y = .ref b ∧ Rd H l (.lst xs) ∧ Rd H b (.lst zs) ∧ xs.length + zs.length ≤ sizeLine ∧ ∀ p, H p = none → Q (.ref p) (upd H p (.lst (xs ++ zs)))
theorem rd_list {pins : List (Addr × Obj)} {s : Shared} {q : Addr} {xs : List V} (J : Inv X pins σ H s) (h : Rd H q (.lst xs)) : xs.length ≤ sizeLine ∧ ∃ (its : List Value) (n : Nat), Vals xs its ∧ PySem.IsL s.heap q its.toArray n := by
  obtain ⟨z, its, n, r, e⟩ := h.ok J.hok
  exact ⟨z, its, n, r, e⟩
theorem op_catX : OpR X (binaryOp .Add) (rCatX X.K) := by
  intro pins s σ H x y v u Q I rx ry h
  obtain ⟨l, b, xs, zs, rfl, rfl, hH, hB, hz, q⟩ := h
  cases rx
  cases ry
  obtain ⟨z, its, n, r, e⟩ := rd_list I hH
  obtain ⟨z2, its2, n2, r2, e2⟩ := rd_list I hB
  have l1 := r.length
  have l2 := r2.length
  refine PySem.P.add_list e e2 ?_ (by rw [List.size_toArray, List.size_toArray]; omega)
  have ea : its.toArray ++ its2.toArray = (its ++ its2).toArray := by simp
  rw [ea]
  exact ⟨.ref _, _, I.lnew (t' := s.toks) (r.append r2) (by rw [List.length_append]; omega), rfl, q _ I.fresh⟩
def nCat (fl gl : Fi) : Fi := fun E Q => fl E fun xs => gl E fun ys => xs.length + ys.length ≤ sizeLine ∧ Q (xs ++ ys)
theorem dn_cat (ha : DLs G X a fl) (hb : DLs G X b gl) : DN G X (.BinOp a .Add b pos) (nCat fl gl) :=
  PE.weak (pe_op op_catX ha hb) fun σ H Q ⟨H0, ρ0, ρ, E, P, I, h, k⟩ => tL.use I h fun xs hx q vs H1 e1 I1 h1 h2 r1 => tL.use I1 hx fun ys ⟨hz, hd⟩ q' ws H2 e2 I2 h3 h4 r2 =>
    ⟨q, q', vs, ws, rfl, rfl, rd_ext e2 h2 h1, h3, by rw [r1.length, r2.length]; exact hz, fun l hl => k _ hd l _ _ ((e1.trans e2).trans ((Ext.refl ρ H2).upd hl)) (I2.new hl).g (I2.new hl).row ((e1.trans e2).free I2.row hl) upd_same
      (((r1.ext e2.toS).ext ((Ext.refl ρ H2).upd hl).toS).append (r2.ext ((Ext.refl ρ H2).upd hl).toS))⟩
end
end DL
set_option Elab.async false
set_option linter.all false
set_option maxRecDepth 100000
set_option maxHeartbeats 2000000
namespace DL
open PySem PySem.Spec PyProof.Rows L2

/-! ### a def with its code object known -/
structure FunC (K : PySem.W.Frag) (x qual : Str) (st : Stmt) (f : Addr) (fd : FuncData) (cdv : Value) : Prop where
  ex : ∃ (oc : Value) (od : Option Addr) (dV kV doc pm : Value) (an : Option Addr) (ct : Value) (osl : Array (Option Value)),
    fd = PySem.W.fnOf x qual (defArgs st) (defBody st) (defScope st) dV kV doc pm an cdv ct ∧ K.lookup f = some ⟨oc, od, .func fd, osl⟩ ∧ PySem.W.codeIn K cdv qual = true
theorem funC_of {K : PySem.W.Frag} {x qual : Str} {st : Stmt} {p : He.Defn} {fd : FuncData} {dvs : List V} {kws : List (Str × V)} (F : FunD K x qual (defArgs st) (defBody st) (defScope st) dvs kws (He.fAd K p) fd) : FunC K x qual st (He.fAd K p) fd (.ref (He.codeOf K p)) := by
  obtain ⟨oc, od, dV, kV, doc, pm, an, cdv, ct, osl, e, l, c, _, _⟩ := F.ex
  obtain ⟨cc, ec⟩ := He.codeIn_ref c
  subst ec
  have : He.codeOf K p = cc := He.codeOf_eq l (by rw [e])
  rw [this]
  exact ⟨oc, od, dV, kV, doc, pm, an, ct, osl, e, l, c⟩
section
variable {P : Program} {w : World} {K : PySem.W.Frag} {mg : Str → Option Value} {base : Heap}
theorem fnC_ok {x qual : Str} {st : Stmt} {f : Addr} {fd : FuncData} {cdv : Value} {N ps : List Str} {k : Nat} {sp : Sp} (F : FunC K x qual st f fd cdv) (S : FnScope N ps (defScope st)) (len : ∀ vs H Q E, sp vs H Q E → vs.length = ps.length)
    (hbody : ∀ (A : Around) (outer : List Env) (s : Shared) (H : Hp) (vs : List V) (Q : VK) (E : XK), Room k (A.deeper (envOfC qual (defScope st) s.heap.objs.size f cdv)) → sp vs H Q E →
      ∃ t, PSs (cxOf CX0 P w K mg base N qual (defScope st) f cdv A outer s H E).nox (defBody st) t ∧ t { nx := fun _ H' => Q .non H', rt := Q } (L2.start N vs) H) : FnOk P w K mg base CX0 (k + 1) f fd ps sp := by
  obtain ⟨oc, od, dV, kV, doc, pm, an, ct, osl, rfl, lk, hcd⟩ := F.ex
  refine fn_of lk hcd S len fun A outer s H vs Q E hr hsp => ?_
  obtain ⟨t, h, q⟩ := hbody A outer s H vs Q E hr hsp
  exact ⟨t, h.nox, q⟩
theorem fnC {G : Gb} (hP : ∀ e, ¬ G.Px e) {x qual : Str} {st : Stmt} {f : Addr} {fd : FuncData} {cdv : Value} {N ps : List Str} {k : Nat} {fs : Fs} (F : FunC K x qual st f fd cdv) (S : FnScope N ps (defScope st)) (hn : ps.length ≤ N.length)
    (body : ∀ (A : Around) (outer : List Env) (s : Shared) (H : Hp) (E : XK), Room k (A.deeper (envOfC qual (defScope st) s.heap.objs.size f cdv)) → DSs G (cxOf CX0 P w K mg base N qual (defScope st) f cdv A outer s H E).nox (defBody st) fs) :
    FnOk P w K mg base CX0 (k + 1) f fd ps (spD G (runDef ps.length N.length fs)) := by
  refine fnC_ok F S (fun vs H Q E ⟨ρ, as, P, ha, _, _, hF, _⟩ => ha.length.trans hF.1) fun A outer s H vs Q E hr ⟨ρ, as, Pd, ha, g, r, ⟨hl, hF⟩, q⟩ => ?_
  refine ⟨_, body A outer s H E hr, ?_⟩
  refine ⟨H, ρ, ρ, _, endP Pd, DInv.start (N := N) ha g r (by rw [hl]; exact hn) (fun e he => absurd he (hP e)), ?_, ?_, ?_, ?_, ?_⟩
  · rw [hl]; exact hF
  · exact fun E' hE ρ' σ' H' x I' => q _ hE .non H' I'.ext I'.g I'.row0 .non
  · exact fun d hd v H' e g r rp => q _ hd v H' e g r rp
  · exact fun E' hE => hE.elim
  · exact fun E' hE => hE.elim
end

/-! ### the law's def: first the row is made -/
theorem ps_may {X : Cx} {st : Stmt} {t : TS} (h : PS X st t) : PS X st (fun D σ H => t D σ H ∨ ∃ d u, H d = some u ∧ Mut (some u) ∧ ∀ od, t D σ (upd H d (.frz od u))) := ⟨fun pins s σ H D I q => by
  rcases q with q | ⟨d, u, hu, mu, q⟩
  · exact h.run pins s σ H D I q
  · obtain ⟨od, I2⟩ := I.lock hu mu
    exact h.run pins s σ _ D I2 (q od)⟩
/-- what the law is called with -/
def spLaw (G : Gb) (n : Nat) (fs : Fs) : Sp := fun vs H Q _ => ∃ (a : Addr) (xs : List Int), vs = [.ref a] ∧ SqL G.K H a (xs.map V.int) ∧ xs.length ≤ 63 ∧ GOk G H ∧ fs ([.no, .row] ++ List.replicate (n - 2) .no) (endP fun d => d = .bool true) ∧ ∀ H', Q (.bl true) H'
section
variable {P : Program} {w : World} {K : PySem.W.Frag} {mg : Str → Option Value} {base : Heap}
theorem fnLaw {G : Gb} (hP : ∀ e, ¬ G.Px e) {x qual r0 : Str} {st : Stmt} {f : Addr} {fd : FuncData} {cdv : Value} {N : List Str} {k : Nat} {fs : Fs} {sd : Int} {rest : List Stmt} {q0 q1 q2 q3 q4 q5 q6 : Pos} {j1 j2 j3 : Nat} {y : Str} (hK : G.K = K) (F : FunC K x qual st f fd cdv) (S : FnScope N [y] (defScope st)) (hn : 2 ≤ N.length)
    (hb : defBody st = .Assign [.Name r0 q0] (.List [.Name y q1, .Constant (.int 0) j1 q2, .Constant (.int sd) j2 q3, .Constant (.int 0) j3 q4] q5) q6 :: rest) (hs0 : 0 ≤ sd) (hs1 : sd < 2147483648)
    (first : ∀ (A : Around) (outer : List Env) (s : Shared) (H : Hp) (E : XK), PS (cxOf CX0 P w K mg base N qual (defScope st) f cdv A outer s H E).nox (.Assign [.Name r0 q0] (.List [.Name y q1, .Constant (.int 0) j1 q2, .Constant (.int sd) j2 q3, .Constant (.int 0) j3 q4] q5) q6)
      (tAsg (tLst (tCons (tVar 0) (tCons (tC (.int 0)) (tCons (tC (.int sd)) (tCons (tC (.int 0)) tNil))))) (gName 1)))
    (body : ∀ (A : Around) (outer : List Env) (s : Shared) (H : Hp) (E : XK), Room k (A.deeper (envOfC qual (defScope st) s.heap.objs.size f cdv)) → DSs G (cxOf CX0 P w K mg base N qual (defScope st) f cdv A outer s H E).nox rest fs) :
    FnOk P w K mg base CX0 (k + 1) f fd [y] (spLaw G N.length fs) := by
  refine fnC_ok F S (fun vs H Q E ⟨a, xs, e, _⟩ => by rw [e]; rfl) fun A outer s H vs Q E hr ⟨a, xs, ev, hS, hl, g, hF, q⟩ => ?_
  subst ev
  rw [hb]
  refine ⟨_, pss_cons (ps_may (first A outer s H E)) (body A outer s H E hr), ?_⟩
  -- from a heap in which the script can't change
  have core : ∀ H1, ScrAt G.K H1 a xs → GOk G H1 → tAsg (tLst (tCons (tVar 0) (tCons (tC (.int 0)) (tCons (tC (.int sd)) (tCons (tC (.int 0)) tNil))))) (gName 1) { nx := tS G fs { nx := fun _ H' => Q .non H', rt := Q }, rt := Q } (L2.start N [V.ref a]) H1 := fun H1 hA g1 => by
    have e0 : (L2.start N [V.ref a])[0]? = some (some (.ref a)) := rfl
    refine ⟨.ref a, e0, by show 4 ≤ sizeLine; decide, fun p hp => ?_⟩
    have e : ∀ b x, H1 b = some x → upd H1 p (.lst [.ref a, .int 0, .int sd, .int 0]) b = some x := fun b x hb => by rw [upd_ne (ne_of_none hb hp)]; exact hb
    have g2 : GOk G (upd H1 p (.lst [.ref a, .int 0, .int sd, .int 0])) := g1.upd (o' := .tup []) (.inl hp)
    have sl : ∀ (i : Nat) (s : Sl), (([.no, .row] : List Sl) ++ List.replicate (N.length - 2) .no)[i]? = some s → (i = 1 ∧ s = .row) ∨ s = .no := fun i s hi => by
      match i with
      | 0 => cases hi; exact .inr rfl
      | 1 => cases hi; exact .inl ⟨rfl, rfl⟩
      | i + 2 =>
        have : s ∈ List.replicate (N.length - 2) Sl.no := List.mem_of_getElem? (i := i) (by simpa using hi)
        exact .inr (List.mem_replicate.mp this).2
    have ln : (L2.start N [V.ref a]).length = N.length := by
      unfold L2.start
      rw [List.length_append, List.length_map, List.length_replicate]
      show 1 + (N.length - 1) = N.length
      omega
    refine ⟨_, some p, some p, _, endP fun d => d = .bool true, ⟨g2, Ext.refl _ _, fun b eb => ?_, .inl rfl, ?_, fun i s hi => ?_, fun i s b hi ho => ?_, fun i j s s' b hi ho => ?_, fun e he => absurd he (hP e)⟩, hF, ?_, ?_, ?_, ?_⟩
    · cases eb
      exact ⟨a, xs, (), 0, sd, 0, upd_same, hA.ext fun b x hb _ => e b x hb, Int.le_refl 0, hs0, hs1, hl⟩
    · rw [List.length_set, ln, List.length_append, List.length_replicate]
      show 2 + (N.length - 2) = N.length
      omega
    · rcases sl i s hi with ⟨rfl, rfl⟩ | rfl
      · exact ⟨p, List.getElem?_set_self (by rw [ln]; omega), rfl⟩
      · exact True.intro
    · rcases sl i s hi with ⟨_, rfl⟩ | rfl <;> cases ho
    · rcases sl i s hi with ⟨_, rfl⟩ | rfl <;> cases ho
    · exact fun E' hE ρ' σ' H' x I' => by cases (show PyData.none = .bool true from hE)
    · exact fun d hd v H' e g r rp => by
        obtain rfl : d = .bool true := hd
        cases rp
        exact q H'
    · exact fun E' hE => hE.elim
    · exact fun E' hE => hE.elim
  rcases hS with (h | ⟨o, h⟩) | h
  · refine .inr ⟨a, _, h, True.intro, fun od => core _ (.inl ⟨od, upd_same⟩) (g.upd (.inr ⟨h, chg_lst.2⟩))⟩
  · exact .inl (core H (.inl ⟨o, h⟩) g)
  · exact .inl (core H (.inr h) g)

/-! ### a draw -/
def fTaken : Ff := fun as Q => ∃ m : Int, as = [.row, .val (.int m)] ∧ 1 ≤ m ∧ m < 1073741824 ∧ ∀ v : Int, 0 ≤ v → v < m → Q (.int v)
section
variable {P : Program} {w : World} {K : PySem.W.Frag} {mg : Str → Option Value} {base : Heap} {X : Cx}
abbrev tRow (k : Int) : TE := tOp (rIxL K) (tVar 0) (tC (.int k))
theorem rd_row {K : PySem.W.Frag} {σ : L2.St} {H : Hp} {b : Addr} {L : List V} {k : Int} {v : V} {Q : VK} (hσ : σ[0]? = some (some (.ref b))) (hb : H b = some (.lst L)) (hk : atI L k = some v) (q : Q v H) : tOp (rIxL K) (tVar 0) (tC (.int k)) σ H Q := ⟨_, hσ, b, L, k, v, rfl, rfl, .inl (.inl hb), hk, q⟩
/-- row[k] = .. -/
theorem wr_row {σ : L2.St} {H : Hp} {b : Addr} {L : List V} {k : Int} {j : Nat} {v : V} {Q : L2.St → Hp → Prop} (hσ : σ[0]? = some (some (.ref b))) (hb : H b = some (.lst L)) (hk : ixN L.length k = some j) (q : Q σ (upd H b (.lst (L.set j v)))) : gSub (tVar 0) (tC (.int k)) rSetL v σ H Q := ⟨_, hσ, b, L, k, j, rfl, rfl, hb, hk, q⟩
abbrev qIx (K : PySem.W.Frag) (k : Int) : TE := tOp (rIxL K) (tVar 0) (tC (.int k))
abbrev qSt (k : Int) : TG := gSub (tVar 0) (tC (.int k)) rSetL
abbrev qInt (t : TE) : TE := tCB (fun xs H Q => (∃ i, xs = [.int i] ∧ Q (.int i) H) ∨ ∃ k, xs = [.bl k] ∧ Q (.int (if k then 1 else 0)) H) (tCons t tNil)
abbrev qMod : TE → TE → TE := tOp (rI (fun _ j => 0 < j) fun i j => .int (i % j))
abbrev qDiv : TE → TE → TE := tOp (rI CDiv fun i j => .int (i / j))
abbrev qAdd : TE → TE → TE := tOp (rI0 fun i j => .int (i + j))
abbrev qSub : TE → TE → TE := tOp (rI0 fun i j => .int (i - j))
abbrev qMul : TE → TE → TE := tOp (rI CMul fun i j => .int (i * j))
abbrev qGt (a b : TE) : TT := tTest (tOp (rI0 fun i j => .bl (decide (j < i))) a b)
abbrev qGe (a b : TE) : TT := tTest (tOp (rI0 fun i j => .bl (decide (j ≤ i))) a b)
abbrev qSeq (t u : TS) : TS := fun D σ H => t { D with nx := u D } σ H
/-- the body of the draw, from its end -/
def tTk3 (K : PySem.W.Frag) : TS :=
  qSeq (tIfS (qGe (tVar 3) (tOp (rI CPow fun i j => .int (i ^ j.toNat)) (tC (.int 10)) (tC (.int 18)))) (tAsg (qDiv (tVar 3) (tVar 1)) (qSt 3)) tNext)
     (tRet (qMod (qInt (tVar 3)) (tVar 1)))
def tTk2 (K : PySem.W.Frag) : TS :=
  qSeq (tIfS (qGt (qIx K 1) (tCB (fun xs H Q => ∃ x n, xs = [x] ∧ LenV K x H n ∧ Q (.int n) H) (tCons (qIx K 0) tNil)))
      (qSeq (tAsg (qMod (qInt (qAdd (qMul (qIx K 2) (tC (.int 48271))) (tC (.int 11)))) (tC (.int 2147483647))) (qSt 2)) (tRet (qMod (qInt (qDiv (qIx K 2) (tC (.int 7)))) (tVar 1)))) tNext)
   (qSeq (tAsg (tOp (rIxL K) (qIx K 0) (qSub (qIx K 1) (tC (.int 1)))) (gName 3))
   (qSeq (tAsg (qMod (qInt (qAdd (qAdd (qMul (qIx K 2) (tC (.int 48271))) (tVar 3)) (tC (.int 11)))) (tC (.int 2147483647))) (qSt 2)) (tTk3 K)))
def tTaken (K : PySem.W.Frag) : TS :=
  qSeq (tIfS (qGt (qIx K 3) (tC (.int 0))) (qSeq (tAsg (qMod (qInt (qIx K 3)) (tVar 1)) (gName 2)) (qSeq (tAsg (qDiv (qIx K 3) (tVar 1)) (qSt 3)) (tRet (tVar 2)))) tNext)
   (qSeq (tAsg (qAdd (qIx K 1) (tC (.int 1))) (qSt 1)) (tTk2 K))
theorem tTaken_ok {G : Gb} {H : Hp} {b a : Addr} {xs : List Int} {i s c m : Int} {rt : VK} (hb : H b = some (.lst [.ref a, .int i, .int s, .int c])) (ha : ScrAt G.K H a xs) (hf : RowFit xs i s c) (h1 : 1 ≤ m) (h2 : m < 1073741824)
    (q : ∀ v : Int, 0 ≤ v → v < m → ∀ H', Ext (some b) H H' → (∀ p ps, H p = some (.tbl ps) → H' p = some (.tbl ps)) → (∀ p φ, H p = some (.ext φ) → H' p = some (.ext φ)) → RowAt G.K H' b → rt (.int v) H') :
    tTaken G.K { nx := fun _ H' => rt .non H', rt := rt } [some (.ref b), some (.int m), none, none] H := by
  obtain ⟨f1, f2, f3, f4⟩ := hf
  -- the heap with another row
  have wr : ∀ (H1 : Hp) (L : List V), H1 b = some (.lst L) → ∀ i' s' c' : Int, Ext (some b) H H1 → (∀ p ps, H p = some (.tbl ps) → H1 p = some (.tbl ps)) → (∀ p φ, H p = some (.ext φ) → H1 p = some (.ext φ)) → 0 ≤ i' → 0 ≤ s' → s' < 2147483648 →
      let H2 := upd H1 b (.lst [.ref a, .int i', .int s', .int c'])
      Ext (some b) H H2 ∧ (∀ p ps, H p = some (.tbl ps) → H2 p = some (.tbl ps)) ∧ (∀ p φ, H p = some (.ext φ) → H2 p = some (.ext φ)) ∧ RowAt G.K H2 b ∧ H2 b = some (.lst [.ref a, .int i', .int s', .int c']) ∧ ScrAt G.K H2 a xs := by
    intro H1 L hL i' s' c' e1 e2 e3 h0 h0' h1'
    have hA : ScrAt G.K (upd H1 b (.lst [.ref a, .int i', .int s', .int c'])) a xs := ha.ext fun p o hp hs => by
      rw [upd_ne (fun z => by subst z; rw [hb] at hp; cases hp; exact hs)]; exact e1 p o hp hs.noTbl fun _ => hs
    refine ⟨fun p o hp n r => ?_, fun p ps hp => ?_, fun p φ hp => ?_, ⟨a, xs, (), i', s', c', upd_same, hA, h0, h0', h1', f4⟩, upd_same, hA⟩
    · rw [upd_ne (fun z => by subst z; rw [hb] at hp; cases hp; exact (r rfl).elim)]; exact e1 p o hp n r
    · rw [upd_ne (fun z => by subst z; rw [hb] at hp; cases hp)]; exact e2 p ps hp
    · rw [upd_ne (fun z => by subst z; rw [hb] at hp; cases hp)]; exact e3 p φ hp
  have mB : ∀ x : Int, 0 ≤ x % m ∧ x % m < m := fun x => ⟨Int.emod_nonneg _ (by omega), Int.emod_lt_of_pos _ (by omega)⟩
  have sB : ∀ x : Int, 0 ≤ x % 2147483647 ∧ x % 2147483647 < 2147483648 := fun x => ⟨Int.emod_nonneg _ (by decide), by have := Int.emod_lt_of_pos x (show (0 : Int) < 2147483647 by decide); omega⟩
  have same : Ext (some b) H H := Ext.refl _ _
  have t0 : ∀ p ps, H p = some (.tbl ps) → H p = some (.tbl ps) := fun _ _ h => h
  have x0 : ∀ p φ, H p = some (.ext φ) → H p = some (.ext φ) := fun _ _ h => h
  have r0 : RowAt G.K H b := ⟨a, xs, (), i, s, c, hb, ha, f1, f2, f3, f4⟩
  have cd : CDiv c m := ⟨by omega, h2⟩
  unfold tTaken
  -- if row[3] > 0
  refine rd_row rfl hb (atI_nat (j := 3) rfl) ⟨c, 0, rfl, rfl, _, rfl, ite2 (fun h => ?_) fun h => ?_⟩
  · -- found = int(row[3]) % many; row[3] = row[3] // many
    refine rd_row rfl hb (atI_nat (j := 3) rfl) (.inl ⟨c, rfl, .int m, rfl, c, m, rfl, rfl, by omega, ?_⟩)
    refine rd_row rfl hb (atI_nat (j := 3) rfl) ⟨.int m, rfl, c, m, rfl, rfl, cd, wr_row (j := 3) rfl hb rfl ?_⟩
    obtain ⟨w1, w2, w3, w4, _⟩ := wr H _ hb i s (c / m) same t0 x0 f1 f2 f3
    exact ⟨.int (c % m), rfl, q _ (mB c).1 (mB c).2 _ w1 w2 w3 w4⟩
  -- row[1] = row[1] + 1
  show (tAsg (tOp (rI0 fun i j => .int (i + j)) (tOp (rIxL G.K) (tVar 0) (tC (.int 1))) (tC (.int 1))) (gSub (tVar 0) (tC (.int 1)) rSetL)) _ _ _
  refine rd_row rfl hb (atI_nat (j := 1) rfl) ⟨i, 1, rfl, rfl, wr_row (j := 1) rfl hb rfl ?_⟩
  obtain ⟨w1, w2, w3, w4, hb1, ha1⟩ := wr H _ hb (i + 1) s c same t0 x0 (by omega) f2 f3
  show tTk2 G.K _ _ (upd H b (.lst [.ref a, .int (i + 1), .int s, .int c]))
  generalize upd H b (.lst [.ref a, .int (i + 1), .int s, .int c]) = H1 at w1 w2 w3 w4 hb1 ha1
  unfold tTk2
  -- if row[1] > len(row[0])
  refine rd_row rfl hb1 (atI_nat (j := 1) rfl) (rd_row rfl hb1 (atI_nat (j := 0) rfl) ⟨.ref a, xs.length, rfl, .inl ⟨_, ha1.seq, (List.length_map _).symm⟩, i + 1, xs.length, rfl, rfl, _, rfl, ite2 (fun h => ?_) fun h => ?_⟩)
  · -- row[2] = ..
    refine rd_row rfl hb1 (atI_nat (j := 2) rfl) ⟨s, 48271, rfl, rfl, .inl ⟨by omega, by omega⟩, _, 11, rfl, rfl, .inl ⟨_, rfl, _, _, rfl, rfl, (show (0 : Int) < 2147483647 by decide), wr_row (j := 2) rfl hb1 rfl ?_⟩⟩
    obtain ⟨v1, v2, v3, v4, hb2, ha2⟩ := wr H1 _ hb1 (i + 1) ((s * 48271 + 11) % 2147483647) c w1 w2 w3 (by omega) (sB _).1 (sB _).2
    exact rd_row rfl hb2 (atI_nat (j := 2) rfl) ⟨_, 7, rfl, rfl, ⟨by decide, by decide⟩, .inl ⟨_, rfl, .int m, rfl, _, m, rfl, rfl, by omega, q _ (mB _).1 (mB _).2 _ v1 v2 v3 v4⟩⟩
  -- cell = row[0][row[1] - 1]
  have hlt : i < xs.length := by
    have z := of_decide_eq_false (Bool.eq_false_iff.mpr h)
    omega
  have hn : i.toNat < xs.length := by omega
  have hcell : atI (xs.map V.int) (i + 1 - 1) = some (.int xs[i.toNat]) := by
    have e : i + 1 - 1 = ((i.toNat : Nat) : Int) := by omega
    rw [e]
    refine atI_nat ?_
    rw [List.getElem?_map, List.getElem?_eq_getElem hn]; rfl
  refine rd_row rfl hb1 (atI_nat (j := 0) rfl) (rd_row rfl hb1 (atI_nat (j := 1) rfl) ⟨i + 1, 1, rfl, rfl, a, _, i + 1 - 1, .int xs[i.toNat], rfl, rfl, ha1.seq, hcell, ?_⟩)
  -- row[2] = ..
  refine rd_row rfl hb1 (atI_nat (j := 2) rfl) ⟨s, 48271, rfl, rfl, .inl ⟨by omega, by omega⟩, .int xs[i.toNat], rfl, _, xs[i.toNat], rfl, rfl, _, 11, rfl, rfl, .inl ⟨_, rfl, _, _, rfl, rfl, (show (0 : Int) < 2147483647 by decide), wr_row (j := 2) rfl hb1 rfl ?_⟩⟩
  obtain ⟨v1, v2, v3, v4, hb2, ha2⟩ := wr H1 _ hb1 (i + 1) ((s * 48271 + xs[i.toNat] + 11) % 2147483647) c w1 w2 w3 (by omega) (sB _).1 (sB _).2
  show tTk3 G.K _ _ (upd H1 b (.lst [.ref a, .int (i + 1), .int ((s * 48271 + xs[i.toNat] + 11) % 2147483647), .int c]))
  generalize upd H1 b (.lst [.ref a, .int (i + 1), .int ((s * 48271 + xs[i.toNat] + 11) % 2147483647), .int c]) = H2 at v1 v2 v3 v4 hb2 ha2
  have fin : ∀ H3, Ext (some b) H H3 → (∀ p ps, H p = some (.tbl ps) → H3 p = some (.tbl ps)) → (∀ p φ, H p = some (.ext φ) → H3 p = some (.ext φ)) → RowAt G.K H3 b → rt (.int (xs[i.toNat] % m)) H3 := fun H3 a1 a2 a3 a4 => q _ (mB _).1 (mB _).2 _ a1 a2 a3 a4
  unfold tTk3
  refine ⟨.int xs[i.toNat], rfl, 10, 18, rfl, rfl, ⟨by decide, by decide, by decide⟩, xs[i.toNat], _, rfl, rfl, _, rfl, ite2 (fun h => ?_) fun h => ?_⟩
  · obtain ⟨u1, u2, u3, u4, hb3, ha3⟩ := wr H2 _ hb2 (i + 1) ((s * 48271 + xs[i.toNat] + 11) % 2147483647) (xs[i.toNat] / m) v1 v2 v3 (by omega) (sB _).1 (sB _).2
    exact ⟨.int xs[i.toNat], rfl, .int m, rfl, _, m, rfl, rfl, cd, wr_row (j := 3) rfl hb2 rfl ⟨.int xs[i.toNat], rfl, .inl ⟨_, rfl, .int m, rfl, _, m, rfl, rfl, by omega, fin _ u1 u2 u3 u4⟩⟩⟩
  · exact ⟨.int xs[i.toNat], rfl, .inl ⟨_, rfl, .int m, rfl, _, m, rfl, rfl, by omega, fin _ v1 v2 v3 v4⟩⟩
end
section
variable {X : Cx} {G : Gb} {a b c e tg : Expr} {f g h : Fe} {fl gl : Fi} {pos p : Pos} {H0 H H' : Hp} {ρ0 ρ : Option Addr} {σ : L2.St} {E : Ed}
/-- several at once, the names not all plain locals -/
theorem s_par2c (i j : Nat) {x y : Str} {px py pt : Pos} {kt k2 pt2} {fx gx : Fx} (hc : X.calm = true) (hN : X.N.Nodup) (ha : DX G X a fx) (hb : DX G X b gx)
    (hi : X.N[i]? = some x := by rfl) (hj : X.N[j]? = some y := by rfl) (hx : Loc X.env.scope x := by first | exact Or.inl rfl | exact Or.inr rfl) (hy : Loc X.env.scope y := by first | exact Or.inl rfl | exact Or.inr rfl)
    (hfx : X.fn x = true ∨ X.env.scope.names.lookup x = some .local := by first | exact .inl rfl | exact .inr rfl) (hfy : X.fn y = true ∨ X.env.scope.names.lookup y = some .local := by first | exact .inl rfl | exact .inr rfl)
    (hw : swappedStores [.Tuple [.Name x px, .Name y py] kt pt] (.Tuple [a, b] k2 pt2) X.env = pure none := by rfl)
    (hs : swapsWithSole [.Tuple [.Name x px, .Name y py] kt pt] (.Tuple [a, b] k2 pt2) pos.line X.env = pure false := by rfl) (hs1 : starEach [a, b] X.env = (false, eval a X.env) :: starEach [b] X.env := by rfl) (hs2 : starEach [b] X.env = (false, eval b X.env) :: starEach [] X.env := by rfl)
    (h1 : (assignEach [.Tuple [.Name x px, .Name y py] kt pt] X.env).map (·.2) = [assign (.Tuple [.Name x px, .Name y py] kt pt) X.env] := by rfl)
    (ha1 : (assignEach (.Name x px :: [.Name y py]) X.env).map (·.2) = assign (.Name x px) X.env :: (assignEach [.Name y py] X.env).map (·.2) := by rfl)
    (ha2 : (assignEach (.Name y py :: []) X.env).map (·.2) = assign (.Name y py) X.env :: (assignEach [] X.env).map (·.2) := by rfl) (hn : (assignEach [.Name x px, .Name y py] X.env).length = 2 := by rfl) (hst : (assignEach [.Name x px, .Name y py] X.env).findIdx? (·.1) = none := by rfl) :
    DS G X (.Assign [.Tuple [.Name x px, .Name y py] kt pt] (.Tuple [a, b] k2 pt2) pos) (sPar2 i j fx gx) :=
  PS.weak (ps_asg (pe_tup (pa_cons ha (pa_cons hb pa_nil hs2) hs1)) (pg_tup hc (pgs_cons (pg_name hN hi hx hfx) (pgs_cons (pg_name hN hj hy hfy) pgs_nil ha2) ha1) hn hst) hs hw h1) fun D σ H ⟨H0, ρ0, ρ, E, P, I, h, k1, k2, k3, k4⟩ => by
    show tX G fx σ H fun v H1 => tX G gx σ H1 fun w H2 => 2 ≤ sizeLine ∧ ∀ q, H2 q = none → gTup X.K 2 (gCons (gName i) (gCons (gName j) gNil)) (.ref q) σ (upd H2 q (.tup [v, w])) D.nx
    exact tX.use I h fun s1 hs1 v H1 e1 I1 n1 => tX.use I1 hs1 fun s2 hs2 w H2 e2 I2 n2 => ⟨by decide, fun q hq => by
      have e3 : Ext ρ H2 (upd H2 q (.tup [v, w])) := (Ext.refl ρ H2).upd hq
      have I3 : DInv G H0 ρ0 ρ σ (upd H2 q (.tup [v, w])) E := I2.new hq
      have n2' : NewSl H1 (upd H2 q (.tup [v, w])) w s2 := n2.ext e3 fun r hr => I1.noRow hr
      exact ⟨q, _, rfl, .inl (.inl upd_same), rfl, v, [w], rfl, w, [], rfl, rfl, k1 _ hs2 ρ _ _ ((e1.trans e2).trans e3).toS (take2 I I1 e1 n1 I3 (e2.trans e3) n2')⟩⟩
theorem s_par3c (i j l : Nat) {x y z : Str} {px py pz pt : Pos} {kt k2 pt2} {fx gx zx : Fx} (hc : X.calm = true) (hN : X.N.Nodup) (ha : DX G X a fx) (hb : DX G X b gx) (hcc : DX G X c zx)
    (hi : X.N[i]? = some x := by rfl) (hj : X.N[j]? = some y := by rfl) (hl : X.N[l]? = some z := by rfl) (hx : Loc X.env.scope x := by first | exact Or.inl rfl | exact Or.inr rfl) (hy : Loc X.env.scope y := by first | exact Or.inl rfl | exact Or.inr rfl) (hz : Loc X.env.scope z := by first | exact Or.inl rfl | exact Or.inr rfl)
    (hfx : X.fn x = true ∨ X.env.scope.names.lookup x = some .local := by first | exact .inl rfl | exact .inr rfl) (hfy : X.fn y = true ∨ X.env.scope.names.lookup y = some .local := by first | exact .inl rfl | exact .inr rfl) (hfz : X.fn z = true ∨ X.env.scope.names.lookup z = some .local := by first | exact .inl rfl | exact .inr rfl)
    (hw : swappedStores [.Tuple [.Name x px, .Name y py, .Name z pz] kt pt] (.Tuple [a, b, c] k2 pt2) X.env = pure none := by rfl)
    (hs : swapsWithSole [.Tuple [.Name x px, .Name y py, .Name z pz] kt pt] (.Tuple [a, b, c] k2 pt2) pos.line X.env = pure false := by rfl) (hs1 : starEach [a, b, c] X.env = (false, eval a X.env) :: starEach [b, c] X.env := by rfl) (hs2 : starEach [b, c] X.env = (false, eval b X.env) :: starEach [c] X.env := by rfl) (hs3 : starEach [c] X.env = (false, eval c X.env) :: starEach [] X.env := by rfl)
    (h1 : (assignEach [.Tuple [.Name x px, .Name y py, .Name z pz] kt pt] X.env).map (·.2) = [assign (.Tuple [.Name x px, .Name y py, .Name z pz] kt pt) X.env] := by rfl)
    (ha1 : (assignEach (.Name x px :: [.Name y py, .Name z pz]) X.env).map (·.2) = assign (.Name x px) X.env :: (assignEach [.Name y py, .Name z pz] X.env).map (·.2) := by rfl)
    (ha2 : (assignEach (.Name y py :: [.Name z pz]) X.env).map (·.2) = assign (.Name y py) X.env :: (assignEach [.Name z pz] X.env).map (·.2) := by rfl)
    (ha3 : (assignEach (.Name z pz :: []) X.env).map (·.2) = assign (.Name z pz) X.env :: (assignEach [] X.env).map (·.2) := by rfl) (hn : (assignEach [.Name x px, .Name y py, .Name z pz] X.env).length = 3 := by rfl) (hst : (assignEach [.Name x px, .Name y py, .Name z pz] X.env).findIdx? (·.1) = none := by rfl) :
    DS G X (.Assign [.Tuple [.Name x px, .Name y py, .Name z pz] kt pt] (.Tuple [a, b, c] k2 pt2) pos) (sPar3 i j l fx gx zx) :=
  PS.weak (ps_asg (pe_tup (pa_cons ha (pa_cons hb (pa_cons hcc pa_nil hs3) hs2) hs1)) (pg_tup hc (pgs_cons (pg_name hN hi hx hfx) (pgs_cons (pg_name hN hj hy hfy) (pgs_cons (pg_name hN hl hz hfz) pgs_nil ha3) ha2) ha1) hn hst) hs hw h1) fun D σ H ⟨H0, ρ0, ρ, E, P, I, h, k1, k2, k3, k4⟩ => by
    show tX G fx σ H fun v H1 => tX G gx σ H1 fun w H2 => tX G zx σ H2 fun u H3 => 3 ≤ sizeLine ∧ ∀ q, H3 q = none → gTup X.K 3 (gCons (gName i) (gCons (gName j) (gCons (gName l) gNil))) (.ref q) σ (upd H3 q (.tup [v, w, u])) D.nx
    exact tX.use I h fun s1 hs1 v H1 e1 I1 n1 => tX.use I1 hs1 fun s2 hs2 w H2 e2 I2 n2 => tX.use I2 hs2 fun s3 hs3 u H3 e3 I3 n3 => ⟨by decide, fun q hq => by
      have e4 : Ext ρ H3 (upd H3 q (.tup [v, w, u])) := (Ext.refl ρ H3).upd hq
      have I4 : DInv G H0 ρ0 ρ σ (upd H3 q (.tup [v, w, u])) E := I3.new hq
      have n3' : NewSl H2 (upd H3 q (.tup [v, w, u])) u s3 := n3.ext e4 fun r hr => I2.noRow hr
      have J2 := take2 (i := i) (j := j) I I1 e1 n1 I2 e2 n2
      exact ⟨q, _, rfl, .inl (.inl upd_same), rfl, v, [w, u], rfl, w, [u], rfl, u, [], rfl, rfl, k1 _ hs3 ρ _ _ (((e1.trans e2).trans e3).trans e4).toS (J2.take (J2.to (e3.trans e4) I4.g I4.row) n3')⟩⟩
/-- -a -/
def eNeg (f : Fe) : Fe := fun E Q => f E fun d => ∃ i, d = .int i ∧ Q (.int (-i))
theorem d_neg (ha : DE G X a f) : DE G X (.UnaryOp .USub a pos) (eNeg f) := PE.weak (pe_un un_neg ha) fun σ H Q ⟨H0, ρ0, ρ, E, P, I, h, k⟩ => tE.use I h fun d ⟨i, ed, hd⟩ v H1 e1 I1 r1 => by
  subst ed
  cases r1
  exact ⟨i, rfl, k _ hd _ H1 e1 I1.g I1.row (.int _)⟩
abbrev oPow : Od := oInt CPow fun i j => .int (i ^ j.toNat)
theorem d_pow (ha : DE G X a f) (hb : DE G X b g) : DE G X (.BinOp a .Pow b pos) (eOp oPow f g) := d_bin op_pow (opD_int fun _ _ _ => .int _) ha hb
end
section
variable {P : Program} {w : World} {K : PySem.W.Frag} {mg : Str → Option Value} {base : Heap}
theorem fnTaken {G : Gb} {x qual n1 n2 n3 n4 : Str} {st : Stmt} {f : Addr} {fd : FuncData} {cdv : Value} {k : Nat} (hK : G.K = K) (F : FunC K x qual st f fd cdv) (S : FnScope [n1, n2, n3, n4] [n1, n2] (defScope st))
    (body : ∀ (A : Around) (outer : List Env) (s : Shared) (H : Hp) (E : XK), ∃ t, PSs (cxOf CX0 P w K mg base [n1, n2, n3, n4] qual (defScope st) f cdv A outer s H E).nox (defBody st) t ∧ t = tTaken K) : FnOk P w K mg base CX0 (k + 1) f fd [n1, n2] (spD G fTaken) := by
  subst hK
  refine fnC_ok F S (fun vs H Q E ⟨ρ, as, P, ha, _, _, ⟨m, e, _⟩, _⟩ => by rw [ha.length, e]; rfl) fun A outer s H vs Q E hr ⟨ρ, as, Pd, ha, g, r, ⟨m, e, h1, h2, hP⟩, q⟩ => ?_
  subst e
  obtain ⟨t, hbody, et⟩ := body A outer s H E
  refine ⟨t, hbody, ?_⟩
  rw [et]
  cases ha with
  | @row b vs as eb t =>
    cases t with
    | val rv t2 =>
      cases t2
      cases rv
      subst eb
      obtain ⟨a, xs, u, i, sd, c, e1, e2, hf⟩ := r b rfl
      exact tTaken_ok (rt := Q) e1 e2 hf h1 h2 fun v v0 v1 H' x1 x2 x3 x4 => q _ (hP v v0 v1) _ H' x1 (g.grow x2 x3) (fun b' eb => by cases eb; exact x4) (.int v)
end
/-- what the making of a lambda by (len(x), x) asks -/
theorem lamAt_of {X : Cx} {T : List (Addr × Str)} {c P : Addr} {x : Str} {params : Arguments} {body : Expr} {scope : Scope} {q : Str} (tab : LamX.TabB X.base X.mg c P) (mem : (P, q) ∈ T) (uniq : ∀ p ∈ T, p.1 = P → p.2 = q) (hq : X.env.qual ++ "<lambda>" = q := by rfl) (code : X.env.code = .ref c := by rfl)
    (key : LamKey scope x := by exact ⟨rfl, rfl, rfl, by decide +kernel, rfl, rfl⟩) (nofree : ∀ y ∈ scope.names, y.2 ≠ .free := by decide +kernel) (deff : defaultsOf params X.env = ([], []) := by rfl)
    (bind : ∀ (q : Str) (cl : List (Str × Addr)) (pm cv ctv v : Value), bindArgs (PySem.W.kla_fn "<lambda>" q params body scope cl pm cv ctv) ⟨[v], []⟩ = pure [(x, v)] := by intros; rfl) : LamAt X T c P x params body scope :=
  ⟨tab, code, by rw [hq]; exact mem, by rw [hq]; exact uniq, key, nofree, deff, bind⟩
end
end DL
set_option Elab.async false
set_option linter.all false
set_option maxRecDepth 100000
set_option maxHeartbeats 2000000
/-! sorted(xs): xs a list of tuples, the empty one among them or not -/
namespace PySem.SeqAt
open PySem PySem.Calls
theorem dl_call_tuple_lt {A : Around} {s : Shared} {prog : Program} {w : World} {E : Value → Shared → Prop} {Q : Value → Shared → Prop} {l b : Addr} {items items2 : Array Value} {e r : Nat → Bool} (hl : s.heap.IsTuple l items) (hb : s.heap.IsTuple b items2)
    (he : ∀ j (h1 : j < items.size) (h2 : j < items2.size), EqAt A.in1 s items[j] items2[j] (e j)) (hr : ∀ j (h1 : j < items.size) (h2 : j < items2.size), e j = false → RcLt A.in1 s items[j] items2[j] (r j))
    (h : Q (.bool (firstLt e r (decide (items.size < items2.size)) (List.range (min items.size items2.size)))) s) : wpAny (model prog w) A (call (.builtin "tuple.__lt__") [.ref l, .ref b]) Q E s := by
  obtain ⟨⟨cls, dd, data, sl⟩, ho, hc, n, hd⟩ := id hl
  obtain ⟨⟨cls2, dd2, data2, sl2⟩, ho2, hc2, n2, hd2⟩ := id hb
  simp only at hc hd hc2 hd2
  subst hc hd hc2 hd2
  exact call_meets F.slot_tuple_lt ⟨_, ho, rfl⟩ F.entry_tuple_lt (F.args_tuple_lt_2 _ _) (tuple_ltAt l b items items2 n n2 dd dd2 sl sl2 e r) ⟨ho, ho2, he, hr, h⟩
end PySem.SeqAt
namespace PySem.W
open PySem PySem.Calls PyProof.Rows PySem.SeqAt
section
variable {prog : Program} {w : World} {A : Around} {E : Value → Shared → Prop} {s : Shared}
theorem dl_oneLt_tup {f : Bool} {xs ys : List PyData} {a b : Value} {as bs : List Addr} {Q : Bool → Shared → Prop} (ra : Reads s.heap a (.tuple xs) as) (rb : Reads s.heap b (.tuple ys) bs) (h : alike (.tuple xs) (.tuple ys) = true)
    (hu : A.units + min (PyData.tuple xs).depth (PyData.tuple ys).depth < cLine) (hq : Q (dataLt (.tuple xs) (.tuple ys)) s) : wpAny (model prog w) A (oneLt' f a b) Q E s := by
  cases f with
  | false =>
    rw [oneLt'_eq]
    simp only [Bool.false_eq_true, if_false]
    exact wpAny_bind (rcLt_alike _ _ A s a b as bs ra rb h (by simp) hu prog w E _ (wpAny_truthy_bool hq))
  | true =>
    have hal : alikeAll xs ys = true := by simpa [alike] using h
    cases ra with
    | @tuple l o vs n _ as₁ h1 h2 h3 h4 =>
      cases rb with
      | @tuple l' o' vs' n' _ bs₁ k1 k2 k3 k4 =>
        have n1 : vs.size = xs.length := by simpa using ReadsAll.length _ _ _ h4
        have n2 : vs'.size = ys.length := by simpa using ReadsAll.length _ _ _ k4
        rw [dataLt_tuple, ← firstLt_toks xs ys hal, ← n1, ← n2] at hq
        rw [oneLt'_eq]
        simp only [if_true]
        refine wpAny_bind (wpAny_cRoomFor (room_here hu) ?_)
        refine wpAny_bind (wpAny_callSpecialIfBound?_slot (T := "tuple") ⟨_, h1, h2⟩ F.slot_tuple_lt (dl_call_tuple_lt (e := pairEq xs ys) (r := fun j => dataLt (xs.getD j .none) (ys.getD j .none)) ⟨_, h1, h2, _, h3⟩ ⟨_, k1, k2, _, k3⟩ (fun j j1 j2 => ?_) (fun j j1 j2 hj => ?_) ?_))
        · have := eqAt_alikeAll xs ys A.in1 s vs.toList vs'.toList _ _ h4 k4 hal (room_in hu) j (by simpa using j1) (by simpa using j2)
          simpa using this
        · have := rcLt_alikeAll xs ys A.in1 s vs.toList vs'.toList _ _ h4 k4 hal (room_in hu) j (by simpa using j1) (by simpa using j2) hj
          simpa using this
        · exact wpAny_truthy_bool hq
/-- the first items of tuples -/
def TupFs (h : Heap) : List Value → List (Option Value) → Prop := EachIs fun v f => ∃ a o xs n, v = .ref a ∧ h.get? a = some o ∧ o.cls = .type "tuple" ∧ o.data = .seq xs n ∧ xs[0]? = f
theorem dl_firsts {M : Model} : ∀ {vs : List Value} {fs : List (Option Value)} {Q : List (Option Value) → Shared → Prop}, TupFs s.heap vs fs → Q fs s → wpAny M A (vs.mapM firstOfTuple') Q E s
  | _, _, _, .nil, h => by rw [List.mapM_nil]; exact wpAny_pure h
  | v :: vs, f :: fs, Q, .cons ⟨a, o, xs, n, e1, ho, hc, hd, hf⟩ t, h => by
    subst e1
    rw [List.mapM_cons]
    refine wpAny_bind ?_
    rw [kas_first_eq]
    refine wpAny_bind (Looks.here (show Looks M s.heap (typeOf (.ref a)) o.cls from (Looks.ld ho).andThen .now) ?_)
    rw [hc, if_neg (by first | decide | simp)]
    refine wpAny_bind (listItems_at ho hd (wpAny_pure ?_))
    rw [hf]
    exact wpAny_bind (dl_firsts (Q := fun bs s' => wpAny M A (pure (f :: bs)) Q E s') t (wpAny_pure h))
theorem dl_tupFs {h : Heap} : ∀ {vs : List Value} {ds : List PyData}, EachIs (fun v d => ∃ as, Reads h v d as) vs ds → (∀ d, d ∈ ds → ∃ xs, d = .tuple xs) → ∃ fs, TupFs h vs fs ∧ fs.length = vs.length ∧ ((∀ f ∈ fs, f.isSome = true) → ∀ d, d ∈ ds → ∃ x r, d = .tuple (x :: r))
  | _, _, .nil, _ => ⟨[], .nil, rfl, fun _ d hd => by cases hd⟩
  | _, _, .cons (b := d) ⟨as, r⟩ t, ht => by
    obtain ⟨fs, h1, h2, h3⟩ := dl_tupFs t fun d hd => ht d (List.mem_cons_of_mem _ hd)
    obtain ⟨ys, rfl⟩ := ht d (List.mem_cons_self ..)
    cases r with
    | @tuple a o xs n _ _ ho hc hd hr =>
      refine ⟨xs[0]? :: fs, .cons ⟨_, _, _, _, rfl, ho, hc, hd, rfl⟩ h1, by rw [List.length_cons, List.length_cons, h2], fun hall d hd => ?_⟩
      rcases List.mem_cons.mp hd with rfl | hd
      · have q := hall _ List.mem_cons_self
        cases ys with
        | nil =>
          have hl : xs.toList.length = ([] : List PyData).length := SeqAt.ReadsAll.length _ _ _ hr
          have hl : xs.size = 0 := by simpa using hl
          have : xs = #[] := Array.eq_empty_of_size_eq_zero hl
          subst this
          exact absurd q (by decide)
        | cons x r => exact ⟨x, r, rfl⟩
      · exact h3 (fun f hf => hall f (List.mem_cons_of_mem _ hf)) d hd
theorem dl_kind {M : Model} {vs : List Value} {fs : List (Option Value)} {Q : SortKind → Shared → Prop} (t : TupFs s.heap vs fs) (hne : 0 < vs.length) (hno : ∃ f ∈ fs, f.isSome = false) (hT : ∀ v ∈ vs, Looks M s.heap (typeOf v) (.type "tuple")) (h : Q (if (fs.toArray[0]?.bind id).isSome = true then general' else oneType') s) :
    wpAny M A (keyKind' vs.toArray) Q E s := by
  obtain ⟨v₁, vr, rfl⟩ : ∃ v₁ vr, vs = v₁ :: vr := by
    match vs, hne with
    | v₁ :: vr, _ => exact ⟨v₁, vr, rfl⟩
  rw [keyKind'_eq, List.mapM_toArray, map_eq_pure_bind]
  refine wpAny_bind (wpAny_bind (dl_firsts t (wpAny_pure ?_)))
  have hall : ¬ ((fs.toArray.all fun x => x.isSome) = true) := fun z => by
    obtain ⟨f, hf, e⟩ := hno
    have := (List.all_eq_true.mp (by simpa using z)) f hf
    rw [e] at this
    cases this
  rw [if_neg hall]
  by_cases q : (fs.toArray[0]?.bind id).isSome = true
  · rw [if_pos q] at h ⊢
    exact wpAny_pure h
  · rw [if_neg q] at h ⊢
    rw [oneTypeOnly'_eq, List.mapM_toArray, map_eq_pure_bind]
    refine wpAny_bind (wpAny_bind (wpAny_bind (kas_mapM (r := .type "tuple") _ (fun v hv Q' hq => (hT v hv).here hq) (wpAny_pure ?_))))
    have hall : ((List.map (fun _ => (Value.type "tuple")) (v₁ :: vr)).toArray.all fun x => x == Value.type "tuple") = true := by
      simp only [List.all_toArray, List.all_map, List.all_eq_true]
      intro _ _
      rfl
    have h0 : (List.map (fun _ => (Value.type "tuple")) (v₁ :: vr)).toArray[0]? = some (Value.type "tuple") := by simp
    rw [h0]
    simp only [hall, if_true]
    exact wpAny_pure (wpAny_pure h)
theorem dl_sortsAt {vs : List Value} {ds : List PyData} (e : EachIs (fun v d => ∃ as, Reads s.heap v d as) vs ds) (hal : AllAlike ds) (ht : ∀ d, d ∈ ds → ∃ xs, d = .tuple xs) (hu : ∀ d, d ∈ ds → A.units + d.depth < cLine) : SortsAt prog w A s (dataKind s.heap ds) vs := by
  by_cases full : ∀ d, d ∈ ds → ∃ x r, d = .tuple (x :: r)
  · exact SortsAt.data e hal (.inl full) hu
  · have room : ∀ {d d' : PyData}, d ∈ ds → A.units + min d.depth d'.depth < cLine := fun {d d'} hd => Nat.lt_of_le_of_lt (Nat.add_le_add_left (Nat.min_le_left _ _) _) (hu d hd)
    obtain ⟨fs, t1, t2, t3⟩ := dl_tupFs e ht
    have hno : ∃ f ∈ fs, f.isSome = false := Classical.byContradiction fun z => full (t3 fun f hf => by
      cases q : f.isSome with
      | true => rfl
      | false => exact absurd ⟨f, hf, q⟩ z)
    refine ⟨fun v hv => ?_, if (fs.toArray[0]?.bind id).isSome = true then general' else oneType', ?_, fun h2 E Q hq => ?_⟩
    · obtain ⟨d, hd, as, r⟩ := e.left v hv
      exact ⟨_, dataKind_some hal hd r⟩
    · intro E x y a b Q ha hb hq
      obtain ⟨d, as, hd, ra, rfl⟩ := dataKind_inv ha
      obtain ⟨d', as', hd', rb, rfl⟩ := dataKind_inv hb
      have hdd := hal d hd d' hd'
      have hroom := room (d' := d') hd
      obtain ⟨xs, rfl⟩ := ht d hd
      obtain ⟨ys, rfl⟩ := ht d' hd'
      split
      · show wpAny (model prog w) A (oneLt' false x y) Q E s
        exact dl_oneLt_tup ra rb hdd hroom hq
      · show wpAny (model prog w) A (oneLt' true x y) Q E s
        exact dl_oneLt_tup ra rb hdd hroom hq
    · refine dl_kind t1 (by omega) hno (fun v hv => ?_) hq
      obtain ⟨d, hd, as, r⟩ := e.left v hv
      obtain ⟨xs, rfl⟩ := ht d hd
      exact looks_reads r
end
end PySem.W
namespace PySem.W
open PySem PySem.Calls PyProof.Rows PySem.SeqAt
section
variable {prog : Program} {w : World} {A : Around} {E : Value → Shared → Prop} {s : Shared} {β : Type} {vs : List Value} {bs : List β} {enc : β → PyData} {R : Value → β → Prop}
theorem dl_sorted_tups {l : Addr} {Q : Value → Shared → Prop} (hl : s.heap.IsList l vs.toArray) (e : EachIs R vs bs) (er : EachIs (fun v b => ∃ as, Reads s.heap v (enc b) as) vs bs) (hal : AllAlike (bs.map enc)) (ht : ∀ b, ∃ xs, enc b = .tuple xs) (hL : bs.length ≤ sizeLine)
    (hu : ∀ b, b ∈ bs → A.units + 2 + (enc b).depth < cLine) (h : ∀ out, out.length = bs.length → EachIs R out (bs.mergeSort (dataLe false enc)) → Q (.ref (s.heap.objs.size + 1)) { s with heap := sortedAll s.heap vs (List.toArray out) }) :
    wpAny (model prog w) A (call (.builtin "sorted") [.ref l]) Q E s := by
  have er' : EachIs (fun v b => ∃ as, Reads (sortingHeap (copyHeap s.heap vs) (s.heap.objs.size + 1) vs) v (enc b) as) vs bs := er.mono fun _ _ ⟨as, r⟩ => ⟨as, PyProof.Rows.Reads.keeps (fun _ _ => sorting_copy_old) r⟩
  refine sorted_vals hl (dl_sortsAt (s := { s with heap := sortingHeap (copyHeap s.heap vs) (s.heap.objs.size + 1) vs }) (each_map (R := fun v d => ∃ as, Reads (sortingHeap (copyHeap s.heap vs) (s.heap.objs.size + 1) vs) v d as) enc er') hal (fun d hd => ?_) (bound_map hu)) (by rw [e.length]; exact hL)
    (h _ (by rw [sortVals_length false rfl]; exact e.length) (sortVals_data false e er' hal))
  obtain ⟨b, _, rfl⟩ := List.mem_map.mp hd
  exact ht b
end
end PySem.W
namespace DL
open PySem PySem.Spec PyProof.Rows L2
def tupOf (b : V × List PyData) : PyData := .tuple b.2
/-- sorted(xs), tuples of data, any number of them -/
def rSortedT (K : PySem.W.Frag) : List V → Hp → VK → Prop := fun vs H Q => ∃ (a : Addr) (bs : List (V × List PyData)), vs = [V.ref a] ∧ SqL K H a (bs.map Prod.fst) ∧ (∀ b ∈ bs, Dp K H b.1 (.tuple b.2) ∧ (PyData.tuple b.2).depth ≤ 60) ∧ (∀ b ∈ bs, ∀ c ∈ bs, PySem.W.alike (tupOf b) (tupOf c) = true) ∧
  ∀ p : Addr, H p = none → Q (.ref p) (upd H p (.lst ((bs.mergeSort (PySem.W.dataLe false tupOf)).map Prod.fst)))
section
variable {X : Cx}
theorem cr_sortedT (hu : X.A.units + 64 < cLine) : CallR X (.builtin "sorted") (rSortedT X.K) := by
  intro pins s σ H vs us Q I r h
  obtain ⟨a, bs, rfl, hs, ht, hal, q⟩ := h
  obtain ⟨its, rv, hl, hz⟩ := I.list hs
  rw [Vals.ref1 r]
  have hlb : (bs.map Prod.fst).length = bs.length := List.length_map ..
  have rd : ∀ b ∈ bs, ∀ u, RelV b.1 u → ∃ as, Reads s.heap u (.tuple b.2) as := fun b hb u hu => Dp.reads I _ _ _ (ht b hb).1 hu
  refine PySem.W.dl_sorted_tups (R := fun (u : Value) (b : V × List PyData) => RelV b.1 u) (enc := tupOf) hl.isList (eachIs_of rv fun b hb u hu => hu) (eachIs_of rv fun b hb u hu => rd b hb u hu) (fun d hd d' hd' => ?_) (fun b => ⟨_, rfl⟩) (by rw [← hlb]; exact hz) (fun b hb => ?_) fun out hlen eo => ?_
  · obtain ⟨b, hb, rfl⟩ := List.mem_map.mp hd
    obtain ⟨b', hb', rfl⟩ := List.mem_map.mp hd'
    exact hal b hb b' hb'
  · have := (ht b hb).2
    show X.A.units + 2 + (PyData.tuple b.2).depth < cLine
    omega
  · have vo := vals_of_each (fun (u : Value) (b : V × List PyData) (h : RelV b.1 u) => h) eo
    obtain ⟨ep, he'⟩ := PyProof.Rows.sortedAll_at s.heap its out.toArray
    have hlen2 : ((bs.mergeSort (PySem.W.dataLe false tupOf)).map Prod.fst).length ≤ sizeLine := by
      rw [List.length_map, List.length_mergeSort, ← hlb]; exact hz
    exact ⟨.ref _, upd H (s.heap.objs.size + 1) (.lst ((bs.mergeSort (PySem.W.dataLe false tupOf)).map Prod.fst)), I.laid (t' := s.toks) (fun _ _ => PyProof.Rows.sortedAll_old) (Nat.le_succ _) ⟨hlen2, out, ep, vo, he'⟩, rfl, q _ (I.hok.fresh (Nat.le_succ _))⟩
end
end DL

/-! sorted(t), t a tuple; ints or tuples -/
namespace PySem.W
open PySem PySem.Calls PyProof.Rows PySem.SeqAt
section
variable {prog : Program} {w : World} {A : Around} {E : Value → Shared → Prop} {s : Shared} {β : Type} {vs : List Value} {bs : List β} {enc : β → PyData} {R : Value → β → Prop} {κ : PyProof.Rows.KeyKind}
theorem dl_collect_tup {l : Addr} {vs : List Value} {Q : List Value → Shared → Prop} (hl : s.heap.IsTuple l vs.toArray)
    (h : Q vs { s with heap := (s.heap.push (seqObj "list" #[] 0)).update s.heap.objs.size (Obj.mapSeq (· ++ vs.toArray)) }) (hsz : vs.length ≤ sizeLine) :
    wpAny (model prog w) A (collect (.ref l)) Q E s := by
  obtain ⟨o, ho, hc, n, hd⟩ := id hl
  unfold collect
  refine wpAny_bind (wpAny_runValue (codeAny_builtin entry_proto_collect' ?_))
  show wpAny _ _ (do again (.builtin "list.__iadd__" ⟨[← newList [], .ref l], []⟩)) _ _ s
  refine wpAny_bind (wpAny_newList (wpAny_pure ⟨Code.quiet_builtin _ (by decide +kernel), codeAny_builtin entry_list_iadd' ?_⟩))
  show wpAny _ _ (Builtin.List.listExtendWith (.ref s.heap.objs.size) (.ref l) (.ref s.heap.objs.size)) _ _ { s with heap := s.heap.push (seqObj "list" #[] 0) }
  unfold Builtin.List.listExtendWith
  have ho' : (s.heap.push (seqObj "list" #[] 0)).get? l = some o := Heap.get?_push_of_some _ ho
  refine wpAny_bind (wpAny_typeOf (T := "tuple") ⟨o, ho', hc⟩ ?_)
  have ht : (Value.type "tuple" == Value.type "tuple") = true := by rfl
  rw [if_pos (by rw [ht]; simp)]
  refine wpAny_bind (listItems_at ho' hd ?_)
  refine wpAny_bind (listItems_at (xs := #[]) (n := 0) (Heap.get?_push_size _ rfl) rfl ?_)
  rw [if_neg (by simp)]
  refine wpAny_bind (listUpdate_at (xs := #[]) (n := 0) (Heap.get?_push_size _ rfl) rfl ?_ (Nat.zero_le _) (by show (#[] ++ vs.toArray).size ≤ sizeLine + 1; simp only [Array.size_append, List.size_toArray, List.length_nil]; omega))
  refine wpAny_pure ?_
  show wpAny (model prog w) A (do
      let o ← load s.heap.objs.size
      match o.data with
      | .seq xs _ => pure xs.toList
      | _ => unsupported "internal:collect") Q E { s with heap := (s.heap.push (seqObj "list" #[] 0)).update s.heap.objs.size (Obj.mapSeq (· ++ vs.toArray)) }
  refine wpAny_bind (wpAny_load (get?_update_seq (Heap.get?_push_size _ rfl) _) ?_)
  show wpAny _ _ (pure ((#[] : Array Value) ++ vs.toArray).toList) Q E _
  rw [show ((#[] : Array Value) ++ vs.toArray).toList = vs by simp]
  exact wpAny_pure h
theorem dl_sorted_tup_of_sort {l : Addr} {vs : List Value} {Q : Value → Shared → Prop} (hl : s.heap.IsTuple l vs.toArray) (hL : vs.length ≤ sizeLine)
    (body : ∀ E' : Value → Shared → Prop, wpAny (model prog w) A.in1.in1 (Builtin.«list.sort» ⟨[.ref (s.heap.objs.size + 1)], []⟩) (fun f s' => f = .done (.ret .none) ∧ Q (.ref (s.heap.objs.size + 1)) s') E' { s with heap := copyHeap s.heap vs }) :
    wpAny (model prog w) A (call (.builtin "sorted") [.ref l]) Q E s := by
  refine call_function_entry_kw kind_sorted plain_sorted entry_sorted (args_sorted1 _) ?_
  unfold Builtin.«sorted»
  refine wpAny_bind (m := checkCount "sorted" 1 1 _) (wpAny_pure ?_)
  refine wpAny_bind (dl_collect_tup hl ?_ hL)
  refine wpAny_bind (wpAny_newList ?_ hL)
  have hsz : ((s.heap.push (seqObj "list" #[] 0)).update s.heap.objs.size (Obj.mapSeq (· ++ vs.toArray))).objs.size = s.heap.objs.size + 1 := by
    rw [Heap.size_update, size_push']
  show wpAny _ _ _ _ _ { s with heap := copyHeap s.heap vs }
  rw [hsz]
  refine wpAny_bind (wpAny_holding (wpAny_call_entry_kw slot_list_sort ⟨_, copyHeap_at s.heap vs, rfl⟩ entry_list_sort ?body (args_list_sort _)))
  case body =>
    show wpAny (model prog w) A.in1.in1 (Builtin.«list.sort» ⟨[.ref (s.heap.objs.size + 1)], []⟩) _ _ _
    refine wpAny_mono (body _) (fun f s' hf => ?_) fun _ _ e => e
    obtain ⟨rfl, hq⟩ := hf
    exact ⟨_, rfl, wpAny_pure ⟨_, rfl, hq⟩⟩
theorem dl_sorted_vals {l : Addr} {vs : List Value} {Q : Value → Shared → Prop} (hl : s.heap.IsList l vs.toArray ∨ s.heap.IsTuple l vs.toArray) (S : SortsAt prog w A.in1.in1 { s with heap := sortingHeap (copyHeap s.heap vs) (s.heap.objs.size + 1) vs } κ vs) (hL : vs.length ≤ sizeLine)
    (h : Q (.ref (s.heap.objs.size + 1)) { s with heap := sortedAll s.heap vs (sortVals κ false vs vs).toArray }) : wpAny (model prog w) A (call (.builtin "sorted") [.ref l]) Q E s := by
  rcases hl with hl | hl
  · exact sorted_vals hl S hL h
  · exact dl_sorted_tup_of_sort hl hL fun _ => list_sort_vals (s := { s with heap := copyHeap s.heap vs }) (copyHeap_at s.heap vs) S hL ⟨rfl, h⟩
theorem dl_sorted_data {l : Addr} {Q : Value → Shared → Prop} (hl : s.heap.IsList l vs.toArray ∨ s.heap.IsTuple l vs.toArray) (e : EachIs R vs bs) (er : EachIs (fun v b => ∃ as, Reads s.heap v (enc b) as) vs bs) (hal : AllAlike (bs.map enc)) (ht : (∀ b ∈ bs, ∃ xs, enc b = .tuple xs) ∨ ∀ b ∈ bs, enc b ≠ .none ∧ ∀ xs, enc b ≠ .tuple xs) (hL : bs.length ≤ sizeLine)
    (hu : ∀ b, b ∈ bs → A.units + 2 + (enc b).depth < cLine) (h : ∀ out, out.length = bs.length → EachIs R out (bs.mergeSort (dataLe false enc)) → Q (.ref (s.heap.objs.size + 1)) { s with heap := sortedAll s.heap vs (List.toArray out) }) :
    wpAny (model prog w) A (call (.builtin "sorted") [.ref l]) Q E s := by
  have er' : EachIs (fun v b => ∃ as, Reads (sortingHeap (copyHeap s.heap vs) (s.heap.objs.size + 1) vs) v (enc b) as) vs bs := er.mono fun _ _ ⟨as, r⟩ => ⟨as, PyProof.Rows.Reads.keeps (fun _ _ => sorting_copy_old) r⟩
  have er2 := each_map (R := fun v d => ∃ as, Reads (sortingHeap (copyHeap s.heap vs) (s.heap.objs.size + 1) vs) v d as) enc er'
  have S : SortsAt prog w A.in1.in1 { s with heap := sortingHeap (copyHeap s.heap vs) (s.heap.objs.size + 1) vs } (dataKind (sortingHeap (copyHeap s.heap vs) (s.heap.objs.size + 1) vs) (bs.map enc)) vs := by
    rcases ht with ht | ht
    · refine dl_sortsAt (s := { s with heap := sortingHeap (copyHeap s.heap vs) (s.heap.objs.size + 1) vs }) er2 hal (fun d hd => ?_) (bound_map hu)
      obtain ⟨b, hb, rfl⟩ := List.mem_map.mp hd
      exact ht b hb
    · refine SortsAt.data (s := { s with heap := sortingHeap (copyHeap s.heap vs) (s.heap.objs.size + 1) vs }) er2 hal (.inr fun d hd => ?_) (bound_map hu)
      obtain ⟨b, hb, rfl⟩ := List.mem_map.mp hd
      exact ht b hb
  exact dl_sorted_vals hl S (by rw [e.length]; exact hL) (h _ (by rw [sortVals_length false rfl]; exact e.length) (sortVals_data false e er' hal))
end
end PySem.W
namespace DL
open PySem PySem.Spec PyProof.Rows L2
/-- sorted(xs), a list or a tuple of data -/
def rSortedD (K : PySem.W.Frag) : List V → Hp → VK → Prop := fun vs H Q => ∃ (a : Addr) (bs : List (V × PyData)), vs = [V.ref a] ∧ (SqL K H a (bs.map Prod.fst) ∨ SqT K H a (bs.map Prod.fst)) ∧ (∀ b ∈ bs, Dp K H b.1 b.2 ∧ b.2.depth ≤ 60) ∧ (∀ b ∈ bs, ∀ c ∈ bs, PySem.W.alike b.2 c.2 = true) ∧
  ((∀ b ∈ bs, ∃ xs, b.2 = .tuple xs) ∨ ∀ b ∈ bs, b.2 ≠ .none ∧ ∀ xs, b.2 ≠ .tuple xs) ∧
  ∀ p : Addr, H p = none → Q (.ref p) (upd H p (.lst ((bs.mergeSort (PySem.W.dataLe false Prod.snd)).map Prod.fst)))
theorem eachIs_ofD {R : Value → V × PyData → Prop} : ∀ {bs : List (V × PyData)} {us : List Value}, Vals (bs.map Prod.fst) us → (∀ b ∈ bs, ∀ u, RelV b.1 u → R u b) → PySem.W.EachIs R us bs
  | [], _, h, _ => by cases h; exact .nil
  | b :: bs, _, h, k => by
    cases h with
    | cons h1 h2 => exact .cons (k b List.mem_cons_self _ h1) (eachIs_ofD h2 fun c hc => k c (List.mem_cons_of_mem _ hc))
theorem vals_of_eachD : ∀ {us : List Value} {bs : List (V × PyData)}, PySem.W.EachIs (fun u b => RelV b.1 u) us bs → Vals (bs.map Prod.fst) us
  | _, _, .nil => .nil
  | _, _, .cons h t => .cons h (vals_of_eachD t)
section
variable {X : Cx}
theorem cr_sortedD (hu : X.A.units + 64 < cLine) : CallR X (.builtin "sorted") (rSortedD X.K) := by
  intro pins s σ H vs us Q I r h
  obtain ⟨a, bs, rfl, hs, ht, hal, hk, q⟩ := h
  have hlb : (bs.map Prod.fst).length = bs.length := List.length_map ..
  obtain ⟨its, rv, hl, hz⟩ : ∃ its : List Value, Vals (bs.map Prod.fst) its ∧ (s.heap.IsList a its.toArray ∨ s.heap.IsTuple a its.toArray) ∧ (bs.map Prod.fst).length ≤ sizeLine := by
    rcases hs with hs | hs
    · obtain ⟨its, rv, hl, hz⟩ := I.list hs
      exact ⟨its, rv, .inl hl.isList, hz⟩
    · obtain ⟨its, rv, hl, hz⟩ := I.tuple hs
      exact ⟨its, rv, .inr hl, hz⟩
  rw [Vals.ref1 r]
  have rd : ∀ b ∈ bs, ∀ u, RelV b.1 u → ∃ as, Reads s.heap u b.2 as := fun b hb u hu => Dp.reads I _ _ _ (ht b hb).1 hu
  refine PySem.W.dl_sorted_data (R := fun (u : Value) (b : V × PyData) => RelV b.1 u) (enc := Prod.snd) hl (eachIs_ofD rv fun b hb u hu => hu) (eachIs_ofD rv fun b hb u hu => rd b hb u hu) (fun d hd d' hd' => ?_) hk (by rw [← hlb]; exact hz) (fun b hb => ?_) fun out hlen eo => ?_
  · obtain ⟨b, hb, rfl⟩ := List.mem_map.mp hd
    obtain ⟨b', hb', rfl⟩ := List.mem_map.mp hd'
    exact hal b hb b' hb'
  · have := (ht b hb).2
    omega
  · have vo := vals_of_eachD eo
    obtain ⟨ep, he'⟩ := PyProof.Rows.sortedAll_at s.heap its out.toArray
    have hlen2 : ((bs.mergeSort (PySem.W.dataLe false Prod.snd)).map Prod.fst).length ≤ sizeLine := by
      rw [List.length_map, List.length_mergeSort, ← hlb]; exact hz
    exact ⟨.ref _, upd H (s.heap.objs.size + 1) (.lst ((bs.mergeSort (PySem.W.dataLe false Prod.snd)).map Prod.fst)), I.laid (t' := s.toks) (fun _ _ => PyProof.Rows.sortedAll_old) (Nat.le_succ _) ⟨hlen2, out, ep, vo, he'⟩, rfl, q _ (I.hok.fresh (Nat.le_succ _))⟩
end
end DL
set_option Elab.async false
set_option linter.all false
set_option maxRecDepth 100000
set_option maxHeartbeats 2000000
/-! sorted(xs): ints or tuples -/
namespace DL
open PySem PySem.Spec PyProof.Rows L2
structure SortOkT (bs : List (List PyData)) : Prop where
  flat : ∀ b ∈ bs, noDicts b = true ∧ (PyData.tuple b).depth ≤ 60
  alike : ∀ b ∈ bs, ∀ c ∈ bs, PySem.W.alike (.tuple b) (.tuple c) = true
def sortTT (bs : List (List PyData)) : List (List PyData) := bs.mergeSort (PySem.W.dataLe false PyData.tuple)
section
variable {X : Cx} {G : Gb} {a b c e tg : Expr} {f g h : Fe} {fl gl : Fi} {pos p : Pos} {H0 H H' : Hp} {ρ0 ρ : Option Addr} {σ : L2.St} {E : Ed} {k : Nat}
def nSortX (fl : Fi) : Fi := fun E Q => fl E fun ds => (∃ ns : List Int, ds = ns.map .int ∧ ∀ ns' : List Int, ns'.Perm ns → ns'.Pairwise (· ≤ ·) → Q (ns'.map .int)) ∨ ∃ bs, ds = bs.map PyData.tuple ∧ SortOkT bs ∧ Q ((sortTT bs).map .tuple)
theorem cr_sortedX (hu : X.A.units + 64 < cLine) : CallR X (.builtin "sorted") (fun vs H Q => rSortedI X.K vs H Q ∨ rSortedT X.K vs H Q) := fun pins s σ H vs us Q I r h => by
  rcases h with h | h
  · exact cr_sortedI pins s σ H vs us Q I r h
  · exact cr_sortedT hu pins s σ H vs us Q I r h
theorem dn_sortX (hr : Room k X.A) (hg : Gl X "sorted") (hm : X.mg "sorted" = none) (ha : DLs G X a fl) (he : starEach [a] X.env = (false, eval a X.env) :: starEach [] X.env := by rfl) : DN G X (.Call (.Name "sorted" p) [a] [] pos) (nSortX fl) :=
  PE.weak (pe_callB (cr_sortedX (hu64 hr)) hg hm (by decide +kernel) (pa_one ha he) (he := he)) fun σ H Q ⟨H0, ρ0, ρ, E, P, I, h, kk⟩ => by
    show tL G fl σ H fun x H1 => rSortedI X.K [x] H1 Q ∨ rSortedT X.K [x] H1 Q
    exact tL.use I h fun ds hd q vs H1 e1 I1 h1 h2 r1 => by
      rcases hd with ⟨ns, ed, hd⟩ | ⟨bs, ed, ok, hd⟩
      · subst ed
        have := rp_ints r1
        subst this
        exact .inl ⟨q, ns, rfl, .inl h1, fun ns' l h3 h4 hl => kk _ (hd ns' h3 h4) l _ _ (e1.trans ((Ext.refl ρ H1).upd hl)) (I1.new hl).g (I1.new hl).row (e1.free I1.row hl) upd_same (rp_ofInts ns')⟩
      · subst ed
        obtain ⟨ps, q1, q2, q3⟩ := r1.pairs
        have inb : ∀ r ∈ ps, r.2 ∈ bs := fun r hr => by rw [← q2]; exact List.mem_map.mpr ⟨r, hr, rfl⟩
        refine .inr ⟨q, ps, rfl, by rw [q1]; exact .inl h1, fun r hr => ⟨(q3 r hr).dp (ok.flat r.2 (inb r hr)).1, (ok.flat r.2 (inb r hr)).2⟩, fun r hr s hs => ok.alike _ (inb r hr) _ (inb s hs), fun l hl => ?_⟩
        have hs : (ps.mergeSort (PySem.W.dataLe false tupOf)).map Prod.snd = sortTT bs := by
          have z := List.map_mergeSort (r := PySem.W.dataLe false tupOf) (s := PySem.W.dataLe false PyData.tuple) (f := Prod.snd) (l := ps) (fun a _ b _ => rfl)
          rw [z, q2]; rfl
        have e3 : Ext ρ H1 (upd H1 l (.lst ((ps.mergeSort (PySem.W.dataLe false tupOf)).map Prod.fst))) := (Ext.refl ρ H1).upd hl
        refine kk _ hd l _ _ (e1.trans e3) (I1.new hl).g (I1.new hl).row (e1.free I1.row hl) upd_same ?_
        rw [← hs]
        exact RpAll.of_pairs fun r hr => (q3 r ((List.mergeSort_perm ps _).mem_iff.mp hr)).ext e3.toS
/-- x[lo:hi] of a tuple, of a list -/
theorem pe_frzM {t : TE} (h : PE X e t) : PE X e (fun σ H Q => t σ H fun v H1 => Q v H1 ∨ ∃ d u, v = .ref d ∧ H1 d = some u ∧ Mut (some u) ∧ ∀ od, Q v (upd H1 d (.frz od u))) := ⟨fun pins s σ H Q I hw =>
  thn (h.run pins s σ H _ I hw) fun v s1 ⟨x, H1, I1, r1, q⟩ => by
    rcases q with q | ⟨d, u, e, hu, mu, q⟩
    · exact ⟨x, H1, I1, r1, q⟩
    · obtain ⟨od, I2⟩ := I1.lock hu mu
      exact ⟨x, _, I2, r1, q od⟩⟩
def eSlX (f : Fe) (lo hi : Ed → Dm (Option Int)) : Fe := fun E Q => f E fun d => lo E fun l => hi E fun u => (∃ ds, d = .tuple ds ∧ Q (.tuple (cutD ds l u))) ∨ ∃ ds, d = .list ds ∧ Q (.list (cutD ds l u))
theorem d_slX {lo hi : Option Expr} {fo fh : Ed → Dm (Option Int)} {p2 : Pos} (ha : DE G X a f) (hl : DPt G X lo fo) (hu : DPt G X hi fh) : DE G X (.Subscript a (.Slice lo hi none p2) pos) (eSlX f fo fh) :=
  PE.weak (pe_frzM (pe_slice (SlR.or sl_tupA sl_list) ha hl hu)) fun σ H Q ⟨H0, ρ0, ρ, E, P, I, h, k⟩ => tE.use I h fun d hd v H1 e1 I1 r1 => tPt.use I1 hd fun l hl H2 e2 I2 => tPt.use I2 hl fun u hu H3 e3 I3 => by
    rcases hu with ⟨ds, ed, hu⟩ | ⟨ds, ed, hu⟩
    · subst ed
      cases r1 with
      | @tup q xs _ h1 h2 =>
        have h1 := e3.toS _ _ (e2.toS _ _ h1 True.intro) True.intro
        have h2 := (h2.ext e2.toS).ext e3.toS
        have cut : cutV xs l u = (xs.drop (HT.sIx xs.length 0 l)).take (HT.sIx xs.length xs.length u - HT.sIx xs.length 0 l) := rfl
        have rc : RpAll H3 (cutV xs l u) (cutD ds l u) := by
          unfold cutV cutD
          rw [h2.length]
          exact (h2.drop _).take _
        refine .inl ⟨q, xs, rfl, .inl (.inl h1), fun hw => .inl ?_, fun _ l hl => .inl (k _ hu _ _ (((e1.trans e2).trans e3).trans ((Ext.refl ρ H3).upd hl)) (I3.new hl).g (I3.new hl).row (.tup upd_same (rc.ext ((Ext.refl ρ H3).upd hl).toS)))⟩
        have : cutD ds l u = ds := by
          unfold cutD
          rw [← h2.length, hw.1, hw.2, h2.length, List.drop_zero, Nat.sub_zero, List.take_length]
        rw [this] at hu
        exact k _ hu _ _ ((e1.trans e2).trans e3) I3.g I3.row (.tup h1 h2)
    · subst ed
      cases r1 with
      | @lst q xs _ od h1 h2 =>
        have h1 := e3.toS _ _ (e2.toS _ _ h1 True.intro) True.intro
        have h2 := (h2.ext e2.toS).ext e3.toS
        have rc : RpAll H3 (cutV xs l u) (cutD ds l u) := by
          unfold cutV cutD
          rw [h2.length]
          exact (h2.drop _).take _
        refine .inr ⟨q, xs, rfl, .inl (.inr ⟨_, h1⟩), fun p hp => .inr ⟨p, _, rfl, upd_same, True.intro, fun od => ?_⟩⟩
        have e4 : Ext ρ H3 (upd H3 p (.lst (cutV xs l u))) := (Ext.refl ρ H3).upd hp
        obtain ⟨e5, I5, s5⟩ := I3.fresh_put (o := .frz od (.lst (cutV xs l u))) e4 (I3.new hp) (Fr0.of_none hp) upd_same chg_lst
        exact k _ hu _ _ (((e1.trans e2).trans e3).trans e5) I5.g I5.row (.lst upd_same ((rc.ext e4.toS).ext s5))
/-! sorted(v), v a list or a tuple -/
structure SortOkD (ds : List PyData) : Prop where
  flat : ∀ d ∈ ds, noDict d = true ∧ d.depth ≤ 60
  alike : ∀ b ∈ ds, ∀ c ∈ ds, PySem.W.alike b c = true
  kind : (∀ b ∈ ds, ∃ xs, b = .tuple xs) ∨ ∀ b ∈ ds, b ≠ .none ∧ ∀ xs, b ≠ .tuple xs
def sortD (ds : List PyData) : List PyData := ds.mergeSort (PySem.W.dataLe false id)
theorem RpAll.zipped : ∀ {vs : List V} {ds : List PyData}, RpAll H vs ds → ∃ ps : List (V × PyData), ps.map Prod.fst = vs ∧ ps.map Prod.snd = ds ∧ ∀ q ∈ ps, Rp H q.1 q.2
  | _, _, .nil => ⟨[], rfl, rfl, fun q hq => by cases hq⟩
  | _, _, .cons (v := v) (d := d) r t => by
    obtain ⟨ps, e1, e2, e3⟩ := t.zipped
    exact ⟨(v, d) :: ps, by rw [List.map_cons, e1], by rw [List.map_cons, e2], fun q hq => by
      rcases List.mem_cons.mp hq with z | z
      · rw [z]; exact r
      · exact e3 q z⟩
theorem RpAll.of_zipped : ∀ {ps : List (V × PyData)}, (∀ q ∈ ps, Rp H q.1 q.2) → RpAll H (ps.map Prod.fst) (ps.map Prod.snd)
  | [], _ => .nil
  | q :: ps, h => .cons (h q List.mem_cons_self) (RpAll.of_zipped fun r hr => h r (List.mem_cons_of_mem _ hr))
def nSortV (f : Fe) : Fi := fun E Q => f E fun d => ∃ ds, itemsOf d = some ds ∧ SortOkD ds ∧ Q (sortD ds)
theorem dn_sortV (hr : Room k X.A) (hg : Gl X "sorted") (hm : X.mg "sorted" = none) (ha : DE G X a f) (he : starEach [a] X.env = (false, eval a X.env) :: starEach [] X.env := by rfl) : DN G X (.Call (.Name "sorted" p) [a] [] pos) (nSortV f) :=
  PE.weak (pe_callB (cr_sortedD (hu64 hr)) hg hm (by decide +kernel) (pa_one ha he) (he := he)) fun σ H Q ⟨H0, ρ0, ρ, E, P, I, h, kk⟩ => by
    show tE G f σ H fun x H1 => rSortedD X.K [x] H1 Q
    exact tE.use I h fun d ⟨ds, ed, ok, hd⟩ v H1 e1 I1 r1 => by
      obtain ⟨q, vs, ev, hs, rr⟩ : ∃ q vs, v = V.ref q ∧ (SqL X.K H1 q vs ∨ SqT X.K H1 q vs) ∧ RpAll H1 vs ds := by
        cases r1 with
        | lst h1 h2 => cases ed; exact ⟨_, _, rfl, .inl (.inl (.inr ⟨_, h1⟩)), h2⟩
        | tup h1 h2 => cases ed; exact ⟨_, _, rfl, .inr (.inl (.inl h1)), h2⟩
        | _ => cases ed
      subst ev
      obtain ⟨ps, q1, q2, q3⟩ := rr.zipped
      have inb : ∀ r ∈ ps, r.2 ∈ ds := fun r hr => by rw [← q2]; exact List.mem_map.mpr ⟨r, hr, rfl⟩
      refine ⟨q, ps, rfl, by rw [q1]; exact hs, fun r hr => ⟨(q3 r hr).dp (ok.flat r.2 (inb r hr)).1, (ok.flat r.2 (inb r hr)).2⟩, fun r hr s hs => ok.alike _ (inb r hr) _ (inb s hs), ?_, fun l hl => ?_⟩
      · rcases ok.kind with z | z
        · exact .inl fun r hr => z _ (inb r hr)
        · exact .inr fun r hr => z _ (inb r hr)
      · have hs : (ps.mergeSort (PySem.W.dataLe false Prod.snd)).map Prod.snd = sortD ds := by
          have z := List.map_mergeSort (r := PySem.W.dataLe false Prod.snd) (s := PySem.W.dataLe false id) (f := Prod.snd) (l := ps) (fun a _ b _ => rfl)
          rw [z, q2]; rfl
        have e3 : Ext ρ H1 (upd H1 l (.lst ((ps.mergeSort (PySem.W.dataLe false Prod.snd)).map Prod.fst))) := (Ext.refl ρ H1).upd hl
        refine kk _ hd l _ _ (e1.trans e3) (I1.new hl).g (I1.new hl).row (e1.free I1.row hl) upd_same ?_
        rw [← hs]
        exact RpAll.of_zipped fun r hr => (q3 r ((List.mergeSort_perm ps _).mem_iff.mp hr)).ext e3.toS
end
end DL
set_option Elab.async false
set_option linter.all false
set_option maxRecDepth 100000
set_option maxHeartbeats 4000000
/-! set(t) of a tuple of tuples of ints, sorted(..) of it; a < b of data; x is True; xs * n; xs[i] = v; list(d) of a value -/
namespace DL
open PySem PySem.Spec PyProof.Rows L2
section
variable {P : Program} {w : World} {A : Around} {E : Value → Shared → Prop} {s : Shared}
def newSetO (w : World) : Obj := { cls := .type "set", dict := none, data := .set #[] 0 (.fresh 0 0 (!w.params.followText "set-order")) }
theorem cells_none {h : Heap} {b : Addr} (le : h.objs.size ≤ b) : h.get? b = none := Classical.byContradiction fun n => by
  obtain ⟨o, e⟩ := Option.ne_none_iff_exists'.mp n
  exact absurd (Heap.lt_size e) (Nat.not_lt.mpr le)
/-- set(t), t a tuple -/
theorem dl_set_tup {t : Addr} {items : Array Value} (ks : List (Addr × List Int)) {Q : Value → Shared → Prop} (nh : A.handled = none) (ht : s.heap.IsTuple t items) (ei : items.toList = ks.map fun p => Value.ref p.1)
    (each : ∀ p ∈ ks, IsT P w s.heap p.2 p.1) (few : ks.length < 64) (room : A.units + 3 < cLine)
    (out : ∀ (h' : Heap) (tk : Nat) L es ep tb, SetTR P w h' s.heap.objs.size L es ep tb → Got ks ks.length L → (∀ b o, s.heap.get? b = some o → h'.get? b = some o) → Q (.ref s.heap.objs.size) { s with heap := h', toks := tk }) :
    wpAny (model P w) A (call (.type "set") [.ref t]) Q E s := by
  have size : items.size = ks.length := by rw [← Array.length_toList, ei, List.length_map]
  obtain ⟨c, tl, hmro⟩ := F.called_set.mro
  have made := F.called_set.made; have sb := F.called_set.sub
  refine wpAny_call (codeAny_of_tree (show wpAny _ _ (callAny (.type "set") _) _ _ _ from wpAny_pure ⟨Code.quiet_builtin _ (by decide +kernel), codeAny_builtin F.entry_type_call ?_⟩))
  rw [Around.under_plain (weight_type_call_type "set" [.ref t] []) rfl]
  have nt := F.called_set.notType; have cc := F.called_set.canCreate; have tc := F.typeCall_set_1 (.ref t)
  repeat (any_goals (first | assumption | wp_step))
  refine codeAny_mono (code_set_led1 (.ref t) (E := E) (Q₁ := fun ob s1 => ob = .ref s.heap.objs.size ∧ s1 = { s with heap := s.heap.push (newSetO w) }) ⟨rfl, rfl⟩) fun r s1 hr => ?_
  match r, hr with
  | .error e, hr => exact hr
  | .ok (.ret ob), hr =>
    obtain ⟨rfl, rfl⟩ := hr
    have at0 : (s.heap.push (newSetO w)).get? s.heap.objs.size = some (newSetO w) := Heap.get?_push_size _ rfl
    have ty0 : Shared.TypeIs { s with heap := s.heap.push (newSetO w) } (.ref s.heap.objs.size) "set" := ⟨_, at0, rfl⟩
    have look := F.called_set.init.lookup; have bnd := F.called_set.init.bind (.ref s.heap.objs.size)
    repeat (any_goals (first | assumption | wp_step))
    refine codeAny_mono (codeAny_call_builtin (R := wants (fun r s2 => r = .none ∧ ∃ h' tk L es ep tb, s2 = { s with heap := h', toks := tk } ∧ SetTR P w h' s.heap.objs.size L es ep tb ∧ Got ks ks.length L ∧ (∀ b o, s.heap.get? b = some o → h'.get? b = some o)) E) F.called_set.init.plain F.entry_set_init (check_set_init_1 ty0 ?_)) fun r2 s2 hr2 => ?_
    · obtain ⟨ot, got, ct, nt', dt⟩ := id ht
      obtain ⟨oc, od, da, sl⟩ := ot
      simp only at ct dt
      subst ct; subst dt
      have got1 : (s.heap.push (newSetO w)).get? t = some { cls := .type "tuple", dict := od, data := .seq items nt', slots := sl } := Heap.get?_push_of_some _ got
      have n1 := F.sub_tuple_set; have n2 := F.sub_tuple_frozenset; have n3 : (Value.type "tuple" == Value.type "dict") = false := by decide
      have tp1 : (s.heap.push (newSetO w)).IsTuple t items := ⟨_, got1, rfl, nt', rfl⟩
      have lt := Heap.lt_size got
      have sz1 : (s.heap.push (newSetO w)).objs.size = s.heap.objs.size + 1 := Heap.size_push ..
      unfold Builtin.«set.__init__» noKeywords Builtin.Frozenset.updateFrom
      generalize gi : pyIter = PI
      wp_walk
      subst gi
      refine wpAny_pyIter_tuple tp1 (wpAny_bind (wpAny_runValue ?_))
      have apart : t ≠ (s.heap.push (newSetO w)).objs.size := fun z => by rw [z, sz1] at lt; exact absurd lt (Nat.not_lt.mpr (Nat.le_succ _))
      have nin : s.heap.objs.size ∉ [(s.heap.push (newSetO w)).objs.size, t] := by
        rw [sz1]; simp only [List.mem_cons, List.not_mem_nil, or_false, not_or]
        exact ⟨Nat.ne_of_lt (Nat.lt_succ_self _), Nat.ne_of_gt lt⟩
      have vals : ∀ (i : Nat) (v : Value), items[i]? = some v → ∃ p, ks[i]? = some p ∧ v = .ref p.1 := fun i v hv => by
        have q : (ks.map fun p => Value.ref p.1)[i]? = some v := by rw [← ei, Array.getElem?_toList]; exact hv
        rw [List.getElem?_map] at q
        obtain ⟨p, h1, h2⟩ := Option.map_eq_some_iff.mp q
        exact ⟨p, h1, h2.symm⟩
      have nh3 : A.in1.in1.in1.handled = none := by simp [nh]
      refine set_update_tups ((Walks.tuple nh3 _ t apart items).toS) s.heap.objs.size nin ks size few vals s.heap each (cells_none (Nat.le_refl _)) (fun b hb => cells_none (by rw [List.mem_singleton.mp hb, sz1]; exact Nat.le_succ _)) room (items.size - 0) 0 _ (by omega) (Nat.zero_le _)
        ⟨⟨_, Heap.get?_push_size _ rfl, rfl, rfl⟩, tp1.push _⟩ (fun b o e => Heap.get?_push_of_some _ (Heap.get?_push_of_some _ e)) ⟨[], #[], 0, _, setTR_fresh (Heap.get?_push_of_some _ at0), Got.zero ks⟩ ?_
      intro s' L es ep tb mv R g kp
      obtain ⟨h', g2, d', tk', os'⟩ := s'
      have eg : g2 = s.gens := mv.gens; have ed : d' = s.drawn := mv.drawn; have eo : os' = s.os := mv.os
      subst eg; subst ed; subst eo
      show wpAny _ _ _ _ _ _
      refine wpAny_pure (show wpAny _ _ (ret Value.none) _ _ _ from wpAny_pure ⟨rfl, h', tk', L, es, ep, tb, rfl, R, by rw [size] at g; exact g, kp⟩)
    · match r2, hr2 with
      | .error e, hr2 => exact hr2
      | .ok (.ret r), hr2 =>
        obtain ⟨rfl, h', tk, L, es, ep, tb, rfl, R, g, kp⟩ := hr2
        repeat (any_goals (first | assumption | wp_step))
        exact out _ _ _ _ _ _ R g kp

theorem perm_lift {α β : Type} {f : α → β} : ∀ {us vs : List β}, us.Perm vs → ∀ L : List α, vs = L.map f → ∃ L1 : List α, L1.Perm L ∧ us = L1.map f := by
  intro us vs h
  induction h with
  | nil => intro L e; match L, e with | [], _ => exact ⟨[], .nil, rfl⟩
  | cons x h ih =>
    intro L e
    cases L with
    | nil => cases e
    | cons y l =>
      injection e with e1 e2
      obtain ⟨L1, p, q⟩ := ih l e2
      exact ⟨y :: L1, p.cons y, by rw [List.map_cons, e1, q]⟩
  | swap x y l =>
    intro L e
    match L, e with
    | a :: b :: L, e =>
      injection e with e1 e2
      injection e2 with e2 e3
      exact ⟨b :: a :: L, .swap .., by rw [List.map_cons, List.map_cons, e1, e2, e3]⟩
  | trans _ _ ih1 ih2 =>
    intro L e
    obtain ⟨L2, p2, q2⟩ := ih2 L e
    obtain ⟨L1, p1, q1⟩ := ih1 L2 q2
    exact ⟨L1, p1.trans p2, q1⟩
def intsD (k : List Int) : List PyData := k.map .int
def encI (q : Addr × List Int) : PyData := .tuple (intsD q.2)
theorem alikeAll_intsD : ∀ a b : List Int, PySem.W.alikeAll (intsD a) (intsD b) = true
  | [], _ => by simp [intsD, PySem.W.alikeAll]
  | _ :: _, [] => by simp [intsD, PySem.W.alikeAll]
  | x :: a, y :: b => by
    have := alikeAll_intsD a b
    simp only [intsD, List.map_cons, PySem.W.alikeAll, PySem.W.alike, Bool.true_and] at this ⊢
    exact this
theorem alike_encI (a b : Addr × List Int) : PySem.W.alike (encI a) (encI b) = true := by
  unfold encI PySem.W.alike; exact alikeAll_intsD _ _
theorem depthAll_intsD : ∀ k : List Int, PyData.depthAll (intsD k) ≤ 1
  | [] => Nat.zero_le _
  | x :: k => by
    show max (PyData.int x).depth (PyData.depthAll (intsD k)) ≤ 1
    exact Nat.max_le.mpr ⟨by simp [PyData.depth], depthAll_intsD k⟩
theorem depth_encI (q : Addr × List Int) : (encI q).depth ≤ 2 := by
  unfold encI
  have := depthAll_intsD q.2
  simp only [PyData.depth]
  omega
/-- sorted(s), s such a set -/
theorem dl_sorted_set {a : Addr} {L : List (Addr × List Int)} {es : Array (Int × Value)} {ep : Nat} {tb : SetTable} {Q : Value → Shared → Prop} (R : SetTR P w s.heap a L es ep tb) (nh : A.handled = none) (room : A.units + 64 < cLine)
    (rd : ∀ p ∈ L, ∃ as, PySem.Reads s.heap (.ref p.1) (encI p) as)
    (fin : ∀ s' p (ov : List Value) (c : Nat) (L' : List (Addr × List Int)), (∀ b o, s.heap.get? b = some o → s'.heap.get? b = some o) → s'.gens = s.gens → s'.os = s.os → s.heap.objs.size ≤ p → L'.Perm L →
      s'.heap.get? p = some (seqObj "list" ov.toArray c) → PySem.W.EachIs (fun (v : Value) (q : Addr × List Int) => v = .ref q.1) ov (L'.mergeSort (PySem.W.dataLe false encI)) → ov.length = L'.length → Q (.ref p) s') :
    wpAny (model P w) A (call (.builtin "sorted") [.ref a]) Q E s := by
  obtain ⟨o, ho, hex, hd⟩ := R.ob
  have few := R.few; have sz := R.size
  refine PyProof.Rows.call_function_entry_kw kind_sorted plain_sorted entry_sorted (args_sorted1 _) ?_
  unfold Builtin.«sorted»
  refine wpAny_bind (m := checkCount "sorted" 1 1 _) (wpAny_pure (wpAny_bind (collect_set (A := A.in1) nh ⟨o, ho, hex.1, hd⟩ R.fits (by unfold scanBound; omega) R.tab.ris R.led fun s1 vs k1 hz g1 o1 pm => ?_)))
  have e0 : es.toList.map (·.2) = L.map fun q => Value.ref q.1 := by
    rw [R.rows]; unfold rowsOf; rw [List.map_map]; rfl
  rw [e0] at pm
  obtain ⟨L1, pL, ev⟩ := perm_lift pm L rfl
  have lv : vs.length < 64 := by rw [pm.length_eq, List.length_map]; exact few
  have lz : vs.length ≤ sizeLine := by rw [sizeLine_eq]; omega
  refine wpAny_bind (wpAny_newList ?_ lz)
  have at1 : (s1.heap.push (seqObj "list" vs.toArray 0)).get? s1.heap.objs.size = some (seqObj "list" vs.toArray 0) := Heap.get?_push_size _ rfl
  have old : ∀ b o, s.heap.get? b = some o → (PySem.W.sortingHeap (s1.heap.push (seqObj "list" vs.toArray 0)) s1.heap.objs.size vs).get? b = some o := fun b o e => by
    have q := k1 b o e
    exact PySem.W.sortingHeap_old (Nat.ne_of_lt (Heap.lt_size q)) (Heap.get?_push_of_some _ q)
  have er : PySem.W.EachIs (fun (v : Value) (q : Addr × List Int) => v = .ref q.1) vs L1 := by
    rw [ev]
    clear ev pL
    induction L1 with
    | nil => exact .nil
    | cons q l ih => exact .cons rfl ih
  have er1 : PySem.W.EachIs (fun v q => ∃ as, PySem.Reads (PySem.W.sortingHeap (s1.heap.push (seqObj "list" vs.toArray 0)) s1.heap.objs.size vs) v (encI q) as) vs L1 := by
    have all : ∀ q ∈ L1, ∃ as, PySem.Reads s.heap (.ref q.1) (encI q) as := fun q hq => rd q (pL.mem_iff.mp hq)
    clear pL
    subst ev
    generalize hh : PySem.W.sortingHeap (s1.heap.push (seqObj "list" (L1.map fun q => Value.ref q.1).toArray 0)) s1.heap.objs.size (L1.map fun q => Value.ref q.1) = hp
    rw [hh] at old
    clear hh at1 er pm lv lz
    induction L1 with
    | nil => exact .nil
    | cons q l ih =>
      obtain ⟨as, r⟩ := all q List.mem_cons_self
      exact .cons ⟨as, PyProof.Rows.Reads.keeps old r⟩ (ih fun q hq => all q (List.mem_cons_of_mem _ hq))
  have S : PySem.W.SortsAt P w A.in1.in1 { s1 with heap := PySem.W.sortingHeap (s1.heap.push (seqObj "list" vs.toArray 0)) s1.heap.objs.size vs } (PySem.W.dataKind (PySem.W.sortingHeap (s1.heap.push (seqObj "list" vs.toArray 0)) s1.heap.objs.size vs) (L1.map encI)) vs := by
    refine PySem.W.dl_sortsAt (s := { s1 with heap := PySem.W.sortingHeap (s1.heap.push (seqObj "list" vs.toArray 0)) s1.heap.objs.size vs }) (PySem.W.each_map (R := fun v d => ∃ as, PySem.Reads (PySem.W.sortingHeap (s1.heap.push (seqObj "list" vs.toArray 0)) s1.heap.objs.size vs) v d as) encI er1) (fun d hd d' hd' => ?_) (fun d hd => ?_) fun d hd => ?_
    · obtain ⟨b, _, rfl⟩ := List.mem_map.mp hd
      obtain ⟨b', _, rfl⟩ := List.mem_map.mp hd'
      exact alike_encI b b'
    · obtain ⟨b, _, rfl⟩ := List.mem_map.mp hd
      exact ⟨_, rfl⟩
    · obtain ⟨b, _, rfl⟩ := List.mem_map.mp hd
      have := depth_encI b
      show A.units + 2 + _ < _
      omega
  refine wpAny_bind (wpAny_holding (wpAny_call_entry_kw slot_list_sort ⟨_, at1, rfl⟩ entry_list_sort (PySem.W.list_sort_vals (s := { s1 with heap := s1.heap.push (seqObj "list" vs.toArray 0) }) at1 S lz ?_) (args_list_sort _)))
  have eo := PySem.W.sortVals_data (h' := PySem.W.sortingHeap (s1.heap.push (seqObj "list" vs.toArray 0)) s1.heap.objs.size vs) (enc := encI) false (R := fun (v : Value) (q : Addr × List Int) => v = .ref q.1) er er1 (fun d hd d' hd' => by
    obtain ⟨b, _, rfl⟩ := List.mem_map.mp hd
    obtain ⟨b', _, rfl⟩ := List.mem_map.mp hd'
    exact alike_encI b b')
  obtain ⟨c, hc⟩ := sortedHeap_at (vs := vs) (out := (PySem.W.sortVals (PySem.W.dataKind (PySem.W.sortingHeap (s1.heap.push (seqObj "list" vs.toArray 0)) s1.heap.objs.size vs) (L1.map encI)) false vs vs).toArray) at1
  refine ⟨_, rfl, wpAny_pure ⟨_, rfl, fin _ s1.heap.objs.size _ c L1 (fun b u e => ?_) g1 o1 hz pL hc eo ?_⟩⟩
  · have q := k1 b u e
    have lt := Heap.lt_size q
    show (sortedHeap (s1.heap.push (seqObj "list" vs.toArray 0)) s1.heap.objs.size vs _).get? b = some u
    rw [sortedHeap_old (Nat.ne_of_lt lt) (by rw [size_push']; exact Nat.lt_succ_of_lt lt)]
    exact Heap.get?_push_of_some _ q
  · rw [PySem.W.sortVals_length false rfl]
    exact er.length
end
section
variable {X : Cx} {G : Gb} {a b c e tg : Expr} {f g h : Fe} {fl gl : Fi} {pos p : Pos} {H0 H H' : Hp} {ρ0 ρ : Option Addr} {σ : L2.St} {E : Ed} {k : Nat}
theorem RpAll.of_list {α : Type} {u : α → V} {v : α → PyData} : ∀ {l : List α}, (∀ x ∈ l, Rp H (u x) (v x)) → RpAll H (l.map u) (l.map v)
  | [], _ => .nil
  | x :: l, z => .cons (z x List.mem_cons_self) (RpAll.of_list fun y hy => z y (List.mem_cons_of_mem _ hy))
theorem rp_intsD (k : List Int) : RpAll H (k.map V.int) (intsD k) := RpAll.of_list fun x _ => .int x
theorem rp_intsV : ∀ {k : List Int} {xs : List V}, RpAll H xs (intsD k) → xs = k.map V.int
  | [], _, z => by cases z; rfl
  | i :: k, _, z => by
    cases z with
    | cons r t => cases r; rw [rp_intsV t]; rfl
theorem RpAll.addrs : ∀ {ks : List (List Int)} {xs : List V}, RpAll H xs (ks.map fun k => PyData.tuple (intsD k)) → ∃ ps : List (Addr × List Int), (ps.map fun p => V.ref p.1) = xs ∧ ps.map Prod.snd = ks ∧ ∀ p ∈ ps, H p.1 = some (.tup (p.2.map V.int))
  | [], _, z => by cases z; exact ⟨[], rfl, rfl, fun p hp => by cases hp⟩
  | k :: ks, _, z => by
    cases z with
    | cons r t =>
      obtain ⟨ps, h1, h2, h3⟩ := t.addrs
      cases r with
      | @tup b xs _ q1 q2 =>
        have := rp_intsV q2
        subst this
        refine ⟨(b, k) :: ps, by rw [List.map_cons, h1], by rw [List.map_cons, h2], fun p hp => ?_⟩
        rcases List.mem_cons.mp hp with e | hp
        · rw [e]; exact q1
        · exact h3 p hp
theorem noDicts_ints : ∀ k : List Int, noDicts (intsD k) = true
  | [] => rfl
  | _ :: k => noDicts_ints k
def rSetTup (P : Program) (w : World) : List V → Hp → VK → Prop := fun xs H Q => ∃ (t : Addr) (ks : List (Addr × List Int)), xs = [V.ref t] ∧ H t = some (.tup (ks.map fun p => V.ref p.1)) ∧ (∀ p ∈ ks, H p.1 = some (.tup (p.2.map V.int))) ∧ ks.length < 64 ∧
  ∀ a L, H a = none → (∀ p ∈ L, p ∈ ks) → (∀ p ∈ ks, p.2 ∈ L.map (·.2)) → (L.map (·.2)).Nodup → Q (.ref a) (upd H a (SetTO P w a L))
theorem cr_setTup (hc : X.calm = true) (hu : X.A.units + 64 < cLine) : CallR X (.type "set") (rSetTup X.prog X.w) := by
  intro pins s σ H xs us Q I r ⟨t, ks, ex, ht, hk, hf, q⟩
  subst ex
  rw [Vals.ref1 r]
  obtain ⟨its, rv, pl, hz⟩ := I.tuple (show SqT X.K H t _ from .inl (.inl ht))
  have hn : H s.heap.objs.size = none := I.hok.fresh (Nat.le_refl _)
  exact dl_set_tup ks (I.ok.hd hc) pl (by simpa using refs_of_vals rv) (fun p hp => I.isT (.inl (.inl (hk p hp)))) hf (by omega) fun h' tk L es ep t R g kp =>
    ⟨.ref _, upd H _ (SetTO X.prog X.w _ L), I.laid (t' := tk) kp (Nat.le_refl _) (setTO_new R.t0), rfl, q _ L hn (fun p hp => List.mem_of_mem_take (g.sub p hp)) (fun p hp => g.all p (by rw [List.take_length]; exact hp)) R.nd⟩
def rSortedS (P : Program) (w : World) : List V → Hp → VK → Prop := fun vs H Q => ∃ (a : Addr) (L : List (Addr × List Int)), vs = [V.ref a] ∧ H a = some (SetTO P w a L) ∧ (∀ p ∈ L, H p.1 = some (.tup (p.2.map V.int))) ∧
  ∀ (L' : List (Addr × List Int)) (p : Addr), L'.Perm L → H p = none → Q (.ref p) (upd H p (.lst ((L'.mergeSort (PySem.W.dataLe false encI)).map fun q => V.ref q.1)))
theorem vals_of_eachA : ∀ {us : List Value} {L : List (Addr × List Int)}, PySem.W.EachIs (fun u q => u = Value.ref q.1) us L → Vals (L.map fun q => V.ref q.1) us
  | _, _, .nil => .nil
  | _, _, .cons z t => .cons (by subst z; rfl) (vals_of_eachA t)
theorem cr_sortedS (hc : X.calm = true) (hu : X.A.units + 64 < cLine) : CallR X (.builtin "sorted") (rSortedS X.prog X.w) := by
  intro pins s σ H vs us Q I r ⟨a, L, ev, ha, hk, q⟩
  subst ev
  have R0 : SetT0 X.prog X.w s.heap a L := (I.hok a _ ha).1
  obtain ⟨es, ep, t, R⟩ := R0.full fun p hp => I.isT (.inl (.inl (hk p hp)))
  rw [Vals.ref1 r]
  refine dl_sorted_set R (I.ok.hd hc) hu (fun p hp => Dp.reads I _ _ _ (Rp.dp (K := X.K) (.tup (hk p hp) (rp_intsD p.2)) (noDicts_ints p.2)) rfl) fun s' p ov c L' kp g o hp pm hg eo len => ?_
  have hz : ((L'.mergeSort (PySem.W.dataLe false encI)).map fun q => V.ref q.1).length ≤ sizeLine := by
    rw [List.length_map, List.length_mergeSort, pm.length_eq, sizeLine_eq]; have := R.few; omega
  have hn : H p = none := I.hok.fresh hp
  have J : Inv X pins σ (upd H p (.lst ((L'.mergeSort (PySem.W.dataLe false encI)).map fun q => V.ref q.1))) { s with heap := s'.heap, gens := s'.gens, drawn := s'.drawn, toks := s'.toks } :=
    I.call (ch := []) (Un.laid kp hp hn) (I.hok.laid kp hp ⟨hz, ov, c, vals_of_eachA eo, hg⟩) (by rw [g]; exact I.bare) (fun _ z => nomatch z)
  have e : s' = { s with heap := s'.heap, gens := s'.gens, drawn := s'.drawn, toks := s'.toks } := by
    obtain ⟨_, _, _, _, _⟩ := s'; cases o; rfl
  rw [e]
  exact ⟨.ref p, _, J, rfl, q L' p pm hn⟩
/-- sorted(set(t)), t a tuple of tuples of ints -/
def nSortSet (f : Fe) : Fi := fun E Q => f E fun d => ∃ ks : List (List Int), d = .tuple (ks.map fun k => PyData.tuple (intsD k)) ∧ ks.length < 64 ∧ ∀ cs : List (List Int), cs.Nodup → (∀ k, k ∈ cs ↔ k ∈ ks) → Q ((sortTT (cs.map intsD)).map .tuple)
theorem dn_sortSet {p2 q2 : Pos} (hc : X.calm = true) (hr : Room k X.A) (hg : Gl X "sorted") (hm : X.mg "sorted" = none) (hg2 : Gl X "set") (hm2 : X.mg "set" = none) (ha : DE G X a f) (he : starEach [a] X.env = (false, eval a X.env) :: starEach [] X.env := by rfl)
    (he2 : starEach [.Call (.Name "set" p2) [a] [] q2] X.env = (false, eval (.Call (.Name "set" p2) [a] [] q2) X.env) :: starEach [] X.env := by rfl) : DN G X (.Call (.Name "sorted" p) [.Call (.Name "set" p2) [a] [] q2] [] pos) (nSortSet f) :=
  PE.weak (pe_callB (cr_sortedS hc (hu64 hr)) hg hm (by decide +kernel) (pa_one (pe_callTy (cr_setTup hc (hu64 hr)) hg2 hm2 PyProof.Rows.boot_set (pa_one ha he) (he := he)) he2) (he := he2)) fun σ H Q ⟨H0, ρ0, ρ, E, P, I, h, kk⟩ => by
    show tE G f σ H fun x H1 => rSetTup X.prog X.w [x] H1 fun y H2 => rSortedS X.prog X.w [y] H2 Q
    exact tE.use I h fun d ⟨ks, ed, few, hd⟩ v H1 e1 I1 r1 => by
      subst ed
      cases r1 with
      | @tup t xs _ h1 h2 =>
        obtain ⟨ps, q1, q2, q3⟩ := h2.addrs
        refine ⟨t, ps, rfl, by rw [h1, q1], q3, by rw [← q2, List.length_map] at few; exact few, fun a L hn s1 s2 nd => ?_⟩
        have e2 := (Ext.refl ρ H1).upd (o := SetTO X.prog X.w a L) hn
        have I2 := I1.new (o := SetTO X.prog X.w a L) hn
        have q4 : ∀ p ∈ L, upd H1 a (SetTO X.prog X.w a L) p.1 = some (.tup (p.2.map V.int)) := fun p hp => e2.toS _ _ (q3 p (s1 p hp)) True.intro
        refine ⟨a, L, rfl, upd_same, q4, fun L' l pm hl => ?_⟩
        have e3 := (Ext.refl ρ (upd H1 a (SetTO X.prog X.w a L))).upd (o := .lst ((L'.mergeSort (PySem.W.dataLe false encI)).map fun q => V.ref q.1)) hl
        refine kk _ (hd (L'.map Prod.snd) ((pm.map Prod.snd).nodup_iff.mpr nd) fun k => ?_) l _ _ ((e1.trans e2).trans e3) (I2.new hl).g (I2.new hl).row ((e1.trans e2).free I2.row hl) upd_same ?_
        · rw [(pm.map Prod.snd).mem_iff, ← q2]
          constructor
          · intro z
            obtain ⟨p, hp, e⟩ := List.mem_map.mp z
            exact List.mem_map.mpr ⟨p, s1 p hp, e⟩
          · intro z
            obtain ⟨p, hp, e⟩ := List.mem_map.mp z
            rw [← e]; exact s2 p hp
        · have z := List.map_mergeSort (r := PySem.W.dataLe false encI) (s := PySem.W.dataLe false PyData.tuple) (f := fun q => intsD q.2) (l := L') (fun a _ b _ => rfl)
          have z2 : (sortTT ((L'.map Prod.snd).map intsD)).map PyData.tuple = (L'.mergeSort (PySem.W.dataLe false encI)).map fun q => PyData.tuple (intsD q.2) := by
            rw [show (L'.mergeSort (PySem.W.dataLe false encI)).map (fun q => PyData.tuple (intsD q.2)) = ((L'.mergeSort (PySem.W.dataLe false encI)).map fun q => intsD q.2).map PyData.tuple by rw [List.map_map]; rfl, z, List.map_map]
            rfl
          rw [z2]
          exact RpAll.of_list fun q hq => .tup (e3.toS _ _ (q4 q (pm.mem_iff.mp ((List.mergeSort_perm L' _).mem_iff.mp hq))) True.intro) (rp_intsD q.2)

/-! ### a < b of tuples -/
def rLtD (K : PySem.W.Frag) : R2 := fun x y H Q => ∃ d e, Dp K H x d ∧ Dp K H y e ∧ PySem.W.alike d e = true ∧ d ≠ .none ∧ d.depth ≤ 60 ∧ Q (.bl (PySem.W.dataLt d e)) H
theorem op_ltD (hu : X.A.units + 65 < cLine) : OpR X (compareOp .Lt) (rLtD X.K) := by
  intro pins s σ H x y v u Q I rx ry ⟨d, e, hd, he, al, nn, dp, q⟩
  obtain ⟨as, r1⟩ := Dp.reads I d x v hd rx
  obtain ⟨bs, r2⟩ := Dp.reads I e y u he ry
  exact PySem.W.rcLt_alike d e X.A s v u as bs r1 r2 al nn (by have := Nat.min_le_left d.depth e.depth; omega) X.prog X.w X.xe _ ⟨.bl _, H, I, rfl, q⟩
def oLtT : Od := fun a b Q => ∃ xs ys, a = .tuple xs ∧ b = .tuple ys ∧ noDicts xs = true ∧ noDicts ys = true ∧ PySem.W.alikeAll xs ys = true ∧ (PyData.tuple xs).depth ≤ 60 ∧ Q (.bool (PySem.W.dataLt (.tuple xs) (.tuple ys)))
theorem opD_ltT : OpD G (rLtD X.K) oLtT := fun H0 ρ0 ρ σ H E x y a b P Q I ra rb ⟨xs, ys, e1, e2, n1, n2, al, dp, h⟩ k => by
  subst e1 e2
  exact ⟨_, _, ra.dp n1, rb.dp n2, by unfold PySem.W.alike; exact al, (fun z => by cases z), dp, k _ h _ _ (Ext.refl _ _) I (.bl _)⟩
/-! ### is True, is False -/
def oIsB (neg : Bool) : Od := fun a b Q => ∃ x y, a = .bool x ∧ b = .bool y ∧ Q (.bool (if neg then !decide (x = y) else decide (x = y)))
theorem opD_isB : OpD G (fun x y H Q => ∃ a b, x = .bl a ∧ y = .bl b ∧ Q (.bl (decide (a = b))) H) (oIsB false) := fun H0 ρ0 ρ σ H E x y a b P Q I ra rb ⟨u, v, e1, e2, h⟩ k => by
  subst e1 e2
  cases ra; cases rb
  exact ⟨_, _, rfl, rfl, k _ h _ _ (Ext.refl _ _) I (.bl _)⟩
theorem opD_isnB : OpD G (fun x y H Q => ∃ a b, x = .bl a ∧ y = .bl b ∧ Q (.bl (!decide (a = b))) H) (oIsB true) := fun H0 ρ0 ρ σ H E x y a b P Q I ra rb ⟨u, v, e1, e2, h⟩ k => by
  subst e1 e2
  cases ra; cases rb
  exact ⟨_, _, rfl, rfl, k _ h _ _ (Ext.refl _ _) I (.bl _)⟩
/-! ### {} as a value -/
theorem d_dct0 : DE G X (.Dict [] [] pos) (eC (.dict [])) := PE.weak (pe_frz pe_dnewT) fun σ H Q ⟨H0, ρ0, ρ, E, P, I, h, k⟩ => fun q hq => ⟨q, .dT [], rfl, upd_same, True.intro, fun od => by
  obtain ⟨e2, I2, s2⟩ := I.fresh_put (o := .frz od (.dT [])) ((Ext.refl ρ H).upd hq) (I.new hq) (Fr0.of_none hq) upd_same chg_dT
  exact k _ h _ _ e2 I2.g I2.row (.dct (kvs := []) upd_same .nil)⟩
/-! ### xs * n -/
def nRep (fl : Fi) (g : Fe) : Fi := fun E Q => fl E fun xs => g E fun d => ∃ n : Nat, d = .int n ∧ n ≤ 1000 ∧ xs.length * n ≤ sizeLine ∧ Q (List.replicate n xs).flatten
theorem rp_rep {xs : List V} {ds : List PyData} (r : RpAll H xs ds) : ∀ n : Nat, RpAll H (List.replicate n xs).flatten (List.replicate n ds).flatten
  | 0 => .nil
  | n + 1 => by
    rw [List.replicate_succ, List.replicate_succ, List.flatten_cons, List.flatten_cons]
    exact r.append (rp_rep r n)
theorem dn_rep (ha : DN G X a fl) (hb : DE G X b g) : DN G X (.BinOp a .Mult b pos) (nRep fl g) :=
  PE.weak (pe_op op_rep ha hb) fun σ H Q ⟨H0, ρ0, ρ, E, P, I, h, kk⟩ => tN.use I h fun xs hx p vs H1 e1 I1 f1 h1 r1 => tE.use I1 hx fun d ⟨n, ed, le, hz, hd⟩ v H2 e2 I2 r2 => by
    subst ed
    cases r2
    have h1' : H2 p = some (.lst vs) := e2 _ _ h1 (fun ps z => by cases z) fun z => absurd z (I.noRow f1)
    refine ⟨p, n, vs, rfl, rfl, h1', by omega, by omega, by rw [r1.length, Int.toNat_natCast]; exact hz, fun q hq => ?_⟩
    have e3 := (Ext.refl ρ H2).upd (o := .lst (List.replicate (n : Int).toNat vs).flatten) hq
    exact kk _ hd q _ _ ((e1.trans e2).trans e3) (I2.new hq).g (I2.new hq).row ((e1.trans e2).free I2.row hq) upd_same (rp_rep ((r1.ext e2.toS).ext e3.toS) n)
/-! ### xs if c else ys, both just made -/
theorem dn_if {tf : Ed → Dm Bool} (hc : DT G X c tf) (ha : DN G X a fl) (hb : DN G X b gl) : DN G X (.IfExp c a b pos) (nIf tf fl gl) := PE.weak (pe_ifExp hc ha hb) fun σ H Q ⟨H0, ρ0, ρ, E, P, I, h, k⟩ => tT.use I h fun b hb H1 e1 I1 => by
  have fr : ∀ {p : Addr} {H2 : Hp} , Fr0 H1 p → Fr0 H p := fun {p H2} f o e => Classical.byContradiction fun n => by
    have := e1 p o e (fun ps z => n ⟨ps, z⟩) (fun z => by
      obtain ⟨_, _, _, _, _, _, w, _⟩ := I1.row p z
      obtain ⟨ps, e2⟩ := f _ w
      cases e2)
    obtain ⟨ps, e2⟩ := f o this
    exact n ⟨ps, e2⟩
  cases b with
  | true => rw [if_pos rfl] at hb ⊢; exact tN.use I1 hb fun ds hd p vs H2 e2 I2 f2 h2 r2 => k ds hd p vs H2 (e1.trans e2) I2.g I2.row (fr (H2 := H2) f2) h2 r2
  | false => rw [if_neg Bool.false_ne_true] at hb ⊢; exact tN.use I1 hb fun ds hd p vs H2 e2 I2 f2 h2 r2 => k ds hd p vs H2 (e1.trans e2) I2.g I2.row (fr (H2 := H2) f2) h2 r2
/-! ### xs[i] = v, xs one's own list -/
def sLSet (i : Nat) (fk fv : Fe) : Fs := fun E Q => (∃ xs, E[i]? = some (.ls xs)) ∧ fv E fun d => fk E fun y => ∃ xs n j, E[i]? = some (.ls xs) ∧ y = .int n ∧ ixN xs.length n = some j ∧ Q (.nx (E.set i (.ls (xs.set j d))))
theorem RpAll.set {d : PyData} {v : V} (r : Rp H v d) : ∀ {vs : List V} {ds : List PyData} (j : Nat), RpAll H vs ds → RpAll H (vs.set j v) (ds.set j d)
  | _, _, _, .nil => .nil
  | _, _, 0, .cons _ t => .cons r t
  | _, _, j + 1, .cons r' t => .cons r' (RpAll.set r j t)
theorem s_lset (i : Nat) {x : Str} {p1 pos' : Pos} {fk fv : Fe} (hk : DE G X b fk) (he : DE G X e fv) (hi : X.N[i]? = some x := by rfl) (hv : Vis X.env.scope x := by first | exact Or.inl rfl | exact Or.inr (Or.inl rfl) | exact Or.inr (Or.inr rfl)) (hd : (x == ("__debug__" : Str)) = false := by decide) (hcd : (x == ("__classdict__" : Str)) = false := by decide)
    (hsub : ∀ v, assign (.Subscript (.Name x p1) b pos') X.env v = (do
      let ov ← holding [v] (eval (.Name x p1) X.env)
      let iv ← holding [v, ov] (eval b X.env)
      standAt pos'
      holding [v, ov, iv] (setItem ov iv v)
      release [v, ov, iv] []) := by intro _; rfl)
    (hs : swapsWithSole [.Subscript (.Name x p1) b pos'] e pos.line X.env = pure false := by rfl) (hw : swappedStores [.Subscript (.Name x p1) b pos'] e X.env = pure none := by rfl) (h1 : (assignEach [.Subscript (.Name x p1) b pos'] X.env).map (·.2) = [assign (.Subscript (.Name x p1) b pos') X.env] := by rfl) :
    DS G X (.Assign [.Subscript (.Name x p1) b pos'] e pos) (sLSet i fk fv) :=
  PS.weak (ps_asg he (pg_sub (pe_var hi hv hd hcd) hk set_list hsub) hs hw h1) fun D σ H ⟨H0, ρ0, ρ, E, P, I, ⟨⟨xs0, ho⟩, h⟩, k1, k2, k3, k4⟩ => by
  obtain ⟨q, vs0, hq, _⟩ := I.slot i _ ho
  refine tE.use I h fun d hd v H1 e1 I1 r1 => ⟨_, hq, tE.use I1 hd fun y ⟨xs, n, j, hm, ey, hj, hP⟩ w H2 e2 I2 r2 => ?_⟩
  subst ey
  cases r2
  obtain ⟨q', vs, g1, g2, g3, g4⟩ := I2.slot i _ hm
  rw [hq] at g1; cases g1
  obtain ⟨eS, I3⟩ := own_put I2 hm hq g2 g4 (RpAll.set (r1.ext e2.toS) j g3)
  exact ⟨q, vs, n, j, rfl, rfl, g2, by rw [RpAll.length g3]; exact hj, k1 _ hP ρ _ _ ((e1.toS.trans e2.toS).trans eS) I3⟩
/-! ### list(d), d a dict that is a value -/
def nListV (f : Fe) : Fi := fun E Q => f E fun d => ∃ kd, d = .dict kd ∧ Q (kd.map Prod.fst)
theorem dn_listV (hc : X.calm = true) (hg : Gl X "list") (hm : X.mg "list" = none) (ha : DE G X a f) (he : starEach [a] X.env = (false, eval a X.env) :: starEach [] X.env := by rfl) : DN G X (.Call (.Name "list" p) [a] [] pos) (nListV f) :=
  PE.weak (pe_callTy (call_listX hc) hg hm (by decide +kernel) (pa_one ha he) (he := he)) fun σ H Q ⟨H0, ρ0, ρ, E, P, I, h, kk⟩ => by
    show tE G f σ H fun x H1 => rListX [x] H1 Q
    exact tE.use I h fun d ⟨kd, ed, hd⟩ v H1 e1 I1 r1 => by
      subst ed
      cases r1 with
      | @dct q kv ds o h1 h2 =>
        refine .inl ⟨q, kv, rfl, .inr ⟨o, h1⟩, fun l bs hl hk => ?_⟩
        have hlen := h2.length
        rw [List.length_map] at hlen
        rw [List.map_fst_zip (by rw [List.length_map, List.length_map, hlen]; exact Nat.le_refl _)] at hd
        have e2 := (Ext.refl ρ H1).upd (o := .lst (bs.map V.ref)) hl
        refine kk _ hd l _ _ (e1.trans e2) (I1.new hl).g (I1.new hl).row (e1.free I1.row hl) upd_same ?_
        have z := (rp_keysT (bs := bs) (kvs := kv.map fun r => (r.1, PyData.none)) (by rw [List.map_map]; rfl) hk).ext e2.toS
        rw [List.map_map] at z ⊢
        exact z
end
end DL
set_option Elab.async false
set_option linter.all false
set_option maxRecDepth 100000
set_option maxHeartbeats 2000000
/-! exceptions over the data layer -/
namespace DL
open PySem PySem.Spec PyProof.Rows L2
/-- how a def ends -/
inductive OutC where
  | ret (d : PyData)
  | exc (e : ExD)
abbrev FfX := List Sl → (OutC → Prop) → Prop
def spX (G : Gb) (F : FfX) : Sp := fun vs H Q E => ∃ ρ as P, ArgsOk H ρ vs as ∧ GOk G H ∧ RowIs G.K ρ H ∧ F as P ∧ (∀ d, P (.ret d) → ∀ v H', Ext ρ H H' → GOk G H' → RowIs G.K ρ H' → Rp H' v d → Q v H') ∧
  ∀ e, P (.exc e) → ∀ H' d, Ext ρ H H' → GOk G H' → RowIs G.K ρ H' → FldOk H H' d e.fld → E (G.cls e.name) d H'
def endX (Q : OutC → Prop) : Out → Prop
  | .rt d => Q (.ret d)
  | .nx _ => Q (.ret .none)
  | _ => False
def runX (np n : Nat) (B : (ExD → Prop) → Fs) : FfX := fun as Q => as.length = np ∧ B (fun e => Q (.exc e)) (as ++ List.replicate (n - np) .no) (endX Q)
section
variable {P : Program} {w : World} {K : PySem.W.Frag} {mg : Str → Option Value} {base : Heap}
theorem fnX {G : Gb} {x qual : Str} {st : Stmt} {f : Addr} {fd : FuncData} {cdv : Value} {N ps : List Str} {k : Nat} {B : (ExD → Prop) → Fs} (F : FunC K x qual st f fd cdv) (S : FnScope N ps (defScope st)) (hn : ps.length ≤ N.length)
    (body : ∀ (A : Around) (outer : List Env) (s : Shared) (H : Hp) (E : XK), Room k (A.deeper (envOfC qual (defScope st) s.heap.objs.size f cdv)) → ∀ (W : WX) (Px : ExD → Prop), Takes (cxOf (L2.CX P w) P w K mg base N qual (defScope st) f cdv A outer s H E) W →
      DSs (G.wx W Px) (cxOf (L2.CX P w) P w K mg base N qual (defScope st) f cdv A outer s H E) (defBody st) (B Px)) :
    FnOk P w K mg base (L2.CX P w) (k + 1) f fd ps (spX G (runX ps.length N.length B)) := by
  obtain ⟨oc, od, dV, kV, doc, pm, an, ct, osl, rfl, lk, hcd⟩ := F.ex
  refine fn_of lk hcd S (fun vs H Q E ⟨ρ, as, Pd, ha, _, _, hF, _⟩ => ha.length.trans hF.1) fun A outer s H vs Q E hr ⟨ρ, as, Pd, ha, g, r, ⟨hl, hF⟩, q, qx⟩ => ?_
  refine ⟨_, body A outer s H E hr (fun cls d _ H' => E cls d H') (fun e => Pd (.exc e)) (takes_of rfl rfl rfl rfl), ?_⟩
  refine ⟨H, ρ, ρ, _, endX Pd, DInv.start (G := G.wx (fun cls d _ H' => E cls d H') (fun e => Pd (.exc e))) (N := N) ha g r (by rw [hl]; exact hn) (fun e he σ' H' d e1 g1 r1 f1 => qx e he H' d e1 g1 r1 f1), ?_, ?_, ?_, ?_, ?_⟩
  · rw [hl]; exact hF
  · exact fun E' hE ρ' σ' H' x I' => q _ hE .non H' I'.ext I'.g I'.row0 .non
  · exact fun d hd v H' e g r rp => q _ hd v H' e g r rp
  · exact fun E' hE => hE.elim
  · exact fun E' hE => hE.elim
end
section
variable {X : Cx} {G : Gb} {a b c e tg : Expr} {f g h : Fe} {fl gl : Fi} {pos p : Pos} {H0 H H' : Hp} {ρ0 ρ : Option Addr} {σ : L2.St} {E : Ed} {k : Nat}
theorem FldOk.back {H1 : Hp} {d : Option Addr} {fld : Option (Str × PyData)} (I : DInv G H0 ρ0 ρ σ H1 E) (h : FldOk H1 H' d fld) : FldOk H0 H' d fld := by
  cases fld with
  | none => exact h
  | some q => obtain ⟨a, v, h1, h2, h3, h4⟩ := h; exact ⟨a, v, h1, h2, h3, I.fr0 h4⟩
/-- a call of a def that may raise: px is what is asked of what it raises -/
def eCallX (px : ExD → Prop) (F : FfX) (fa : Ed → Dm (List Sl)) : Fe := fun E Q => fa E fun as => F as fun o => match o with
  | .ret d => Q d
  | .exc e => px e
theorem d_callX {F : FfX} {fa : Ed → Dm (List Sl)} {x : Str} {fn : Addr} {fd : FuncData} {ps : List Str} {es : List Expr} (O : FnOk X.prog X.w X.K X.mg X.base (L2.CX X.prog X.w) k fn fd ps (spX G F)) (tk : Takes X G.W) (hr : Room k X.A) (hg : Gl X x) (hm : X.mg x = some (.ref fn)) (hk : PySem.W.keepIn X.K (.ref fn) = true) (hb : Binds X.K fd ps [])
    (ha : DA G X (e :: es) fa) (hdb : (x == ("__debug__" : Str)) = false := by decide) (he : starEach (e :: es) X.env = (false, eval e X.env) :: starEach es X.env := by rfl) (hpl : (backTo pos (starEach es X.env)).any (·.1) = false := by rfl) :
    DE G X (.Call (.Name x p) (e :: es) [] pos) (eCallX G.Px F fa) :=
  PE.weak (pe_call (pos := pos) (p := p) (E := fun cls d H' => ∀ σ', G.W cls d σ' H') O hr hg hm hk hb .nil (passes_call tk fun cls d σ H h => h σ) ha hdb he hpl) fun σ H Q ⟨H0, ρ0, ρ, E, P, I, h, kk⟩ => tA.use I h fun as has vs H1 e1 I1 r1 => by
    show spX G F (vs ++ []) H1 Q _
    rw [List.append_nil]
    exact ⟨ρ, as, _, r1, I1.g, I1.row, has, fun d hd v H2 e2 g2 r2 rp => kk d hd v H2 (e1.trans e2) g2 r2 rp, fun ex hx H2 d e2 g2 r2 fo σ' => I1.xc ex hx σ' H2 d (I1.entry e2) g2 (I1.to e2 g2 r2).row0 (fo.back I1)⟩
/-- X(), X an own exception class without __init__ -/
theorem pmk_own0 {C : Addr} {bmB : List Value} {B newId initId : String} {x : Str} (F : ExcBaseFacts B newId initId bmB) (q : PySem.W.excIn X.K C bmB newId = true) (gC : X.mg x = some (.ref C)) (kC : PySem.W.keepIn X.K (.ref C) = true) (r : Raises X (.ref C)) (hg : Gl X x) (hdb : (x == ("__debug__" : Str)) = false := by decide) :
    PMk X (.Call (.Name x p) [] [] pos) (fun _ H Q => Q (.ref C) none H) := by
  intro pins s σ H Q I h
  refine wpAny_Call_Name_kw (ld_glob I hg gC ?_ hdb)
  refine PySem.W.callWith_K0 I.kIn kC ?_
  obtain ⟨bm, N, nm, qn, bs, hdct, sn, sub, ab, col, dd, k0, k1, k2, k3, k5, mN, hC, hN, hni, T⟩ := exc_obj I.kIn q
  refine wpAny_call_exc_subT F T hC hN hni (fun h' e hm => ?_) (by show 0 ≤ sizeLine; exact Nat.zero_le _)
  exact mk_of I hm r h (I.hok.gone hm.new)
def sRaise (px : ExD → Prop) (x : Str) : Fs := fun _ _ => px ⟨x, none⟩
theorem s_raise {x : Str} {pos' : Pos} (hc : X.calm = true) (tk : Takes X G.W) (mk : PMk X (.Call (.Name x p) [] [] pos) (fun _ H Q => Q (G.cls x) none H)) : DS G X (.Raise (some (.Call (.Name x p) [] [] pos)) none pos') (sRaise G.Px x) :=
  PS.weak (ps_raise hc tk mk) fun D σ H ⟨H0, ρ0, ρ, E, P, I, h, k1, k2, k3, k4⟩ => I.xc ⟨x, none⟩ h σ H none I.ext I.g I.row0 rfl
end
end DL
set_option Elab.async false
set_option linter.all false
set_option maxRecDepth 100000
set_option maxHeartbeats 2000000
/-! lambdas that are kept: made, called -/
namespace DL
open PySem PySem.Spec PyProof.Rows L2
section
variable {X : Cx} {pins : List (Addr × Obj)} {σ : L2.St} {H : Hp} {s : Shared}
theorem clo_ne {cells : List (Str × Addr)} {names : List (Str × NameKind)} {y : Str} (h : (y, NameKind.free) ∈ names) : (cloFrom cells names []).isEmpty = false := by
  have m := cloFrom_has (cells := cells) (acc := []) h
  cases e : cloFrom cells names [] with
  | nil => rw [e] at m; cases m
  | cons a b => rfl
/-- the rest of a lambda's making, its defaults being there; it takes a cell at least -/
theorem lam_tail {T : List (Addr × Str)} {c P : Addr} {q : Str} {params : Arguments} {body : Expr} {scope : Scope} {pos : Pos} {dV : Value} {par : Option (Str × Int)} {E : Value → Shared → Prop} {Q : Value → Shared → Prop} (I : Inv X pins σ H s) (TB : LamX.TabB X.base X.mg c P) (hcode : X.env.code = .ref c)
    (hm : (P, q) ∈ T) (hu : ∀ p ∈ T, p.1 = P → p.2 = q) (hT : LamX.Tabs T H) (hfree : ∀ y ∈ scope.names, y.2 = .free → ∃ c, X.env.cells.lookup y.1 = some c) {y0 : Str} (h0 : (y0, NameKind.free) ∈ scope.names)
    (h : ∀ (f c' : Addr) (H1 : Hp) (s' : Shared), Inv X pins σ H1 s' → LamX.ExtN H H1 → LamX.Tabs T H1 → (∀ b ps, b ≠ P → H b = some (.tbl ps) → H1 b = some (.tbl ps)) →
      H1 f = some (LamO f ⟨params, body, scope, q, cloFrom X.env.cells scope.names [], c', dV, par⟩) → H1 c' = some (LamX.CodeO c' q) → Q (.ref f) s') :
    wpAny (model X.prog X.w) X.A (makeTail "<lambda>" q params (.expr body) scope X.env dV .none none pos pos.line) Q E s := by
  obtain ⟨ps, hP, ht, ha⟩ := hT _ hm
  unfold makeTail
  rw [closure_ok hfree, I.ok.glob]
  refine wpAny_bind (wpAny_pure ?_)
  simp only [clo_ne h0, Bool.false_eq_true, if_false]
  refine wpAny_bind (wpAny_newTextTuple ?_)
  generalize hst : ({ s with heap := s.heap.push { cls := .type "tuple", data := .seq (List.map (fun x : Str × Addr => Value.ref x.2) ((cloFrom X.env.cells scope.names []).mergeSort fun a b => a.1.cps.toList ≤ b.1.cps.toList)).toArray } } : Shared) = st
  have Ist : Inv X pins σ H st := by rw [← hst]; exact I.kept (t' := s.toks) fun b o e => Heap.get?_push_of_some _ e
  clear hst
  have bP : st.heap.BuiltinsAt X.mg P := TB.bm.keeps Ist.bk
  have tP : st.heap.get? P = some { cls := .none, data := .fields ps } := Ist.hok P _ hP
  have hg : st.heap.Ns mainGlobals X.mg := Ist.mod.glob.keeps Ist.bk
  have hC := TB.code.keeps Ist.bk
  obtain ⟨bm, ob, b1, b2, _, b4, b5, b6, b7, b8⟩ := bP
  cases hc : codeAmong pos ps.toList with
  | none =>
    refine wpAny_bind (wpAny_functionCodeX hcode (hC.code tP ht) (hC.tab tP) hc fun c' h' tk hx hge hlt _ hrec htb _ => ?_)
    have hg' := hg.extBut hx TB.gP
    refine wpAny_bind (wpAny_builtinsFor hg' b1 b2 (hx _ _ b4 b5) b6 b7 b8 (wpAny_bind (wpAny_nsGet hg' (wpAny_bind (wpAny_pure (wpAny_newObj_type ?_ (by size_fits)))))))
    obtain ⟨c2, oc, vs, t, e2, hoc, hd, hv⟩ := hrec
    cases e2
    have nC : H c' = none := Ist.hok.fresh hge
    have I1 := LamX.inv_table (t' := tk) (more := #[rawInt pos.line, rawInt pos.col, .ref c']) (h' := h') Ist hP (fun b o hb e => hx b o hb e) htb.2 hge ⟨oc, vs, t, hoc, hd, hv⟩
    have keep : LamX.ExtN H (upd (upd H P (.tbl (ps ++ #[rawInt pos.line, rawInt pos.col, .ref c']))) c' (LamX.CodeO c' q)) := fun b o e n => by
      rw [upd_ne (ne_of_none e nC), upd_ne (fun z => n ps (Option.some.inj (e.symm.trans (by rw [z]; exact hP))))]; exact e
    have nF := I1.hok.fresh (Nat.le_refl h'.objs.size)
    refine h h'.objs.size c' (upd _ h'.objs.size (LamO h'.objs.size _)) _ (I1.laid (t' := tk) (fun b u e => Heap.get?_push_of_some _ e) (Nat.le_refl _) ⟨⟨_, _, _, _, Heap.get?_push_size _ rfl⟩, ⟨_, Heap.get?_push_size _ rfl⟩, fun h1 h2 ⟨od, sl, p, t, z⟩ st => ⟨od, sl, p, t, st _ z⟩⟩) (fun b o e n => ?_) (fun p hp => ?_) (fun b qs hb e => ?_) upd_same ?_
    · rw [upd_ne (ne_of_none (keep b o e n) nF)]; exact keep b o e n
    · have other : ∀ b x, upd (upd H P (.tbl (ps ++ #[rawInt pos.line, rawInt pos.col, .ref c']))) c' (LamX.CodeO c' q) b = some x → upd (upd (upd H P (.tbl (ps ++ #[rawInt pos.line, rawInt pos.col, .ref c']))) c' (LamX.CodeO c' q)) h'.objs.size (LamO h'.objs.size ⟨params, body, scope, q, cloFrom X.env.cells scope.names [], c', dV, par⟩) b = some x := fun b x e => by
        rw [upd_ne (ne_of_none e nF)]; exact e
      have eL : (ps ++ #[rawInt pos.line, rawInt pos.col, .ref c']).toList = ps.toList ++ [rawInt pos.line, rawInt pos.col, .ref c'] := by simp
      by_cases hb : p.1 = P
      · rw [hu p hp hb, hb]
        refine ⟨_, other _ _ (by rw [upd_ne (ne_of_none hP nC), upd_same]), by rw [eL]; exact PySem.TriplesOk_snoc _ _ _ _ ht, fun p' cv hcv => ?_⟩
        rw [eL] at hcv
        rcases LamX.among_app _ ht hcv with z | z
        · obtain ⟨c0, e1, e2⟩ := ha p' cv z
          exact ⟨c0, e1, other _ _ (keep _ _ e2 LamX.codeO_ne)⟩
        · exact ⟨c', z, other _ _ upd_same⟩
      · obtain ⟨ps', a1, a2, a3⟩ := hT p hp
        refine ⟨ps', other _ _ (by rw [upd_ne (ne_of_none a1 nC), upd_ne hb]; exact a1), a2, fun p' cv hcv => ?_⟩
        obtain ⟨c0, e1, e2⟩ := a3 p' cv hcv
        exact ⟨c0, e1, other _ _ (keep _ _ e2 LamX.codeO_ne)⟩
    · rw [upd_ne (ne_of_none (o := .tbl qs) (by rw [upd_ne (ne_of_none e nC), upd_ne hb]; exact e) nF), upd_ne (ne_of_none e nC), upd_ne hb]; exact e
    · rw [upd_ne (Nat.ne_of_lt hlt)]; exact upd_same
  | some cv =>
    obtain ⟨c', e, hco⟩ := ha pos cv hc
    subst e
    refine wpAny_bind (wpAny_functionCode_hit hcode (hC.code tP ht) hc ?_)
    refine wpAny_bind (wpAny_builtinsFor hg b1 b2 b5 b6 b7 b8 (wpAny_bind (wpAny_nsGet hg (wpAny_bind (wpAny_pure (wpAny_newObj_type ?_ (by size_fits)))))))
    have nF := Ist.hok.fresh (Nat.le_refl st.heap.objs.size)
    have other : ∀ b x, H b = some x → upd H st.heap.objs.size (LamO st.heap.objs.size ⟨params, body, scope, q, cloFrom X.env.cells scope.names [], c', dV, par⟩) b = some x := fun b x e => by
      rw [upd_ne (ne_of_none e nF)]; exact e
    exact h st.heap.objs.size c' (upd H st.heap.objs.size (LamO st.heap.objs.size _)) _ (Ist.laid (t' := st.toks) (fun b u e => Heap.get?_push_of_some _ e) (Nat.le_refl _) ⟨⟨_, _, _, _, Heap.get?_push_size _ rfl⟩, ⟨_, Heap.get?_push_size _ rfl⟩, fun h1 h2 ⟨od, sl, p, t, z⟩ st => ⟨od, sl, p, t, st _ z⟩⟩)
      (fun b o e n => other b o e) (hT.ext other) (fun b qs hb e => other b _ e) upd_same (other _ _ hco)
end
end DL
set_option Elab.async false
set_option linter.all false
set_option maxRecDepth 100000
set_option maxHeartbeats 2000000
/-! a lambda that is kept: its making as a value, its call -/
namespace DL
open PySem PySem.Spec PyProof.Rows L2
abbrev lamF (r : LamR) : NdefX.NF := ⟨"<lambda>", r.q, r.params, [], r.scope, r.cl, r.c⟩
def BindsL (par : Option (Str × Int)) (params : Arguments) (body : Expr) (scope : Scope) : Prop := match par with
  | none => ∀ (q : Str) (cl : List (Str × Addr)) (c : Addr) (pm ctv : Value), bindArgs (LamR.fd ⟨params, body, scope, q, cl, c, .none, none⟩ pm ctv) ⟨[], []⟩ = pure []
  | some (a, i) => ∀ (q : Str) (cl : List (Str × Addr)) (c : Addr) (pm ctv : Value) (T : Addr), ∃ k, bindArgs (LamR.fd ⟨params, body, scope, q, cl, c, .ref T, some (a, i)⟩ pm ctv) ⟨[], []⟩ = seqItems? (.ref T) >>= k ∧ ∀ u : Value, k (some #[u]) = pure [(a, u)]
def parN : Option (Str × Int) → List Str
  | none => []
  | some (a, _) => [a]
def parV : Option (Str × Int) → List V
  | none => []
  | some (_, i) => [.int i]
def parS : Option (Str × Int) → List Sl
  | none => []
  | some (_, i) => [.val (.int i)]
theorem par_len (p : Option (Str × Int)) : (parV p).length = (parN p).length := by cases p <;> rfl
theorem par_args (H : Hp) (ρ : Option Addr) (p : Option (Str × Int)) {vs : List V} {as : List Sl} (h : ArgsOk H ρ vs as) : ArgsOk H ρ (parV p ++ vs) (parS p ++ as) := by
  cases p with
  | none => exact h
  | some q => exact .val (.int q.2) h
section
variable {P : Program} {w : World} {H : Hp} {s : Shared} {M : Model} {A : Around} {E : Value → Shared → Prop}
theorem lam_binds {r : LamR} {pm ctv : Value} {Q : List (Str × Value) → Shared → Prop} (hok : HOk P w H s.heap) (hb : BindsL r.par r.params r.body r.scope) (hd : DfOk H r) (h : ∀ us, Vals (parV r.par) us → Q ((parN r.par).zip us) s) : wpAny M A (bindArgs (r.fd pm ctv) ⟨[], []⟩) Q E s := by
  obtain ⟨params, body, scope, q, cl, c, dV, par⟩ := r
  cases par with
  | none =>
    obtain rfl : dV = .none := hd
    have e := hb q cl c pm ctv
    rw [e]; exact wpAny_pure (h [] .nil)
  | some p =>
    obtain ⟨a, i⟩ := p
    obtain ⟨t, e1, ht⟩ := (show ∃ t, dV = .ref t ∧ H t = some (.tup [.int i]) from hd)
    subst e1
    obtain ⟨k, e2, e3⟩ := hb q cl c pm ctv t
    obtain ⟨_, its, rv, o, h1, h2, n, h3⟩ := (show ObjOk P w H s.heap t (.tup [.int i]) from hok t _ ht)
    cases rv with
    | @cons _ u _ us r1 r2 =>
      cases r2
      have e2 : bindArgs (LamR.fd ⟨params, body, scope, q, cl, c, .ref t, some (a, i)⟩ pm ctv) ⟨[], []⟩ = seqItems? (.ref t) >>= k := e2
      rw [e2]
      refine wpAny_bind (wpAny_seqItems h1 h3 ?_)
      rw [show (k (some [u].toArray)) = pure [(a, u)] from e3 u]
      exact wpAny_pure (h [u] (.cons r1 .nil))
end
/-- what the body of a lambda computes, over its parameter and what it took -/
def runL (n : Nat) (N : Nat) (B : (ExD → Prop) → Fe) : FfX := fun as Q => as.length = n ∧ B (fun e => Q (.exc e)) (as ++ List.replicate (N - n) .no) fun d => Q (.ret d)
theorem startF_eq (N : List Str) (vs ws : List V) : NdefX.startF N vs (ws.map some) = L2.start N (vs ++ ws) := by
  unfold NdefX.startF L2.start
  rw [List.map_append, List.append_assoc, List.length_map, List.length_append, Nat.sub_sub]
theorem cells_later {X : Cx} {pins : List (Addr × Obj)} {σ : L2.St} {H : Hp} {s : Shared} {cl : List (Str × Addr)} {fr : List Str} {ws : List (Option V)} (C : NdefX.CellsAt cl fr ws X.s_0.heap X.H_0) (hx : ∀ y c, cl.lookup y = some c → c ∉ X.ex) (I : Inv X pins σ H s) : NdefX.CellsAt cl fr ws s.heap H := by
  have kp : ∀ y c, cl.lookup y = some c → ∀ v, X.s_0.heap.IsCell c v → s.heap.IsCell c v := fun y c e v ⟨o, ho, hd⟩ => by
    obtain ⟨sl, q⟩ := I.base.any ho (C.all y c e).1 (hx y c e)
    exact ⟨_, q, hd⟩
  refine ⟨C.len, fun y c e => ?_, C.inj, fun i y e => ?_⟩
  · obtain ⟨n, v, z⟩ := C.all y c e
    have z' := kp y c e v z
    obtain ⟨o, ho, _⟩ := z
    exact ⟨I.base.free c o ho n (hx y c e), v, z'⟩
  · obtain ⟨c, hc, hv⟩ := C.has i y e
    exact ⟨c, hc, fun v ev => (by obtain ⟨u, r, z⟩ := hv v ev; exact ⟨u, r, kp y c hc _ z⟩)⟩
section
variable {Z : Cx} {pins : List (Addr × Obj)} {σ : L2.St} {H : Hp} {s : Shared} {k : Nat}
/-- f(), f such a lambda, from any frame -/
theorem run_lam {G : Gb} {f : Addr} {r : LamR} {N fr : List Str} {B : (ExD → Prop) → Fe} {Q : VK} {E : XK} {ws : List V} (I : Inv Z pins σ H s) (hr : Room (k + 1) Z.A) (hf : H f = some (LamO f r)) (hc : H r.c = some (LamX.CodeO r.c r.q)) (hdf : DfOk H r) (hb : BindsL r.par r.params r.body r.scope)
    (S : NdefX.NScope N (parN r.par) fr r.scope) (C : NdefX.CellsAt r.cl fr (ws.map some) s.heap H)
    (hbody : ∀ (A : Around) (outer : List Env) (s : Shared) (H : Hp) (E : XK), Room k (A.deeper (NdefX.envF (lamF r) f s.heap.objs.size)) → ∀ (W : WX) (Px : ExD → Prop), Takes (NdefX.ncx (L2.CX Z.prog Z.w) Z.prog Z.w Z.K Z.mg Z.base N (lamF r) f A outer s H E) W →
      DE (G.wx W Px) (NdefX.ncx (L2.CX Z.prog Z.w) Z.prog Z.w Z.K Z.mg Z.base N (lamF r) f A outer s H E) r.body (B Px))
    (h : spX G (runL ((parN r.par).length + fr.length) N.length B) (parV r.par ++ ws) H Q E) :
    codeAny (model Z.prog Z.w) Z.A (.call (.ref f) ⟨[], []⟩) (CR (L2.CX Z.prog Z.w) Z.stack Z.prog Z.w H s Q E) s := by
  obtain ⟨⟨od, sl, pm, ctv, ho⟩, _, _⟩ := I.hok f _ hf
  refine PySem.W.kla_callFunE hr.depth ho rfl S.co S.gen rfl (NdefX.codeO_at I.hok hc) ?_
  refine lam_binds I.hok hb hdf fun us rv => ?_
  refine wpAny_newFunctionEnv S.nocell (fun ⟨n, _⟩ hy => S.par n (List.of_mem_zip hy).1) (fun h₁ hns hsb => ⟨I.nolimit.fresh _ hsb, ?_⟩) S.kind
  show codeAny _ _ (.expr r.body (NdefX.envF (lamF r) f s.heap.objs.size)) _ _
  have kp : ∀ b o, s.heap.get? b = some o → h₁.get? b = some o := fun b o e => hsb.extBut b o (Nat.ne_of_lt (Heap.lt_size e)) (Heap.get?_push_of_some _ e)
  obtain ⟨ρ, as, Pd, ha, g, rr, ⟨hl, hF⟩, q, qx⟩ := h
  have J : Inv (NdefX.ncx (L2.CX Z.prog Z.w) Z.prog Z.w Z.K Z.mg Z.base N (lamF r) f Z.A Z.stack s H E) [] (NdefX.startF N (parV r.par) (ws.map some)) H { s with heap := h₁, toks := s.toks + ((parN r.par).zip us).length } := NdefX.inv_startN (F := lamF r) S hr.hd I.env0 (par_len _) rv C hns kp
  rw [startF_eq] at J
  have d := hbody Z.A Z.stack s H E (hr.deeper _) (fun cls d _ H' => E cls d H') (fun e => Pd (.exc e)) (takes_of rfl rfl rfl rfl)
  have hN : as.length ≤ N.length := by
    have z := congrArg List.length S.pre
    rw [List.length_take, List.length_append] at z
    omega
  have hl2 : (parN r.par).length + fr.length = as.length := hl.symm
  refine PySem.W.kla_codeExpr (wpAny_mono (d.run [] _ _ H Q J ?_) (fun v s' hq => ?_) fun e s' hq => hq)
  · refine ⟨H, ρ, ρ, _, fun d => Pd (.ret d), DInv.start (G := G.wx (fun cls d _ H' => E cls d H') (fun e => Pd (.exc e))) (N := N) ha g rr hN (fun e he σ' H' d e1 g1 r1 f1 => qx e he H' d e1 g1 r1 f1), ?_, fun d hd v H' e1 g1 r1 rp => q d hd v H' e1 g1 r1 rp⟩
    rw [← hl2]; exact hF
  · obtain ⟨x, H', J', rv', q'⟩ := hq
    exact ⟨x, H', J'.os, J'.bare, J'.base, J'.hok, rv', q'⟩
end
end DL
set_option Elab.async false
set_option linter.all false
set_option maxRecDepth 100000
set_option maxHeartbeats 4000000
/-! [g(w) for w in ws] where the element's rule is found at the block's own start -/
namespace DL
open PySem PySem.Spec PyProof.Rows L2
def tLcW (wi : TI) (g : TG) (te : TE) (vs : List Nat) : TE := fun σ H Q => wi σ H fun J H1 => ∀ D, H1 D = none → ∃ W : Nat → Nat → Hp → Prop, (∃ m, W 0 m (upd H1 D (.lst []))) ∧ ∀ i m H, W i m H →
  (J.stop i H ∧ Q (.ref D) H) ∨ (J.go i H ∧ ∃ Nx : Hp → Prop, (∀ H', Nx H' → ∃ m', m' < m ∧ W (i + 1) m' H') ∧ ∀ x H', J.yld i H x H' → g x (wipe σ vs) H' fun σ2 H2 => wipe σ2 vs = wipe σ vs ∧
    te σ2 H2 fun y H3 => ∃ acc, H3 D = some (.lst acc) ∧ acc.length < sizeLine ∧ Nx (upd H3 D (.lst (acc ++ [y]))))
section
variable {X : Cx}
theorem pe_lcW {elt tg iter : Expr} {scope : Scope} {own : List (Str × Nat)} {pos : Pos} {wi : TI} {g : TG} {te : L2.St → TE} (hc : X.calm = true) (hN : X.N.Nodup) (hi : PI X tg iter wi) (ok : BlkOk X.N X.env.scope scope own)
    (hg : ∀ (s : Shared) (H : Hp) (C : Addr) (cl : List (Str × Addr)) (fp : List Addr), PG (X.blk s H scope (compEnvC scope cl C X.env) fp) tg g)
    (he : ∀ (pins : List (Addr × Obj)) (σ : L2.St) (H : Hp) (s : Shared) (C : Addr) (cl : List (Str × Addr)) (fp : List Addr), Inv X pins σ H s → (∀ b ∈ fp, ∀ x c, X.env.cells.lookup x = some c → c ≠ b) → PE (X.blk s H scope (compEnvC scope cl C X.env) fp) elt (te σ))
    (hs : ∀ x, foldedSetIterable iter X.env x = pure x := by intro _; rfl) : PE X (.ListComp elt [⟨tg, iter, [], 0⟩] scope pos) (fun σ H Q => tLcW wi g (te σ) (own.map (·.2)) σ H Q) := by
  refine ⟨fun pins s σ H Q I h => ?_⟩
  rw [eval_ListComp]
  have free : ∀ y ∈ scope.names, y.2 = .free → ∃ c, X.env.cells.lookup y.1 = some c := fun y hy e => (ok.free y hy e).elim (fun k => I.ok.has _ (.inl k)) fun k => I.ok.has _ (.inr k)
  refine wpAny_comprehension_free (use := none) rfl hs (closure_ok free) ok.kind (fun y hy e => by rw [ok.uniq y hy, e]) (thn (hi.run pins s σ H _ I h) fun xv t1 hx => thn hx fun itv t2 ⟨it, fp, tn, J, K2, ei, J2, T, at2, fp2, rest⟩ => ?_)
  subst ei
  refine wpAny_newObj_type (newEnv_comp ?_) (by show 0 ≤ sizeLine; decide)
  generalize eD : t2.heap.objs.size = D
  have freeD : K2 D = none := J2.hok.fresh (Nat.le_of_eq eD)
  obtain ⟨W, ⟨m0, w0⟩, turn⟩ := rest D freeD
  generalize et3 : ({ t2 with heap := t2.heap.push { cls := .type "list", data := .seq ([] : List Value).toArray } } : Shared) = t3
  have hp3 : t3.heap = t2.heap.push { cls := .type "list", data := .seq ([] : List Value).toArray } := by rw [← et3]
  have J3 : Inv X pins σ (upd K2 D (.lst [])) t3 := by
    rw [← et3]
    exact J2.laid (t' := t2.toks) (fun b o e => Heap.get?_push_of_some _ e) (Nat.le_of_eq eD) ⟨Nat.zero_le _, [], 0, .nil, by rw [← eD]; exact Heap.get?_push_size _ rfl⟩
  have fpk : ∀ b ∈ fp, FpOk X pins (upd K2 D (.lst [])) b ∧ b < t3.heap.objs.size := fun b hb => by
    obtain ⟨o, eo, _⟩ := T.obj _ _ at2 b hb
    have lt := Heap.lt_size eo
    refine ⟨⟨?_, (fp2 b hb).2⟩, by rw [hp3, Heap.size_push]; exact Nat.lt_succ_of_lt lt⟩
    rw [upd_ne (by rw [← eD]; exact Nat.ne_of_lt lt)]; exact (fp2 b hb).1
  have at3 : tn 0 t3.heap := T.keep _ _ _ at2 fun b _ o e => by rw [hp3]; exact Heap.get?_push_of_some _ e
  generalize eH3 : upd K2 D (.lst []) = K3 at J3 fpk w0
  have J4 := block_start J3 ok hN fpk
  generalize ecl : cellsFrom (t3.heap.objs.size + 1) scope.names (cloFrom X.env.cells scope.names []) = cl4 at J4 ⊢
  have pg := hg t3 K3 t3.heap.objs.size cl4 fp
  have pe := he pins σ K3 t3 t3.heap.objs.size cl4 fp J3 fun b hb => (fpk b hb).1.2.2.2.2.1
  show codeAny _ _ (.compStart (.ListComp elt [⟨tg, iter, [], 0⟩] scope pos) 0 (.ref it) (.ref D) (compEnvC scope cl4 t3.heap.objs.size X.env)) (compPost (model X.prog X.w) X.A X.xe none (EP X pins σ Q) (.ref D) t3.heap.objs.size) { t3 with heap := pushCells (t3.heap.push { cls := .type "dict", data := .dict #[] }) scope.names }
  generalize eenv : compEnvC scope cl4 t3.heap.objs.size X.env = ce at J4 pg pe ⊢
  have locE : ce.locals = t3.heap.objs.size := by subst eenv; rfl
  generalize et4 : ({ t3 with heap := pushCells (t3.heap.push { cls := .type "dict", data := .dict #[] }) scope.names } : Shared) = t4 at J4 ⊢
  have at4 : tn 0 t4.heap := T.keep _ _ _ at3 fun b _ o e => by rw [← et4]; exact pushCells_keeps _ _ _ _ (Heap.get?_push_of_some _ e)
  have still : ∀ {σ' : L2.St} {H' : Hp} {s' : Shared}, Inv (X.blk t3 K3 scope ce fp) [] σ' H' s' → (∀ b ∈ fp, H' b = none) → ∀ b ∈ fp, FpOk (X.blk t3 K3 scope ce fp) [] H' b := fun {σ' H' s'} J n b hb =>
    ⟨n b hb, (J.ok.exf b hb).1, J.ok.exfs b hb, .inl hb, fun x c e => (J.ok.exf b hb).2 x c e, fun p hp => absurd (show p ∈ ([] : List (Addr × Obj)) ++ [] from hp) (by simp)⟩
  have loop : codeAny (model X.prog X.w) X.A (.compLoop (.ListComp elt [⟨tg, iter, [], 0⟩] scope pos) 0 (.ref it) (.ref D) ce) (compPost (model X.prog X.w) X.A X.xe none (EP X pins σ Q) (.ref D) t3.heap.objs.size) t4 := by
    refine compLoop_any (fun n s' => ∃ i H', Inv (X.blk t3 K3 scope ce fp) [] (wipe σ (own.map (·.2))) H' s' ∧ tn i s'.heap ∧ (∀ b ∈ fp, H' b = none) ∧ W i n H') ?_ m0 ⟨0, K3, J4, at4, fun b hb => (fpk b hb).1.1, w0⟩
    rintro n t5 ⟨i, K5, J5, at5, no5, w5⟩
    rcases turn i n K5 w5 with ⟨stop, out⟩ | ⟨go, Nx, less, step⟩
    · refine thnF (T.done (X.blk t3 K3 scope ce fp) rfl rfl rfl hc i [] t5 _ K5 (fun _ _ => False) J5 (still J5 no5) at5 stop) fun r t6 ⟨hr, J6⟩ => ?_
      subst hr
      have back : Inv X pins σ K5 t6 := J3.call' (ch := fp) J6.os J6.base J6.hok J6.bare fun b hb => ⟨(fpk b hb).1.2.2.2.1, (fpk b hb).1.2.1, (fpk b hb).1.2.2.2.2.1, (fpk b hb).1.2.2.2.2.2⟩
      have nL : K5 t3.heap.objs.size = none := by rw [← locE]; exact J6.free
      obtain ⟨m, ns, _⟩ := J6.loc
      have ns : t6.heap.Ns t3.heap.objs.size m := by rw [← locE]; exact ns
      obtain ⟨f0, f1, f2, f3, f4, f5⟩ := J3.fpOk (Nat.le_refl _) nL
      exact ⟨m, ns, fun h'' sb => ⟨.ref D, K5, back.turned (t' := t6.toks) (fun b o hb e => (sb.2 b hb).trans e) f0 f1 f3 f4 f5, rfl, out⟩⟩
    · refine thnF (T.item (X.blk t3 K3 scope ce fp) rfl rfl rfl hc i [] t5 _ K5 (fun _ _ => False) J5 (still J5 no5) at5 go) fun r t6 ⟨u, hr, more⟩ => ?_
      subst hr
      refine thnF more fun _ t7 ⟨x, K7, J7, rx, yx, at7, no7⟩ => thnF (pg.run _ t7 _ K7 x u _ (J7.pinned (still J7 no7) (T.obj _ _ at7)) rx (step x K7 yx)) fun _ t8 ⟨σ8, K8, J8, same, q8⟩ => ?_
      have yes : tYes σ8 K8 (fun b H' => b = true ∧ te σ σ8 H' fun y H3 => ∃ acc, H3 D = some (.lst acc) ∧ acc.length < sizeLine ∧ Nx (upd H3 D (.lst (acc ++ [y])))) := ⟨rfl, q8⟩
      refine thnF ((pts_nil (X := X.blk t3 K3 scope ce fp)).run _ t8 σ8 K8 _ J8 yes) fun b t8' ⟨K8', J8', eb, q8'⟩ => ?_
      subst eb
      simp only [if_true]
      refine thnF (pe.run _ t8' σ8 K8' _ J8' q8') fun z t9 ⟨y, K9, J9, ry, acc, hacc, few, nx⟩ => app_ok (X := X.blk t3 K3 scope ce fp) J9 hacc few ry fun t10 J10 => ?_
      obtain ⟨m', lt, w'⟩ := less _ nx
      have pin : ∀ b ∈ fp, ∀ o, t7.heap.get? b = some o → t10.heap.get? b = some o ∧ upd K9 D (.lst (acc ++ [y])) b = none := fun b hb o e =>
        (fun z => ⟨z.1, z.2.1⟩) (J10.pin (b, o) (List.mem_append_right _ (List.mem_append_right _ (mem_pinsAt hb e))))
      refine ⟨m', lt, i + 1, _, (J10.unpinned (pins := [])).weak (by rw [← same, wipe_length]) (fun j v e => by rw [← same] at e; exact (wipe_some e).1), T.keep _ _ _ at7 fun b hb o e => (pin b hb o e).1, fun b hb => ?_, w'⟩
      obtain ⟨o, eo, _⟩ := T.obj _ _ at7 b hb
      exact (pin b hb o eo).2
  exact codeAny_compStart_list loop (T.self X.A 0 _ _ _ at4 loop)
end
end DL
set_option Elab.async false
set_option linter.all false
set_option maxRecDepth 100000
set_option maxHeartbeats 4000000
/-! count, index of one's own list; try: work() / except X as e: .. -/
namespace DL
open PySem PySem.Spec PyProof.Rows L2
section
variable {X : Cx} {G : Gb} {a b c e tg : Expr} {f g h : Fe} {fl gl : Fi} {pos p : Pos} {H0 H H' : Hp} {ρ0 ρ : Option Addr} {σ : L2.St} {E : Ed} {k : Nat}
def rCountP (K : PySem.W.Frag) : V → List V → Hp → VK → Prop := fun x xs H Q => ∃ (a : Addr) (y : V) (d : PyData) (ds : List PyData), x = V.ref a ∧ xs = [y] ∧ Dp K H (V.ref a) (.list ds) ∧ Dp K H y d ∧ PyData.plainAll ds = true ∧ d.plain = true ∧ d.depth ≤ 60 ∧
  Q (.int ((ds.countP fun z => PyData.eqv z d : Nat) : Int)) H
theorem mt_countP (hu : X.A.units + 65 < cLine) : MtR X "list.count" (rCountP X.K) := by
  intro pins s σ H x xs v us Q I rx rxs ⟨a, y, d, ds, ex, exs, hl, hy, pl, pd, dp, q⟩
  subst ex exs
  cases rx
  cases rxs with
  | @cons _ uy _ ut ry rt =>
    cases rt
    obtain ⟨bs, r1⟩ := Dp.reads I d y uy hy ry
    cases hl with
    | lst hs ha =>
      obtain ⟨its, rv, hL, hlen⟩ := I.list hs
      obtain ⟨as, h4⟩ := Dp.readsAll I ds _ its ha rv
      exact SeqAt.count_list_data hL.isList (vs := its.toArray) (by simpa using h4) r1 pl pd (by have := Nat.min_le_right (PyData.depthAll ds) d.depth; omega) ⟨.int _, H, I.tok _, ⟨_, rfl⟩, q⟩
def eCntL (i : Nat) (f : Fe) : Fe := fun E Q => ∃ ds, E[i]? = some (.ls ds) ∧ f E fun y => noDicts ds = true ∧ noDict y = true ∧ PyData.plainAll ds = true ∧ y.plain = true ∧ y.depth ≤ 60 ∧ Q (.int ((ds.countP fun z => PyData.eqv z y : Nat) : Int))
def eIdxL (i : Nat) (f : Fe) : Fe := fun E Q => ∃ ds, E[i]? = some (.ls ds) ∧ f E fun y => eqOk (.list ds) ∧ eqOk y ∧ ∃ (j : Nat) (z : PyData), ds[j]? = some z ∧ PyData.eqv z y = true ∧ (∀ (m : Nat) (z' : PyData), m < j → ds[m]? = some z' → PyData.eqv z' y = false) ∧ Q (.int (j : Nat))
section
variable (i : Nat) {x : Str} {p1 apos cpos : Pos} (hu : X.A.units + 65 < cLine) (he : DE G X e f) (hi : X.N[i]? = some x) (hv : Vis X.env.scope x) (hd : (x == ("__debug__" : Str)) = false) (hcd : (x == ("__classdict__" : Str)) = false)
include hu he hi hv hd hcd
theorem d_cntL (hbase : attributeBase (.Name x p1) "count" X.env (eval (.Name x p1) X.env) = eval (.Name x p1) X.env := by rfl)
    (hfew : ((backTo cpos (starEach [e] X.env)).all (fun x => !x.1) && (backToKw cpos (keywordEach [] X.env)).all (fun x => x.1.isSome) && decide (([e] : List Expr).length + ([] : List Keyword).length + (if ([] : List Keyword).isEmpty then 0 else 1) < 30)) = true := by rfl)
    (hline : (apos.endLine == cpos.line) = true := by rfl) (hs : starEach [e] X.env = (false, eval e X.env) :: starEach [] X.env := by rfl) (hplain : (backTo cpos (starEach [] X.env)).any (·.1) = false := by rfl) :
    DE G X (.Call (.Attribute (.Name x p1) "count" apos) [e] [] cpos) (eCntL i f) :=
  PE.weak (pe_bm PySem.F.plainAttrs_list PySem.F.slot_list_count PySem.F.type_list_count (mt_countP hu) (pe_var hi hv hd hcd) (pa_cons he pa_nil hs) hbase hfew hline hs hplain) fun σ H Q ⟨H0, ρ0, ρ, E, P, I, ⟨ds, hm, h⟩, kk⟩ => by
    obtain ⟨q, vs, h1, h2, h3, h4⟩ := I.slot i _ hm
    refine ⟨_, h1, .inl ⟨rfl, _, .inl (.inl h2)⟩, tE.use I h fun y ⟨n1, n2, pl, pd, dp, hy⟩ w H1 e1 I1 r1 => ?_⟩
    have h2' : H1 q = some (.lst vs) := e1 _ _ h2 (fun ps z => by cases z) fun z => absurd z h4
    exact ⟨q, w, y, ds, rfl, rfl, .lst (.inl (.inl h2')) ((h3.ext e1.toS).dp n1), r1.dp n2, pl, pd, dp, kk _ hy _ _ e1 I1.g I1.row (.int _)⟩
theorem d_idxL (hbase : attributeBase (.Name x p1) "index" X.env (eval (.Name x p1) X.env) = eval (.Name x p1) X.env := by rfl)
    (hfew : ((backTo cpos (starEach [e] X.env)).all (fun x => !x.1) && (backToKw cpos (keywordEach [] X.env)).all (fun x => x.1.isSome) && decide (([e] : List Expr).length + ([] : List Keyword).length + (if ([] : List Keyword).isEmpty then 0 else 1) < 30)) = true := by rfl)
    (hline : (apos.endLine == cpos.line) = true := by rfl) (hs : starEach [e] X.env = (false, eval e X.env) :: starEach [] X.env := by rfl) (hplain : (backTo cpos (starEach [] X.env)).any (·.1) = false := by rfl) :
    DE G X (.Call (.Attribute (.Name x p1) "index" apos) [e] [] cpos) (eIdxL i f) :=
  PE.weak (pe_bm PySem.F.plainAttrs_list PySem.F.slot_list_index PySem.F.type_list_index (mt_indexD hu) (pe_var hi hv hd hcd) (pa_cons he pa_nil hs) hbase hfew hline hs hplain) fun σ H Q ⟨H0, ρ0, ρ, E, P, I, ⟨ds, hm, h⟩, kk⟩ => by
    obtain ⟨q, vs, h1, h2, h3, h4⟩ := I.slot i _ hm
    refine ⟨_, h1, .inl ⟨rfl, _, .inl (.inl h2)⟩, tE.use I h fun y ⟨n1, n2, j, z, q1, q2, q3, hy⟩ w H1 e1 I1 r1 => ?_⟩
    have h2' : H1 q = some (.lst vs) := e1 _ _ h2 (fun ps z => by cases z) fun z => absurd z h4
    exact ⟨q, w, y, ds, j, z, rfl, rfl, .lst (.inl (.inl h2')) ((h3.ext e1.toS).dp n1.1), r1.dp n2.1, n1.2, n2.2, q1, q2, q3, kk _ hy _ _ e1 I1.g I1.row (.int _)⟩
end
/-- isinstance(e, D), e the exception that the suite holds -/
def eIsE (i : Nat) (ad : Addr) (b : Bool) : Fe := fun E Q => E[i]? = some (.adr ad) ∧ Q (.bool b)
theorem d_isE {C D ad : Addr} {oe : Obj} {pn : List (Addr × Obj)} {n cn : Str} {bb : Bool} {p1 p2 : Pos} (i : Nat) (ec : ExcC X.K C) (hz : Zc (.ref C) none oe) (hf : ∃ vs, oe.data = .fields vs) (kit : PySem.W.kitOne X.K (.ref C) (.ref D) = some bb) (hg : Gl X "isinstance") (hm : X.mg "isinstance" = none) (hgc : Gl X cn) (hmc : X.mg cn = some (.ref D))
    (hi : X.N[i]? = some n := by rfl) (hv : Vis X.env.scope n := by first | exact Or.inl rfl | exact Or.inr (Or.inl rfl) | exact Or.inr (Or.inr rfl)) (hd : (n == ("__debug__" : Str)) = false := by decide) (hcd : (n == ("__classdict__" : Str)) = false := by decide) (hdc : (cn == ("__debug__" : Str)) = false := by decide)
    (he : starEach [.Name n p1, .Name cn p2] X.env = (false, eval (.Name n p1) X.env) :: starEach [.Name cn p2] X.env := by rfl) (he2 : starEach [.Name cn p2] X.env = (false, eval (.Name cn p2) X.env) :: starEach [] X.env := by rfl) (hpl : (backTo pos (starEach [.Name cn p2] X.env)).any (·.1) = false := by rfl) :
    DE G (X.suite ad ((ad, oe) :: pn)) (.Call (.Name "isinstance" p) [.Name n p1, .Name cn p2] [] pos) (eIsE i ad bb) :=
  PE.weak (X := X.suite ad ((ad, oe) :: pn)) (pe_callB (X := X.suite ad ((ad, oe) :: pn)) (call_isE ec hz hf) hg hm (by decide +kernel) (pa_cons (pe_var hi hv hd hcd) (pa_cons (pe_glob (v := .ref D) hgc hmc rfl hdc) pa_nil he2) he) (he := he) (hpl := hpl)) fun σ H Q ⟨H0, ρ0, ρ, E, P, I, ⟨ha, h⟩, kk⟩ =>
    ⟨_, I.slot i _ ha, .ref D, .ref D, bb, rfl, fun u r => r, kit, kk _ h (.bl bb) H (Ext.refl _ _) I.g I.row (.bl bb)⟩
end
end DL
set_option Elab.async false
set_option linter.all false
set_option maxRecDepth 100000
set_option maxHeartbeats 4000000
/-! word(work): try: work() / except X as e: .. / return '' -/
namespace DL
open PySem PySem.Spec PyProof.Rows L2
def wordN (x : Str) : Option Str :=
  if x = "BadLot" then some "lot" else if x = "BadNumber" then some "number" else if x = "BadNight" then some "night" else if x = "BadCourses" then some "courses" else none
/-- what the word is of how the work ends -/
def WordIs : OutC → Str → Prop
  | .ret _, z => z = ""
  | .exc e, z => e.fld = none ∧ wordN e.name = some z
def Acts (Z : Cx) (a : Str) (f : Addr) (tl : XK → Hp → VK → Prop) : Prop := ∀ (W : WX) (pn : List (Addr × Obj)) (xe : Value → Shared → Prop) (E : XK) (p1 p2 : Pos), Takes (Z.tr pn xe) W → (∀ cls d σ' H', E cls d H' → W cls d σ' H') →
  PE (Z.tr pn xe) (.Call (.Name a p1) [] [] p2) (fun σZ HZ Q => σZ[0]? = some (some (.ref f)) ∧ tl E HZ Q)
def wordE (G : Gb) (ρ : Option Addr) (Q : VK) : XK := fun cls d H' => d = none ∧ ∃ x z, cls = G.cls x ∧ wordN x = some z ∧ GOk G H' ∧ RowIs G.K ρ H' ∧ ∀ H'', Ext ρ H' H'' → GOk G H'' → RowIs G.K ρ H'' → Q (.str z) H''
def Gives (Z : Cx) (bg : List Stmt) (a : Str) (G : Gb) (ρ : Option Addr) : Prop := ∀ (f : Addr) (tl : XK → Hp → VK → Prop) (H : Hp) (Q : VK), Acts Z a f tl → tl (wordE G ρ Q) H (fun _ H' => Q (.str (Str.ofString "")) H') →
  ∃ t, PSs Z bg t ∧ t { nx := fun _ H' => Q .non H', rt := Q } (L2.start Z.N [.ref f]) H
theorem gives_of {Z : Cx} {G : Gb} {ρ : Option Addr} {a xc n : Str} {CS : Addr} {b0 : Stmt} {suite : List Stmt} {p1 p2 p3 np pos pos' q1 q2 : Pos} {j : Nat} (hs : Z.stack = Z.env :: Z.outer) (hf : Z.env.frame = some Z.env.locals) (hN : Z.N.Nodup) (hl : Z.N.length = 3) (hi : Z.N[1]? = some n) (hln : Z.env.kindOf n = some .local) (hc : Names Z xc (.ref CS)) (hP : ∀ e, ¬ G.Px e)
    (kn : ∀ x z, wordN x = some z → ∃ C, G.cls x = .ref C ∧ PySem.W.exmOne Z.K (.ref C) (.ref CS) = some true ∧
      ∀ (ad : Addr) (oe : Obj) (pn : List (Addr × Obj)), Zc (.ref C) none oe → (∃ vs, oe.data = .fields vs) → ∃ fs : Fs, DSs G (Z.suite ad ((ad, oe) :: pn)) (b0 :: suite) fs ∧ ∀ P : Out → Prop, P (.rt (.str z)) → fs [.no, .adr ad, .no] P) :
    Gives Z [.Try [.Expr (.Call (.Name a p1) [] [] p2) p3] [.ExceptHandler (some (.Name xc np)) (some n) (b0 :: suite) pos'] [] [] pos, .Return (some (.Constant (.str "") j q1)) q2] a G ρ := by
  intro f tl H Q act h
  refine ⟨_, pss_cons (ps_try_as (i := 1) (c := .ref CS) (Wout := fun _ _ _ _ => False) (tb := fun W D σ H => ∃ Ech : XK, (∀ cls d σ' H', Ech cls d H' → W cls d σ' H') ∧ σ[0]? = some (some (.ref f)) ∧ tl Ech H fun _ H' => D.nx σ H')
    (ts := fun ad cls d D σ H' => (∃ σ' : L2.St, σ = List.set σ' 1 (some (V.ref ad))) ∧ wordE G ρ D.rt cls d H') hs hf hN hi hln hc takes0 (fun W pn xe tk _ => ⟨fun pins s' σ H' D I h' => ?_⟩) (fun ad oe cls d pn hz hfl => ⟨fun pins s' σ H' D I h' => ?_⟩)) (pss_one (ps_ret pe_str)), ?_⟩
  · obtain ⟨Ech, hW, e0, ht⟩ := h'
    exact (pss_one (ps_expr (pos := p3) (act W pn xe Ech p1 p2 tk hW))).run pins s' σ H' D I ⟨e0, ht⟩
  · obtain ⟨⟨σ', eσ⟩, ed, x, z, ec, ew, g, r, q⟩ := h'
    subst ed
    obtain ⟨C, e1, e2, e3⟩ := kn x z ew
    rw [e1] at ec
    subst ec
    obtain ⟨fs, der, hfs⟩ := e3 ad oe pn hz hfl
    have len : σ.length = 3 := I.len.trans hl
    have at1 : σ[1]? = some (some (.ref ad)) := by
      rw [eσ, List.length_set] at len
      rw [eσ, List.getElem?_set_self (by omega)]
    have sl : ∀ (i : Nat) (s : Sl), ([.no, .adr ad, .no] : List Sl)[i]? = some s → (i = 1 ∧ s = .adr ad) ∨ s = .no := fun i s hi => by
      match i with
      | 0 => cases hi; exact .inr rfl
      | 1 => cases hi; exact .inl ⟨rfl, rfl⟩
      | 2 => cases hi; exact .inr rfl
      | i + 3 => simp at hi
    refine der.run pins s' σ H' D I ⟨H', ρ, ρ, [.no, .adr ad, .no], fun o => o = .rt (.str z), ⟨g, Ext.refl _ _, r, .inl rfl, len.symm, fun i s hi => ?_, fun i s b hi ho => ?_, fun i j s s' b hi ho => ?_, fun e he => absurd he (hP e)⟩, hfs _ rfl, ?_, ?_, ?_, ?_⟩
    · rcases sl i s hi with ⟨rfl, rfl⟩ | rfl
      · exact at1
      · exact True.intro
    · rcases sl i s hi with ⟨_, rfl⟩ | rfl <;> cases ho
    · rcases sl i s hi with ⟨_, rfl⟩ | rfl <;> cases ho
    · exact fun E' hE => by cases hE
    · exact fun d hd v H'' e1 g1 r1 rp => by
        cases hd
        cases rp
        exact q H'' e1 g1 r1
    · exact fun E' hE => by cases hE
    · exact fun E' hE => by cases hE
  · refine ⟨wordE G ρ Q, fun cls d σ' H' hw => ?_, rfl, h⟩
    obtain ⟨ed, x, z, ec, ew, g, r, q⟩ := hw
    obtain ⟨C, e1, e2, e3⟩ := kn x z ew
    refine ⟨true, by rw [ec, e1]; exact e2, fun _ ad _ => ⟨⟨σ', rfl⟩, ed, x, z, ec, ew, g, r, q⟩, fun z => by cases z⟩
end DL
set_option Elab.async false
set_option linter.all false
set_option maxRecDepth 100000
set_option maxHeartbeats 4000000
/-! [word(w) for w in works], works one's own list of kept lambdas -/
namespace DL
open PySem PySem.Spec PyProof.Rows L2
/-- a lambda's words; the names it takes, where they lie in the def's frame; its slots; what it computes of its parameter and of what it took -/
structure LamI where
  params : Arguments
  body : Expr
  scope : Scope
  par : Option (Str × Int)
  fr : List Str
  js : List Nat
  N : List Str
  F : FfX
structure LamIs (X : Cx) (L : LamI) (r : LamR) : Prop where
  pa : r.params = L.params
  bo : r.body = L.body
  sc : r.scope = L.scope
  qu : r.q = X.env.qual ++ "<lambda>"
  cl : r.cl = cloFrom X.env.cells L.scope.names []
  pr : r.par = L.par
/-- its body's rule -/
structure LamGo (P : Program) (w : World) (K : PySem.W.Frag) (mg : Str → Option Value) (base : Heap) (G : Gb) (k : Nat) (qual : Str) (L : LamI) : Prop where
  binds : BindsL L.par L.params L.body L.scope
  ns : NdefX.NScope L.N (parN L.par) L.fr L.scope
  run : ∃ B, L.F = runL ((parN L.par).length + L.fr.length) L.N.length B ∧ ∀ (cl : List (Str × Addr)) (c : Addr) (dV : Value) (f : Addr) (A : Around) (outer : List Env) (s : Shared) (H : Hp) (E : XK),
    Room k (A.deeper (NdefX.envF (lamF ⟨L.params, L.body, L.scope, qual, cl, c, dV, L.par⟩) f s.heap.objs.size)) → ∀ (W : WX) (Px : ExD → Prop), Takes (NdefX.ncx (L2.CX P w) P w K mg base L.N (lamF ⟨L.params, L.body, L.scope, qual, cl, c, dV, L.par⟩) f A outer s H E) W →
    DE (G.wx W Px) (NdefX.ncx (L2.CX P w) P w K mg base L.N (lamF ⟨L.params, L.body, L.scope, qual, cl, c, dV, L.par⟩) f A outer s H E) L.body (B Px)
/-- how its names lie to the def's -/
structure LamAtN (N : List Str) (sc : Scope) (L : LamI) : Prop where
  free : ∀ y ∈ L.scope.names, y.2 = .free → sc.names.lookup y.1 = some .cell ∨ sc.names.lookup y.1 = some .free
  fr : ∀ y ∈ L.fr, (y, NameKind.free) ∈ L.scope.names
  js : L.js.map (fun j => N[j]?) = L.fr.map some
/-- what was taken, as data -/
inductive Caught (E : Ed) : List Nat → List Sl → Prop
  | nil : Caught E [] []
  | val {j : Nat} {d : PyData} {js : List Nat} {as : List Sl} : E[j]? = some (.val d) → Caught E js as → Caught E (j :: js) (.val d :: as)
  | row {j : Nat} {js : List Nat} {as : List Sl} : E[j]? = some .row → Caught E js as → Caught E (j :: js) (.row :: as)
  | adr {j : Nat} {a : Addr} {js : List Nat} {as : List Sl} : E[j]? = some (.adr a) → Caught E js as → Caught E (j :: js) (.adr a :: as)
section
variable {G : Gb} {H0 H : Hp} {ρ0 ρ : Option Addr} {σ : L2.St} {E : Ed}
theorem caught_args (I : DInv G H0 ρ0 ρ σ H E) : ∀ {js : List Nat} {as : List Sl}, Caught E js as → ∃ ws : List V, js.map (NdefX.slotAt σ) = ws.map some ∧ ArgsOk H ρ ws as
  | _, _, .nil => ⟨[], rfl, .nil⟩
  | _, _, .val (j := j) h t => by
    obtain ⟨ws, e, a⟩ := caught_args I t
    obtain ⟨x, e2, r⟩ := I.slot _ _ h
    refine ⟨x :: ws, ?_, .val r a⟩
    rw [List.map_cons, List.map_cons, e, NdefX.slotAt_of e2]
  | _, _, .row (j := j) h t => by
    obtain ⟨ws, e, a⟩ := caught_args I t
    obtain ⟨x, e2, r⟩ := I.slot _ _ h
    refine ⟨.ref x :: ws, ?_, .row r a⟩
    rw [List.map_cons, List.map_cons, e, NdefX.slotAt_of e2]
  | _, _, .adr (j := j) (a := x) h t => by
    obtain ⟨ws, e, a⟩ := caught_args I t
    refine ⟨.ref x :: ws, ?_, .adr a⟩
    rw [List.map_cons, List.map_cons, e, NdefX.slotAt_of (I.slot _ _ h)]
theorem FnVs.get {vs : List V} {rs : List LamR} {i : Nat} {r : LamR} (h : FnVs H vs rs) (e : rs[i]? = some r) : ∃ v, vs[i]? = some v ∧ FnV H v r := by
  induction h generalizing i with
  | nil => simp at e
  | cons h t ih =>
    cases i with
    | zero => cases (show some _ = some r from e); exact ⟨_, rfl, h⟩
    | succ i => exact ih (by simpa using e)
end
/-- the element: word(w) -/
def tWord (G : Gb) (ls : Nat → LamR → Prop) (ts : List LamI) (iw : Nat) (σ : L2.St) : TE := fun σ2 H2 Q => ∃ (f : Addr) (r : LamR) (n : Nat) (L : LamI) (ws : List V) (as : List Sl) (z : Str) (ρ : Option Addr), σ2[iw]? = some (some (.ref f)) ∧ ls n r ∧ ts[n]? = some L ∧ FnV H2 (.ref f) r ∧
  L.js.map (NdefX.slotAt σ) = ws.map some ∧ ArgsOk H2 ρ ws as ∧ GOk G H2 ∧ RowIs G.K ρ H2 ∧ L.F (parS L.par ++ as) (fun o => WordIs o z) ∧ ∀ H3, Ext ρ H2 H3 → GOk G H3 → RowIs G.K ρ H3 → Q (.str z) H3
section
variable {X : Cx} {G : Gb} {pins : List (Addr × Obj)} {σ : L2.St} {H : Hp} {s : Shared}
theorem pe_word {ls : Nat → LamR → Prop} {ts : List LamI} {iw k : Nat} {x a wn : Str} {g : Addr} {fd : FuncData} {cdv : Value} {st : Stmt} {Ng : List Str} {scope : Scope} {p p2 pos : Pos} (gP : ∀ e, ¬ G.Px e) (I : Inv X pins σ H s)
    (LS : ∀ n r, ls n r → ∃ L, ts[n]? = some L ∧ LamIs X L r) (go : ∀ L ∈ ts, LamGo X.prog X.w X.K X.mg X.base G k (X.env.qual ++ "<lambda>") L) (at_ : ∀ L ∈ ts, LamAtN X.N X.env.scope L)
    (hr : Room (k + 2) X.A) (F : FunC X.K x x st g fd cdv) (S : FnScope Ng [a] (defScope st)) (hNg : Ng[0]? = some a) (hva : Vis (defScope st) a) (hb : Binds X.K fd [a] []) (hm : X.mg x = some (.ref g)) (hk : PySem.W.keepIn X.K (.ref g) = true)
    (hG : ∀ (A : Around) (outer : List Env) (s : Shared) (H : Hp) (ρ : Option Addr), Room (k + 1) (A.deeper (envOfC x (defScope st) s.heap.objs.size g cdv)) → Gives (cxOf C8.CX0 X.prog X.w X.K X.mg X.base Ng x (defScope st) g cdv A outer s H C8.E0).nox (defBody st) a G ρ)
    (C : Addr) (cl : List (Str × Addr)) (fp : List Addr) (hfp : ∀ b ∈ fp, ∀ x c, X.env.cells.lookup x = some c → c ≠ b)
    (hg : Gl (X.blk s H scope (compEnvC scope cl C X.env) fp) x) (hi : X.N[iw]? = some wn) (hv : Vis (X.blk s H scope (compEnvC scope cl C X.env) fp).env.scope wn) (hdw : (wn == ("__debug__" : Str)) = false) (hcw : (wn == ("__classdict__" : Str)) = false)
    (hdb : (x == ("__debug__" : Str)) = false) (hda : (a == ("__debug__" : Str)) = false) (hca : (a == ("__classdict__" : Str)) = false) :
    PE (X.blk s H scope (compEnvC scope cl C X.env) fp) (.Call (.Name x p) [.Name wn p2] [] pos) (tWord G ls ts iw σ) := by
  refine ⟨fun pins2 s2 σ2 H2 Q I2 h => ?_⟩
  obtain ⟨f, r, n, L, ws, as, z, ρ, e0, hls, hn, hv2, ew, ha, gg, rr, hF, q⟩ := h
  obtain ⟨L', hn', li⟩ := LS n r hls
  rw [hn] at hn'; cases hn'
  have hL : L ∈ ts := List.mem_of_getElem? hn
  obtain ⟨f', ef, hf, hc, hdf⟩ := hv2
  cases ef
  obtain ⟨B, eF, hrun⟩ := (go L hL).run
  have cap : NdefX.Caps X (cloFrom X.env.cells L.scope.names []) L.fr L.js := NdefX.Caps.made I.ok (at_ L hL).free (at_ L hL).fr (at_ L hL).js
  have C0 : NdefX.CellsAt r.cl L.fr (ws.map some) s.heap H := by
    rw [li.cl, ← ew]
    exact NdefX.cells_of I cap
  have sub : ∀ y c, r.cl.lookup y = some c → X.env.cells.lookup y = some c := fun y c e => cap.sub y c (by rw [← li.cl]; exact e)
  refine wpAny_Call_Name_kw (ld_glob I2 hg hm ?_ hdb)
  have hpa : PA (X.blk s H scope (compEnvC scope cl C X.env) fp) [.Name wn p2] (tCons (tVar iw) tNil) := pa_cons (pe_var hi hv hdw hcw) pa_nil
  refine PySem.W.callWith_K (h₀ := X.base) I2.ok.mod.kin hk (thn (hpa.run pos pins2 s2 σ2 H2 (fun vs H1 => vs = [.ref f] ∧ H1 = H2) I2 ⟨_, e0, rfl, rfl⟩) fun us s3 ⟨vs, H1, I3, rv, ev, eH⟩ => ⟨I3.kIn, ?_⟩) (by rfl) (by rfl)
  subst ev eH
  obtain rfl : us = [.ref f] := by
    cases rv with
    | cons r1 r2 => cases r2; cases r1; rfl
  obtain ⟨oc, od, dV, kV, doc, pm, an, ct, osl, rfl, lk, hcd⟩ := F.ex
  have C1 : NdefX.CellsAt r.cl L.fr (ws.map some) s3.heap H1 := cells_later (X := X.blk s H scope (compEnvC scope cl C X.env) fp) C0 (fun y c e z => hfp c z y c (sub y c e) rfl) I3
  have rc : codeAny (model X.prog X.w) X.A (.call (.ref g) ⟨[.ref f], []⟩) (CR C8.CX0 X.stack X.prog X.w H1 s3 Q C8.E0) s3 := by
    refine LamX.run_ofS (k := k + 1) (N := Ng) (ps := [a]) (us := [.ref f]) (vs := [.ref f]) lk hcd S hr I3.env0 (hb s3 [.ref f] I3.kIn rfl) (.cons rfl .nil) rfl fun hr' => ?_
    have act : Acts (cxOf C8.CX0 X.prog X.w X.K X.mg X.base Ng x (defScope st) g cdv X.A X.stack s3 H1 C8.E0).nox a f (fun E HZ Q' => HZ f = some (LamO f r) ∧ HZ r.c = some (LamX.CodeO r.c r.q) ∧ DfOk HZ r ∧ spX G L.F (parV r.par ++ ws) HZ Q' E) := fun W pn xe E p1 p2 tk hW => ⟨fun pinsZ sZ σZ HZ Q' IZ hZ => by
      obtain ⟨h0, zf, zc, zd, zs⟩ := hZ
      refine wpAny_Call_Name_kw (thn ((pe_var (pos := p1) (i := 0) hNg hva hda hca).run pinsZ sZ σZ HZ (fun v H1 => v = .ref f ∧ H1 = HZ) IZ ⟨.ref f, h0, rfl, rfl⟩) fun u s1 ⟨v, HY, I1, r1, q1⟩ => ?_)
      obtain ⟨ev, eH⟩ := q1
      subst ev
      rw [eH] at I1
      obtain rfl : u = Value.ref f := r1
      obtain ⟨⟨od2, sl2, pm2, ctv2, ho⟩, _, _⟩ := I1.hok f _ zf
      refine PySem.W.callWith_F0 ⟨_, _, _, _, ho⟩ ?_
      have C2 : NdefX.CellsAt r.cl L.fr (ws.map some) s1.heap HZ := cells_later C1 (fun y c e z => by cases z) I1
      have rc2 := run_lam (k := k) (r := r) (N := L.N) (fr := L.fr) (B := B) (G := G) (Q := Q') (E := E) (ws := ws) I1 hr' zf zc zd (by rw [li.pr, li.pa, li.bo, li.sc]; exact (go L hL).binds) (by rw [li.pr, li.sc]; exact (go L hL).ns) C2
        (by
          obtain ⟨rp, rb, rs, rq, rcl, rcc, rdv, rpar⟩ := r
          obtain ⟨e1, e2, e3, e4, e5, e6⟩ := li
          cases e1; cases e2; cases e3; cases e4; cases e6
          exact fun A outer s H E hr W Px tk => hrun rcl rcc rdv f A outer s H E hr W Px tk) (by rw [li.pr, ← eF]; rw [← li.pr]; exact zs)
      have hx := passes_call tk hW
      refine wpAny_call (codeAny_mono rc2 fun r s' hq => ?_)
      cases r with
      | error e => exact hx pinsZ σZ HZ s1 e s' I1 hq
      | ok fl =>
        cases fl with
        | ret u => exact I1.after hq
        | next => exact False.elim hq
        | brk => exact False.elim hq
        | cont => exact False.elim hq⟩
    have sp : spX G L.F (parV r.par ++ ws) H1 (fun _ H' => Q (.str (Str.ofString "")) H') (wordE G ρ Q) := by
      refine ⟨ρ, parS L.par ++ as, _, by rw [li.pr]; exact par_args H1 ρ L.par ha, gg, rr, hF, fun d hd v H' e1 g1 r1 _ => ?_, fun e he H' d e1 g1 r1 fo => ?_⟩
      · obtain rfl : z = "" := hd
        exact q H' e1 g1 r1
      · obtain ⟨en, ez⟩ := (show e.fld = none ∧ wordN e.name = some z from he)
        rw [en] at fo
        exact ⟨fo, e.name, z, rfl, ez, g1, r1, fun H'' e2 g2 r2 => q H'' (e1.trans e2) g2 r2⟩
    obtain ⟨t', ht', hq'⟩ := hG X.A X.stack s3 H1 ρ hr' f _ H1 Q act ⟨hf, hc, hdf, sp⟩
    exact ⟨t', ht'.nox, hq'⟩
  refine wpAny_call (codeAny_mono rc fun r s' hq => ?_)
  cases r with
  | error e => exact (show False from hq).elim
  | ok fl =>
    cases fl with
    | ret u => exact I3.after hq
    | next => exact False.elim hq
    | brk => exact False.elim hq
    | cont => exact False.elim hq
end
/-! ### the data -/
def wordsL (ls : Nat → LamR → Prop) (ts : List LamI) (E : Ed) : List LamR → Dm (List PyData)
  | [], Q => Q []
  | r :: rs, Q => ∃ (n : Nat) (L : LamI) (as : List Sl) (z : Str), ls n r ∧ ts[n]? = some L ∧ Caught E L.js as ∧ L.F (parS L.par ++ as) (fun o => WordIs o z) ∧ wordsL ls ts E rs fun ys => Q (.str z :: ys)
def nWords (ls : Nat → LamR → Prop) (ts : List LamI) (iw ik : Nat) : Fi := fun E Q => ∃ rs, E[ik]? = some (.fs rs) ∧ iw < E.length ∧ rs.length ≤ sizeLine ∧ wordsL ls ts E rs Q
section
variable {X : Cx} {G : Gb}
theorem tWords_of {ls : Nat → LamR → Prop} {ts : List LamI} {iw ik : Nat} (hK : G.K = X.K) : ∀ σ H Q, tN G (nWords ls ts iw ik) σ H Q → tLcW (iList X.K (tVar ik)) (gName iw) (tWord G ls ts iw σ) [iw] σ H Q :=
  fun σ H Q ⟨H0, ρ0, ρ, E, P, I, ⟨rs, hik, hiw, hz, hw⟩, k⟩ => by
  obtain ⟨a, vs, e1, e2, e3, e4⟩ := I.slot ik _ hik
  refine ⟨_, e1, a, rfl, ⟨vs, .inl (.inl e2)⟩, fun D hD => ?_⟩
  have fD : Fr0 H D := Fr0.of_none hD
  refine ⟨fun i m H2 => ∃ acc ys, H2 D = some (.lst acc) ∧ RpAll H2 acc ys ∧ i + m = rs.length ∧ acc.length ≤ i ∧ DInv G H0 ρ0 ρ σ H2 E ∧ Ext ρ H H2 ∧ wordsL ls ts E (rs.drop i) fun zs => P (ys ++ zs),
    ⟨rs.length, [], [], upd_same, .nil, Nat.zero_add _, Nat.le_refl _, I.new hD, (Ext.refl ρ H).upd hD, hw⟩, ?_⟩
  rintro i m H2 ⟨acc, ys, hA, rA, em, hl, I2, x2, hc2⟩
  have sq : SqL X.K H2 a vs := .inl (.inl (x2 _ _ e2 (fun ps z => by cases z) fun z => absurd z e4))
  by_cases hlt : i < rs.length
  · have ed : rs.drop i = rs[i] :: rs.drop (i + 1) := List.drop_eq_getElem_cons hlt
    rw [ed] at hc2
    obtain ⟨v, hv, fv⟩ := (e3.ext x2.toS).get (List.getElem?_eq_getElem hlt)
    refine .inr ⟨⟨vs, v, sq, hv⟩, fun H' => ∃ acc ys, H' D = some (.lst acc) ∧ RpAll H' acc ys ∧ acc.length ≤ i + 1 ∧ DInv G H0 ρ0 ρ σ H' E ∧ Ext ρ H H' ∧ wordsL ls ts E (rs.drop (i + 1)) fun zs => P (ys ++ zs),
      fun H' ⟨acc, ys, q1, q2, q3, q4, q5, q6⟩ => ⟨m - 1, by omega, acc, ys, q1, q2, by omega, q3, q4, q5, q6⟩, fun x H3 ⟨hy1, hy2⟩ => ?_⟩
    subst hy1
    have hx := hy2 vs sq
    rw [hv] at hx; cases hx
    obtain ⟨n, L, as, z, w1, w2, w3, w4, w5⟩ := hc2
    obtain ⟨ws, c1, c2⟩ := caught_args I2 w3
    have fv' := fv
    obtain ⟨f, ef, _⟩ := fv'
    subst ef
    refine ⟨?_, f, rs[i], n, L, ws, as, z, ρ, ?_, w1, w2, fv, c1, c2, I2.g, I2.row, w4, fun H4 x4 g4 r4 => ?_⟩
    · rw [wipe_set _ _ _ _ (List.mem_singleton.mpr rfl)]
      exact wipe_wipe σ [iw] [iw] fun i hi => hi
    · rw [List.getElem?_set_self]
      rw [wipe_length, ← I.len]; exact hiw
    · have I4 := I2.to x4 g4 r4
      have hA4 : H4 D = some (.lst acc) := x4 _ _ hA (fun ps z => by cases z) fun z => absurd z (I.noRow fD)
      have rA4 := rA.ext x4.toS
      obtain ⟨f1, f2, f3⟩ := I.fresh_put (o := .lst (acc ++ [.str z])) (x2.trans x4) I4 fD hA4 chg_lst
      refine ⟨acc, hA4, by omega, acc ++ [.str z], ys ++ [.str z], upd_same, (rA4.ext f3).append (.cons (.str z) .nil), by rw [List.length_append]; show acc.length + 1 ≤ _; omega, f2, f1, ?_⟩
      have : (fun zs => P (ys ++ [.str z] ++ zs)) = fun zs => P (ys ++ .str z :: zs) := by funext zs; rw [List.append_assoc]; rfl
      rw [this]
      exact w5
  · refine .inl ⟨⟨vs, sq, by rw [e3.length]; omega⟩, ?_⟩
    rw [List.drop_of_length_le (by omega)] at hc2
    have hP : P (ys ++ []) := hc2
    rw [List.append_nil] at hP
    exact k _ hP D acc H2 x2 I2.g I2.row fD hA rA
theorem dn_words {ls : Nat → LamR → Prop} {ts : List LamI} {k : Nat} {x a wn kn : Str} {g : Addr} {fd : FuncData} {cdv : Value} {st : Stmt} {Ng : List Str} {scope : Scope} {p p2 p3 p4 pos cpos : Pos} (iw ik : Nat) (hK : G.K = X.K) (gP : ∀ e, ¬ G.Px e) (hc : X.calm = true) (hN : X.N.Nodup)
    (LS : ∀ n r, ls n r → ∃ L, ts[n]? = some L ∧ LamIs X L r) (go : ∀ L ∈ ts, LamGo X.prog X.w X.K X.mg X.base G k (X.env.qual ++ "<lambda>") L) (at_ : ∀ L ∈ ts, LamAtN X.N X.env.scope L)
    (hr : Room (k + 2) X.A) (F : FunC X.K x x st g fd cdv) (S : FnScope Ng [a] (defScope st)) (hb : Binds X.K fd [a] []) (hm : X.mg x = some (.ref g)) (hk : PySem.W.keepIn X.K (.ref g) = true)
    (hG : ∀ (A : Around) (outer : List Env) (s : Shared) (H : Hp) (ρ : Option Addr), Room (k + 1) (A.deeper (envOfC x (defScope st) s.heap.objs.size g cdv)) → Gives (cxOf C8.CX0 X.prog X.w X.K X.mg X.base Ng x (defScope st) g cdv A outer s H C8.E0).nox (defBody st) a G ρ)
    (ok : BlkOk X.N X.env.scope scope [(wn, iw)])
    (hNg : Ng[0]? = some a := by rfl) (hva : Vis (defScope st) a := by first | exact Or.inl rfl | exact Or.inr (Or.inl rfl) | exact Or.inr (Or.inr rfl)) (hi : X.N[iw]? = some wn := by rfl) (hik : X.N[ik]? = some kn := by rfl) (hvk : Vis X.env.scope kn := by first | exact Or.inl rfl | exact Or.inr (Or.inl rfl) | exact Or.inr (Or.inr rfl))
    (hg : ∀ (s : Shared) (H : Hp) (C : Addr) (cl : List (Str × Addr)) (fp : List Addr), Gl (X.blk s H scope (compEnvC scope cl C X.env) fp) x := by intros; rfl)
    (hv : ∀ (s : Shared) (H : Hp) (C : Addr) (cl : List (Str × Addr)) (fp : List Addr), Loc (X.blk s H scope (compEnvC scope cl C X.env) fp).env.scope wn := by intros; first | exact Or.inl rfl | exact Or.inr rfl)
    (hf : ∀ (s : Shared) (H : Hp) (C : Addr) (cl : List (Str × Addr)) (fp : List Addr), (X.blk s H scope (compEnvC scope cl C X.env) fp).fn wn = true ∨ (X.blk s H scope (compEnvC scope cl C X.env) fp).env.scope.names.lookup wn = some .local := by intros; first | exact .inl rfl | exact .inr rfl)
    (hdk : (kn == ("__debug__" : Str)) = false := by decide) (hck : (kn == ("__classdict__" : Str)) = false := by decide) (hdw : (wn == ("__debug__" : Str)) = false := by decide) (hcw : (wn == ("__classdict__" : Str)) = false := by decide)
    (hdb : (x == ("__debug__" : Str)) = false := by decide) (hda : (a == ("__debug__" : Str)) = false := by decide) (hca : (a == ("__classdict__" : Str)) = false := by decide)
    (hs : ∀ x, foldedSetIterable (.Name kn p4) X.env x = pure x := by intro _; rfl) :
    DN G X (.ListComp (.Call (.Name x p) [.Name wn p2] [] pos) [⟨.Name wn p3, .Name kn p4, [], 0⟩] scope cpos) (nWords ls ts iw ik) :=
  PE.weak (pe_lcW (own := [(wn, iw)]) (g := gName iw) (te := tWord G ls ts iw) hc hN (pi_list (pe_var hik hvk hdk hck)) ok (fun s H C cl fp => pg_name hN hi (hv s H C cl fp) (hf s H C cl fp))
    (fun pins σ H s C cl fp I hfp => pe_word gP I LS go at_ hr F S hNg hva hb hm hk hG C cl fp hfp (hg s H C cl fp) hi ((hv s H C cl fp).elim Or.inl fun z => Or.inr (Or.inl z)) hdw hcw hdb hda hca) hs) (tWords_of hK)
end
end DL
set_option Elab.async false
set_option linter.all false
set_option maxRecDepth 100000
set_option maxHeartbeats 4000000
/-! lambdas made, kept in a list of one's own -/
namespace DL
open PySem PySem.Spec PyProof.Rows L2
abbrev Ffn := Ed → Dm LamR
def tFn (G : Gb) (f : Ffn) : TE := fun σ H Q => ∃ H0 ρ0 ρ E P, DInv G H0 ρ0 ρ σ H E ∧ f E P ∧ ∀ r, P r → ∀ v H', Ext ρ H H' → GOk G H' → RowIs G.K ρ H' → FnV H' v r → Q v H'
abbrev Fvn := Ed → Dm (List LamR)
def tVf (G : Gb) (f : Fvn) : TA := fun σ H Q => ∃ H0 ρ0 ρ E P, DInv G H0 ρ0 ρ σ H E ∧ f E P ∧ ∀ rs, P rs → ∀ vs H', Ext ρ H H' → GOk G H' → RowIs G.K ρ H' → FnVs H' vs rs → Q vs H'
section
variable {X : Cx} {G : Gb} {a b c e tg : Expr} {f g h : Fe} {fl gl : Fi} {pos p : Pos} {H0 H H' : Hp} {ρ0 ρ : Option Addr} {σ : L2.St} {E : Ed} {k : Nat}
theorem tFn.use {f : Ffn} {P : LamR → Prop} {Q : VK} (I : DInv G H0 ρ0 ρ σ H E) (h : f E P) (k : ∀ d, P d → ∀ v H', Ext ρ H H' → DInv G H0 ρ0 ρ σ H' E → FnV H' v d → Q v H') : tFn G f σ H Q :=
  ⟨_, _, _, _, _, I, h, fun d hd v H' e g r hr => k d hd v H' e (I.to e g r) hr⟩
theorem tVf.use {f : Fvn} {P : List LamR → Prop} {Q : List V → Hp → Prop} (I : DInv G H0 ρ0 ρ σ H E) (h : f E P) (k : ∀ ds, P ds → ∀ vs H', Ext ρ H H' → DInv G H0 ρ0 ρ σ H' E → FnVs H' vs ds → Q vs H') : tVf G f σ H Q :=
  ⟨_, _, _, _, _, I, h, fun ds hd vs H' e g r => k ds hd vs H' e (I.to e g r)⟩
/-- any lambda of the n-th words -/
def gLam (ls : Nat → LamR → Prop) (n : Nat) : Ffn := fun _ Q => ∀ r, ls n r → Q r
/-- what its making asks -/
structure LamMk (X : Cx) (G : Gb) (c P : Addr) : Prop where
  tab : LamX.TabB X.base X.mg c P
  code : X.env.code = .ref c
  mem : (P, X.env.qual ++ "<lambda>") ∈ G.TL
  uniq : ∀ p ∈ G.TL, p.1 = P → p.2 = X.env.qual ++ "<lambda>"
  not : P ∉ G.TG
theorem d_lam0 {ls : Nat → LamR → Prop} {cc P : Addr} (n : Nat) {L : LamI} {params : Arguments} {body : Expr} {scope : Scope} {y0 : Str} (M : LamMk X G cc P) (hls : ∀ r, LamIs X L r → ls n r) (at_ : LamAtN X.N X.env.scope L) (h1 : L.params = params) (h2 : L.body = body) (h3 : L.scope = scope) (hp : L.par = none) (h0 : (y0, NameKind.free) ∈ L.scope.names)
    (hdef : defaultsOf params X.env = ([], []) := by rfl) : PE X (.Lambda params body scope pos) (tFn G (gLam ls n)) := by
  subst h1 h2 h3
  refine ⟨fun pins s σ H Q I ⟨H0, ρ0, ρ, E, Pd, J, h, kk⟩ => ?_⟩
  refine PySem.W.kla_eval hdef ?_
  rw [makeFunction_eq]
  simp only [List.zip_nil_right, List.filterMap_nil, List.isEmpty_nil, if_true, pure_bind]
  refine lam_tail (par := none) I M.tab M.code M.mem M.uniq J.g.1 (fun y hy e => (at_.free y hy e).elim (fun k => I.ok.has _ (.inl k)) fun k => I.ok.has _ (.inr k)) h0 fun f c' H1 s' I1 eN T1 oth hf hc => ?_
  have J1 := J.lam eN T1 oth M.not
  have li : LamIs X L ⟨L.params, L.body, L.scope, X.env.qual ++ "<lambda>", cloFrom X.env.cells L.scope.names [], c', .none, none⟩ := ⟨rfl, rfl, rfl, rfl, rfl, hp.symm⟩
  exact ⟨.ref f, H1, I1, rfl, kk _ (h _ (hls _ li)) _ H1 (extN_ext eN) J1.g J1.row ⟨f, rfl, hf, hc, rfl⟩⟩
theorem d_lam1 {ls : Nat → LamR → Prop} {cc P : Addr} (n : Nat) {L : LamI} {params : Arguments} {body : Expr} {scope : Scope} {y0 an : Str} {i : Int} {j : Nat} {dp : Pos} (M : LamMk X G cc P) (hls : ∀ r, LamIs X L r → ls n r) (at_ : LamAtN X.N X.env.scope L) (h1 : L.params = params) (h2 : L.body = body) (h3 : L.scope = scope) (hp : L.par = some (an, i)) (h0 : (y0, NameKind.free) ∈ L.scope.names)
    (hdef : defaultsOf params X.env = ([eval (.Constant (.int i) j dp) X.env], []) := by rfl) : PE X (.Lambda params body scope pos) (tFn G (gLam ls n)) := by
  subst h1 h2 h3
  refine ⟨fun pins s σ H Q I ⟨H0, ρ0, ρ, E, Pd, J, h, kk⟩ => ?_⟩
  rw [arm_eval_Lambda, hdef]
  refine wpAny_bind (evalAll_cons (thn ((pe_int (X := X) (i := i) (j := j) (pos := dp)).run pins s σ H (fun v H' => v = .int i ∧ H' = H) I ⟨rfl, rfl⟩) fun u s1 ⟨v, H1, I1, rv, ev, eH⟩ => evalAll_nil ?_))
  subst ev eH
  refine wpAny_bind (wpAny_holding (wpAny_pure ?_))
  rw [makeFunction_eq]
  simp only [List.zip_nil_right, List.filterMap_nil, List.isEmpty_nil, List.isEmpty_cons, Bool.false_eq_true, if_false, if_true, pure_bind]
  refine wpAny_bind (wpAny_newTextTuple ?_)
  generalize hst : ({ s1 with heap := s1.heap.push { cls := .type "tuple", data := .seq [u].toArray } } : Shared) = st
  generalize ht : s1.heap.objs.size = t
  have nt : H1 t = none := I1.hok.fresh (Nat.le_of_eq ht)
  have Ist : Inv X pins σ (upd H1 t (.tup [.int i])) st := by
    rw [← hst]
    exact I1.laid (t' := s1.toks) (fun b u e => Heap.get?_push_of_some _ e) (Nat.le_of_eq ht) ⟨by show 1 ≤ sizeLine; decide, [u], .cons rv .nil, ⟨_, by rw [← ht]; exact Heap.get?_push_size _ rfl, rfl, _, rfl⟩⟩
  have J0 : DInv G H0 ρ0 ρ σ (upd H1 t (.tup [.int i])) E := J.new nt
  refine lam_tail (par := some (an, i)) Ist M.tab M.code M.mem M.uniq J0.g.1 (fun y hy e => (at_.free y hy e).elim (fun k => I.ok.has _ (.inl k)) fun k => I.ok.has _ (.inr k)) h0 fun f c' H2 s' I2 eN T1 oth hf hc => ?_
  have J2 := J0.lam eN T1 oth M.not
  have li : LamIs X L ⟨L.params, L.body, L.scope, X.env.qual ++ "<lambda>", cloFrom X.env.cells L.scope.names [], c', .ref t, some (an, i)⟩ := ⟨rfl, rfl, rfl, rfl, rfl, hp.symm⟩
  exact ⟨.ref f, H2, I2, rfl, kk _ (h _ (hls _ li)) _ H2 (((Ext.refl ρ H1).upd nt).trans (extN_ext eN)) J2.g J2.row ⟨f, rfl, hf, hc, t, rfl, eN _ _ upd_same (fun ps z => by cases z)⟩⟩
/-! ### a list of them -/
def fNil : Fvn := fun _ Q => Q []
def fCons (f : Ffn) (g : Fvn) : Fvn := fun E Q => f E fun d => g E fun ds => Q (d :: ds)
theorem df_nil : PA X [] (tVf G fNil) := PA.weak pa_nil fun σ H Q ⟨H0, ρ0, ρ, E, P, I, h, k⟩ => k [] h [] H (Ext.refl _ _) I.g I.row .nil
theorem df_cons {es : List Expr} {f : Ffn} {g : Fvn} (ha : PE X e (tFn G f)) (hr : PA X es (tVf G g)) (hs : starEach (e :: es) X.env = (false, eval e X.env) :: starEach es X.env := by rfl) : PA X (e :: es) (tVf G (fCons f g)) :=
  PA.weak (pa_cons ha hr hs) fun σ H Q ⟨H0, ρ0, ρ, E, P, I, h, k⟩ => tFn.use I h fun d hd v H1 e1 I1 r1 => tVf.use I1 hd fun ds hds vs H2 e2 I2 r2 =>
    k _ hds _ _ (e1.trans e2) I2.g I2.row (.cons (r1.ext e2.toS) r2)
def xFs (f : Fvn) : Fx := fun E Q => f E fun rs => rs.length ≤ sizeLine ∧ Q (.fs rs)
theorem x_fs {es : List Expr} {f : Fvn} (h : PA X es (tVf G f)) : DX G X (.List es pos) (xFs f) :=
  PE.weak (pe_lst h) fun σ H Q ⟨H0, ρ0, ρ, E, P, I, h, k⟩ => tVf.use I h fun rs hds vs H1 e1 I1 r1 => ⟨by rw [r1.length]; exact hds.1, fun p hp =>
    k _ hds.2 _ _ (e1.trans ((Ext.refl ρ H1).upd hp)) (I1.new hp).g (I1.new hp).row ⟨p, vs, rfl, e1.free I1.row hp, upd_same, r1.ext ((Grow.upd hp).ext ρ).toS⟩⟩
theorem fs_put {i : Nat} {q : Addr} {vs us : List V} {xs ys : List LamR} {H1 : Hp} (I1 : DInv G H0 ρ0 ρ σ H1 E) (hm : E[i]? = some (.fs xs)) (h1 : σ[i]? = some (some (.ref q))) (h2 : H1 q = some (.lst vs)) (h4 : ρ ≠ some q) (r : FnVs H1 us ys) :
    ExtS H1 (upd H1 q (.lst us)) ∧ DInv G H0 ρ0 ρ σ (upd H1 q (.lst us)) (E.set i (.fs ys)) := by
  have eS : ExtS H1 (upd H1 q (.lst us)) := fun b x hb s => by
    rw [upd_ne (fun z => by subst z; rw [h2] at hb; cases hb; exact s)]; exact hb
  exact ⟨eS, I1.ls_put (sl' := .fs ys) hm rfl h1 rfl (fun x hx => by rw [h2] at hx; cases hx; exact chg_lst) h4 ⟨q, us, h1, upd_same, r.ext eS, h4⟩⟩
def sAppF (i : Nat) (f : Ffn) : Fs := fun E Q => ∃ xs, E[i]? = some (.fs xs) ∧ f E fun y => xs.length < sizeLine ∧ Q (.nx (E.set i (.fs (xs ++ [y]))))
theorem s_appF (i : Nat) {f : Ffn} {x : Str} {p1 apos cpos : Pos} (he : PE X e (tFn G f)) (hi : X.N[i]? = some x := by rfl) (hv : Vis X.env.scope x := by first | exact Or.inl rfl | exact Or.inr (Or.inl rfl) | exact Or.inr (Or.inr rfl)) (hd : (x == ("__debug__" : Str)) = false := by decide) (hcd : (x == ("__classdict__" : Str)) = false := by decide)
    (hbase : attributeBase (.Name x p1) "append" X.env (eval (.Name x p1) X.env) = eval (.Name x p1) X.env := by rfl)
    (hfew : ((backTo cpos (starEach [e] X.env)).all (fun x => !x.1) && (backToKw cpos (keywordEach [] X.env)).all (fun x => x.1.isSome)
      && decide (([e] : List Expr).length + ([] : List Keyword).length + (if ([] : List Keyword).isEmpty then 0 else 1) < 30)) = true := by rfl)
    (hline : (apos.endLine == cpos.line) = true := by rfl) (hs : starEach [e] X.env = (false, eval e X.env) :: starEach [] X.env := by rfl) (hplain : (backTo cpos (starEach [] X.env)).any (·.1) = false := by rfl)
    (hsw : swapsWith (.Call (.Attribute (.Name x p1) "append" apos) [e] [] cpos) none pos.line X.env = pure false := by rfl) :
    DS G X (.Expr (.Call (.Attribute (.Name x p1) "append" apos) [e] [] cpos) pos) (sAppF i f) :=
  PS.weak (ps_expr (pe_bm PySem.F.plainAttrs_list PySem.F.slot_list_append PySem.F.type_list_append mt_append (pe_var hi hv hd hcd) (pa_cons he pa_nil hs) hbase hfew hline hs hplain) hsw) fun D σ H ⟨H0, ρ0, ρ, E, P, I, ⟨xs, hm, h⟩, k1, k2, k3, k4⟩ => by
  obtain ⟨q, vs, h1, h2, h3, h4⟩ := I.slot i _ hm
  show ∃ v, σ[i]? = some (some v) ∧ tyV X.K "list" v H ∧ tFn G f σ H fun y H1 => rAppend v [y] H1 fun _ H2 => D.nx σ H2
  refine ⟨_, h1, .inl ⟨rfl, _, .inl (.inl h2)⟩, tFn.use I h fun y ⟨hz, hd⟩ w H1 e1 I1 r1 => ?_⟩
  have h2' : H1 q = some (.lst vs) := e1 _ _ h2 (fun ps z => by cases z) fun z => absurd z h4
  obtain ⟨eS, I2⟩ := fs_put I1 hm h1 h2' h4 ((h3.ext e1.toS).app (.cons r1 .nil))
  exact ⟨q, vs, w, rfl, rfl, h2', by rw [h3.length]; exact hz, k1 _ hd ρ _ _ (e1.toS.trans eS) I2⟩
end
end DL
set_option Elab.async false
set_option linter.all false
set_option maxRecDepth 100000
set_option maxHeartbeats 4000000
/-! the law's def with kept lambdas; the suite of word(work); the facts about exception classes -/
namespace DL
open PySem PySem.Spec PyProof.Rows L2
def lsOf (ts : List LamI) (X : Cx) : Nat → LamR → Prop := fun n r => ∃ L, ts[n]? = some L ∧ LamIs X L r
def spLawL (G : Gb) (n : Nat) (fs : (Nat → LamR → Prop) → Fs) : Sp := fun vs H Q _ => ∃ (a : Addr) (xs : List Int), vs = [.ref a] ∧ SqL G.K H a (xs.map V.int) ∧ xs.length ≤ 63 ∧ GOk G H ∧ (∀ ls, fs ls ([.no, .row] ++ List.replicate (n - 2) .no) (endP fun d => d = .bool true)) ∧ ∀ H', Q (.bl true) H'
section
variable {P : Program} {w : World} {K : PySem.W.Frag} {mg : Str → Option Value} {base : Heap}
theorem fnLawL {G : Gb} (hP : ∀ e, ¬ G.Px e) {x qual r0 : Str} {st : Stmt} {f : Addr} {fd : FuncData} {cdv : Value} {N : List Str} {k : Nat} {ts : List LamI} {fs : (Nat → LamR → Prop) → Fs} {sd : Int} {rest : List Stmt} {q0 q1 q2 q3 q4 q5 q6 : Pos} {j1 j2 j3 : Nat} {y : Str} (hK : G.K = K) (F : FunC K x qual st f fd cdv) (S : FnScope N [y] (defScope st)) (hn : 2 ≤ N.length)
    (hb : defBody st = .Assign [.Name r0 q0] (.List [.Name y q1, .Constant (.int 0) j1 q2, .Constant (.int sd) j2 q3, .Constant (.int 0) j3 q4] q5) q6 :: rest) (hs0 : 0 ≤ sd) (hs1 : sd < 2147483648)
    (first : ∀ (A : Around) (outer : List Env) (s : Shared) (H : Hp) (E : XK), PS (cxOf CX0 P w K mg base N qual (defScope st) f cdv A outer s H E).nox (.Assign [.Name r0 q0] (.List [.Name y q1, .Constant (.int 0) j1 q2, .Constant (.int sd) j2 q3, .Constant (.int 0) j3 q4] q5) q6)
      (tAsg (tLst (tCons (tVar 0) (tCons (tC (.int 0)) (tCons (tC (.int sd)) (tCons (tC (.int 0)) tNil))))) (gName 1)))
    (body : ∀ (A : Around) (outer : List Env) (s : Shared) (H : Hp) (E : XK), Room k (A.deeper (envOfC qual (defScope st) s.heap.objs.size f cdv)) → DSs G (cxOf CX0 P w K mg base N qual (defScope st) f cdv A outer s H E).nox rest (fs (lsOf ts (cxOf CX0 P w K mg base N qual (defScope st) f cdv A outer s H E).nox))) :
    FnOk P w K mg base CX0 (k + 1) f fd [y] (spLawL G N.length fs) := by
  refine fnC_ok F S (fun vs H Q E ⟨a, xs, e, _⟩ => by rw [e]; rfl) fun A outer s H vs Q E hr ⟨a, xs, ev, hS, hl, g, hF0, q⟩ => ?_
  have hF := hF0 (lsOf ts (cxOf CX0 P w K mg base N qual (defScope st) f cdv A outer s H E).nox)
  subst ev
  rw [hb]
  refine ⟨_, pss_cons (ps_may (first A outer s H E)) (body A outer s H E hr), ?_⟩
  generalize lsOf ts (cxOf CX0 P w K mg base N qual (defScope st) f cdv A outer s H E).nox = ls at hF
  have core : ∀ H1, ScrAt G.K H1 a xs → GOk G H1 → tAsg (tLst (tCons (tVar 0) (tCons (tC (.int 0)) (tCons (tC (.int sd)) (tCons (tC (.int 0)) tNil))))) (gName 1) { nx := tS G (fs ls) { nx := fun _ H' => Q .non H', rt := Q }, rt := Q } (L2.start N [V.ref a]) H1 := fun H1 hA g1 => by
    have e0 : (L2.start N [V.ref a])[0]? = some (some (.ref a)) := rfl
    refine ⟨.ref a, e0, by show 4 ≤ sizeLine; decide, fun p hp => ?_⟩
    have e : ∀ b x, H1 b = some x → upd H1 p (.lst [.ref a, .int 0, .int sd, .int 0]) b = some x := fun b x hb => by rw [upd_ne (ne_of_none hb hp)]; exact hb
    have g2 : GOk G (upd H1 p (.lst [.ref a, .int 0, .int sd, .int 0])) := g1.upd (o' := .tup []) (.inl hp)
    have sl : ∀ (i : Nat) (s : Sl), (([.no, .row] : List Sl) ++ List.replicate (N.length - 2) .no)[i]? = some s → (i = 1 ∧ s = .row) ∨ s = .no := fun i s hi => by
      match i with
      | 0 => cases hi; exact .inr rfl
      | 1 => cases hi; exact .inl ⟨rfl, rfl⟩
      | i + 2 =>
        have : s ∈ List.replicate (N.length - 2) Sl.no := List.mem_of_getElem? (i := i) (by simpa using hi)
        exact .inr (List.mem_replicate.mp this).2
    have ln : (L2.start N [V.ref a]).length = N.length := by
      unfold L2.start
      rw [List.length_append, List.length_map, List.length_replicate]
      show 1 + (N.length - 1) = N.length
      omega
    refine ⟨_, some p, some p, _, endP fun d => d = .bool true, ⟨g2, Ext.refl _ _, fun b eb => ?_, .inl rfl, ?_, fun i s hi => ?_, fun i s b hi ho => ?_, fun i j s s' b hi ho => ?_, fun e he => absurd he (hP e)⟩, hF, ?_, ?_, ?_, ?_⟩
    · cases eb
      exact ⟨a, xs, (), 0, sd, 0, upd_same, hA.ext fun b x hb _ => e b x hb, Int.le_refl 0, hs0, hs1, hl⟩
    · rw [List.length_set, ln, List.length_append, List.length_replicate]
      show 2 + (N.length - 2) = N.length
      omega
    · rcases sl i s hi with ⟨rfl, rfl⟩ | rfl
      · exact ⟨p, List.getElem?_set_self (by rw [ln]; omega), rfl⟩
      · exact True.intro
    · rcases sl i s hi with ⟨_, rfl⟩ | rfl <;> cases ho
    · rcases sl i s hi with ⟨_, rfl⟩ | rfl <;> cases ho
    · exact fun E' hE ρ' σ' H' x I' => by cases (show PyData.none = .bool true from hE)
    · exact fun d hd v H' e g r rp => by
        obtain rfl : d = .bool true := hd
        cases rp
        exact q H'
    · exact fun E' hE => hE.elim
    · exact fun E' hE => hE.elim
  rcases hS with (h | ⟨o, h⟩) | h
  · refine .inr ⟨a, _, h, True.intro, fun od => core _ (.inl ⟨od, upd_same⟩) (g.upd (.inr ⟨h, chg_lst.2⟩))⟩
  · exact .inl (core H (.inl ⟨o, h⟩) g)
  · exact .inl (core H (.inr h) g)
end
/-! ### the suite of word(work) -/
def fsWord (ad : Addr) (b1 b2 b3 b4 : Bool) : Fs :=
  sSeq (sIf (bOr (asB (eIsE 1 ad false)) (asB (eIsE 1 ad false))) sStuck sNil)
  (sSeq (sIf (asB (eIsE 1 ad false)) sStuck sNil)
  (sSeq (sSet 2 (xL (nLst (vCons (eIsE 1 ad b1) (vCons (eIsE 1 ad b2) (vCons (eIsE 1 ad b3) (vCons (eIsE 1 ad b4) vNil)))))))
  (sRet (eIf (asB (eOp oEq (eCntL 2 (eC (.bool true))) (eC (.int 1)))) (eOp oIx (eFrz (nLst (vCons (eC (.str "lot")) (vCons (eC (.str "number")) (vCons (eC (.str "night")) (vCons (eC (.str "courses")) vNil)))))) (eIdxL 2 (eC (.bool true)))) (eC (.str "other"))))))
theorem fsWord_lot {ad : Addr} {P : Out → Prop} (h : P (.rt (.str "lot"))) : fsWord ad true false false false [.no, .adr ad, .no] P := by
  refine ⟨rfl, _, rfl, ?_⟩
  refine ⟨rfl, _, rfl, ?_⟩
  refine ⟨rfl, _, rfl, ?_⟩
  refine ⟨rfl, rfl, rfl, rfl, by show 4 ≤ sizeLine; decide, ?_⟩
  refine ⟨_, rfl, rfl, rfl, rfl, rfl, by decide +kernel, ⟨rfl, rfl⟩, ⟨rfl, rfl⟩, true, ?_, ?_⟩
  · show PyData.bool (PyData.eqv _ _) = _
    refine congrArg PyData.bool ?_
    decide +kernel
  refine ⟨by show 4 ≤ sizeLine; decide, _, rfl, ⟨rfl, rfl⟩, ⟨rfl, rfl⟩, 0, _, rfl, by decide +kernel, fun m z' hm hz => absurd hm (Nat.not_lt_zero m), _, _, _, rfl, rfl, rfl, h⟩
theorem fsWord_number {ad : Addr} {P : Out → Prop} (h : P (.rt (.str "number"))) : fsWord ad false true false false [.no, .adr ad, .no] P := by
  refine ⟨rfl, _, rfl, ?_⟩
  refine ⟨rfl, _, rfl, ?_⟩
  refine ⟨rfl, _, rfl, ?_⟩
  refine ⟨rfl, rfl, rfl, rfl, by show 4 ≤ sizeLine; decide, ?_⟩
  refine ⟨_, rfl, rfl, rfl, rfl, rfl, by decide +kernel, ⟨rfl, rfl⟩, ⟨rfl, rfl⟩, true, ?_, ?_⟩
  · show PyData.bool (PyData.eqv _ _) = _
    refine congrArg PyData.bool ?_
    decide +kernel
  refine ⟨by show 4 ≤ sizeLine; decide, _, rfl, ⟨rfl, rfl⟩, ⟨rfl, rfl⟩, 1, _, rfl, by decide +kernel, fun m z' hm hz => ?_, _, _, _, rfl, rfl, rfl, h⟩
  match m, hm with
  | 0, _ => cases hz; decide +kernel
theorem fsWord_night {ad : Addr} {P : Out → Prop} (h : P (.rt (.str "night"))) : fsWord ad false false true false [.no, .adr ad, .no] P := by
  refine ⟨rfl, _, rfl, ?_⟩
  refine ⟨rfl, _, rfl, ?_⟩
  refine ⟨rfl, _, rfl, ?_⟩
  refine ⟨rfl, rfl, rfl, rfl, by show 4 ≤ sizeLine; decide, ?_⟩
  refine ⟨_, rfl, rfl, rfl, rfl, rfl, by decide +kernel, ⟨rfl, rfl⟩, ⟨rfl, rfl⟩, true, ?_, ?_⟩
  · show PyData.bool (PyData.eqv _ _) = _
    refine congrArg PyData.bool ?_
    decide +kernel
  refine ⟨by show 4 ≤ sizeLine; decide, _, rfl, ⟨rfl, rfl⟩, ⟨rfl, rfl⟩, 2, _, rfl, by decide +kernel, fun m z' hm hz => ?_, _, _, _, rfl, rfl, rfl, h⟩
  match m, hm with
  | 0, _ => cases hz; decide +kernel
  | 1, _ => cases hz; decide +kernel
theorem fsWord_courses {ad : Addr} {P : Out → Prop} (h : P (.rt (.str "courses"))) : fsWord ad false false false true [.no, .adr ad, .no] P := by
  refine ⟨rfl, _, rfl, ?_⟩
  refine ⟨rfl, _, rfl, ?_⟩
  refine ⟨rfl, _, rfl, ?_⟩
  refine ⟨rfl, rfl, rfl, rfl, by show 4 ≤ sizeLine; decide, ?_⟩
  refine ⟨_, rfl, rfl, rfl, rfl, rfl, by decide +kernel, ⟨rfl, rfl⟩, ⟨rfl, rfl⟩, true, ?_, ?_⟩
  · show PyData.bool (PyData.eqv _ _) = _
    refine congrArg PyData.bool ?_
    decide +kernel
  refine ⟨by show 4 ≤ sizeLine; decide, _, rfl, ⟨rfl, rfl⟩, ⟨rfl, rfl⟩, 3, _, rfl, by decide +kernel, fun m z' hm hz => ?_, _, _, _, rfl, rfl, rfl, h⟩
  match m, hm with
  | 0, _ => cases hz; decide +kernel
  | 1, _ => cases hz; decide +kernel
  | 2, _ => cases hz; decide +kernel
/-! ### facts about the classes, by evaluation -/
def excCB (K : PySem.W.Frag) (D : Addr) : Bool :=
  He.eqO (PySem.W.findIn K (.ref D) "__getattribute__") (some (some (.builtin "BaseException.__getattribute__"))) && (He.eqO (PySem.W.findIn K (.ref D) "__getattr__") (some none) && (decide (PySem.W.subIn K (.ref D) (.type "BaseException") = some true) && (PySem.W.hasDictIn K D && (He.eqO (PySem.W.findIn K (.ref D) "__class__") (some (some (.builtin "object.__class__"))) &&
  (He.eqO (PySem.W.specialIn K (.builtin "object.__class__") "__get__") (some (some (.builtin "getset_descriptor.__get__"))) && (decide (PySem.W.takesIn K (.builtin "object.__class__") = some true) && decide (PySem.W.mroIn K D (.type "object") = some true)))))))
theorem excC_of {K : PySem.W.Frag} {D : Addr} (h : excCB K D = true) : ExcC K D := by
  unfold excCB at h
  simp only [Bool.and_eq_true, decide_eq_true_eq, He.eqO] at h
  obtain ⟨h1, h2, h3, h4, h5, h6, h7, h8⟩ := h
  exact ⟨h1, h2, h3, h4, h5, h6, h7, h8⟩
/-- X(), X an own exception class, its facts by name -/
theorem mk_own {X : Cx} {G : Gb} {W : WX} {Px : ExD → Prop} {x : Str} {p pos : Pos} (gC : G.cls = fun x => .ref (He.ga X.K x)) (e : PySem.W.excIn X.K (He.ga X.K x) He.veBase "ValueError.__new__" = true ∧ PySem.W.keepIn X.K (.ref (He.ga X.K x)) = true ∧ PySem.W.subIn X.K (.ref (He.ga X.K x)) (.type "BaseException") = some true ∧ PySem.W.typeIn X.K (.ref (He.ga X.K x)) = some (.type "type"))
    (gm : X.mg x = some (.ref (He.ga X.K x))) (hg : Gl X x) (hdb : (x == ("__debug__" : Str)) = false := by decide) : PMk X (.Call (.Name x p) [] [] pos) (fun _ H Q => Q ((G.wx W Px).cls x) none H) := by
  have h := pmk_own0 (X := X) (pos := pos) (p := p) (x := x) PySem.F.excBase_ValueError e.1 gm e.2.1 (raises_own e.2.2.1 e.2.2.2) hg hdb
  show PMk X _ (fun _ H Q => Q (G.cls x) none H)
  rw [gC]
  exact h
/-! ### a lambda's words within the law's text -/
def stV : Stmt → Expr
  | .Assign _ v _ => v
  | .Expr v _ => v
  | _ => .Constant .none 0 ⟨0, 0, 0, 0⟩
def lamsIn : Expr → List Expr
  | .List es _ => es
  | .Call _ as _ _ => as
  | _ => []
def lamA : Expr → Arguments
  | .Lambda p _ _ _ => p
  | _ => ⟨[], [], none, [], [], none, []⟩
def lamB : Expr → Expr
  | .Lambda _ b _ _ => b
  | e => e
def lamS : Expr → Scope
  | .Lambda _ _ s _ => s
  | _ => defScope (.Pass ⟨0, 0, 0, 0⟩)
theorem lamMk_of {X : Cx} {G : Gb} {c P : Addr} {q : Str} (tab : LamX.TabB X.base X.mg c P) (code : X.env.code = .ref c) (mem : (P, q) ∈ G.TL) (uniq : ∀ p ∈ G.TL, p.1 = P → p.2 = q) (no : P ∉ G.TG) (hq : X.env.qual ++ "<lambda>" = q := by rfl) : LamMk X G c P :=
  ⟨tab, code, by rw [hq]; exact mem, by rw [hq]; exact uniq, no⟩
end DL
set_option Elab.async false
set_option linter.all false
set_option maxRecDepth 100000
set_option maxHeartbeats 4000000
/-! exceptions that bear a field: X(e), X's own __init__ being self.f = e -/
namespace DL
open PySem PySem.Spec PyProof.Rows L2
/-- what such an __init__ does -/
def spInit (C : Addr) (f : Str) : Sp := fun vs H Q _ => ∃ (a : Addr) (y : V), vs = [.ref a, y] ∧ H a = some (exo a C none) ∧ ∀ dx, H dx = none → dx ≠ a → Q .non (upd (upd H dx (exd dx [(f, y)])) a (exo a C (some dx)))
section
variable {P : Program} {w : World} {K : PySem.W.Frag} {mg : Str → Option Value} {base : Heap}
theorem fnInit {qual f sn vn : Str} {st : Stmt} {fa C : Addr} {fd : FuncData} {cdv : Value} {k : Nat} {p1 p2 p3 p4 : Pos} (F : FunC K "__init__" qual st fa fd cdv) (S : FnScope [sn, vn] [sn, vn] (defScope st)) (T : OexC K C) (no : PySem.W.findIn K (.ref C) f = some none)
    (body : defBody st = [.Assign [.Attribute (.Name sn p1) f p2] (.Name vn p3) p4]) (h0 : Vis (defScope st) sn) (h1 : Vis (defScope st) vn) (n1 : (sn == ("__debug__" : Str)) = false := by decide) (n2 : (sn == ("__classdict__" : Str)) = false := by decide) (n3 : (vn == ("__debug__" : Str)) = false := by decide) (n4 : (vn == ("__classdict__" : Str)) = false := by decide) :
    FnOk P w K mg base CX0 (k + 1) fa fd [sn, vn] (spInit C f) := by
  refine fnC_ok F S (fun vs H Q E ⟨a, y, e, _⟩ => by rw [e]; rfl) fun A outer s H vs Q E hr ⟨a, y, ev, ha, q⟩ => ?_
  subst ev
  rw [body]
  refine ⟨_, pss_one (ps_ost (pe_var (i := 0) rfl h0 n1 n2) (pe_var (i := 1) rfl h1 n3 n4)), ?_⟩
  exact ⟨y, rfl, .ref a, rfl, a, C, rfl, T, no, .inl ⟨ha, fun dx n ne => q dx n ne⟩⟩
end
section
variable {X : Cx} {G : Gb} {a b c e tg : Expr} {f g h : Fe} {fl gl : Fi} {pos p : Pos} {H0 H H' : Hp} {ρ0 ρ : Option Addr} {σ : L2.St} {E : Ed} {k : Nat}
/-- facts about such a class -/
structure InitC (K : PySem.W.Frag) (x fld : Str) : Prop where
  oex : OexC K (He.ga K x)
  init : PySem.W.findIn K (.ref (He.ga K x)) "__init__" = some (some (.ref (He.ma K (He.ga K x) "__init__")))
  fn : PySem.W.typeIn K (.ref (He.ma K (He.ga K x) "__init__")) = some (.type "function")
def sRaise1 (px : ExD → Prop) (x fld : Str) (f : Fe) : Fs := fun E _ => f E fun d => px ⟨x, some (fld, d)⟩
theorem s_raise1 {x fld sn vn : Str} {W : WX} {Px : ExD → Prop} {fd : FuncData} {pos' : Pos} (hc : X.calm = true) (tk : Takes X W) (gC : G.cls = fun x => .ref (He.ga X.K x)) (T : InitC X.K x fld) (gm : X.mg x = some (.ref (He.ga X.K x))) (F : FnOk X.prog X.w X.K X.mg X.base CX0 k (He.ma X.K (He.ga X.K x) "__init__") fd [sn, vn] (spInit (He.ga X.K x) fld))
    (hr : Room (k + 1) X.A) (hb : Binds X.K fd [sn, vn] []) (hg : Gl X x) (ha : DE (G.wx W Px) X e f) (hdb : (x == ("__debug__" : Str)) = false := by decide) (he : starEach [e] X.env = (false, eval e X.env) :: starEach [] X.env := by rfl) (hpl : (backTo pos (starEach [] X.env)).any (·.1) = false := by rfl) :
    DS (G.wx W Px) X (.Raise (some (.Call (.Name x p) [e] [] pos)) none pos') (sRaise1 Px x fld f) :=
  PS.weak (ps_raise (W := W) hc tk (pmk_oex (ta := tCons (tE (G.wx W Px) f) tNil) T.oex T.init T.fn F hr hb .nil (pass0 (X := X)) hg gm (pa_cons ha pa_nil he) hdb he hpl)) fun D σ H ⟨H0, ρ0, ρ, E, P, I, h, k1, k2, k3, k4⟩ => by
    show tE (G.wx W Px) f σ H fun v H1 => (1 ≤ 1000 ∧ _)
    refine tE.use I h fun d hd v H1 e1 I1 r1 => ⟨by decide, fun a na => ⟨a, v, rfl, upd_same, fun dx nx ne => ⟨rfl, dx, [(fld, v)], upd_same, ?_, ?_, ?_⟩⟩⟩
    · rw [upd_ne ne, upd_same]
    · rw [← nx, upd_ne ne]
    · have nd : H1 dx = none := by rw [← nx, upd_ne ne]
      have same : ∀ b o, H1 b = some o → (upd (del (upd (upd (upd H1 a (exo a (He.ga X.K x) none)) dx (exd dx [(fld, v)])) a (exo a (He.ga X.K x) (some dx))) a) dx (.xd [(fld, v)])) b = some o := fun b o hb => by
        have b1 : b ≠ a := ne_of_none hb na
        have b2 : b ≠ dx := ne_of_none hb nd
        rw [upd_ne b2, del_ne b1, upd_ne b1, upd_ne b2, upd_ne b1]
        exact hb
      have J := I1.grow same
      have q := I.xc ⟨x, some (fld, d)⟩ hd σ _ (some dx) ?_ J.g J.row0 ⟨dx, v, rfl, upd_same, r1.ext ((show Grow H1 _ from same).ext none).toS, ?_⟩
      · have e3 : (G.wx W Px).cls x = .ref (He.ga X.K x) := by show G.cls x = _; rw [gC]
        rw [e3] at q
        exact q
      · exact J.ext
      · exact I1.fr0 (Fr0.of_none nd)
end
end DL
set_option Elab.async false
set_option linter.all false
set_option maxRecDepth 100000
set_option maxHeartbeats 4000000
/-! isinstance(e, D), e a caught exception that has a dict of its own -/
namespace DL
section
open PySem PySem.Spec PySem.Calls PyProof.Rows PySem.W
variable {prog : Program} {w : World} {A : Around} {E : Value → Shared → Prop} {s : Shared} {K : Frag} {x D : Addr} {ox : Obj} {od : Option Obj}
/-- a data descriptor of the class goes before the instance's own dict -/
theorem find_data {nm : Str} {ds gt : Value} (c1 : (clsIn K D).isSome = true) (c2 : findIn K (.ref D) nm = some (some ds)) (c3 : specialIn K ds "__get__" = some (some gt)) (c4 : takesIn K ds = some true) : findObj K D od nm = some (.bind gt ds) := by
  obtain ⟨cd, c1⟩ := Option.isSome_iff_exists.mp c1
  unfold findObj
  rw [c1, Option.bind_some, c2, Option.bind_some]
  simp [c3, c4]
theorem class_of {Q : Option Value → Shared → Prop} (F : L2.ExcC K D) (inK : K.In s.heap) (at_ : InstAt s.heap x ox D od) (go : Q (some (.ref D)) { s with toks := s.toks + 1 }) : wpAny (model prog w) A (getAttr? (.ref x) "__class__") Q E s := by
  have fnd : findObj K D od "__class__" = some (.bind (.builtin "getset_descriptor.__get__") (.builtin "object.__class__")) := find_data (by obtain ⟨cd, hc, _⟩ := any_some F.hd; rw [hc]; rfl) F.ha F.hn F.ht
  obtain ⟨hp, gs, dr, tk, os⟩ := s
  have k0 := at_.type (M := model prog w)
  have k1 := looks_findIn (M := model prog w) inK F.hg
  have k2 := looks_findIn (M := model prog w) inK F.hk
  have k3 := looks_find (M := model prog w) inK at_ fnd
  have isB : Looks (model prog w) hp (isInstance (.ref x) (.type "BaseException")) true := k0.andThen (looks_subIn inK F.hs)
  have n0 : (false && onTheHeap (Value.builtin "BaseException.__getattribute__")) = false := rfl
  have n1 : (onTheHeap (Value.ref D) && Value.builtin "BaseException.__getattribute__" == Value.builtin "object.__getattribute__") = false := by
    rw [show (Value.builtin "BaseException.__getattribute__" == Value.builtin "object.__getattribute__") = false by decide +kernel]; rfl
  unfold getAttr?
  unfold getAttrBy?
  unfold getAttrBy
  refine wpAny_bind (wpAny_mkText (wpAny_bind (wpAny_attempt (wpAny_holding (wpAny_bind (k0.at (wpAny_bind (k1.at (?_ : wpAny _ _ (if (onTheHeap (Value.ref D) && Value.builtin "BaseException.__getattribute__" == Value.builtin "object.__getattribute__") = true then _ else _) _ _ _)))))))))
  rw [n1, if_neg Bool.false_ne_true]
  unfold getAttrByItsOwn
  unfold hookBefore
  refine wpAny_bind ?_
  rw [if_pos (show onTheHeap (Value.ref D) = true from rfl)]
  refine k2.at (wpAny_bind (wpAny_attempt (wpAny_holding ?_)))
  unfold callGetattribute
  rw [n0, if_neg Bool.false_ne_true]
  unfold boundAndCalled
  rw [PySem.F.excAttr_ValueError.ga.bind (.ref x)]
  refine wpAny_bind (wpAny_pure (?_ : wpAny _ _ (call (.builtin "BaseException.__getattribute__") [.ref x, .str "__class__" tk]) _ _ _))
  refine wpAny_call (codeAny_call_builtin PySem.F.excAttr_ValueError.ga.plain PySem.F.entry_bexc_ga (@check_slot (model prog w) _ _ ⟨hp, gs, dr, tk + 1, os⟩ "BaseException.__getattribute__" "BaseException" "__getattribute__" (.ref x) [.str "__class__" tk] [] _ (by decide +kernel) (by decide +kernel) isB (PySem.F.args_bexc_ga (.ref x) (.str "__class__" tk)) ?_))
  unfold Builtin.«object.__getattribute__»
  refine wpAny_bind (wpAny_of_eq (a := ((Value.ref x : Value), [Value.str "__class__" tk])) (by first | rfl | (simp only [slotArgs]; rfl)) (wpAny_bind (wpAny_pure (wpAny_bind (k0.at (wpAny_bind (k3.at ?_)))))))
  show wpAny _ _ (holding [Value.builtin "object.__class__"] (call (.builtin "getset_descriptor.__get__") [.builtin "object.__class__", .ref x, .ref D]) >>= ret) _ _ _
  refine wpAny_bind (wpAny_holding (wpAny_call (class_get (s := ⟨hp, gs, dr, tk + 1, os⟩) (ox := ox) (od := od) inK at_ F.hm (wpAny_pure (?_ : wpAny _ _ (handedOut (.ref D)) _ _ _)))))
  rw [handedOut_of (v := .ref D) rfl]
  first
    | exact wpAny_pure (wpAny_pure go)
    | exact wpAny_pure go
    | exact wpAny_pure (wpAny_bind (wpAny_pure (wpAny_pure go)))
theorem kit_exc (F : L2.ExcC K D) : KitX K (.ref x) (.ref D) (fun h => InstAt h x ox D od) where
  ty := fun _ _ _ I => I.type
  it := fun _ _ inK _ => by
    obtain ⟨cd, hc, _⟩ := any_some F.hd
    unfold clsIn at hc
    split at hc
    · rename_i c1 c2 c3 c4 at_
      intro A' Q' E' s' k q
      unfold isType loadHead
      exact wpAny_bind (wpAny_loadPart (k _ _ (inK _ _ at_)) (wpAny_pure q))
    · cases hc
  ne := fun h tp dd its n sl inK at2 => by
    obtain ⟨cd, hc, _⟩ := any_some F.hd
    refine Bool.eq_false_iff.mpr fun q => ?_
    obtain rfl : D = tp := Value.ref.inj (beq_iff_eq.mp q)
    unfold clsIn at hc
    split at hc
    · rename_i c1 c2 c3 c4 at_
      cases (inK _ _ at_).symm.trans at2
    · cases hc
  ca := fun inK at_ go => class_of F inK at_ go
end
open PySem PySem.Spec PyProof.Rows L2
/-- its dict as the heap holds it -/
theorem call_isD2 {X : Cx} {a D dx : Addr} {oe : Obj} {pn : List (Addr × Obj)} (F : ExcC X.K D) (hz : Zc (.ref D) (some dx) oe) (hf : ∃ vs, oe.data = .fields vs) : CallR (X.suite a ((a, oe) :: pn)) (.builtin "isinstance") (fun xs H Q => (∃ fs : List (Str × V), H dx = some (.xd fs)) ∧ rIsE X.K D a xs H Q) := by
  intro pins s σ H xs us Q I r ⟨⟨fs, hd⟩, c, cv, b, ex, hcv, e, q⟩
  subst ex
  cases r with
  | cons rx rr =>
    cases rr with
    | cons rt rr =>
      cases rr
      cases rx
      have ec := hcv _ rt
      subst ec
      obtain ⟨at_, _⟩ := I.pin (a, oe) (List.mem_append.mpr (.inl List.mem_cons_self))
      obtain ⟨vs, hv⟩ := hf
      obtain ⟨mA, hns, _⟩ := (show ObjOk X.prog X.w H s.heap dx (.xd fs) from I.hok dx _ hd)
      obtain ⟨od, ho, _⟩ := lookIn_ns hns
      have J : PySem.W.InstAt s.heap a oe D (some od) := ⟨at_, hz.1, by unfold PySem.W.notCls; rw [hv] <;> rfl, by rw [hz.2]; exact ho⟩
      exact PySem.W.kia_one (kit_exc F) I.kIn J e (fun z => nomatch z) fun tk => ⟨.bl b, H, I.kept (t' := tk) fun _ _ z => z, rfl, q⟩
end DL
set_option Elab.async false
set_option linter.all false
set_option maxRecDepth 100000
set_option maxHeartbeats 4000000
/-! refusal(lambda: ..): try: work() / except X as e: .. / return None -/
namespace DL
open PySem PySem.Spec PyProof.Rows L2
section
variable {X : Cx} {G : Gb} {a b c e tg : Expr} {f g h : Fe} {fl gl : Fi} {pos p : Pos} {H0 H H' : Hp} {ρ0 ρ : Option Addr} {σ : L2.St} {E : Ed} {k : Nat}
/-- isinstance(e, D), e having a field -/
def eIsX (i : Nat) (ad dx : Addr) (fld : Str) (b : Bool) : Fe := fun E Q => (∃ d, E[i]? = some (.xs ad dx fld d)) ∧ Q (.bool b)
theorem d_isX {C D ad dx : Addr} {oe : Obj} {pn : List (Addr × Obj)} {n cn fld : Str} {bb : Bool} {p1 p2 : Pos} (i : Nat) (ec : ExcC X.K C) (hz : Zc (.ref C) (some dx) oe) (hf : ∃ vs, oe.data = .fields vs) (kit : PySem.W.kitOne X.K (.ref C) (.ref D) = some bb) (hg : Gl X "isinstance") (hm : X.mg "isinstance" = none) (hgc : Gl X cn) (hmc : X.mg cn = some (.ref D))
    (hi : X.N[i]? = some n := by rfl) (hv : Vis X.env.scope n := by first | exact Or.inl rfl | exact Or.inr (Or.inl rfl) | exact Or.inr (Or.inr rfl)) (hd : (n == ("__debug__" : Str)) = false := by decide) (hcd : (n == ("__classdict__" : Str)) = false := by decide) (hdc : (cn == ("__debug__" : Str)) = false := by decide)
    (he : starEach [.Name n p1, .Name cn p2] X.env = (false, eval (.Name n p1) X.env) :: starEach [.Name cn p2] X.env := by rfl) (he2 : starEach [.Name cn p2] X.env = (false, eval (.Name cn p2) X.env) :: starEach [] X.env := by rfl) (hpl : (backTo pos (starEach [.Name cn p2] X.env)).any (·.1) = false := by rfl) :
    DE G (X.suite ad ((ad, oe) :: pn)) (.Call (.Name "isinstance" p) [.Name n p1, .Name cn p2] [] pos) (eIsX i ad dx fld bb) :=
  PE.weak (X := X.suite ad ((ad, oe) :: pn)) (pe_callB (X := X.suite ad ((ad, oe) :: pn)) (call_isD2 (dx := dx) ec hz hf) hg hm (by decide +kernel) (pa_cons (pe_var hi hv hd hcd) (pa_cons (pe_glob (v := .ref D) hgc hmc rfl hdc) pa_nil he2) he) (he := he) (hpl := hpl)) fun σ H Q ⟨H0, ρ0, ρ, E, P, I, ⟨⟨d, ha⟩, h⟩, kk⟩ => by
    obtain ⟨h1, y, h2, h3⟩ := I.slot i _ ha
    exact ⟨_, h1, ⟨_, h2⟩, .ref D, .ref D, bb, rfl, fun u r => r, kit, kk _ h (.bl bb) H (Ext.refl _ _) I.g I.row (.bl bb)⟩
/-- e.f -/
def eFld (i : Nat) (ad dx : Addr) (fld : Str) : Fe := fun E Q => ∃ d, E[i]? = some (.xs ad dx fld d) ∧ Q d
theorem d_fld {C ad dx : Addr} {oe : Obj} {pn : List (Addr × Obj)} {n fld : Str} {p1 : Pos} (i : Nat) (ec : ExcC X.K C) (no : PySem.W.findIn X.K (.ref C) fld = some none) (hz : Zc (.ref C) (some dx) oe) (hf : ∃ vs, oe.data = .fields vs)
    (hi : X.N[i]? = some n := by rfl) (hv : Vis X.env.scope n := by first | exact Or.inl rfl | exact Or.inr (Or.inl rfl) | exact Or.inr (Or.inr rfl)) (hd : (n == ("__debug__" : Str)) = false := by decide) (hcd : (n == ("__classdict__" : Str)) = false := by decide) (hb : attributeBase (.Name n p1) fld X.env (eval (.Name n p1) X.env) = eval (.Name n p1) X.env := by rfl) :
    DE G (X.suite ad ((ad, oe) :: pn)) (.Attribute (.Name n p1) fld pos) (eFld i ad dx fld) :=
  PE.weak (X := X.suite ad ((ad, oe) :: pn)) (pe_xf (X := X) (cls := .ref C) (d := some dx) ⟨ec.hg, ec.hk, ec.hs, ec.hd⟩ no hz hf (pe_var (X := X.suite ad ((ad, oe) :: pn)) hi hv hd hcd) hb) fun σ H Q ⟨H0, ρ0, ρ, E, P, I, ⟨d, ha, h⟩, kk⟩ => by
    obtain ⟨h1, y, h2, h3⟩ := I.slot i _ ha
    exact ⟨_, h1, rfl, rfl, dx, _, y, rfl, h2, by show List.lookup fld [(fld, y)] = some y; simp [List.lookup], kk _ h y H (Ext.refl _ _) I.g I.row h3⟩
end
/-! ### the def that asks -/
/-- what is given of how the work ends -/
def RefIs (R : ExD → PyData → Prop) : OutC → PyData → Prop
  | .ret _, z => z = .none
  | .exc e, z => R e z
def DxOk (H : Hp) (d : Option Addr) : Option (Str × PyData) → Prop
  | none => d = none
  | some (x, pd) => ∃ dx v, d = some dx ∧ H dx = some (.xd [(x, v)]) ∧ Rp H v pd
def xSl (ad : Addr) : Option Addr → Option (Str × PyData) → Sl
  | some dx, some (x, pd) => .xs ad dx x pd
  | _, _ => .adr ad
def refE (G : Gb) (ρ : Option Addr) (R : ExD → PyData → Prop) (Q : VK) : XK := fun cls d H' => ∃ e z, cls = G.cls e.name ∧ DxOk H' d e.fld ∧ R e z ∧ GOk G H' ∧ RowIs G.K ρ H' ∧ ∀ v H'', Ext ρ H' H'' → GOk G H'' → RowIs G.K ρ H'' → Rp H'' v z → Q v H''
def GivesR (Z : Cx) (bg : List Stmt) (a : Str) (G : Gb) (ρ : Option Addr) (R : ExD → PyData → Prop) : Prop := ∀ (f : Addr) (tl : XK → Hp → VK → Prop) (H : Hp) (Q : VK), Acts Z a f tl → tl (refE G ρ R Q) H (fun _ H' => Q .non H') →
  ∃ t, PSs Z bg t ∧ t { nx := fun _ H' => Q .non H', rt := Q } (L2.start Z.N [.ref f]) H
theorem givesR_of {Z : Cx} {G : Gb} {ρ : Option Addr} {R : ExD → PyData → Prop} {a xc n : Str} {CS : Addr} {b0 : Stmt} {suite : List Stmt} {p1 p2 p3 np pos pos' q1 q2 : Pos} {j : Nat} (hs : Z.stack = Z.env :: Z.outer) (hf : Z.env.frame = some Z.env.locals) (hN : Z.N.Nodup) (hl : Z.N.length = 3) (hi : Z.N[1]? = some n) (hln : Z.env.kindOf n = some .local) (hc : Names Z xc (.ref CS)) (hP : ∀ e, ¬ G.Px e)
    (kn : ∀ e z, R e z → ∃ C, G.cls e.name = .ref C ∧ PySem.W.exmOne Z.K (.ref C) (.ref CS) = some true ∧
      ∀ (ad : Addr) (oe : Obj) (d : Option Addr) (pn : List (Addr × Obj)), Zc (.ref C) d oe → (∃ vs, oe.data = .fields vs) → (e.fld = none → d = none) → (∀ q, e.fld = some q → ∃ dx, d = some dx) → ∃ fs : Fs, DSs G (Z.suite ad ((ad, oe) :: pn)) (b0 :: suite) fs ∧ ∀ P : Out → Prop, P (.rt z) → fs [.no, xSl ad d e.fld, .no] P) :
    GivesR Z [.Try [.Expr (.Call (.Name a p1) [] [] p2) p3] [.ExceptHandler (some (.Name xc np)) (some n) (b0 :: suite) pos'] [] [] pos, .Return (some (.Constant .none j q1)) q2] a G ρ R := by
  intro f tl H Q act h
  refine ⟨_, pss_cons (ps_try_as (i := 1) (c := .ref CS) (Wout := fun _ _ _ _ => False) (tb := fun W D σ H => ∃ Ech : XK, (∀ cls d σ' H', Ech cls d H' → W cls d σ' H') ∧ σ[0]? = some (some (.ref f)) ∧ tl Ech H fun _ H' => D.nx σ H')
    (ts := fun ad cls d D σ H' => (∃ σ' : L2.St, σ = List.set σ' 1 (some (V.ref ad))) ∧ refE G ρ R D.rt cls d H') hs hf hN hi hln hc takes0 (fun W pn xe tk _ => ⟨fun pins s' σ H' D I h' => ?_⟩) (fun ad oe cls d pn hz hfl => ⟨fun pins s' σ H' D I h' => ?_⟩)) (pss_one (ps_ret pe_non)), ?_⟩
  · obtain ⟨Ech, hW, e0, ht⟩ := h'
    exact (pss_one (ps_expr (pos := p3) (act W pn xe Ech p1 p2 tk hW))).run pins s' σ H' D I ⟨e0, ht⟩
  · obtain ⟨⟨σ', eσ⟩, e, z, ec, hx, hR, g, r, q⟩ := h'
    obtain ⟨C, e1, e2, e3⟩ := kn e z hR
    rw [e1] at ec
    subst ec
    have hx1 : e.fld = none → d = none := fun w => by rw [w] at hx; exact hx
    have hx2 : ∀ q, e.fld = some q → ∃ dx, d = some dx := fun q w => by
      obtain ⟨x, pd⟩ := q
      rw [w] at hx
      obtain ⟨dx, v, h1, _⟩ := hx
      exact ⟨dx, h1⟩
    obtain ⟨fs, der, hfs⟩ := e3 ad oe d pn hz hfl hx1 hx2
    have len : σ.length = 3 := I.len.trans hl
    have at1 : σ[1]? = some (some (.ref ad)) := by
      rw [eσ, List.length_set] at len
      rw [eσ, List.getElem?_set_self (by omega)]
    have slx : SlOk H' ρ σ[1]? (xSl ad d e.fld) := by
      cases hfd : e.fld with
      | none =>
        rw [hx1 hfd]
        exact at1
      | some q =>
        obtain ⟨x, pd⟩ := q
        rw [hfd] at hx
        obtain ⟨dx, v, h1, h2, h3⟩ := hx
        subst h1
        exact ⟨at1, v, h2, h3⟩
    have own0 : (xSl ad d e.fld).own = false := by
      unfold xSl
      split <;> rfl
    have sl : ∀ (i : Nat) (s : Sl), ([.no, xSl ad d e.fld, .no] : List Sl)[i]? = some s → (i = 1 ∧ s = xSl ad d e.fld) ∨ s = .no := fun i s hi => by
      match i with
      | 0 => cases hi; exact .inr rfl
      | 1 => cases hi; exact .inl ⟨rfl, rfl⟩
      | 2 => cases hi; exact .inr rfl
      | i + 3 => simp at hi
    refine der.run pins s' σ H' D I ⟨H', ρ, ρ, [.no, xSl ad d e.fld, .no], fun o => o = .rt z, ⟨g, Ext.refl _ _, r, .inl rfl, len.symm, fun i s hi => ?_, fun i s b hi ho => ?_, fun i j s s' b hi ho => ?_, fun e he => absurd he (hP e)⟩, hfs _ rfl, ?_, ?_, ?_, ?_⟩
    · rcases sl i s hi with ⟨rfl, rfl⟩ | rfl
      · exact slx
      · exact True.intro
    · rcases sl i s hi with ⟨_, rfl⟩ | rfl
      · rw [own0] at ho; cases ho
      · cases ho
    · rcases sl i s hi with ⟨_, rfl⟩ | rfl
      · rw [own0] at ho; cases ho
      · cases ho
    · exact fun E' hE => by cases hE
    · exact fun d hd v H'' e1 g1 r1 rp => by
        cases hd
        exact q v H'' e1 g1 r1 rp
    · exact fun E' hE => by cases hE
    · exact fun E' hE => by cases hE
  · refine ⟨refE G ρ R Q, fun cls d σ' H' hw => ?_, rfl, h⟩
    obtain ⟨e, z, ec, hx, hR, g, r, q⟩ := hw
    obtain ⟨C, e1, e2, e3⟩ := kn e z hR
    refine ⟨true, by rw [ec, e1]; exact e2, fun _ ad _ => ⟨⟨σ', rfl⟩, e, z, ec, hx, hR, g, r, q⟩, fun z => by cases z⟩
/-! ### refusal(lambda: ..) -/
def eRef (L : LamI) (R : ExD → PyData → Prop) : Fe := fun E Q => ∃ (as : List Sl) (z : PyData), Caught E L.js as ∧ L.F (parS L.par ++ as) (fun o => RefIs R o z) ∧ Q z
section
variable {X : Cx} {G : Gb}
theorem d_ref {R : ExD → PyData → Prop} {k : Nat} {L : LamI} {params : Arguments} {body : Expr} {scope : Scope} {y0 x a : Str} {cc Pc g : Addr} {fd : FuncData} {cdv : Value} {st : Stmt} {Ng : List Str} {p lpos pos : Pos} (gP : ∀ e, ¬ G.Px e) (M : LamMk X G cc Pc) (at_ : LamAtN X.N X.env.scope L) (go : LamGo X.prog X.w X.K X.mg X.base G k (X.env.qual ++ "<lambda>") L)
    (h1 : L.params = params) (h2 : L.body = body) (h3 : L.scope = scope) (hp : L.par = none) (h0 : (y0, NameKind.free) ∈ L.scope.names)
    (hr : Room (k + 2) X.A) (F : FunC X.K x x st g fd cdv) (S : FnScope Ng [a] (defScope st)) (hb : Binds X.K fd [a] []) (hm : X.mg x = some (.ref g)) (hk : PySem.W.keepIn X.K (.ref g) = true) (hg : Gl X x)
    (hG : ∀ (A : Around) (outer : List Env) (s : Shared) (H : Hp) (ρ : Option Addr), Room (k + 1) (A.deeper (envOfC x (defScope st) s.heap.objs.size g cdv)) → GivesR (cxOf C8.CX0 X.prog X.w X.K X.mg X.base Ng x (defScope st) g cdv A outer s H C8.E0).nox (defBody st) a G ρ R)
    (hNg : Ng[0]? = some a := by rfl) (hva : Vis (defScope st) a := by first | exact Or.inl rfl | exact Or.inr (Or.inl rfl) | exact Or.inr (Or.inr rfl)) (hdef : defaultsOf params X.env = ([], []) := by rfl)
    (hdb : (x == ("__debug__" : Str)) = false := by decide) (hda : (a == ("__debug__" : Str)) = false := by decide) (hca : (a == ("__classdict__" : Str)) = false := by decide) :
    DE G X (.Call (.Name x p) [.Lambda params body scope lpos] [] pos) (eRef L R) := by
  refine ⟨fun pins s σ H Q I ⟨H0, ρ0, ρ, E, Pd, J, ⟨as, z, hca', hF, hz⟩, kk⟩ => ?_⟩
  refine wpAny_Call_Name_kw (ld_glob I hg hm ?_ hdb)
  refine PySem.W.callWith_K (h₀ := X.base) I.ok.mod.kin hk ?_ (by rfl) (by rfl)
  show wpAny _ _ (spliced ((false, eval (.Lambda params body scope lpos) X.env) :: backTo pos (starEach [] X.env))) _ _ s
  have mk := d_lam0 (X := X) (G := G) (ls := fun _ r => LamIs X L r) (pos := lpos) 0 M (fun r h => h) at_ h1 h2 h3 hp h0 hdef
  refine Calls.spliced_cons (thn (mk.run pins s σ H (fun v H1 => ∃ r, LamIs X L r ∧ FnV H1 v r ∧ Ext ρ H H1 ∧ DInv G H0 ρ0 ρ σ H1 E) I (tFn.use J (fun r hr => hr) fun r li v H1 e1 J1 fv => ⟨r, li, fv, e1, J1⟩)) fun u s1 ⟨v, HY, I3, rv, r, li, fv, e1, J1⟩ => ?_)
  obtain ⟨f, ev, hf, hc, hdf⟩ := fv
  subst ev
  obtain rfl : u = Value.ref f := rv
  refine Calls.spliced_nil ⟨I3.kIn, ?_⟩
  obtain ⟨ws, ew, ha⟩ := caught_args J1 hca'
  obtain ⟨B, eF, hrun⟩ := go.run
  have cap : NdefX.Caps X (cloFrom X.env.cells L.scope.names []) L.fr L.js := NdefX.Caps.made I3.ok at_.free at_.fr at_.js
  have C1 : NdefX.CellsAt r.cl L.fr (ws.map some) s1.heap HY := by
    rw [li.cl, ← ew]
    exact NdefX.cells_of I3 cap
  obtain ⟨oc, od, dV, kV, doc, pm, an, ct, osl, rfl, lk, hcd⟩ := F.ex
  have rc : codeAny (model X.prog X.w) X.A (.call (.ref g) ⟨[.ref f], []⟩) (CR C8.CX0 X.stack X.prog X.w HY s1 Q C8.E0) s1 := by
    refine LamX.run_ofS (k := k + 1) (N := Ng) (ps := [a]) (us := [.ref f]) (vs := [.ref f]) lk hcd S hr I3.env0 (hb s1 [.ref f] I3.kIn rfl) (.cons rfl .nil) rfl fun hr' => ?_
    have act : Acts (cxOf C8.CX0 X.prog X.w X.K X.mg X.base Ng x (defScope st) g cdv X.A X.stack s1 HY C8.E0).nox a f (fun E HZ Q' => HZ f = some (LamO f r) ∧ HZ r.c = some (LamX.CodeO r.c r.q) ∧ DfOk HZ r ∧ spX G L.F (parV r.par ++ ws) HZ Q' E) := fun W pn xe E p1 p2 tk hW => ⟨fun pinsZ sZ σZ HZ Q' IZ hZ => by
      obtain ⟨q0, zf, zc, zd, zs⟩ := hZ
      refine wpAny_Call_Name_kw (thn ((pe_var (pos := p1) (i := 0) hNg hva hda hca).run pinsZ sZ σZ HZ (fun v H1 => v = .ref f ∧ H1 = HZ) IZ ⟨.ref f, q0, rfl, rfl⟩) fun u s4 ⟨v, HW, I1, r1, q1⟩ => ?_)
      obtain ⟨ev, eH⟩ := q1
      subst ev
      rw [eH] at I1
      obtain rfl : u = Value.ref f := r1
      obtain ⟨⟨od2, sl2, pm2, ctv2, ho⟩, _, _⟩ := I1.hok f _ zf
      refine PySem.W.callWith_F0 ⟨_, _, _, _, ho⟩ ?_
      have C2 : NdefX.CellsAt r.cl L.fr (ws.map some) s4.heap HZ := cells_later C1 (fun y c e z => by cases z) I1
      have rc2 := run_lam (k := k) (r := r) (N := L.N) (fr := L.fr) (B := B) (G := G) (Q := Q') (E := E) (ws := ws) I1 hr' zf zc zd (by rw [li.pr, li.pa, li.bo, li.sc]; exact go.binds) (by rw [li.pr, li.sc]; exact go.ns) C2
        (by
          obtain ⟨rp, rb, rs, rq, rcl, rcc, rdv, rpar⟩ := r
          obtain ⟨e1, e2, e3, e4, e5, e6⟩ := li
          cases e1; cases e2; cases e3; cases e4; cases e6
          exact fun A outer s H E hr W Px tk => hrun rcl rcc rdv f A outer s H E hr W Px tk) (by rw [li.pr, ← eF]; rw [← li.pr]; exact zs)
      have hx := passes_call tk hW
      refine wpAny_call (codeAny_mono rc2 fun r s' hq => ?_)
      cases r with
      | error e => exact hx pinsZ σZ HZ s4 e s' I1 hq
      | ok fl =>
        cases fl with
        | ret u => exact I1.after hq
        | next => exact False.elim hq
        | brk => exact False.elim hq
        | cont => exact False.elim hq⟩
    have sp : spX G L.F (parV r.par ++ ws) HY (fun _ H' => Q .non H') (refE G ρ R Q) := by
      refine ⟨ρ, parS L.par ++ as, _, by rw [li.pr]; exact par_args HY ρ L.par ha, J1.g, J1.row, hF, fun d hd v H' x1 g1 r1 _ => ?_, fun e he H' d x1 g1 r1 fo => ?_⟩
      · obtain rfl : z = .none := hd
        exact kk _ hz .non H' (e1.trans x1) g1 r1 .non
      · refine ⟨e, z, rfl, ?_, he, g1, r1, fun v H'' x2 g2 r2 rp => kk _ hz v H'' ((e1.trans x1).trans x2) g2 r2 rp⟩
        cases hfd : e.fld with
        | none => rw [hfd] at fo; exact fo
        | some q =>
          obtain ⟨fx, pd⟩ := q
          rw [hfd] at fo
          obtain ⟨dx, v, w1, w2, w3, _⟩ := fo
          exact ⟨dx, v, w1, w2, w3⟩
    obtain ⟨t', ht', hq'⟩ := hG X.A X.stack s1 HY ρ hr' f _ HY Q act ⟨hf, hc, hdf, sp⟩
    exact ⟨t', ht'.nox, hq'⟩
  refine wpAny_call (codeAny_mono rc fun r s' hq => ?_)
  cases r with
  | error e => exact (show False from hq).elim
  | ok fl =>
    cases fl with
    | ret u => exact I3.after hq
    | next => exact False.elim hq
    | brk => exact False.elim hq
    | cont => exact False.elim hq
end
end DL
set_option Elab.async false
set_option linter.all false
set_option maxRecDepth 100000
set_option maxHeartbeats 4000000
/-! defs as values: walked in a list, called by a local name -/
namespace DL
open PySem PySem.Spec PyProof.Rows L2
def tRefs : List Addr → TA
  | [] => tNil
  | a :: as => tCons (tC (.ref a)) (tRefs as)
theorem tRefs_ok {σ : L2.St} {H : Hp} : ∀ {as : List Addr} {Q : List V → Hp → Prop}, Q (as.map V.ref) H → tRefs as σ H Q
  | [], Q, h => h
  | a :: as, Q, h => tRefs_ok (as := as) (Q := fun vs H2 => Q (.ref a :: vs) H2) h
def forA (i : Nat) (body : Fs) : List Addr → Fs
  | [], E, Q => Q (.nx E)
  | a :: as, E, Q => body (E.set i (.adr a)) fun o => match o with
    | .nx E' => forA i body as E' Q
    | .ct E' => forA i body as E' Q
    | .bk E' => Q (.nx E')
    | .rt d => Q (.rt d)
section
variable {X : Cx} {G : Gb} {a b c e tg : Expr} {f g h : Fe} {fl gl : Fi} {pos p : Pos} {H0 H H' : Hp} {ρ0 ρ : Option Addr} {σ : L2.St} {E : Ed} {k : Nat} {fs : Fs}
/-- for x in [f, g, ..]: -/
theorem s_forA (i : Nat) (as : List Addr) {x : Str} {es : List Expr} {body : List Stmt} {px lp : Pos} (hp : PassesOwn (model X.prog X.w) X.A X.env X.xe) (hc : X.calm = true) (hN : X.N.Nodup) (few : as.length ≤ 1000) (ha : PA X es (tRefs as)) (hb : DSs G X body fs) (hi : X.N[i]? = some x := by rfl)
    (hx : Loc X.env.scope x := by first | exact Or.inl rfl | exact Or.inr rfl) (hf : X.fn x = true ∨ X.env.scope.names.lookup x = some .local := by first | exact .inl rfl | exact .inr rfl) (hs : ∀ x, foldedSetIterable (.List es lp) X.env x = pure x := by intro _; rfl) :
    DS G X (.For (.Name x px) (.List es lp) body [] pos) (forA i fs as) :=
  PS.weak (ps_for hp hc (pi_list (pe_frz (pe_lst ha))) (pg_name hN hi hx hf) hb hs) fun D σ H ⟨H0, ρ0, ρ, E, P, I, h, k1, k2, k3, k4⟩ => by
    have lenW : as.length ≤ sizeLine := Nat.le_trans few (by decide)
    refine tRefs_ok ⟨by rw [List.length_map]; exact lenW, fun p hp => ?_⟩
    have I1 : DInv G H0 ρ0 ρ σ (upd H p (.lst (as.map V.ref))) E := I.new hp
    have e1 : Ext ρ H (upd H p (.lst (as.map V.ref))) := (Ext.refl ρ H).upd hp
    refine ⟨p, _, rfl, upd_same, True.intro, fun od => ?_⟩
    obtain ⟨e2, I2, s2⟩ := I.fresh_put (o := .frz od (.lst (as.map V.ref))) e1 I1 (Fr0.of_none hp) upd_same chg_lst
    generalize hHH : upd (upd H p (.lst (as.map V.ref))) p (.frz od (.lst (as.map V.ref))) = HH at e2 I2 s2
    have fz : HH p = some (.frz od (.lst (as.map V.ref))) := by rw [← hHH]; exact upd_same
    refine ⟨p, rfl, ⟨_, .inl (.inr ⟨od, fz⟩)⟩, ?_⟩
    refine ⟨fun j m σ2 H2 => ∃ ρ2 E2, DInv G H0 ρ0 ρ2 σ2 H2 E2 ∧ ExtS HH H2 ∧ j + m = as.length ∧ forA i fs (as.drop j) E2 P, ⟨as.length, ρ, E, I2, ExtS.refl _, Nat.zero_add _, h⟩, ?_⟩
    rintro j m σ2 H2 ⟨ρ2, E2, J2, x2, em, hh⟩
    have sq : SqL X.K H2 p (as.map V.ref) := .inl (.inr ⟨od, x2 _ _ fz True.intro⟩)
    by_cases hlt : j < as.length
    · have ed : as.drop j = as[j] :: as.drop (j + 1) := List.drop_eq_getElem_cons hlt
      rw [ed] at hh
      have hv : (as.map V.ref)[j]? = some (.ref as[j]) := by rw [List.getElem?_map, List.getElem?_eq_getElem hlt]; rfl
      refine .inr ⟨⟨_, _, sq, hv⟩, fun σ3 H3 => ∃ ρ2 E2, DInv G H0 ρ0 ρ2 σ3 H3 E2 ∧ ExtS HH H3 ∧ forA i fs (as.drop (j + 1)) E2 P, fun σ3 H3 ⟨ρ3, E3, q1, q2, q3⟩ => ⟨m - 1, by omega, ρ3, E3, q1, q2, by omega, q3⟩, fun x H3 ⟨y1, y2⟩ => ?_⟩
      subst y1
      have ex := y2 _ sq
      rw [hv] at ex
      cases ex
      have J3 : DInv G H0 ρ0 ρ2 (σ2.set i (some (.ref as[j]))) H3 (E2.set i (.adr as[j])) := J2.set rfl rfl
      exact ⟨H0, ρ0, ρ2, _, _, J3, hh, fun E' hE ρ' σ' H' x I' => ⟨ρ', E', I', x2.trans x, hE⟩, k2, fun E' hE ρ' σ' H' x I' => k1 E' hE ρ' σ' H' ((e2.toS.trans x2).trans x) I', fun E' hE ρ' σ' H' x I' => ⟨ρ', E', I', x2.trans x, hE⟩⟩
    · rw [List.drop_of_length_le (by omega)] at hh
      exact .inl ⟨⟨_, sq, by rw [List.length_map]; omega⟩, k1 _ hh ρ2 σ2 H2 (e2.toS.trans x2) J2⟩
/-- x(..), x a local that is one of some defs -/
def eCallA (px : ExD → Prop) (i : Nat) (tbl : List (Addr × FfX)) (fa : Ed → Dm (List Sl)) : Fe := fun E Q => ∃ en, en ∈ tbl ∧ E[i]? = some (.adr en.1) ∧ fa E fun as => en.2 as fun o => match o with
  | .ret d => Q d
  | .exc e => px e
theorem d_callA {W : WX} {Px : ExD → Prop} {fa : Ed → Dm (List Sl)} {x : Str} {es : List Expr} (i : Nat) (tbl : List (Addr × FfX)) (O : ∀ en ∈ tbl, PySem.W.keepIn X.K (.ref en.1) = true ∧ ∃ fd ps, Binds X.K fd ps [] ∧ FnOk X.prog X.w X.K X.mg X.base (L2.CX X.prog X.w) k en.1 fd ps (spX G en.2)) (tk : Takes X W) (hr : Room k X.A)
    (ha : DA (G.wx W Px) X (e :: es) fa) (hi : X.N[i]? = some x := by rfl) (hv : Vis X.env.scope x := by first | exact Or.inl rfl | exact Or.inr (Or.inl rfl) | exact Or.inr (Or.inr rfl)) (hd : (x == ("__debug__" : Str)) = false := by decide) (hcd : (x == ("__classdict__" : Str)) = false := by decide)
    (he : starEach (e :: es) X.env = (false, eval e X.env) :: starEach es X.env := by rfl) (hpl : (backTo pos (starEach es X.env)).any (·.1) = false := by rfl) :
    DE (G.wx W Px) X (.Call (.Name x p) (e :: es) [] pos) (eCallA Px i tbl fa) := by
  refine ⟨fun pins s σ H Q I ⟨H0, ρ0, ρ, E, P, J, ⟨en, hen, hsl, h⟩, kk⟩ => ?_⟩
  obtain ⟨hk, fd, ps, hb, F⟩ := O en hen
  have h1 := J.slot i _ hsl
  refine wpAny_Call_Name_kw (thn ((pe_var (pos := p) (i := i) hi hv hd hcd).run pins s σ H (fun v H1 => v = .ref en.1 ∧ H1 = H) I ⟨.ref en.1, h1, rfl, rfl⟩) fun u s1 ⟨v, HW, I1, r1, q1⟩ => ?_)
  obtain ⟨ev, eH⟩ := q1
  subst ev
  rw [eH] at I1
  obtain rfl : u = Value.ref en.1 := r1
  refine PySem.W.callWith_K (h₀ := X.base) I1.ok.mod.kin hk (thn (ha.run pos pins s1 σ H _ I1 (tA.use J h fun as has vs H2 e2 J2 r2 => ?_)) fun us s2 ⟨vs, H2, I2, r2, q⟩ => ⟨I2.kIn, run_fn (E := fun cls d H' => ∀ σ', W cls d σ' H') (dvs := []) (ds := []) F hr hb .nil (passes_call tk fun cls d σ H h => h σ) I2 r2 q⟩) he hpl
  show spX G en.2 (vs ++ []) H2 Q _
  rw [List.append_nil]
  exact ⟨ρ, as, _, r2, J2.g, J2.row, has, fun d hd v H3 e3 g3 r3 rp => kk d hd v H3 (e2.trans e3) g3 r3 rp, fun ex hx H3 d e3 g3 r3 fo σ' => J2.xc ex hx σ' H3 d (J2.entry e3) g3 (J2.to e3 g3 r3).row0 (fo.back J2)⟩
end
end DL
set_option Elab.async false
set_option linter.all false
set_option maxRecDepth 100000
set_option maxHeartbeats 4000000
/-! C(..), C's __init__ raising -/
namespace DL
open PySem PySem.Spec PyProof.Rows L2
theorem GbOk.wx {G : Gb} {P : Addr} {W : WX} {Px : ExD → Prop} (h : GbOk G P) : GbOk (G.wx W Px) P := ⟨h.1, h.2⟩
section
variable {X : Cx} {G : Gb} {e : Expr} {pos p : Pos} {k : Nat}
def eMakeX (px : ExD → Prop) (F : FfX) (fa : Ed → Dm (List Sl)) : Fe := fun E _ => fa E fun as => ∀ a, F (.adr a :: as) fun o => match o with
  | .ret _ => False
  | .exc e => px e
theorem d_makeX {W : WX} {Px : ExD → Prop} {F : FfX} {fa : Ed → Dm (List Sl)} {x : Str} {C fn : Addr} {fd : FuncData} {ps : List Str} {es : List Expr} (M : Mk X.K C fn) (O : FnOk X.prog X.w X.K X.mg X.base (L2.CX X.prog X.w) k fn fd ps (spX G F)) (tk : Takes X W) (hr : Room (k + 1) X.A) (hg : Gl X x) (hm : X.mg x = some (.ref C)) (hb : Binds X.K fd ps [])
    (ha : DA (G.wx W Px) X (e :: es) fa) (hdb : (x == ("__debug__" : Str)) = false := by decide) (he : starEach (e :: es) X.env = (false, eval e X.env) :: starEach es X.env := by rfl) (hpl : (backTo pos (starEach es X.env)).any (·.1) = false := by rfl) :
    DE (G.wx W Px) X (.Call (.Name x p) (e :: es) [] pos) (eMakeX Px F fa) :=
  PE.weak (pe_make (pos := pos) (p := p) (E := fun cls d H' => ∀ σ', W cls d σ' H') M O hr hg hm hb .nil (passes_call tk fun cls d σ H h => h σ) ha hdb he hpl) fun σ H Q ⟨H0, ρ0, ρ, E, P, I, h, kk⟩ => tA.use I h fun as has vs H1 e1 I1 r1 => by
    show ∀ x dx, H1 x = none → H1 dx = none → dx ≠ x → spX G F (.ref x :: (vs ++ [])) (upd (upd H1 dx (.own x)) x (.ins C dx [])) _ _
    intro x dx nx nd ne
    rw [List.append_nil]
    have same : Grow H1 (upd (upd H1 dx (.own x)) x (.ins C dx [])) := fun b o hb => by
      rw [upd_ne (ne_of_none hb nx), upd_ne (ne_of_none hb nd)]; exact hb
    have I2 := I1.grow same
    exact ⟨ρ, .adr x :: as, _, .adr (r1.ext (same.ext ρ).toS), I2.g, I2.row, has x, fun d hd v H2 e2 g2 r2 rp => hd.elim, fun ex hx H2 d e2 g2 r2 fo σ' => I2.xc ex hx σ' H2 d (I2.entry e2) g2 (I2.to e2 g2 r2).row0 (fo.back I2)⟩
end
end DL
set_option Elab.async false
set_option linter.all false
set_option maxRecDepth 100000
set_option maxHeartbeats 4000000
/-! tuple * int; name *= int; comprehensions over some defs; projections of statements -/
namespace DL
open PySem PySem.Spec PyProof.Rows L2
section
variable {X : Cx} {G : Gb} {a b c e tg : Expr} {f g h : Fe} {fl gl : Fi} {pos p : Pos} {H0 H H' : Hp} {ρ0 ρ : Option Addr} {σ : L2.St} {E : Ed} {k : Nat} {fs : Fs}
/-- a tuple so many times -/
def oRepT : Od := fun x y Q => ∃ (xs : List PyData) (n : Nat), x = .tuple xs ∧ y = .int n ∧ xs ≠ [] ∧ 2 ≤ n ∧ n ≤ 1000 ∧ xs.length ≤ 1000 ∧ Q (.tuple (List.replicate n xs).flatten)
theorem rp_repT {xs : List V} {ds : List PyData} (r : RpAll H xs ds) : ∀ n : Nat, RpAll H (List.replicate n xs).flatten (List.replicate n ds).flatten
  | 0 => .nil
  | n + 1 => by
    rw [List.replicate_succ, List.replicate_succ, List.flatten_cons, List.flatten_cons]
    exact r.append (rp_repT r n)
theorem opD_repT : OpD G (rRepT X.K) oRepT := by
  intro H0 ρ0 ρ σ H E x y a b P Q I ra rb ⟨xs, n, ea, eb, h0, h1, h2, h3, h⟩ k
  subst ea eb
  cases rb
  cases ra with
  | @tup q vs _ e1 e2 =>
    refine ⟨q, n, vs, rfl, rfl, .inl (.inl e1), fun z => h0 ?_, by omega, by omega, by rw [e2.length]; exact h3, fun p hp => ?_⟩
    · subst z
      cases e2
      rfl
    · rw [Int.toNat_natCast]
      have eG := (Ext.refl ρ H).upd (o := .tup (List.replicate n vs).flatten) hp
      exact k _ h _ _ eG (I.new hp) (.tup upd_same (rp_repT (e2.ext eG.toS) n))
theorem d_repT (ha : DE G X a f) (hb : DE G X b g) : DE G X (.BinOp a .Mult b pos) (eOp oRepT f g) := d_bin op_repT opD_repT ha hb
/-- name *= int -/
def sAugM (i : Nat) (f : Fe) : Fs := fun E Q => ∃ m, E[i]? = some (.val (.int m)) ∧ f E fun d => ∃ n, d = .int n ∧ CMul m n ∧ Q (.nx (E.set i (.val (.int (m * n)))))
theorem s_augM (i : Nat) {x : Str} {pos' : Pos} (hN : X.N.Nodup) (he : DE G X e f) (hi : X.N[i]? = some x := by rfl) (hx : Loc X.env.scope x := by first | exact Or.inl rfl | exact Or.inr rfl) (hf : X.fn x = true ∨ X.env.scope.names.lookup x = some .local := by first | exact .inl rfl | exact .inr rfl) :
    DS G X (.AugAssign (.Name x pos') .Mult e pos) (sAugM i f) := PS.weak (ps_aug (ti := rI CMul fun i j => .int (i * j)) hN hi hx he iop_mul hf) fun D σ H ⟨H0, ρ0, ρ, E, P, I, ⟨m, hm, h⟩, k1, k2, k3, k4⟩ => by
  obtain ⟨v, hv, r⟩ := I.slot i _ hm
  cases r
  exact ⟨_, hv, tE.use I h fun d ⟨n, ed, hc, hd⟩ w H1 e1 I1 r1 => by
    subst ed
    cases r1
    exact ⟨m, n, rfl, rfl, hc, k1 _ hd ρ _ H1 e1.toS (I1.set rfl ⟨_, rfl, .int _⟩)⟩⟩
/-! ### [e for x in [f, g, ..]] -/
def compA (i : Nat) (f : Fe) (E : Ed) : List Addr → Dm (List PyData)
  | [], Q => Q []
  | a :: as, Q => f (E.set i (.adr a)) fun y => compA i f E as fun ys => Q (y :: ys)
def nCompA (i : Nat) (as : List Addr) (f : Fe) (vs : List Nat) : Fi := fun E Q => compA i f (wipeE E vs) as Q
theorem dn_compA (i : Nat) (as : List Addr) {elt : Expr} {scope : Scope} {own : List (Str × Nat)} {x : Str} {es : List Expr} {px lp : Pos} (hc : X.calm = true) (hN : X.N.Nodup) (few : as.length ≤ 1000) (ha : PA X es (tRefs as)) (ok : BlkOk X.N X.env.scope scope own) (his : i ∈ own.map (·.2))
    (hg : ∀ (s : Shared) (H : Hp) (C : Addr) (cl : List (Str × Addr)) (fp : List Addr), PG (X.blk s H scope (compEnvC scope cl C X.env) fp) (.Name x px) (gName i))
    (he : ∀ (s : Shared) (H : Hp) (C : Addr) (cl : List (Str × Addr)) (fp : List Addr), DE G (X.blk s H scope (compEnvC scope cl C X.env) fp) elt f) (hs : ∀ x, foldedSetIterable (.List es lp) X.env x = pure x := by intro _; rfl) :
    DN G X (.ListComp elt [⟨.Name x px, .List es lp, [], 0⟩] scope pos) (nCompA i as f (own.map (·.2))) :=
  PE.weak (pe_lc hc hN (pi_list (pe_frz (pe_lst ha))) ok hg (fun _ _ _ _ _ => pts_nil) he hs) fun σ H Q ⟨H0, ρ0, ρ, E, P, I, h, kk⟩ => by
    have lenW : as.length ≤ sizeLine := Nat.le_trans few (by decide)
    refine tRefs_ok ⟨by rw [List.length_map]; exact lenW, fun p hp => ?_⟩
    have I1 : DInv G H0 ρ0 ρ σ (upd H p (.lst (as.map V.ref))) E := I.new hp
    have e1 : Ext ρ H (upd H p (.lst (as.map V.ref))) := (Ext.refl ρ H).upd hp
    refine ⟨p, _, rfl, upd_same, True.intro, fun od => ?_⟩
    obtain ⟨e2, I2, s2⟩ := I.fresh_put (o := .frz od (.lst (as.map V.ref))) e1 I1 (Fr0.of_none hp) upd_same chg_lst
    generalize hHH : upd (upd H p (.lst (as.map V.ref))) p (.frz od (.lst (as.map V.ref))) = HH at e2 I2 s2
    have fz : HH p = some (.frz od (.lst (as.map V.ref))) := by rw [← hHH]; exact upd_same
    refine ⟨p, rfl, ⟨_, .inl (.inr ⟨od, fz⟩)⟩, fun D hD => ?_⟩
    have fD : Fr0 HH D := Fr0.of_none hD
    refine ⟨fun j m H2 => ∃ acc ys, H2 D = some (.lst acc) ∧ RpAll H2 acc ys ∧ j + m = as.length ∧ acc.length ≤ j ∧ DInv G H0 ρ0 ρ σ H2 E ∧ Ext ρ HH H2 ∧ compA i f (wipeE E (own.map (·.2))) (as.drop j) fun zs => P (ys ++ zs),
      ⟨as.length, [], [], upd_same, .nil, Nat.zero_add _, Nat.le_refl _, I2.new hD, (Ext.refl ρ HH).upd hD, h⟩, ?_⟩
    rintro j m H2 ⟨acc, ys, hA, rA, em, hl, J2, x2, hc2⟩
    have sq : SqL X.K H2 p (as.map V.ref) := .inl (.inr ⟨od, x2.toS _ _ fz True.intro⟩)
    by_cases hlt : j < as.length
    · have ed : as.drop j = as[j] :: as.drop (j + 1) := List.drop_eq_getElem_cons hlt
      rw [ed] at hc2
      have hv : (as.map V.ref)[j]? = some (.ref as[j]) := by rw [List.getElem?_map, List.getElem?_eq_getElem hlt]; rfl
      refine .inr ⟨⟨_, _, sq, hv⟩, fun H' => ∃ acc ys, H' D = some (.lst acc) ∧ RpAll H' acc ys ∧ acc.length ≤ j + 1 ∧ DInv G H0 ρ0 ρ σ H' E ∧ Ext ρ HH H' ∧ compA i f (wipeE E (own.map (·.2))) (as.drop (j + 1)) fun zs => P (ys ++ zs),
        fun H' ⟨acc, ys, q1, q2, q3, q4, q5, q6⟩ => ⟨m - 1, by omega, acc, ys, q1, q2, by omega, q3, q4, q5, q6⟩, fun x H3 ⟨y1, y2⟩ => ?_⟩
      subst y1
      have ex := y2 _ sq
      rw [hv] at ex
      cases ex
      have J3 : DInv G H0 ρ0 ρ ((wipe σ (own.map (·.2))).set i (some (.ref as[j]))) H3 ((wipeE E (own.map (·.2))).set i (.adr as[j])) := (J2.wiped (own.map (·.2))).set (i := i) (x := .ref as[j]) (sl := .adr as[j]) rfl rfl
      refine ⟨?_, ?_⟩
      · rw [wipe_set _ i _ _ his]
        exact wipe_wipe σ _ _ fun i hi => hi
      · refine tE.use J3 hc2 fun y hy v H5 e5 J5 ry => ?_
        have I5 := J2.to e5 J5.g J5.row
        have hA5 : H5 D = some (.lst acc) := e5 _ _ hA (fun ps z => by cases z) fun z => absurd z (I2.noRow fD)
        have rA5 := rA.ext e5.toS
        obtain ⟨f1, f2, f3⟩ := I2.fresh_put (o := .lst (acc ++ [v])) (x2.trans e5) I5 fD hA5 chg_lst
        refine ⟨acc, hA5, by omega, acc ++ [v], ys ++ [y], upd_same, (rA5.ext f3).append (.cons (ry.ext f3) .nil), by rw [List.length_append]; show acc.length + 1 ≤ _; omega, f2, f1, ?_⟩
        have : (fun zs => P (ys ++ [y] ++ zs)) = fun zs => P (ys ++ y :: zs) := by funext zs; rw [List.append_assoc]; rfl
        rw [this]
        exact hy
    · rw [List.drop_of_length_le (by omega)] at hc2
      have hP : P (ys ++ []) := hc2
      rw [List.append_nil] at hP
      refine .inl ⟨⟨_, sq, by rw [List.length_map]; omega⟩, kk _ hP D acc H2 (e2.trans x2) J2.g J2.row ?_ hA rA⟩
      exact e2.free I2.row hD
end
/-! ### projections, for the words of lambdas within statements -/
def forB : Stmt → List Stmt
  | .For _ _ b _ _ => b
  | _ => []
def ifT : Stmt → Expr
  | .If t _ _ _ => t
  | _ => .Constant .none 0 ⟨0, 0, 0, 0⟩
def retV : Stmt → Expr
  | .Return (some e) _ => e
  | _ => .Constant .none 0 ⟨0, 0, 0, 0⟩
def cmpL : Expr → Expr
  | .Compare a _ _ _ => a
  | e => e
def callA0 : Expr → Expr
  | .Call _ (a :: _) _ _ => a
  | e => e
def lcElt : Expr → Expr
  | .ListComp e _ _ _ => e
  | e => e
def lcScope : Expr → Scope
  | .ListComp _ _ s _ => s
  | _ => defScope (.Pass ⟨0, 0, 0, 0⟩)
def classB : Stmt → List Stmt
  | .ClassDef _ _ _ b _ _ _ _ _ _ _ => b
  | _ => []
/-! ### facts about classes with an __init__ of their own, by evaluation -/
def oexB (K : PySem.W.Frag) (C : Addr) : Bool := match K.lookup C with
  | some ⟨.type "type", _, .cls cd, sl⟩ => (match cd.mro, sl.toList with
    | .ref C' :: bm, [_, _, _, _, some (.builtin n), _] => C' == C && (n == "ValueError.__new__" && (!cd.hasDel && (cd.hasDict && PySem.HandSPX.refsVE bm)))
    | _, _ => false)
  | _ => false
theorem oexB_of {K : PySem.W.Frag} {C : Addr} (q : oexB K C = true) : ∃ nm qn N bs bm sn sub ab col dd k0 k1 k2 k3 k5, K.lookup C = some (excClassObj nm qn C N bs bm true sn sub ab col dd k0 k1 k2 k3 k5 "ValueError.__new__") ∧ PySem.HandSPX.refsVE bm = true := by
  unfold oexB at q
  split at q
  · rename_i dd cd sl ho
    split at q
    · rename_i C' bm k0 k1 k2 k3 n k5 hm hs
      simp only [Bool.and_eq_true, beq_iff_eq, Bool.not_eq_true'] at q
      obtain ⟨rfl, rfl, hdel, hdict, ht⟩ := q
      obtain ⟨nm, bs, mro, ns, qn, hd, sn, sub, ab, col, del⟩ := cd
      dsimp only at hm hdel hdict
      subst hm hdel hdict
      have hsl : sl = #[k0, k1, k2, k3, some (.builtin "ValueError.__new__"), k5] := by
        obtain ⟨l⟩ := sl
        simp only at hs
        rw [hs]
      subst hsl
      exact ⟨nm, qn, ns, bs, bm, sn, sub, ab, col, dd, k0, k1, k2, k3, k5, ho, ht⟩
    · cases q
  · cases q
def initB (K : PySem.W.Frag) (x fld : Str) : Bool :=
  oexB K (He.ga K x) && (He.eqO (PySem.W.findIn K (.ref (He.ga K x)) "__setattr__") (some (some (.builtin "object.__setattr__"))) && (decide (PySem.W.subIn K (.ref (He.ga K x)) (.type "BaseException") = some true) && (decide (PySem.W.typeIn K (.ref (He.ga K x)) = some (.type "type")) &&
  (PySem.W.keepIn K (.ref (He.ga K x)) && (He.eqO (PySem.W.findIn K (.ref (He.ga K x)) "__init__") (some (some (.ref (He.ma K (He.ga K x) "__init__")))) && (decide (PySem.W.typeIn K (.ref (He.ma K (He.ga K x) "__init__")) = some (.type "function")) && He.eqO (PySem.W.findIn K (.ref (He.ga K x)) fld) (some none)))))))
theorem initC_of {K : PySem.W.Frag} {x fld : Str} (h : initB K x fld = true) : InitC K x fld ∧ PySem.W.findIn K (.ref (He.ga K x)) fld = some none := by
  unfold initB at h
  simp only [Bool.and_eq_true, decide_eq_true_eq, He.eqO] at h
  obtain ⟨h1, h2, h3, h4, h5, h6, h7, h8⟩ := h
  exact ⟨⟨⟨oexB_of h1, h2, h3, h4, h5⟩, h6, h7⟩, h8⟩
end DL
set_option Elab.async false
set_option linter.all false
set_option maxRecDepth 100000
set_option maxHeartbeats 4000000
/-! the word of an error, with its field: the def's suite, read -/
namespace DL
open PySem PySem.Spec PyProof.Rows L2
inductive RefR : ExD → PyData → Prop
  | house (d : PyData) : RefR ⟨"BadHouse", some ("clerk", d)⟩ (.tuple [.str "house", d])
  | rules (d : PyData) : RefR ⟨"BadRules", some ("part", d)⟩ (.tuple [.str "rules", d])
  | many (d : PyData) : RefR ⟨"TooMany", some ("most", d)⟩ (.tuple [.str "many", d])
  | lot : RefR ⟨"BadLot", none⟩ (.str "lot")
  | number : RefR ⟨"BadNumber", none⟩ (.str "number")
  | slates : RefR ⟨"BadSlates", none⟩ (.str "slates")
  | night : RefR ⟨"BadNight", none⟩ (.str "night")
def fsR1 (ad dx : Addr) (fld w : Str) : Fs := sSeq (sIf (asB (eIsX 1 ad dx fld true)) (sRet (eTup (vCons (eC (.str w)) (vCons (eFld 1 ad dx fld) vNil)))) sNil) sStuck
def fsR2 (ad dx : Addr) (fld w : Str) : Fs := sSeq (sIf (asB (eIsX 1 ad dx fld false)) sStuck sNil) (fsR1 ad dx fld w)
def fsR3 (ad dx : Addr) (fld w : Str) : Fs := sSeq (sIf (asB (eIsX 1 ad dx fld false)) sStuck sNil) (fsR2 ad dx fld w)
theorem fsR1_ok {ad dx : Addr} {fld w : Str} {d : PyData} {P : Out → Prop} (h : P (.rt (.tuple [.str w, d]))) : fsR1 ad dx fld w [.no, .xs ad dx fld d, .no] P :=
  ⟨⟨d, rfl⟩, true, rfl, d, rfl, by show 2 ≤ sizeLine; decide, h⟩
theorem fsR2_ok {ad dx : Addr} {fld w : Str} {d : PyData} {P : Out → Prop} (h : P (.rt (.tuple [.str w, d]))) : fsR2 ad dx fld w [.no, .xs ad dx fld d, .no] P :=
  ⟨⟨d, rfl⟩, false, rfl, fsR1_ok h⟩
theorem fsR3_ok {ad dx : Addr} {fld w : Str} {d : PyData} {P : Out → Prop} (h : P (.rt (.tuple [.str w, d]))) : fsR3 ad dx fld w [.no, .xs ad dx fld d, .no] P :=
  ⟨⟨d, rfl⟩, false, rfl, fsR2_ok h⟩
def fsRef (ad : Addr) (b1 b2 b3 b4 : Bool) : Fs :=
  sSeq (sIf (asB (eIsE 1 ad false)) sStuck sNil)
  (sSeq (sIf (asB (eIsE 1 ad false)) sStuck sNil)
  (sSeq (sIf (asB (eIsE 1 ad false)) sStuck sNil)
  (sSeq (sSet 2 (xL (nLst (vCons (eIsE 1 ad b1) (vCons (eIsE 1 ad b2) (vCons (eIsE 1 ad b3) (vCons (eIsE 1 ad b4) vNil)))))))
  (sRet (eIf (asB (eOp oEq (eCntL 2 (eC (.bool true))) (eC (.int 1)))) (eOp oIx (eFrz (nLst (vCons (eC (.str "lot")) (vCons (eC (.str "number")) (vCons (eC (.str "slates")) (vCons (eC (.str "night")) vNil)))))) (eIdxL 2 (eC (.bool true)))) (eC (.str "other")))))))
theorem fsRef_lot {ad : Addr} {P : Out → Prop} (h : P (.rt (.str "lot"))) : fsRef ad true false false false [.no, .adr ad, .no] P := by
  refine ⟨rfl, _, rfl, ?_⟩
  refine ⟨rfl, _, rfl, ?_⟩
  refine ⟨rfl, _, rfl, ?_⟩
  refine ⟨rfl, rfl, rfl, rfl, by show 4 ≤ sizeLine; decide, ?_⟩
  refine ⟨_, rfl, rfl, rfl, rfl, rfl, by decide +kernel, ⟨rfl, rfl⟩, ⟨rfl, rfl⟩, true, ?_, ?_⟩
  · show PyData.bool (PyData.eqv _ _) = _
    refine congrArg PyData.bool ?_
    decide +kernel
  refine ⟨by show 4 ≤ sizeLine; decide, _, rfl, ⟨rfl, rfl⟩, ⟨rfl, rfl⟩, 0, _, rfl, by decide +kernel, fun m z' hm hz => absurd hm (Nat.not_lt_zero m), _, _, _, rfl, rfl, rfl, h⟩
theorem fsRef_number {ad : Addr} {P : Out → Prop} (h : P (.rt (.str "number"))) : fsRef ad false true false false [.no, .adr ad, .no] P := by
  refine ⟨rfl, _, rfl, ?_⟩
  refine ⟨rfl, _, rfl, ?_⟩
  refine ⟨rfl, _, rfl, ?_⟩
  refine ⟨rfl, rfl, rfl, rfl, by show 4 ≤ sizeLine; decide, ?_⟩
  refine ⟨_, rfl, rfl, rfl, rfl, rfl, by decide +kernel, ⟨rfl, rfl⟩, ⟨rfl, rfl⟩, true, ?_, ?_⟩
  · show PyData.bool (PyData.eqv _ _) = _
    refine congrArg PyData.bool ?_
    decide +kernel
  refine ⟨by show 4 ≤ sizeLine; decide, _, rfl, ⟨rfl, rfl⟩, ⟨rfl, rfl⟩, 1, _, rfl, by decide +kernel, fun m z' hm hz => ?_, _, _, _, rfl, rfl, rfl, h⟩
  match m, hm with
  | 0, _ => cases hz; decide +kernel
theorem fsRef_slates {ad : Addr} {P : Out → Prop} (h : P (.rt (.str "slates"))) : fsRef ad false false true false [.no, .adr ad, .no] P := by
  refine ⟨rfl, _, rfl, ?_⟩
  refine ⟨rfl, _, rfl, ?_⟩
  refine ⟨rfl, _, rfl, ?_⟩
  refine ⟨rfl, rfl, rfl, rfl, by show 4 ≤ sizeLine; decide, ?_⟩
  refine ⟨_, rfl, rfl, rfl, rfl, rfl, by decide +kernel, ⟨rfl, rfl⟩, ⟨rfl, rfl⟩, true, ?_, ?_⟩
  · show PyData.bool (PyData.eqv _ _) = _
    refine congrArg PyData.bool ?_
    decide +kernel
  refine ⟨by show 4 ≤ sizeLine; decide, _, rfl, ⟨rfl, rfl⟩, ⟨rfl, rfl⟩, 2, _, rfl, by decide +kernel, fun m z' hm hz => ?_, _, _, _, rfl, rfl, rfl, h⟩
  match m, hm with
  | 0, _ => cases hz; decide +kernel
  | 1, _ => cases hz; decide +kernel
theorem fsRef_night {ad : Addr} {P : Out → Prop} (h : P (.rt (.str "night"))) : fsRef ad false false false true [.no, .adr ad, .no] P := by
  refine ⟨rfl, _, rfl, ?_⟩
  refine ⟨rfl, _, rfl, ?_⟩
  refine ⟨rfl, _, rfl, ?_⟩
  refine ⟨rfl, rfl, rfl, rfl, by show 4 ≤ sizeLine; decide, ?_⟩
  refine ⟨_, rfl, rfl, rfl, rfl, rfl, by decide +kernel, ⟨rfl, rfl⟩, ⟨rfl, rfl⟩, true, ?_, ?_⟩
  · show PyData.bool (PyData.eqv _ _) = _
    refine congrArg PyData.bool ?_
    decide +kernel
  refine ⟨by show 4 ≤ sizeLine; decide, _, rfl, ⟨rfl, rfl⟩, ⟨rfl, rfl⟩, 3, _, rfl, by decide +kernel, fun m z' hm hz => ?_, _, _, _, rfl, rfl, rfl, h⟩
  match m, hm with
  | 0, _ => cases hz; decide +kernel
  | 1, _ => cases hz; decide +kernel
  | 2, _ => cases hz; decide +kernel
end DL
set_option Elab.async false
set_option linter.all false
set_option maxRecDepth 100000
set_option maxHeartbeats 4000000
/-! law_k07_houses_refused: each def over the data layer (printed by gen.py) -/
namespace K07
open PySem PySem.Spec PyProof.Rows L2 DL
def topS (i : Nat) : Stmt := PySem.Challenge.pw_nightslates_k07_houses_refused.main.body.getD i (.Pass ⟨0, 0, 0, 0⟩)
abbrev s_BadHouse___init__ : Stmt := (classB (topS 3)).getD 0 (.Pass ⟨0, 0, 0, 0⟩)
theorem sc_BadHouse___init__ : FnScope ["self", "clerk"] ["self", "clerk"] (defScope s_BadHouse___init__) := ⟨rfl, rfl, rfl, by decide +kernel, rfl, by decide +kernel, by decide +kernel⟩
abbrev s_BadRules___init__ : Stmt := (classB (topS 6)).getD 0 (.Pass ⟨0, 0, 0, 0⟩)
theorem sc_BadRules___init__ : FnScope ["self", "part"] ["self", "part"] (defScope s_BadRules___init__) := ⟨rfl, rfl, rfl, by decide +kernel, rfl, by decide +kernel, by decide +kernel⟩
abbrev s_TooMany___init__ : Stmt := (classB (topS 9)).getD 0 (.Pass ⟨0, 0, 0, 0⟩)
theorem sc_TooMany___init__ : FnScope ["self", "most"] ["self", "most"] (defScope s_TooMany___init__) := ⟨rfl, rfl, rfl, by decide +kernel, rfl, by decide +kernel, by decide +kernel⟩
abbrev s_is_number : Stmt := topS 12
theorem sc_is_number : FnScope ["value", "low", "high"] ["value", "low", "high"] (defScope s_is_number) := ⟨rfl, rfl, rfl, by decide +kernel, rfl, by decide +kernel, by decide +kernel⟩
abbrev s_need_number : Stmt := topS 13
theorem sc_need_number : FnScope ["value", "low", "high"] ["value", "low", "high"] (defScope s_need_number) := ⟨rfl, rfl, rfl, by decide +kernel, rfl, by decide +kernel, by decide +kernel⟩
abbrev s_is_lot : Stmt := topS 14
theorem sc_is_lot : FnScope ["many", "value", "one", "other"] ["many", "value"] (defScope s_is_lot) := ⟨rfl, rfl, rfl, by decide +kernel, rfl, by decide +kernel, by decide +kernel⟩
abbrev s_need_house : Stmt := topS 15
theorem sc_need_house : FnScope ["value", "clerk", "sights"] ["value"] (defScope s_need_house) := ⟨rfl, rfl, rfl, by decide +kernel, rfl, by decide +kernel, by decide +kernel⟩
abbrev s_need_lot : Stmt := topS 16
theorem sc_need_lot : FnScope ["house", "value"] ["house", "value"] (defScope s_need_lot) := ⟨rfl, rfl, rfl, by decide +kernel, rfl, by decide +kernel, by decide +kernel⟩
abbrev s_need_some : Stmt := topS 17
theorem sc_need_some : FnScope ["house", "value"] ["house", "value"] (defScope s_need_some) := ⟨rfl, rfl, rfl, by decide +kernel, rfl, by decide +kernel, by decide +kernel⟩
abbrev s_after : Stmt := topS 21
theorem sc_after : FnScope ["house", "covered", "coins"] ["house", "covered", "coins"] (defScope s_after) := ⟨rfl, rfl, rfl, by decide +kernel, rfl, by decide +kernel, by decide +kernel⟩
abbrev s_slate_number : Stmt := topS 28
theorem sc_slate_number : FnScope ["house"] ["house"] (defScope s_slate_number) := ⟨rfl, rfl, rfl, by decide +kernel, rfl, by decide +kernel, by decide +kernel⟩
abbrev s_number_of : Stmt := topS 29
theorem sc_number_of : FnScope ["house", "goal"] ["house", "goal"] (defScope s_number_of) := ⟨rfl, rfl, rfl, by decide +kernel, rfl, by decide +kernel, by decide +kernel⟩
abbrev s_need_all : Stmt := topS 30
theorem sc_need_all : FnScope ["house", "coins", "goal"] ["house", "coins", "goal"] (defScope s_need_all) := ⟨rfl, rfl, rfl, by decide +kernel, rfl, by decide +kernel, by decide +kernel⟩
abbrev s_days_to : Stmt := topS 31
theorem sc_days_to : FnScope ["house", "coins", "goal", "row"] ["house", "coins", "goal"] (defScope s_days_to) := ⟨rfl, rfl, rfl, by decide +kernel, rfl, by decide +kernel, by decide +kernel⟩
abbrev s_cover_row : Stmt := topS 32
theorem sc_cover_row : FnScope ["house", "coins", "goal"] ["house", "coins", "goal"] (defScope s_cover_row) := ⟨rfl, rfl, rfl, by decide +kernel, rfl, by decide +kernel, by decide +kernel⟩
abbrev s_shows_cover_row : Stmt := topS 33
theorem sc_shows_cover_row : FnScope ["house", "coins", "goal", "value", "row", "covered", "lot"] ["house", "coins", "goal", "value"] (defScope s_shows_cover_row) := ⟨rfl, rfl, rfl, by decide +kernel, rfl, by decide +kernel, by decide +kernel⟩
abbrev s_closed_family : Stmt := topS 34
theorem sc_closed_family : FnScope ["house", "coins", "goal", "some", "covered", "great", "lot", "other"] ["house", "coins", "goal"] (defScope s_closed_family) := ⟨rfl, rfl, rfl, by decide +kernel, rfl, by decide +kernel, by decide +kernel⟩
abbrev s_shows_closed_family : Stmt := topS 35
theorem sc_shows_closed_family : FnScope ["house", "coins", "goal", "value", "lot", "one", "other", "covered", "here"] ["house", "coins", "goal", "value"] (defScope s_shows_closed_family) := ⟨rfl, rfl, rfl, by decide +kernel, rfl, by decide +kernel, by decide +kernel⟩
abbrev s_need_enemies : Stmt := topS 36
theorem sc_need_enemies : FnScope ["liars", "wipers"] ["liars", "wipers"] (defScope s_need_enemies) := ⟨rfl, rfl, rfl, by decide +kernel, rfl, by decide +kernel, by decide +kernel⟩
abbrev s_bears : Stmt := topS 37
theorem sc_bears : FnScope ["house", "liars", "wipers"] ["house", "liars", "wipers"] (defScope s_bears) := ⟨rfl, rfl, rfl, by decide +kernel, rfl, by decide +kernel, by decide +kernel⟩
abbrev s_lot_bears : Stmt := topS 38
theorem sc_lot_bears : FnScope ["house", "liars", "wipers", "goal"] ["house", "liars", "wipers", "goal"] (defScope s_lot_bears) := ⟨rfl, rfl, rfl, by decide +kernel, rfl, by decide +kernel, by decide +kernel⟩
abbrev s_days_borne : Stmt := topS 39
theorem sc_days_borne : FnScope ["house", "liars", "wipers", "row"] ["house", "liars", "wipers"] (defScope s_days_borne) := ⟨rfl, rfl, rfl, by decide +kernel, rfl, by decide +kernel, by decide +kernel⟩
abbrev s_best_lots : Stmt := topS 40
theorem sc_best_lots : FnScope ["house", "due", "good", "lot"] ["house"] (defScope s_best_lots) := ⟨rfl, rfl, rfl, by decide +kernel, rfl, by decide +kernel, by decide +kernel⟩
abbrev s_morning : Stmt := topS 50
theorem sc_morning : FnScope ["house", "rules", "slates"] ["house", "rules", "slates"] (defScope s_morning) := ⟨rfl, rfl, rfl, by decide +kernel, rfl, by decide +kernel, by decide +kernel⟩
abbrev s_course : Stmt := topS 55
theorem sc_course : FnScope ["house", "rules", "start", "nights", "night"] ["house", "rules", "start", "nights"] (defScope s_course) := ⟨rfl, rfl, rfl, by decide +kernel, rfl, by decide +kernel, by decide +kernel⟩
abbrev s_need_few : Stmt := topS 59
theorem sc_need_few : FnScope ["house", "rules", "liars"] ["house", "rules", "liars"] (defScope s_need_few) := ⟨rfl, rfl, rfl, by decide +kernel, rfl, by decide +kernel, by decide +kernel⟩
abbrev s_tells : Stmt := topS 60
theorem sc_tells : FnScope ["house", "rules", "liars"] ["house", "rules", "liars"] (defScope s_tells) := ⟨rfl, rfl, rfl, by decide +kernel, rfl, by decide +kernel, by decide +kernel⟩
abbrev s_days_told : Stmt := topS 61
theorem sc_days_told : FnScope ["house", "rules", "liars", "found"] ["house", "rules", "liars"] (defScope s_days_told) := ⟨rfl, rfl, rfl, by decide +kernel, rfl, by decide +kernel, by decide +kernel⟩
abbrev s_two_courses : Stmt := topS 62
theorem sc_two_courses : FnScope ["house", "rules", "liars", "found"] ["house", "rules", "liars"] (defScope s_two_courses) := ⟨rfl, rfl, rfl, by decide +kernel, rfl, by decide +kernel, by decide +kernel⟩
abbrev s_shows_two_courses : Stmt := topS 63
theorem sc_shows_two_courses : FnScope ["house", "rules", "liars", "value", "found", "row", "ends", "start", "night"] ["house", "rules", "liars", "value"] (defScope s_shows_two_courses) := ⟨rfl, rfl, rfl, by decide +kernel, rfl, by decide +kernel, by decide +kernel⟩
abbrev s_could_be : Stmt := topS 64
theorem sc_could_be : FnScope ["house", "rules", "liars", "evening", "slates", "nights", "found", "start", "here", "_", "there"] ["house", "rules", "liars", "evening", "slates"] (defScope s_could_be) := ⟨rfl, rfl, rfl, by decide +kernel, rfl, by decide +kernel, by decide +kernel⟩
abbrev s_Bench___init__ : Stmt := (classB (topS 66)).getD 0 (.Pass ⟨0, 0, 0, 0⟩)
theorem sc_Bench___init__ : FnScope ["self", "house", "rules", "start"] ["self", "house", "rules", "start"] (defScope s_Bench___init__) := ⟨rfl, rfl, rfl, by decide +kernel, rfl, by decide +kernel, by decide +kernel⟩
abbrev s_crew : Stmt := topS 69
theorem sc_crew : FnScope ["house", "least"] ["house", "least"] (defScope s_crew) := ⟨rfl, rfl, rfl, by decide +kernel, rfl, by decide +kernel, by decide +kernel⟩
abbrev s_crew_number : Stmt := topS 70
theorem sc_crew_number : FnScope ["house", "least"] ["house"] (defScope s_crew_number) := ⟨rfl, rfl, rfl, by decide +kernel, rfl, by decide +kernel, by decide +kernel⟩
abbrev s_beside : Stmt := topS 71
theorem sc_beside : FnScope ["one", "other", "slate", "sights"] ["one", "other"] (defScope s_beside) := ⟨rfl, rfl, rfl, by decide +kernel, rfl, by decide +kernel, by decide +kernel⟩
abbrev s_with_sight : Stmt := topS 72
theorem sc_with_sight : FnScope ["house", "clerk", "slate"] ["house", "clerk", "slate"] (defScope s_with_sight) := ⟨rfl, rfl, rfl, by decide +kernel, rfl, by decide +kernel, by decide +kernel⟩
abbrev s_best_sight : Stmt := topS 73
theorem sc_best_sight : FnScope ["house", "best", "clerk", "sights", "slate", "found"] ["house"] (defScope s_best_sight) := ⟨rfl, rfl, rfl, by decide +kernel, rfl, by decide +kernel, by decide +kernel⟩
abbrev s_spare_sights : Stmt := topS 74
theorem sc_spare_sights : FnScope ["house", "due", "found", "clerk", "sights", "slate", "rest", "one"] ["house"] (defScope s_spare_sights) := ⟨rfl, rfl, rfl, by decide +kernel, rfl, by decide +kernel, by decide +kernel⟩
abbrev s__law_taken : Stmt := topS 76
theorem sc__law_taken : FnScope ["_law_row", "_law_many", "_law_found", "_law_cell"] ["_law_row", "_law_many"] (defScope s__law_taken) := ⟨rfl, rfl, rfl, by decide +kernel, rfl, by decide +kernel, by decide +kernel⟩
abbrev s__law_pick : Stmt := topS 77
theorem sc__law_pick : FnScope ["_law_row", "_law_things"] ["_law_row", "_law_things"] (defScope s__law_pick) := ⟨rfl, rfl, rfl, by decide +kernel, rfl, by decide +kernel, by decide +kernel⟩
abbrev s__law_refusal : Stmt := topS 78
theorem sc__law_refusal : FnScope ["_law_work", "e", "_law_some"] ["_law_work"] (defScope s__law_refusal) := ⟨rfl, rfl, rfl, by decide +kernel, rfl, by decide +kernel, by decide +kernel⟩
abbrev s__law_house_refused : Stmt := topS 79
theorem sc__law_house_refused : FnScope ["_law_value", "_law_due", "_law_ask"] ["_law_value", "_law_due"] (defScope s__law_house_refused) := ⟨rfl, rfl, rfl, by decide +kernel, rfl, by decide +kernel, by decide +kernel⟩
abbrev s__law_house : Stmt := topS 80
theorem sc__law_house : FnScope ["_law_row", "_law_many", "_law_most", "_law_found", "_law_clerk", "_law_some", "_law_turn"] ["_law_row", "_law_many", "_law_most"] (defScope s__law_house) := ⟨rfl, rfl, rfl, by decide +kernel, rfl, by decide +kernel, by decide +kernel⟩
abbrev s__law_goals_refused : Stmt := topS 81
theorem sc__law_goals_refused : FnScope ["_law_house_here", "_law_bad", "_law_ask"] ["_law_house_here", "_law_bad"] (defScope s__law_goals_refused) := ⟨rfl, rfl, rfl, by decide +kernel, rfl, by decide +kernel, by decide +kernel⟩
abbrev s_law : Stmt := topS 82
theorem sc_law : FnScope ["_law_script", "_law_row", "_law_bad", "_law_turn", "_law_value", "_law_clerk", "_law_house_here", "_law_ask"] ["_law_script"] (defScope s_law) := ⟨rfl, rfl, rfl, by decide +kernel, rfl, by decide +kernel, by decide +kernel⟩
/-! ### what each def computes -/
def F_is_number : Ff := runDef 3 3
  (sRet (eAnd (eIsi isInt (eVar 0)) (eAnd (eNot (eIsi (isTy "bool") (eVar 0))) (eChain oLe oLe (eVar 1) (eVar 0) (eVar 2)))))
def X_need_number : FfX := runX 3 3 fun px =>
  (sIf (bNot (asB (eCall F_is_number (aCons (eVar 0) (aCons (eVar 1) (aCons (eVar 2) aNil)))))) (sRaise px "BadNumber") sNil)
def F_is_lot : Ff := runDef 2 4
  (sSeq (sIf (bOr (bNot (asB (eIsi (isTy "tuple") (eVar 1)))) (bNot (asB (eGen (fun bs => bs.all id) (iVal (eVar 1)) (gNm 2) (eCall F_is_number (aCons (eVar 2) (aCons (eC (.int 0)) (aCons (eOp oSub (eVar 0) (eC (.int 1))) aNil)))) [2])))) (sRet (eC (.bool false))) sNil)
  (sRet (eGen (fun bs => bs.all id) (iZipD (eVar 1) (eSl (eVar 1) (sPart (eC (.int 1))) sNone)) (gTp2 (gNm 2) (gNm 3)) (eOp oLt (eVar 2) (eVar 3)) [2, 3])))
def X_need_house : FfX := runX 1 3 fun px =>
  (sSeq (sIf (bOr (bNot (asB (eIsi (isTy "tuple") (eVar 0)))) (bNot (asB (eChain oLe oLe (eC (.int 1)) (eBlt fLen (vCons (eVar 0) vNil)) (eC (.int 7)))))) (sRaise1 px "BadHouse" "clerk" (eC .none)) sNil)
  (sFor (iEnumD (eVar 0)) (gTp2 (gNm 1) (gNm 2))
  (sIf (bOr (bNot (asB (eCall F_is_lot (aCons (eBlt fLen (vCons (eVar 0) vNil)) (aCons (eVar 2) aNil))))) (asB (eOp oEq (eVar 2) (eTup vNil)))) (sRaise1 px "BadHouse" "clerk" (eVar 1)) sNil)))
def X_need_lot : FfX := runX 2 2 fun px =>
  (sIf (bNot (asB (eCall F_is_lot (aCons (eBlt fLen (vCons (eVar 0) vNil)) (aCons (eVar 1) aNil))))) (sRaise px "BadLot") sNil)
def X_need_some : FfX := runX 2 2 fun px =>
  (sSeq (sExpr (eCallX px X_need_lot (aCons (eVar 0) (aCons (eVar 1) aNil))))
  (sIf (asB (eOp oEq (eVar 1) (eTup vNil))) (sRaise px "BadLot") sNil))
def X_after : FfX := runX 3 3 fun px =>
  (sSeq (sExpr (eCallX px X_need_house (aCons (eVar 0) aNil)))
  (sSeq (sExpr (eCallX px X_need_lot (aCons (eVar 0) (aCons (eVar 1) aNil))))
  (sSeq (sExpr (eCallX px X_need_lot (aCons (eVar 0) (aCons (eVar 2) aNil))))
  sStuck)))
def X_slate_number : FfX := runX 1 1 fun px =>
  (sSeq (sExpr (eCallX px X_need_house (aCons (eVar 0) aNil)))
  sStuck)
def X_number_of : FfX := runX 2 2 fun px =>
  (sSeq (sExpr (eCallX px X_need_house (aCons (eVar 0) aNil)))
  (sSeq (sExpr (eCallX px X_need_some (aCons (eVar 0) (aCons (eVar 1) aNil))))
  sStuck))
def X_need_all : FfX := runX 3 3 fun px =>
  (sSeq (sExpr (eCallX px X_need_house (aCons (eVar 0) aNil)))
  (sSeq (sExpr (eCallX px X_need_number (aCons (eVar 1) (aCons (eC (.int 0)) (aCons (eC (.int 7)) aNil)))))
  (sExpr (eCallX px X_need_some (aCons (eVar 0) (aCons (eVar 2) aNil))))))
def X_days_to : FfX := runX 3 4 fun px =>
  (sSeq (sExpr (eCallX px X_need_all (aCons (eVar 0) (aCons (eVar 1) (aCons (eVar 2) aNil)))))
  sStuck)
def X_cover_row : FfX := runX 3 3 fun px =>
  (sSeq (sExpr (eCallX px X_need_all (aCons (eVar 0) (aCons (eVar 1) (aCons (eVar 2) aNil)))))
  sStuck)
def X_shows_cover_row : FfX := runX 4 7 fun px =>
  (sSeq (sExpr (eCallX px X_need_all (aCons (eVar 0) (aCons (eVar 1) (aCons (eVar 2) aNil)))))
  sStuck)
def X_closed_family : FfX := runX 3 8 fun px =>
  (sSeq (sExpr (eCallX px X_need_all (aCons (eVar 0) (aCons (eVar 1) (aCons (eVar 2) aNil)))))
  sStuck)
def X_shows_closed_family : FfX := runX 4 9 fun px =>
  (sSeq (sExpr (eCallX px X_need_all (aCons (eVar 0) (aCons (eVar 1) (aCons (eVar 2) aNil)))))
  sStuck)
def X_need_enemies : FfX := runX 2 2 fun px =>
  (sSeq (sExpr (eCallX px X_need_number (aCons (eVar 0) (aCons (eC (.int 0)) (aCons (eC (.int 7)) aNil)))))
  (sExpr (eCallX px X_need_number (aCons (eVar 1) (aCons (eC (.int 0)) (aCons (eC (.int 7)) aNil))))))
def X_bears : FfX := runX 3 3 fun px =>
  (sSeq (sExpr (eCallX px X_need_house (aCons (eVar 0) aNil)))
  (sSeq (sExpr (eCallX px X_need_enemies (aCons (eVar 1) (aCons (eVar 2) aNil))))
  sStuck))
def X_lot_bears : FfX := runX 4 4 fun px =>
  (sSeq (sExpr (eCallX px X_need_house (aCons (eVar 0) aNil)))
  (sSeq (sExpr (eCallX px X_need_enemies (aCons (eVar 1) (aCons (eVar 2) aNil))))
  (sSeq (sExpr (eCallX px X_need_some (aCons (eVar 0) (aCons (eVar 3) aNil))))
  sStuck)))
def X_days_borne : FfX := runX 3 4 fun px =>
  (sSeq (sExpr (eCallX px X_need_house (aCons (eVar 0) aNil)))
  (sSeq (sExpr (eCallX px X_need_enemies (aCons (eVar 1) (aCons (eVar 2) aNil))))
  sStuck))
def X_best_lots : FfX := runX 1 4 fun px =>
  (sSeq (sExpr (eCallX px X_need_house (aCons (eVar 0) aNil)))
  sStuck)
def X_morning : FfX := runX 3 3 fun px =>
  (sSeq (sExpr (eCallX px X_need_house (aCons (eVar 0) aNil)))
  sStuck)
def X_course : FfX := runX 4 5 fun px =>
  (sSeq (sExpr (eCallX px X_need_house (aCons (eVar 0) aNil)))
  sStuck)
def X_need_few : FfX := runX 3 3 fun px =>
  (sSeq (sExpr (eCallX px X_need_house (aCons (eVar 0) aNil)))
  sStuck)
def X_tells : FfX := runX 3 3 fun px =>
  (sSeq (sExpr (eCallX px X_need_few (aCons (eVar 0) (aCons (eVar 1) (aCons (eVar 2) aNil)))))
  sStuck)
def X_days_told : FfX := runX 3 4 fun px =>
  (sSeq (sExpr (eCallX px X_need_few (aCons (eVar 0) (aCons (eVar 1) (aCons (eVar 2) aNil)))))
  sStuck)
def X_two_courses : FfX := runX 3 4 fun px =>
  (sSeq (sExpr (eCallX px X_need_few (aCons (eVar 0) (aCons (eVar 1) (aCons (eVar 2) aNil)))))
  sStuck)
def X_shows_two_courses : FfX := runX 4 9 fun px =>
  (sSeq (sExpr (eCallX px X_need_few (aCons (eVar 0) (aCons (eVar 1) (aCons (eVar 2) aNil)))))
  sStuck)
def X_could_be : FfX := runX 5 11 fun px =>
  (sSeq (sExpr (eCallX px X_need_house (aCons (eVar 0) aNil)))
  sStuck)
def X_Bench___init__ : FfX := runX 4 4 fun px =>
  (sSeq (sExpr (eCallX px X_need_house (aCons (eVar 1) aNil)))
  sStuck)
def X_crew : FfX := runX 2 2 fun px =>
  (sSeq (sExpr (eCallX px X_need_house (aCons (eVar 0) aNil)))
  (sSeq (sExpr (eCallX px X_need_number (aCons (eVar 1) (aCons (eC (.int 1)) (aCons (eC (.int 7)) aNil)))))
  sStuck))
def X_crew_number : FfX := runX 1 2 fun px =>
  (sSeq (sExpr (eCallX px X_need_house (aCons (eVar 0) aNil)))
  sStuck)
def X_beside : FfX := runX 2 4 fun px =>
  (sSeq (sExpr (eCallX px X_need_house (aCons (eVar 0) aNil)))
  (sSeq (sExpr (eCallX px X_need_house (aCons (eVar 1) aNil)))
  (sSeq (sIf (asB (eOp oGt (eOp oAdd (eBlt fLen (vCons (eVar 0) vNil)) (eBlt fLen (vCons (eVar 1) vNil))) (eC (.int 7)))) (sRaise1 px "TooMany" "most" (eC (.int 7))) sNil)
  sStuck)))
def X_with_sight : FfX := runX 3 3 fun px =>
  (sSeq (sExpr (eCallX px X_need_house (aCons (eVar 0) aNil)))
  (sSeq (sExpr (eCallX px X_need_number (aCons (eVar 1) (aCons (eC (.int 0)) (aCons (eOp oSub (eBlt fLen (vCons (eVar 0) vNil)) (eC (.int 1))) aNil)))))
  (sSeq (sIf (bOr (bNot (asB (eCall F_is_number (aCons (eVar 2) (aCons (eC (.int 0)) (aCons (eOp oSub (eBlt fLen (vCons (eVar 0) vNil)) (eC (.int 1))) aNil)))))) (asB (eOp (oIn false) (eVar 2) (eOp oIx (eVar 0) (eVar 1))))) (sRaise px "BadNumber") sNil)
  sStuck)))
def X_best_sight : FfX := runX 1 6 fun px =>
  (sSeq (sExpr (eCallX px X_need_house (aCons (eVar 0) aNil)))
  sStuck)
def X_spare_sights : FfX := runX 1 8 fun px =>
  (sSeq (sExpr (eCallX px X_need_house (aCons (eVar 0) aNil)))
  sStuck)
abbrev F__law_taken : Ff := fTaken
def F__law_pick : Ff := runDef 2 2
  (sRet (eOp oIx (eVar 1) (eCall F__law_taken (aRow 0 (aCons (eBlt fLen (vCons (eVar 1) vNil)) aNil)))))
abbrev lamE_0 : Expr := (callA0 (cmpL (ifT ((forB ((defBody s__law_house_refused).getD 0 (.Pass ⟨0, 0, 0, 0⟩))).getD 0 (.Pass ⟨0, 0, 0, 0⟩)))))
def lamB_0 : LamI := { params := lamA lamE_0, body := lamB lamE_0, scope := lamS lamE_0, par := none, fr := ["_law_ask", "_law_value"], js := [2, 0], N := ["_law_ask", "_law_value"], F := fun _ _ => False }
def lam_0 (K : PySem.W.Frag) : LamI := { lamB_0 with F := runL 2 2 fun px => (eCallA px 0 [(He.fAd K ("slate_number", none), X_slate_number), (He.fAd K ("best_lots", none), X_best_lots), (He.fAd K ("crew_number", none), X_crew_number), (He.fAd K ("best_sight", none), X_best_sight), (He.fAd K ("spare_sights", none), X_spare_sights)] (aCons (eVar 1) aNil)) }
theorem lamF_0 (K : PySem.W.Frag) : (lam_0 K).F = runL 2 2 fun px => (eCallA px 0 [(He.fAd K ("slate_number", none), X_slate_number), (He.fAd K ("best_lots", none), X_best_lots), (He.fAd K ("crew_number", none), X_crew_number), (He.fAd K ("best_sight", none), X_best_sight), (He.fAd K ("spare_sights", none), X_spare_sights)] (aCons (eVar 1) aNil)) := rfl
theorem atB_0 : LamAtN ["_law_value", "_law_due", "_law_ask"] (defScope s__law_house_refused) lamB_0 := ⟨by decide +kernel, by decide +kernel, by decide +kernel⟩
theorem at_0 (K : PySem.W.Frag) : LamAtN ["_law_value", "_law_due", "_law_ask"] (defScope s__law_house_refused) (lam_0 K) := ⟨atB_0.free, atB_0.fr, atB_0.js⟩
theorem hf_0 : (("_law_ask" : Str), NameKind.free) ∈ lamB_0.scope.names := by decide +kernel
theorem ns_0 : NdefX.NScope lamB_0.N (parN lamB_0.par) lamB_0.fr lamB_0.scope := NdefX.nscope_by (by decide +kernel)
abbrev lamE_1 : Expr := (callA0 (cmpL (ifT ((forB ((defBody s__law_house_refused).getD 1 (.Pass ⟨0, 0, 0, 0⟩))).getD 0 (.Pass ⟨0, 0, 0, 0⟩)))))
def lamB_1 : LamI := { params := lamA lamE_1, body := lamB lamE_1, scope := lamS lamE_1, par := none, fr := ["_law_ask", "_law_value"], js := [2, 0], N := ["_law_ask", "_law_value"], F := fun _ _ => False }
def lam_1 (K : PySem.W.Frag) : LamI := { lamB_1 with F := runL 2 2 fun px => (eCallA px 0 [(He.fAd K ("number_of", none), X_number_of), (He.fAd K ("crew", none), X_crew), (He.fAd K ("beside", none), X_beside)] (aCons (eVar 1) (aCons (eC .none) aNil))) }
theorem lamF_1 (K : PySem.W.Frag) : (lam_1 K).F = runL 2 2 fun px => (eCallA px 0 [(He.fAd K ("number_of", none), X_number_of), (He.fAd K ("crew", none), X_crew), (He.fAd K ("beside", none), X_beside)] (aCons (eVar 1) (aCons (eC .none) aNil))) := rfl
theorem atB_1 : LamAtN ["_law_value", "_law_due", "_law_ask"] (defScope s__law_house_refused) lamB_1 := ⟨by decide +kernel, by decide +kernel, by decide +kernel⟩
theorem at_1 (K : PySem.W.Frag) : LamAtN ["_law_value", "_law_due", "_law_ask"] (defScope s__law_house_refused) (lam_1 K) := ⟨atB_1.free, atB_1.fr, atB_1.js⟩
theorem hf_1 : (("_law_ask" : Str), NameKind.free) ∈ lamB_1.scope.names := by decide +kernel
theorem ns_1 : NdefX.NScope lamB_1.N (parN lamB_1.par) lamB_1.fr lamB_1.scope := NdefX.nscope_by (by decide +kernel)
abbrev lamE_2 : Expr := (callA0 (cmpL (ifT ((forB ((defBody s__law_house_refused).getD 2 (.Pass ⟨0, 0, 0, 0⟩))).getD 0 (.Pass ⟨0, 0, 0, 0⟩)))))
def lamB_2 : LamI := { params := lamA lamE_2, body := lamB lamE_2, scope := lamS lamE_2, par := none, fr := ["_law_ask", "_law_value"], js := [2, 0], N := ["_law_ask", "_law_value"], F := fun _ _ => False }
def lam_2 (K : PySem.W.Frag) : LamI := { lamB_2 with F := runL 2 2 fun px => (eCallA px 0 [(He.fAd K ("after", none), X_after), (He.fAd K ("days_to", none), X_days_to), (He.fAd K ("cover_row", none), X_cover_row), (He.fAd K ("closed_family", none), X_closed_family), (He.fAd K ("bears", none), X_bears), (He.fAd K ("days_borne", none), X_days_borne), (He.fAd K ("with_sight", none), X_with_sight)] (aCons (eVar 1) (aCons (eC .none) (aCons (eC .none) aNil)))) }
theorem lamF_2 (K : PySem.W.Frag) : (lam_2 K).F = runL 2 2 fun px => (eCallA px 0 [(He.fAd K ("after", none), X_after), (He.fAd K ("days_to", none), X_days_to), (He.fAd K ("cover_row", none), X_cover_row), (He.fAd K ("closed_family", none), X_closed_family), (He.fAd K ("bears", none), X_bears), (He.fAd K ("days_borne", none), X_days_borne), (He.fAd K ("with_sight", none), X_with_sight)] (aCons (eVar 1) (aCons (eC .none) (aCons (eC .none) aNil)))) := rfl
theorem atB_2 : LamAtN ["_law_value", "_law_due", "_law_ask"] (defScope s__law_house_refused) lamB_2 := ⟨by decide +kernel, by decide +kernel, by decide +kernel⟩
theorem at_2 (K : PySem.W.Frag) : LamAtN ["_law_value", "_law_due", "_law_ask"] (defScope s__law_house_refused) (lam_2 K) := ⟨atB_2.free, atB_2.fr, atB_2.js⟩
theorem hf_2 : (("_law_ask" : Str), NameKind.free) ∈ lamB_2.scope.names := by decide +kernel
theorem ns_2 : NdefX.NScope lamB_2.N (parN lamB_2.par) lamB_2.fr lamB_2.scope := NdefX.nscope_by (by decide +kernel)
abbrev lamE_3 : Expr := (callA0 (cmpL (ifT ((forB ((defBody s__law_house_refused).getD 3 (.Pass ⟨0, 0, 0, 0⟩))).getD 0 (.Pass ⟨0, 0, 0, 0⟩)))))
def lamB_3 : LamI := { params := lamA lamE_3, body := lamB lamE_3, scope := lamS lamE_3, par := none, fr := ["_law_ask", "_law_value"], js := [2, 0], N := ["_law_ask", "_law_value"], F := fun _ _ => False }
def lam_3 (K : PySem.W.Frag) : LamI := { lamB_3 with F := runL 2 2 fun px => (eCallA px 0 [(He.fAd K ("morning", none), X_morning), (He.fAd K ("tells", none), X_tells), (He.fAd K ("days_told", none), X_days_told), (He.fAd K ("two_courses", none), X_two_courses)] (aCons (eVar 1) (aCons (eC .none) (aCons (eC .none) aNil)))) }
theorem lamF_3 (K : PySem.W.Frag) : (lam_3 K).F = runL 2 2 fun px => (eCallA px 0 [(He.fAd K ("morning", none), X_morning), (He.fAd K ("tells", none), X_tells), (He.fAd K ("days_told", none), X_days_told), (He.fAd K ("two_courses", none), X_two_courses)] (aCons (eVar 1) (aCons (eC .none) (aCons (eC .none) aNil)))) := rfl
theorem atB_3 : LamAtN ["_law_value", "_law_due", "_law_ask"] (defScope s__law_house_refused) lamB_3 := ⟨by decide +kernel, by decide +kernel, by decide +kernel⟩
theorem at_3 (K : PySem.W.Frag) : LamAtN ["_law_value", "_law_due", "_law_ask"] (defScope s__law_house_refused) (lam_3 K) := ⟨atB_3.free, atB_3.fr, atB_3.js⟩
theorem hf_3 : (("_law_ask" : Str), NameKind.free) ∈ lamB_3.scope.names := by decide +kernel
theorem ns_3 : NdefX.NScope lamB_3.N (parN lamB_3.par) lamB_3.fr lamB_3.scope := NdefX.nscope_by (by decide +kernel)
abbrev lamE_4 : Expr := (callA0 (cmpL (ifT ((forB ((defBody s__law_house_refused).getD 4 (.Pass ⟨0, 0, 0, 0⟩))).getD 0 (.Pass ⟨0, 0, 0, 0⟩)))))
def lamB_4 : LamI := { params := lamA lamE_4, body := lamB lamE_4, scope := lamS lamE_4, par := none, fr := ["_law_ask", "_law_value"], js := [2, 0], N := ["_law_ask", "_law_value"], F := fun _ _ => False }
def lam_4 (K : PySem.W.Frag) : LamI := { lamB_4 with F := runL 2 2 fun px => (eCallA px 0 [(He.fAd K ("shows_cover_row", none), X_shows_cover_row), (He.fAd K ("shows_closed_family", none), X_shows_closed_family), (He.fAd K ("lot_bears", none), X_lot_bears), (He.fAd K ("course", none), X_course), (He.fAd K ("shows_two_courses", none), X_shows_two_courses)] (aCons (eVar 1) (aCons (eC .none) (aCons (eC .none) (aCons (eC .none) aNil))))) }
theorem lamF_4 (K : PySem.W.Frag) : (lam_4 K).F = runL 2 2 fun px => (eCallA px 0 [(He.fAd K ("shows_cover_row", none), X_shows_cover_row), (He.fAd K ("shows_closed_family", none), X_shows_closed_family), (He.fAd K ("lot_bears", none), X_lot_bears), (He.fAd K ("course", none), X_course), (He.fAd K ("shows_two_courses", none), X_shows_two_courses)] (aCons (eVar 1) (aCons (eC .none) (aCons (eC .none) (aCons (eC .none) aNil))))) := rfl
theorem atB_4 : LamAtN ["_law_value", "_law_due", "_law_ask"] (defScope s__law_house_refused) lamB_4 := ⟨by decide +kernel, by decide +kernel, by decide +kernel⟩
theorem at_4 (K : PySem.W.Frag) : LamAtN ["_law_value", "_law_due", "_law_ask"] (defScope s__law_house_refused) (lam_4 K) := ⟨atB_4.free, atB_4.fr, atB_4.js⟩
theorem hf_4 : (("_law_ask" : Str), NameKind.free) ∈ lamB_4.scope.names := by decide +kernel
theorem ns_4 : NdefX.NScope lamB_4.N (parN lamB_4.par) lamB_4.fr lamB_4.scope := NdefX.nscope_by (by decide +kernel)
abbrev lamE_5 : Expr := (callA0 (cmpL (ifT ((defBody s__law_house_refused).getD 5 (.Pass ⟨0, 0, 0, 0⟩)))))
def lamB_5 : LamI := { params := lamA lamE_5, body := lamB lamE_5, scope := lamS lamE_5, par := none, fr := ["_law_value"], js := [0], N := ["_law_value"], F := fun _ _ => False }
def lam_5 (K : PySem.W.Frag) : LamI := { lamB_5 with F := runL 1 1 fun px => (eCallX px X_could_be (aCons (eVar 0) (aCons (eC .none) (aCons (eC .none) (aCons (eC .none) (aCons (eC .none) aNil)))))) }
theorem lamF_5 (K : PySem.W.Frag) : (lam_5 K).F = runL 1 1 fun px => (eCallX px X_could_be (aCons (eVar 0) (aCons (eC .none) (aCons (eC .none) (aCons (eC .none) (aCons (eC .none) aNil)))))) := rfl
theorem atB_5 : LamAtN ["_law_value", "_law_due", "_law_ask"] (defScope s__law_house_refused) lamB_5 := ⟨by decide +kernel, by decide +kernel, by decide +kernel⟩
theorem at_5 (K : PySem.W.Frag) : LamAtN ["_law_value", "_law_due", "_law_ask"] (defScope s__law_house_refused) (lam_5 K) := ⟨atB_5.free, atB_5.fr, atB_5.js⟩
theorem hf_5 : (("_law_value" : Str), NameKind.free) ∈ lamB_5.scope.names := by decide +kernel
theorem ns_5 : NdefX.NScope lamB_5.N (parN lamB_5.par) lamB_5.fr lamB_5.scope := NdefX.nscope_by (by decide +kernel)
abbrev lamE_6 : Expr := (callA0 (cmpL (retV ((defBody s__law_house_refused).getD 6 (.Pass ⟨0, 0, 0, 0⟩)))))
def lamB_6 : LamI := { params := lamA lamE_6, body := lamB lamE_6, scope := lamS lamE_6, par := none, fr := ["_law_value"], js := [0], N := ["_law_value"], F := fun _ _ => False }
def lam_6 (K : PySem.W.Frag) : LamI := { lamB_6 with F := runL 1 1 fun px => (eMakeX px X_Bench___init__ (aCons (eVar 0) (aCons (eC .none) (aCons (eC .none) aNil)))) }
theorem lamF_6 (K : PySem.W.Frag) : (lam_6 K).F = runL 1 1 fun px => (eMakeX px X_Bench___init__ (aCons (eVar 0) (aCons (eC .none) (aCons (eC .none) aNil)))) := rfl
theorem atB_6 : LamAtN ["_law_value", "_law_due", "_law_ask"] (defScope s__law_house_refused) lamB_6 := ⟨by decide +kernel, by decide +kernel, by decide +kernel⟩
theorem at_6 (K : PySem.W.Frag) : LamAtN ["_law_value", "_law_due", "_law_ask"] (defScope s__law_house_refused) (lam_6 K) := ⟨atB_6.free, atB_6.fr, atB_6.js⟩
theorem hf_6 : (("_law_value" : Str), NameKind.free) ∈ lamB_6.scope.names := by decide +kernel
theorem ns_6 : NdefX.NScope lamB_6.N (parN lamB_6.par) lamB_6.fr lamB_6.scope := NdefX.nscope_by (by decide +kernel)
def F__law_house_refused (K : PySem.W.Frag) : Ff := runDef 2 3
  (sSeq (forA 2 (sIf (asB (eOp oNe (eRef (lam_0 K) RefR) (eVar 1))) (sRet (eC (.bool false))) sNil)
  [He.fAd K ("slate_number", none), He.fAd K ("best_lots", none), He.fAd K ("crew_number", none), He.fAd K ("best_sight", none), He.fAd K ("spare_sights", none)])
  (sSeq (forA 2 (sIf (asB (eOp oNe (eRef (lam_1 K) RefR) (eVar 1))) (sRet (eC (.bool false))) sNil)
  [He.fAd K ("number_of", none), He.fAd K ("crew", none), He.fAd K ("beside", none)])
  (sSeq (forA 2 (sIf (asB (eOp oNe (eRef (lam_2 K) RefR) (eVar 1))) (sRet (eC (.bool false))) sNil)
  [He.fAd K ("after", none), He.fAd K ("days_to", none), He.fAd K ("cover_row", none), He.fAd K ("closed_family", none), He.fAd K ("bears", none), He.fAd K ("days_borne", none), He.fAd K ("with_sight", none)])
  (sSeq (forA 2 (sIf (asB (eOp oNe (eRef (lam_3 K) RefR) (eVar 1))) (sRet (eC (.bool false))) sNil)
  [He.fAd K ("morning", none), He.fAd K ("tells", none), He.fAd K ("days_told", none), He.fAd K ("two_courses", none)])
  (sSeq (forA 2 (sIf (asB (eOp oNe (eRef (lam_4 K) RefR) (eVar 1))) (sRet (eC (.bool false))) sNil)
  [He.fAd K ("shows_cover_row", none), He.fAd K ("shows_closed_family", none), He.fAd K ("lot_bears", none), He.fAd K ("course", none), He.fAd K ("shows_two_courses", none)])
  (sSeq (sIf (asB (eOp oNe (eRef (lam_5 K) RefR) (eVar 1))) (sRet (eC (.bool false))) sNil)
  (sRet (eOp oEq (eRef (lam_6 K) RefR) (eVar 1)))))))))
def F__law_house : Ff := runDef 3 7
  (sSeq (sSet 3 (xL (nLst vNil)))
  (sSeq (sFor (iRg1 (eVar 1)) (gNm 4)
  (sSeq (sSet 5 xK0)
  (sSeq (sFor (iRg1 (eOp oAdd (eC (.int 1)) (eCall F__law_taken (aRow 0 (aCons (eVar 2) aNil))))) (gNm 6)
  (sDPutD 5 (eCall F__law_taken (aRow 0 (aCons (eVar 1) aNil))) (eC (.bool true))))
  (sApp 3 (eTupL (nSortX (nListD 5)))))))
  (sRet (eTupL (lOwn 3)))))
abbrev lamE_7 : Expr := (callA0 (cmpL (ifT ((defBody s__law_goals_refused).getD 0 (.Pass ⟨0, 0, 0, 0⟩)))))
def lamB_7 : LamI := { params := lamA lamE_7, body := lamB lamE_7, scope := lamS lamE_7, par := none, fr := ["_law_house_here", "_law_bad"], js := [0, 1], N := ["_law_house_here", "_law_bad"], F := fun _ _ => False }
def lam_7 (K : PySem.W.Frag) : LamI := { lamB_7 with F := runL 2 2 fun px => (eCallX px X_number_of (aCons (eVar 0) (aCons (eVar 1) aNil))) }
theorem lamF_7 (K : PySem.W.Frag) : (lam_7 K).F = runL 2 2 fun px => (eCallX px X_number_of (aCons (eVar 0) (aCons (eVar 1) aNil))) := rfl
theorem atB_7 : LamAtN ["_law_house_here", "_law_bad", "_law_ask"] (defScope s__law_goals_refused) lamB_7 := ⟨by decide +kernel, by decide +kernel, by decide +kernel⟩
theorem at_7 (K : PySem.W.Frag) : LamAtN ["_law_house_here", "_law_bad", "_law_ask"] (defScope s__law_goals_refused) (lam_7 K) := ⟨atB_7.free, atB_7.fr, atB_7.js⟩
theorem hf_7 : (("_law_house_here" : Str), NameKind.free) ∈ lamB_7.scope.names := by decide +kernel
theorem ns_7 : NdefX.NScope lamB_7.N (parN lamB_7.par) lamB_7.fr lamB_7.scope := NdefX.nscope_by (by decide +kernel)
abbrev lamE_8 : Expr := (callA0 (cmpL (ifT ((forB ((defBody s__law_goals_refused).getD 1 (.Pass ⟨0, 0, 0, 0⟩))).getD 0 (.Pass ⟨0, 0, 0, 0⟩)))))
def lamB_8 : LamI := { params := lamA lamE_8, body := lamB lamE_8, scope := lamS lamE_8, par := none, fr := ["_law_ask", "_law_house_here", "_law_bad"], js := [2, 0, 1], N := ["_law_ask", "_law_house_here", "_law_bad"], F := fun _ _ => False }
def lam_8 (K : PySem.W.Frag) : LamI := { lamB_8 with F := runL 3 3 fun px => (eCallA px 0 [(He.fAd K ("days_to", none), X_days_to), (He.fAd K ("cover_row", none), X_cover_row), (He.fAd K ("closed_family", none), X_closed_family)] (aCons (eVar 1) (aCons (eC (.int 0)) (aCons (eVar 2) aNil)))) }
theorem lamF_8 (K : PySem.W.Frag) : (lam_8 K).F = runL 3 3 fun px => (eCallA px 0 [(He.fAd K ("days_to", none), X_days_to), (He.fAd K ("cover_row", none), X_cover_row), (He.fAd K ("closed_family", none), X_closed_family)] (aCons (eVar 1) (aCons (eC (.int 0)) (aCons (eVar 2) aNil)))) := rfl
theorem atB_8 : LamAtN ["_law_house_here", "_law_bad", "_law_ask"] (defScope s__law_goals_refused) lamB_8 := ⟨by decide +kernel, by decide +kernel, by decide +kernel⟩
theorem at_8 (K : PySem.W.Frag) : LamAtN ["_law_house_here", "_law_bad", "_law_ask"] (defScope s__law_goals_refused) (lam_8 K) := ⟨atB_8.free, atB_8.fr, atB_8.js⟩
theorem hf_8 : (("_law_ask" : Str), NameKind.free) ∈ lamB_8.scope.names := by decide +kernel
theorem ns_8 : NdefX.NScope lamB_8.N (parN lamB_8.par) lamB_8.fr lamB_8.scope := NdefX.nscope_by (by decide +kernel)
abbrev lamE_9 : Expr := (callA0 (cmpL (ifT ((forB ((defBody s__law_goals_refused).getD 2 (.Pass ⟨0, 0, 0, 0⟩))).getD 0 (.Pass ⟨0, 0, 0, 0⟩)))))
def lamB_9 : LamI := { params := lamA lamE_9, body := lamB lamE_9, scope := lamS lamE_9, par := none, fr := ["_law_ask", "_law_house_here", "_law_bad"], js := [2, 0, 1], N := ["_law_ask", "_law_house_here", "_law_bad"], F := fun _ _ => False }
def lam_9 (K : PySem.W.Frag) : LamI := { lamB_9 with F := runL 3 3 fun px => (eCallA px 0 [(He.fAd K ("shows_cover_row", none), X_shows_cover_row), (He.fAd K ("shows_closed_family", none), X_shows_closed_family)] (aCons (eVar 1) (aCons (eC (.int 0)) (aCons (eVar 2) (aCons (eC .none) aNil))))) }
theorem lamF_9 (K : PySem.W.Frag) : (lam_9 K).F = runL 3 3 fun px => (eCallA px 0 [(He.fAd K ("shows_cover_row", none), X_shows_cover_row), (He.fAd K ("shows_closed_family", none), X_shows_closed_family)] (aCons (eVar 1) (aCons (eC (.int 0)) (aCons (eVar 2) (aCons (eC .none) aNil))))) := rfl
theorem atB_9 : LamAtN ["_law_house_here", "_law_bad", "_law_ask"] (defScope s__law_goals_refused) lamB_9 := ⟨by decide +kernel, by decide +kernel, by decide +kernel⟩
theorem at_9 (K : PySem.W.Frag) : LamAtN ["_law_house_here", "_law_bad", "_law_ask"] (defScope s__law_goals_refused) (lam_9 K) := ⟨atB_9.free, atB_9.fr, atB_9.js⟩
theorem hf_9 : (("_law_ask" : Str), NameKind.free) ∈ lamB_9.scope.names := by decide +kernel
theorem ns_9 : NdefX.NScope lamB_9.N (parN lamB_9.par) lamB_9.fr lamB_9.scope := NdefX.nscope_by (by decide +kernel)
abbrev lamE_10 : Expr := (callA0 (cmpL (retV ((defBody s__law_goals_refused).getD 3 (.Pass ⟨0, 0, 0, 0⟩)))))
def lamB_10 : LamI := { params := lamA lamE_10, body := lamB lamE_10, scope := lamS lamE_10, par := none, fr := ["_law_house_here", "_law_bad"], js := [0, 1], N := ["_law_house_here", "_law_bad"], F := fun _ _ => False }
def lam_10 (K : PySem.W.Frag) : LamI := { lamB_10 with F := runL 2 2 fun px => (eCallX px X_lot_bears (aCons (eVar 0) (aCons (eC (.int 0)) (aCons (eC (.int 0)) (aCons (eVar 1) aNil))))) }
theorem lamF_10 (K : PySem.W.Frag) : (lam_10 K).F = runL 2 2 fun px => (eCallX px X_lot_bears (aCons (eVar 0) (aCons (eC (.int 0)) (aCons (eC (.int 0)) (aCons (eVar 1) aNil))))) := rfl
theorem atB_10 : LamAtN ["_law_house_here", "_law_bad", "_law_ask"] (defScope s__law_goals_refused) lamB_10 := ⟨by decide +kernel, by decide +kernel, by decide +kernel⟩
theorem at_10 (K : PySem.W.Frag) : LamAtN ["_law_house_here", "_law_bad", "_law_ask"] (defScope s__law_goals_refused) (lam_10 K) := ⟨atB_10.free, atB_10.fr, atB_10.js⟩
theorem hf_10 : (("_law_house_here" : Str), NameKind.free) ∈ lamB_10.scope.names := by decide +kernel
theorem ns_10 : NdefX.NScope lamB_10.N (parN lamB_10.par) lamB_10.fr lamB_10.scope := NdefX.nscope_by (by decide +kernel)
def F__law_goals_refused (K : PySem.W.Frag) : Ff := runDef 2 3
  (sSeq (sIf (asB (eOp oNe (eRef (lam_7 K) RefR) (eC (.str "lot")))) (sRet (eC (.bool false))) sNil)
  (sSeq (forA 2 (sIf (asB (eOp oNe (eRef (lam_8 K) RefR) (eC (.str "lot")))) (sRet (eC (.bool false))) sNil)
  [He.fAd K ("days_to", none), He.fAd K ("cover_row", none), He.fAd K ("closed_family", none)])
  (sSeq (forA 2 (sIf (asB (eOp oNe (eRef (lam_9 K) RefR) (eC (.str "lot")))) (sRet (eC (.bool false))) sNil)
  [He.fAd K ("shows_cover_row", none), He.fAd K ("shows_closed_family", none)])
  (sRet (eOp oEq (eRef (lam_10 K) RefR) (eC (.str "lot")))))))
abbrev lamE_11 : Expr := (callA0 (cmpL (ifT ((forB ((defBody s_law).getD 6 (.Pass ⟨0, 0, 0, 0⟩))).getD 1 (.Pass ⟨0, 0, 0, 0⟩)))))
def lamB_11 : LamI := { params := lamA lamE_11, body := lamB lamE_11, scope := lamS lamE_11, par := none, fr := ["_law_house_here", "_law_value"], js := [6, 4], N := ["_law_house_here", "_law_value"], F := fun _ _ => False }
def lam_11 (K : PySem.W.Frag) : LamI := { lamB_11 with F := runL 2 2 fun px => (eCallX px X_after (aCons (eVar 0) (aCons (eVar 1) (aCons (eC .none) aNil)))) }
theorem lamF_11 (K : PySem.W.Frag) : (lam_11 K).F = runL 2 2 fun px => (eCallX px X_after (aCons (eVar 0) (aCons (eVar 1) (aCons (eC .none) aNil)))) := rfl
theorem atB_11 : LamAtN ["_law_script", "_law_row", "_law_bad", "_law_turn", "_law_value", "_law_clerk", "_law_house_here", "_law_ask"] (defScope s_law) lamB_11 := ⟨by decide +kernel, by decide +kernel, by decide +kernel⟩
theorem at_11 (K : PySem.W.Frag) : LamAtN ["_law_script", "_law_row", "_law_bad", "_law_turn", "_law_value", "_law_clerk", "_law_house_here", "_law_ask"] (defScope s_law) (lam_11 K) := ⟨atB_11.free, atB_11.fr, atB_11.js⟩
theorem hf_11 : (("_law_house_here" : Str), NameKind.free) ∈ lamB_11.scope.names := by decide +kernel
theorem ns_11 : NdefX.NScope lamB_11.N (parN lamB_11.par) lamB_11.fr lamB_11.scope := NdefX.nscope_by (by decide +kernel)
abbrev lamE_12 : Expr := (callA0 (cmpL (ifT ((forB ((defBody s_law).getD 6 (.Pass ⟨0, 0, 0, 0⟩))).getD 2 (.Pass ⟨0, 0, 0, 0⟩)))))
def lamB_12 : LamI := { params := lamA lamE_12, body := lamB lamE_12, scope := lamS lamE_12, par := none, fr := ["_law_house_here", "_law_value"], js := [6, 4], N := ["_law_house_here", "_law_value"], F := fun _ _ => False }
def lam_12 (K : PySem.W.Frag) : LamI := { lamB_12 with F := runL 2 2 fun px => (eCallX px X_after (aCons (eVar 0) (aCons (eTup vNil) (aCons (eVar 1) aNil)))) }
theorem lamF_12 (K : PySem.W.Frag) : (lam_12 K).F = runL 2 2 fun px => (eCallX px X_after (aCons (eVar 0) (aCons (eTup vNil) (aCons (eVar 1) aNil)))) := rfl
theorem atB_12 : LamAtN ["_law_script", "_law_row", "_law_bad", "_law_turn", "_law_value", "_law_clerk", "_law_house_here", "_law_ask"] (defScope s_law) lamB_12 := ⟨by decide +kernel, by decide +kernel, by decide +kernel⟩
theorem at_12 (K : PySem.W.Frag) : LamAtN ["_law_script", "_law_row", "_law_bad", "_law_turn", "_law_value", "_law_clerk", "_law_house_here", "_law_ask"] (defScope s_law) (lam_12 K) := ⟨atB_12.free, atB_12.fr, atB_12.js⟩
theorem hf_12 : (("_law_house_here" : Str), NameKind.free) ∈ lamB_12.scope.names := by decide +kernel
theorem ns_12 : NdefX.NScope lamB_12.N (parN lamB_12.par) lamB_12.fr lamB_12.scope := NdefX.nscope_by (by decide +kernel)
abbrev lamE_13 : Expr := (callA0 (cmpL (ifT ((forB ((forB ((defBody s_law).getD 8 (.Pass ⟨0, 0, 0, 0⟩))).getD 0 (.Pass ⟨0, 0, 0, 0⟩))).getD 0 (.Pass ⟨0, 0, 0, 0⟩)))))
def lamB_13 : LamI := { params := lamA lamE_13, body := lamB lamE_13, scope := lamS lamE_13, par := none, fr := ["_law_ask", "_law_house_here", "_law_value"], js := [7, 6, 4], N := ["_law_ask", "_law_house_here", "_law_value"], F := fun _ _ => False }
def lam_13 (K : PySem.W.Frag) : LamI := { lamB_13 with F := runL 3 3 fun px => (eCallA px 0 [(He.fAd K ("days_to", none), X_days_to), (He.fAd K ("cover_row", none), X_cover_row), (He.fAd K ("closed_family", none), X_closed_family)] (aCons (eVar 1) (aCons (eVar 2) (aCons (eC .none) aNil)))) }
theorem lamF_13 (K : PySem.W.Frag) : (lam_13 K).F = runL 3 3 fun px => (eCallA px 0 [(He.fAd K ("days_to", none), X_days_to), (He.fAd K ("cover_row", none), X_cover_row), (He.fAd K ("closed_family", none), X_closed_family)] (aCons (eVar 1) (aCons (eVar 2) (aCons (eC .none) aNil)))) := rfl
theorem atB_13 : LamAtN ["_law_script", "_law_row", "_law_bad", "_law_turn", "_law_value", "_law_clerk", "_law_house_here", "_law_ask"] (defScope s_law) lamB_13 := ⟨by decide +kernel, by decide +kernel, by decide +kernel⟩
theorem at_13 (K : PySem.W.Frag) : LamAtN ["_law_script", "_law_row", "_law_bad", "_law_turn", "_law_value", "_law_clerk", "_law_house_here", "_law_ask"] (defScope s_law) (lam_13 K) := ⟨atB_13.free, atB_13.fr, atB_13.js⟩
theorem hf_13 : (("_law_ask" : Str), NameKind.free) ∈ lamB_13.scope.names := by decide +kernel
theorem ns_13 : NdefX.NScope lamB_13.N (parN lamB_13.par) lamB_13.fr lamB_13.scope := NdefX.nscope_by (by decide +kernel)
abbrev lamE_14 : Expr := (callA0 (cmpL (ifT ((forB ((forB ((defBody s_law).getD 8 (.Pass ⟨0, 0, 0, 0⟩))).getD 1 (.Pass ⟨0, 0, 0, 0⟩))).getD 0 (.Pass ⟨0, 0, 0, 0⟩)))))
def lamB_14 : LamI := { params := lamA lamE_14, body := lamB lamE_14, scope := lamS lamE_14, par := none, fr := ["_law_ask", "_law_house_here", "_law_value"], js := [7, 6, 4], N := ["_law_ask", "_law_house_here", "_law_value"], F := fun _ _ => False }
def lam_14 (K : PySem.W.Frag) : LamI := { lamB_14 with F := runL 3 3 fun px => (eCallA px 0 [(He.fAd K ("shows_cover_row", none), X_shows_cover_row), (He.fAd K ("shows_closed_family", none), X_shows_closed_family), (He.fAd K ("lot_bears", none), X_lot_bears)] (aCons (eVar 1) (aCons (eVar 2) (aCons (eC .none) (aCons (eC .none) aNil))))) }
theorem lamF_14 (K : PySem.W.Frag) : (lam_14 K).F = runL 3 3 fun px => (eCallA px 0 [(He.fAd K ("shows_cover_row", none), X_shows_cover_row), (He.fAd K ("shows_closed_family", none), X_shows_closed_family), (He.fAd K ("lot_bears", none), X_lot_bears)] (aCons (eVar 1) (aCons (eVar 2) (aCons (eC .none) (aCons (eC .none) aNil))))) := rfl
theorem atB_14 : LamAtN ["_law_script", "_law_row", "_law_bad", "_law_turn", "_law_value", "_law_clerk", "_law_house_here", "_law_ask"] (defScope s_law) lamB_14 := ⟨by decide +kernel, by decide +kernel, by decide +kernel⟩
theorem at_14 (K : PySem.W.Frag) : LamAtN ["_law_script", "_law_row", "_law_bad", "_law_turn", "_law_value", "_law_clerk", "_law_house_here", "_law_ask"] (defScope s_law) (lam_14 K) := ⟨atB_14.free, atB_14.fr, atB_14.js⟩
theorem hf_14 : (("_law_ask" : Str), NameKind.free) ∈ lamB_14.scope.names := by decide +kernel
theorem ns_14 : NdefX.NScope lamB_14.N (parN lamB_14.par) lamB_14.fr lamB_14.scope := NdefX.nscope_by (by decide +kernel)
abbrev lamE_15 : Expr := (callA0 (cmpL (ifT ((forB ((forB ((defBody s_law).getD 8 (.Pass ⟨0, 0, 0, 0⟩))).getD 2 (.Pass ⟨0, 0, 0, 0⟩))).getD 0 (.Pass ⟨0, 0, 0, 0⟩)))))
def lamB_15 : LamI := { params := lamA lamE_15, body := lamB lamE_15, scope := lamS lamE_15, par := none, fr := ["_law_ask", "_law_house_here", "_law_value"], js := [7, 6, 4], N := ["_law_ask", "_law_house_here", "_law_value"], F := fun _ _ => False }
def lam_15 (K : PySem.W.Frag) : LamI := { lamB_15 with F := runL 3 3 fun px => (eCallA px 0 [(He.fAd K ("bears", none), X_bears), (He.fAd K ("days_borne", none), X_days_borne)] (aCons (eVar 1) (aCons (eVar 2) (aCons (eC .none) aNil)))) }
theorem lamF_15 (K : PySem.W.Frag) : (lam_15 K).F = runL 3 3 fun px => (eCallA px 0 [(He.fAd K ("bears", none), X_bears), (He.fAd K ("days_borne", none), X_days_borne)] (aCons (eVar 1) (aCons (eVar 2) (aCons (eC .none) aNil)))) := rfl
theorem atB_15 : LamAtN ["_law_script", "_law_row", "_law_bad", "_law_turn", "_law_value", "_law_clerk", "_law_house_here", "_law_ask"] (defScope s_law) lamB_15 := ⟨by decide +kernel, by decide +kernel, by decide +kernel⟩
theorem at_15 (K : PySem.W.Frag) : LamAtN ["_law_script", "_law_row", "_law_bad", "_law_turn", "_law_value", "_law_clerk", "_law_house_here", "_law_ask"] (defScope s_law) (lam_15 K) := ⟨atB_15.free, atB_15.fr, atB_15.js⟩
theorem hf_15 : (("_law_ask" : Str), NameKind.free) ∈ lamB_15.scope.names := by decide +kernel
theorem ns_15 : NdefX.NScope lamB_15.N (parN lamB_15.par) lamB_15.fr lamB_15.scope := NdefX.nscope_by (by decide +kernel)
abbrev lamE_16 : Expr := (callA0 (cmpL (ifT ((forB ((forB ((defBody s_law).getD 8 (.Pass ⟨0, 0, 0, 0⟩))).getD 2 (.Pass ⟨0, 0, 0, 0⟩))).getD 1 (.Pass ⟨0, 0, 0, 0⟩)))))
def lamB_16 : LamI := { params := lamA lamE_16, body := lamB lamE_16, scope := lamS lamE_16, par := none, fr := ["_law_ask", "_law_house_here", "_law_value"], js := [7, 6, 4], N := ["_law_ask", "_law_house_here", "_law_value"], F := fun _ _ => False }
def lam_16 (K : PySem.W.Frag) : LamI := { lamB_16 with F := runL 3 3 fun px => (eCallA px 0 [(He.fAd K ("bears", none), X_bears), (He.fAd K ("days_borne", none), X_days_borne)] (aCons (eVar 1) (aCons (eC (.int 0)) (aCons (eVar 2) aNil)))) }
theorem lamF_16 (K : PySem.W.Frag) : (lam_16 K).F = runL 3 3 fun px => (eCallA px 0 [(He.fAd K ("bears", none), X_bears), (He.fAd K ("days_borne", none), X_days_borne)] (aCons (eVar 1) (aCons (eC (.int 0)) (aCons (eVar 2) aNil)))) := rfl
theorem atB_16 : LamAtN ["_law_script", "_law_row", "_law_bad", "_law_turn", "_law_value", "_law_clerk", "_law_house_here", "_law_ask"] (defScope s_law) lamB_16 := ⟨by decide +kernel, by decide +kernel, by decide +kernel⟩
theorem at_16 (K : PySem.W.Frag) : LamAtN ["_law_script", "_law_row", "_law_bad", "_law_turn", "_law_value", "_law_clerk", "_law_house_here", "_law_ask"] (defScope s_law) (lam_16 K) := ⟨atB_16.free, atB_16.fr, atB_16.js⟩
theorem hf_16 : (("_law_ask" : Str), NameKind.free) ∈ lamB_16.scope.names := by decide +kernel
theorem ns_16 : NdefX.NScope lamB_16.N (parN lamB_16.par) lamB_16.fr lamB_16.scope := NdefX.nscope_by (by decide +kernel)
abbrev lamE_17 : Expr := (callA0 (cmpL (ifT ((forB ((defBody s_law).getD 8 (.Pass ⟨0, 0, 0, 0⟩))).getD 3 (.Pass ⟨0, 0, 0, 0⟩)))))
def lamB_17 : LamI := { params := lamA lamE_17, body := lamB lamE_17, scope := lamS lamE_17, par := none, fr := ["_law_house_here", "_law_value"], js := [6, 4], N := ["_law_house_here", "_law_value"], F := fun _ _ => False }
def lam_17 (K : PySem.W.Frag) : LamI := { lamB_17 with F := runL 2 2 fun px => (eCallX px X_lot_bears (aCons (eVar 0) (aCons (eC (.int 0)) (aCons (eVar 1) (aCons (eC .none) aNil))))) }
theorem lamF_17 (K : PySem.W.Frag) : (lam_17 K).F = runL 2 2 fun px => (eCallX px X_lot_bears (aCons (eVar 0) (aCons (eC (.int 0)) (aCons (eVar 1) (aCons (eC .none) aNil))))) := rfl
theorem atB_17 : LamAtN ["_law_script", "_law_row", "_law_bad", "_law_turn", "_law_value", "_law_clerk", "_law_house_here", "_law_ask"] (defScope s_law) lamB_17 := ⟨by decide +kernel, by decide +kernel, by decide +kernel⟩
theorem at_17 (K : PySem.W.Frag) : LamAtN ["_law_script", "_law_row", "_law_bad", "_law_turn", "_law_value", "_law_clerk", "_law_house_here", "_law_ask"] (defScope s_law) (lam_17 K) := ⟨atB_17.free, atB_17.fr, atB_17.js⟩
theorem hf_17 : (("_law_house_here" : Str), NameKind.free) ∈ lamB_17.scope.names := by decide +kernel
theorem ns_17 : NdefX.NScope lamB_17.N (parN lamB_17.par) lamB_17.fr lamB_17.scope := NdefX.nscope_by (by decide +kernel)
abbrev lamE_18 : Expr := (callA0 (cmpL (ifT ((forB ((defBody s_law).getD 9 (.Pass ⟨0, 0, 0, 0⟩))).getD 0 (.Pass ⟨0, 0, 0, 0⟩)))))
def lamB_18 : LamI := { params := lamA lamE_18, body := lamB lamE_18, scope := lamS lamE_18, par := none, fr := ["_law_house_here", "_law_value"], js := [6, 4], N := ["_law_house_here", "_law_value"], F := fun _ _ => False }
def lam_18 (K : PySem.W.Frag) : LamI := { lamB_18 with F := runL 2 2 fun px => (eCallX px X_crew (aCons (eVar 0) (aCons (eVar 1) aNil))) }
theorem lamF_18 (K : PySem.W.Frag) : (lam_18 K).F = runL 2 2 fun px => (eCallX px X_crew (aCons (eVar 0) (aCons (eVar 1) aNil))) := rfl
theorem atB_18 : LamAtN ["_law_script", "_law_row", "_law_bad", "_law_turn", "_law_value", "_law_clerk", "_law_house_here", "_law_ask"] (defScope s_law) lamB_18 := ⟨by decide +kernel, by decide +kernel, by decide +kernel⟩
theorem at_18 (K : PySem.W.Frag) : LamAtN ["_law_script", "_law_row", "_law_bad", "_law_turn", "_law_value", "_law_clerk", "_law_house_here", "_law_ask"] (defScope s_law) (lam_18 K) := ⟨atB_18.free, atB_18.fr, atB_18.js⟩
theorem hf_18 : (("_law_house_here" : Str), NameKind.free) ∈ lamB_18.scope.names := by decide +kernel
theorem ns_18 : NdefX.NScope lamB_18.N (parN lamB_18.par) lamB_18.fr lamB_18.scope := NdefX.nscope_by (by decide +kernel)
abbrev lamE_19 : Expr := (callA0 (cmpL (ifT ((forB ((defBody s_law).getD 10 (.Pass ⟨0, 0, 0, 0⟩))).getD 0 (.Pass ⟨0, 0, 0, 0⟩)))))
def lamB_19 : LamI := { params := lamA lamE_19, body := lamB lamE_19, scope := lamS lamE_19, par := none, fr := ["_law_house_here", "_law_value"], js := [6, 4], N := ["_law_house_here", "_law_value"], F := fun _ _ => False }
def lam_19 (K : PySem.W.Frag) : LamI := { lamB_19 with F := runL 2 2 fun px => (eCallX px X_with_sight (aCons (eVar 0) (aCons (eVar 1) (aCons (eC .none) aNil)))) }
theorem lamF_19 (K : PySem.W.Frag) : (lam_19 K).F = runL 2 2 fun px => (eCallX px X_with_sight (aCons (eVar 0) (aCons (eVar 1) (aCons (eC .none) aNil)))) := rfl
theorem atB_19 : LamAtN ["_law_script", "_law_row", "_law_bad", "_law_turn", "_law_value", "_law_clerk", "_law_house_here", "_law_ask"] (defScope s_law) lamB_19 := ⟨by decide +kernel, by decide +kernel, by decide +kernel⟩
theorem at_19 (K : PySem.W.Frag) : LamAtN ["_law_script", "_law_row", "_law_bad", "_law_turn", "_law_value", "_law_clerk", "_law_house_here", "_law_ask"] (defScope s_law) (lam_19 K) := ⟨atB_19.free, atB_19.fr, atB_19.js⟩
theorem hf_19 : (("_law_house_here" : Str), NameKind.free) ∈ lamB_19.scope.names := by decide +kernel
theorem ns_19 : NdefX.NScope lamB_19.N (parN lamB_19.par) lamB_19.fr lamB_19.scope := NdefX.nscope_by (by decide +kernel)
abbrev lamE_20 : Expr := (callA0 (cmpL (ifT ((forB ((defBody s_law).getD 10 (.Pass ⟨0, 0, 0, 0⟩))).getD 1 (.Pass ⟨0, 0, 0, 0⟩)))))
def lamB_20 : LamI := { params := lamA lamE_20, body := lamB lamE_20, scope := lamS lamE_20, par := none, fr := ["_law_house_here", "_law_value"], js := [6, 4], N := ["_law_house_here", "_law_value"], F := fun _ _ => False }
def lam_20 (K : PySem.W.Frag) : LamI := { lamB_20 with F := runL 2 2 fun px => (eCallX px X_with_sight (aCons (eVar 0) (aCons (eC (.int 0)) (aCons (eVar 1) aNil)))) }
theorem lamF_20 (K : PySem.W.Frag) : (lam_20 K).F = runL 2 2 fun px => (eCallX px X_with_sight (aCons (eVar 0) (aCons (eC (.int 0)) (aCons (eVar 1) aNil)))) := rfl
theorem atB_20 : LamAtN ["_law_script", "_law_row", "_law_bad", "_law_turn", "_law_value", "_law_clerk", "_law_house_here", "_law_ask"] (defScope s_law) lamB_20 := ⟨by decide +kernel, by decide +kernel, by decide +kernel⟩
theorem at_20 (K : PySem.W.Frag) : LamAtN ["_law_script", "_law_row", "_law_bad", "_law_turn", "_law_value", "_law_clerk", "_law_house_here", "_law_ask"] (defScope s_law) (lam_20 K) := ⟨atB_20.free, atB_20.fr, atB_20.js⟩
theorem hf_20 : (("_law_house_here" : Str), NameKind.free) ∈ lamB_20.scope.names := by decide +kernel
theorem ns_20 : NdefX.NScope lamB_20.N (parN lamB_20.par) lamB_20.fr lamB_20.scope := NdefX.nscope_by (by decide +kernel)
abbrev lamE_21 : Expr := (callA0 (cmpL (ifT ((defBody s_law).getD 11 (.Pass ⟨0, 0, 0, 0⟩)))))
def lamB_21 : LamI := { params := lamA lamE_21, body := lamB lamE_21, scope := lamS lamE_21, par := none, fr := ["_law_house_here"], js := [6], N := ["_law_house_here"], F := fun _ _ => False }
def lam_21 (K : PySem.W.Frag) : LamI := { lamB_21 with F := runL 1 1 fun px => (eCallX px X_with_sight (aCons (eVar 0) (aCons (eC (.int 0)) (aCons (eOp oIx (eOp oIx (eVar 0) (eC (.int 0))) (eC (.int 0))) aNil)))) }
theorem lamF_21 (K : PySem.W.Frag) : (lam_21 K).F = runL 1 1 fun px => (eCallX px X_with_sight (aCons (eVar 0) (aCons (eC (.int 0)) (aCons (eOp oIx (eOp oIx (eVar 0) (eC (.int 0))) (eC (.int 0))) aNil)))) := rfl
theorem atB_21 : LamAtN ["_law_script", "_law_row", "_law_bad", "_law_turn", "_law_value", "_law_clerk", "_law_house_here", "_law_ask"] (defScope s_law) lamB_21 := ⟨by decide +kernel, by decide +kernel, by decide +kernel⟩
theorem at_21 (K : PySem.W.Frag) : LamAtN ["_law_script", "_law_row", "_law_bad", "_law_turn", "_law_value", "_law_clerk", "_law_house_here", "_law_ask"] (defScope s_law) (lam_21 K) := ⟨atB_21.free, atB_21.fr, atB_21.js⟩
theorem hf_21 : (("_law_house_here" : Str), NameKind.free) ∈ lamB_21.scope.names := by decide +kernel
theorem ns_21 : NdefX.NScope lamB_21.N (parN lamB_21.par) lamB_21.fr lamB_21.scope := NdefX.nscope_by (by decide +kernel)
abbrev lamE_22 : Expr := (callA0 (cmpL (ifT ((defBody s_law).getD 12 (.Pass ⟨0, 0, 0, 0⟩)))))
def lamB_22 : LamI := { params := lamA lamE_22, body := lamB lamE_22, scope := lamS lamE_22, par := none, fr := ["_law_house_here"], js := [6], N := ["_law_house_here"], F := fun _ _ => False }
def lam_22 (K : PySem.W.Frag) : LamI := { lamB_22 with F := runL 1 1 fun px => (eCallX px X_beside (aCons (eVar 0) (aCons (eTup (vCons (eTup (vCons (eC (.int 0)) vNil)) (vCons (eTup vNil) vNil))) aNil))) }
theorem lamF_22 (K : PySem.W.Frag) : (lam_22 K).F = runL 1 1 fun px => (eCallX px X_beside (aCons (eVar 0) (aCons (eTup (vCons (eTup (vCons (eC (.int 0)) vNil)) (vCons (eTup vNil) vNil))) aNil))) := rfl
theorem atB_22 : LamAtN ["_law_script", "_law_row", "_law_bad", "_law_turn", "_law_value", "_law_clerk", "_law_house_here", "_law_ask"] (defScope s_law) lamB_22 := ⟨by decide +kernel, by decide +kernel, by decide +kernel⟩
theorem at_22 (K : PySem.W.Frag) : LamAtN ["_law_script", "_law_row", "_law_bad", "_law_turn", "_law_value", "_law_clerk", "_law_house_here", "_law_ask"] (defScope s_law) (lam_22 K) := ⟨atB_22.free, atB_22.fr, atB_22.js⟩
theorem hf_22 : (("_law_house_here" : Str), NameKind.free) ∈ lamB_22.scope.names := by decide +kernel
theorem ns_22 : NdefX.NScope lamB_22.N (parN lamB_22.par) lamB_22.fr lamB_22.scope := NdefX.nscope_by (by decide +kernel)
abbrev lamE_23 : Expr := (callA0 (cmpL (retV ((defBody s_law).getD 13 (.Pass ⟨0, 0, 0, 0⟩)))))
def lamB_23 : LamI := { params := lamA lamE_23, body := lamB lamE_23, scope := lamS lamE_23, par := none, fr := ["_law_house_here"], js := [6], N := ["_law_house_here"], F := fun _ _ => False }
def lam_23 (K : PySem.W.Frag) : LamI := { lamB_23 with F := runL 1 1 fun px => (eCallX px X_beside (aCons (eVar 0) (aCons (eOp oRepT (eTup (vCons (eTup (vCons (eC (.int 0)) vNil)) vNil)) (eC (.int 6))) aNil))) }
theorem lamF_23 (K : PySem.W.Frag) : (lam_23 K).F = runL 1 1 fun px => (eCallX px X_beside (aCons (eVar 0) (aCons (eOp oRepT (eTup (vCons (eTup (vCons (eC (.int 0)) vNil)) vNil)) (eC (.int 6))) aNil))) := rfl
theorem atB_23 : LamAtN ["_law_script", "_law_row", "_law_bad", "_law_turn", "_law_value", "_law_clerk", "_law_house_here", "_law_ask"] (defScope s_law) lamB_23 := ⟨by decide +kernel, by decide +kernel, by decide +kernel⟩
theorem at_23 (K : PySem.W.Frag) : LamAtN ["_law_script", "_law_row", "_law_bad", "_law_turn", "_law_value", "_law_clerk", "_law_house_here", "_law_ask"] (defScope s_law) (lam_23 K) := ⟨atB_23.free, atB_23.fr, atB_23.js⟩
theorem hf_23 : (("_law_house_here" : Str), NameKind.free) ∈ lamB_23.scope.names := by decide +kernel
theorem ns_23 : NdefX.NScope lamB_23.N (parN lamB_23.par) lamB_23.fr lamB_23.scope := NdefX.nscope_by (by decide +kernel)
def B_law (K : PySem.W.Frag) : Fs :=
  (sSeq (sSet 2 (xV (eFrz (nLst (vCons (eTup (vCons (eC .none) (vCons (eC .none) vNil))) (vCons (eTup (vCons (eFrz (nLst (vCons (eTup (vCons (eC (.int 0)) vNil)) vNil))) (vCons (eC .none) vNil))) (vCons (eTup (vCons (eTup vNil) (vCons (eC .none) vNil))) (vCons (eTup (vCons (eOp oRepT (eTup (vCons (eTup (vCons (eC (.int 0)) vNil)) vNil)) (eC (.int 8))) (vCons (eC .none) vNil))) (vCons (eTup (vCons (eTup (vCons (eC .none) vNil)) (vCons (eC (.int 0)) vNil))) (vCons (eTup (vCons (eTup (vCons (eTup vNil) vNil)) (vCons (eC (.int 0)) vNil))) (vCons (eTup (vCons (eTup (vCons (eTup (vCons (eC (.int 0)) vNil)) (vCons (eTup vNil) vNil))) (vCons (eC (.int 1)) vNil))) vNil)))))))))))
  (sSeq (sSet 2 (xV (eFrz (nCat (asL (eVar 2)) (nLst (vCons (eTup (vCons (eTup (vCons (eTup (vCons (eC (.int 0)) vNil)) (vCons (eTup (vCons (eC (.int 2)) vNil)) vNil))) (vCons (eC (.int 1)) vNil))) (vCons (eTup (vCons (eTup (vCons (eTup (vCons (eC (.int 0)) vNil)) (vCons (eTup (vCons (eC (.int 1)) (vCons (eC (.int 0)) vNil))) vNil))) (vCons (eC (.int 1)) vNil))) (vCons (eTup (vCons (eTup (vCons (eTup (vCons (eC (.int 0)) (vCons (eC (.int 0)) vNil))) (vCons (eTup (vCons (eC (.int 1)) vNil)) vNil))) (vCons (eC (.int 0)) vNil))) (vCons (eTup (vCons (eTup (vCons (eFrz (nLst (vCons (eC (.int 0)) vNil))) vNil)) (vCons (eC (.int 0)) vNil))) (vCons (eTup (vCons (eTup (vCons (eTup (vCons (eC (.bool true)) vNil)) (vCons (eTup (vCons (eC (.int 0)) vNil)) vNil))) (vCons (eC (.int 0)) vNil))) vNil))))))))))
  (sSeq (sSet 2 (xV (eFrz (nCat (asL (eVar 2)) (nLst (vCons (eTup (vCons (eTup (vCons (eTup (vCons (eC (.int 0)) vNil)) (vCons (eTup (vCons (eNeg (eC (.int 1))) vNil)) vNil))) (vCons (eC (.int 1)) vNil))) (vCons (eTup (vCons (eC (.str "0")) (vCons (eC .none) vNil))) (vCons (eTup (vCons (eC (.dict [])) (vCons (eC .none) vNil))) (vCons (eTup (vCons (eTup (vCons (eTup (vCons (eC (.int 0)) vNil)) (vCons (eTup (vCons (eC (.str "0")) vNil)) vNil))) (vCons (eC (.int 1)) vNil))) vNil)))))))))
  (sSeq (sFor (iRg1 (eC (.int 3))) (gNm 3)
  (sSeq (sAsg (eCall F__law_pick (aRow 1 (aCons (eVar 2) aNil))) (gTp2 (gNm 4) (gNm 5)))
  (sIf (bNot (asB (eCall (F__law_house_refused K) (aCons (eVar 4) (aCons (eTup (vCons (eC (.str "house")) (vCons (eVar 5) vNil))) aNil))))) (sRet (eC (.bool false))) sNil)))
  (sSeq (sSet 6 (xV (eCall F__law_house (aRow 1 (aCons (eC (.int 2)) (aCons (eC (.int 2)) aNil))))))
  (sSeq (sFor (iVal (eFrz (nLst (vCons (eC .none) (vCons (eFrz (nLst (vCons (eC (.int 0)) vNil))) (vCons (eTup (vCons (eC (.int 2)) vNil)) (vCons (eTup (vCons (eC (.int 1)) (vCons (eC (.int 0)) vNil))) (vCons (eTup (vCons (eC (.int 0)) (vCons (eC (.int 0)) vNil))) (vCons (eTup (vCons (eC (.bool true)) vNil)) (vCons (eC (.str "0")) (vCons (eC (.int 0)) vNil))))))))))) (gNm 4)
  (sSeq (sIf (bNot (asB (eCall (F__law_goals_refused K) (aCons (eVar 6) (aCons (eVar 4) aNil))))) (sRet (eC (.bool false))) sNil)
  (sSeq (sIf (asB (eOp oNe (eRef (lam_11 K) RefR) (eC (.str "lot")))) (sRet (eC (.bool false))) sNil)
  (sIf (asB (eOp oNe (eRef (lam_12 K) RefR) (eC (.str "lot")))) (sRet (eC (.bool false))) sNil))))
  (sSeq (sIf (bNot (asB (eCall (F__law_goals_refused K) (aCons (eVar 6) (aCons (eTup vNil) aNil))))) (sRet (eC (.bool false))) sNil)
  (sSeq (sFor (iVal (eFrz (nLst (vCons (eC .none) (vCons (eNeg (eC (.int 1))) (vCons (eC (.int 8)) (vCons (eC (.bool true)) (vCons (eC (.str "1")) (vCons (eTup (vCons (eC (.int 1)) vNil)) vNil))))))))) (gNm 4)
  (sSeq (forA 7 (sIf (asB (eOp oNe (eRef (lam_13 K) RefR) (eC (.str "number")))) (sRet (eC (.bool false))) sNil)
  [He.fAd K ("days_to", none), He.fAd K ("cover_row", none), He.fAd K ("closed_family", none)])
  (sSeq (forA 7 (sIf (asB (eOp oNe (eRef (lam_14 K) RefR) (eC (.str "number")))) (sRet (eC (.bool false))) sNil)
  [He.fAd K ("shows_cover_row", none), He.fAd K ("shows_closed_family", none), He.fAd K ("lot_bears", none)])
  (sSeq (forA 7 (sSeq (sIf (asB (eOp oNe (eRef (lam_15 K) RefR) (eC (.str "number")))) (sRet (eC (.bool false))) sNil)
  (sIf (asB (eOp oNe (eRef (lam_16 K) RefR) (eC (.str "number")))) (sRet (eC (.bool false))) sNil))
  [He.fAd K ("bears", none), He.fAd K ("days_borne", none)])
  (sIf (asB (eOp oNe (eRef (lam_17 K) RefR) (eC (.str "number")))) (sRet (eC (.bool false))) sNil)))))
  (sSeq (sFor (iVal (eFrz (nLst (vCons (eC .none) (vCons (eC (.int 0)) (vCons (eC (.int 8)) (vCons (eC (.bool true)) vNil))))))) (gNm 4)
  (sIf (asB (eOp oNe (eRef (lam_18 K) RefR) (eC (.str "number")))) (sRet (eC (.bool false))) sNil))
  (sSeq (sFor (iVal (eFrz (nLst (vCons (eC .none) (vCons (eNeg (eC (.int 1))) (vCons (eC (.int 2)) (vCons (eC (.bool true)) vNil))))))) (gNm 4)
  (sSeq (sIf (asB (eOp oNe (eRef (lam_19 K) RefR) (eC (.str "number")))) (sRet (eC (.bool false))) sNil)
  (sIf (asB (eOp oNe (eRef (lam_20 K) RefR) (eC (.str "number")))) (sRet (eC (.bool false))) sNil)))
  (sSeq (sIf (asB (eOp oNe (eRef (lam_21 K) RefR) (eC (.str "number")))) (sRet (eC (.bool false))) sNil)
  (sSeq (sIf (asB (eOp oNe (eRef (lam_22 K) RefR) (eTup (vCons (eC (.str "house")) (vCons (eC (.int 1)) vNil))))) (sRet (eC (.bool false))) sNil)
  (sRet (eOp oEq (eRef (lam_23 K) RefR) (eTup (vCons (eC (.str "many")) (vCons (eC (.int 7)) vNil)))))))))))))))))
/-! ### what the top has written -/
structure Tx (K : PySem.W.Frag) (mg : Str → Option Value) (base : Heap) (G : Gb) (fd : Nat → FuncData) : Prop where
  gK : G.K = K
  gP : ∀ e, ¬ G.Px e
  gC : G.cls = fun x => .ref (He.ga K x)
  m_SlateError : mg "SlateError" = some (.ref (He.ga K "SlateError"))
  m_BadHouse : mg "BadHouse" = some (.ref (He.ga K "BadHouse"))
  m_BadLot : mg "BadLot" = some (.ref (He.ga K "BadLot"))
  m_BadNumber : mg "BadNumber" = some (.ref (He.ga K "BadNumber"))
  m_BadRules : mg "BadRules" = some (.ref (He.ga K "BadRules"))
  m_BadSlates : mg "BadSlates" = some (.ref (He.ga K "BadSlates"))
  m_BadNight : mg "BadNight" = some (.ref (He.ga K "BadNight"))
  m_TooMany : mg "TooMany" = some (.ref (He.ga K "TooMany"))
  m_Bench : mg "Bench" = some (.ref (He.ga K "Bench"))
  i_BadHouse : InitC K "BadHouse" "clerk"
  n_BadHouse : PySem.W.findIn K (.ref (He.ga K "BadHouse")) "clerk" = some none
  c_BadHouse : ExcC K (He.ga K "BadHouse")
  x_BadHouse : PySem.W.exmOne K (.ref (He.ga K "BadHouse")) (.ref (He.ga K "SlateError")) = some true
  k_BadHouse_BadHouse : PySem.W.kitOne K (.ref (He.ga K "BadHouse")) (.ref (He.ga K "BadHouse")) = some true
  k_BadHouse_BadRules : PySem.W.kitOne K (.ref (He.ga K "BadHouse")) (.ref (He.ga K "BadRules")) = some false
  k_BadHouse_TooMany : PySem.W.kitOne K (.ref (He.ga K "BadHouse")) (.ref (He.ga K "TooMany")) = some false
  k_BadHouse_BadLot : PySem.W.kitOne K (.ref (He.ga K "BadHouse")) (.ref (He.ga K "BadLot")) = some false
  k_BadHouse_BadNumber : PySem.W.kitOne K (.ref (He.ga K "BadHouse")) (.ref (He.ga K "BadNumber")) = some false
  k_BadHouse_BadSlates : PySem.W.kitOne K (.ref (He.ga K "BadHouse")) (.ref (He.ga K "BadSlates")) = some false
  k_BadHouse_BadNight : PySem.W.kitOne K (.ref (He.ga K "BadHouse")) (.ref (He.ga K "BadNight")) = some false
  i_BadRules : InitC K "BadRules" "part"
  n_BadRules : PySem.W.findIn K (.ref (He.ga K "BadRules")) "part" = some none
  c_BadRules : ExcC K (He.ga K "BadRules")
  x_BadRules : PySem.W.exmOne K (.ref (He.ga K "BadRules")) (.ref (He.ga K "SlateError")) = some true
  k_BadRules_BadHouse : PySem.W.kitOne K (.ref (He.ga K "BadRules")) (.ref (He.ga K "BadHouse")) = some false
  k_BadRules_BadRules : PySem.W.kitOne K (.ref (He.ga K "BadRules")) (.ref (He.ga K "BadRules")) = some true
  k_BadRules_TooMany : PySem.W.kitOne K (.ref (He.ga K "BadRules")) (.ref (He.ga K "TooMany")) = some false
  k_BadRules_BadLot : PySem.W.kitOne K (.ref (He.ga K "BadRules")) (.ref (He.ga K "BadLot")) = some false
  k_BadRules_BadNumber : PySem.W.kitOne K (.ref (He.ga K "BadRules")) (.ref (He.ga K "BadNumber")) = some false
  k_BadRules_BadSlates : PySem.W.kitOne K (.ref (He.ga K "BadRules")) (.ref (He.ga K "BadSlates")) = some false
  k_BadRules_BadNight : PySem.W.kitOne K (.ref (He.ga K "BadRules")) (.ref (He.ga K "BadNight")) = some false
  i_TooMany : InitC K "TooMany" "most"
  n_TooMany : PySem.W.findIn K (.ref (He.ga K "TooMany")) "most" = some none
  c_TooMany : ExcC K (He.ga K "TooMany")
  x_TooMany : PySem.W.exmOne K (.ref (He.ga K "TooMany")) (.ref (He.ga K "SlateError")) = some true
  k_TooMany_BadHouse : PySem.W.kitOne K (.ref (He.ga K "TooMany")) (.ref (He.ga K "BadHouse")) = some false
  k_TooMany_BadRules : PySem.W.kitOne K (.ref (He.ga K "TooMany")) (.ref (He.ga K "BadRules")) = some false
  k_TooMany_TooMany : PySem.W.kitOne K (.ref (He.ga K "TooMany")) (.ref (He.ga K "TooMany")) = some true
  k_TooMany_BadLot : PySem.W.kitOne K (.ref (He.ga K "TooMany")) (.ref (He.ga K "BadLot")) = some false
  k_TooMany_BadNumber : PySem.W.kitOne K (.ref (He.ga K "TooMany")) (.ref (He.ga K "BadNumber")) = some false
  k_TooMany_BadSlates : PySem.W.kitOne K (.ref (He.ga K "TooMany")) (.ref (He.ga K "BadSlates")) = some false
  k_TooMany_BadNight : PySem.W.kitOne K (.ref (He.ga K "TooMany")) (.ref (He.ga K "BadNight")) = some false
  e_BadLot : PySem.W.excIn K (He.ga K "BadLot") He.veBase "ValueError.__new__" = true ∧ PySem.W.keepIn K (.ref (He.ga K "BadLot")) = true ∧ PySem.W.subIn K (.ref (He.ga K "BadLot")) (.type "BaseException") = some true ∧ PySem.W.typeIn K (.ref (He.ga K "BadLot")) = some (.type "type")
  c_BadLot : ExcC K (He.ga K "BadLot")
  x_BadLot : PySem.W.exmOne K (.ref (He.ga K "BadLot")) (.ref (He.ga K "SlateError")) = some true
  k_BadLot_BadHouse : PySem.W.kitOne K (.ref (He.ga K "BadLot")) (.ref (He.ga K "BadHouse")) = some false
  k_BadLot_BadRules : PySem.W.kitOne K (.ref (He.ga K "BadLot")) (.ref (He.ga K "BadRules")) = some false
  k_BadLot_TooMany : PySem.W.kitOne K (.ref (He.ga K "BadLot")) (.ref (He.ga K "TooMany")) = some false
  k_BadLot_BadLot : PySem.W.kitOne K (.ref (He.ga K "BadLot")) (.ref (He.ga K "BadLot")) = some true
  k_BadLot_BadNumber : PySem.W.kitOne K (.ref (He.ga K "BadLot")) (.ref (He.ga K "BadNumber")) = some false
  k_BadLot_BadSlates : PySem.W.kitOne K (.ref (He.ga K "BadLot")) (.ref (He.ga K "BadSlates")) = some false
  k_BadLot_BadNight : PySem.W.kitOne K (.ref (He.ga K "BadLot")) (.ref (He.ga K "BadNight")) = some false
  e_BadNumber : PySem.W.excIn K (He.ga K "BadNumber") He.veBase "ValueError.__new__" = true ∧ PySem.W.keepIn K (.ref (He.ga K "BadNumber")) = true ∧ PySem.W.subIn K (.ref (He.ga K "BadNumber")) (.type "BaseException") = some true ∧ PySem.W.typeIn K (.ref (He.ga K "BadNumber")) = some (.type "type")
  c_BadNumber : ExcC K (He.ga K "BadNumber")
  x_BadNumber : PySem.W.exmOne K (.ref (He.ga K "BadNumber")) (.ref (He.ga K "SlateError")) = some true
  k_BadNumber_BadHouse : PySem.W.kitOne K (.ref (He.ga K "BadNumber")) (.ref (He.ga K "BadHouse")) = some false
  k_BadNumber_BadRules : PySem.W.kitOne K (.ref (He.ga K "BadNumber")) (.ref (He.ga K "BadRules")) = some false
  k_BadNumber_TooMany : PySem.W.kitOne K (.ref (He.ga K "BadNumber")) (.ref (He.ga K "TooMany")) = some false
  k_BadNumber_BadLot : PySem.W.kitOne K (.ref (He.ga K "BadNumber")) (.ref (He.ga K "BadLot")) = some false
  k_BadNumber_BadNumber : PySem.W.kitOne K (.ref (He.ga K "BadNumber")) (.ref (He.ga K "BadNumber")) = some true
  k_BadNumber_BadSlates : PySem.W.kitOne K (.ref (He.ga K "BadNumber")) (.ref (He.ga K "BadSlates")) = some false
  k_BadNumber_BadNight : PySem.W.kitOne K (.ref (He.ga K "BadNumber")) (.ref (He.ga K "BadNight")) = some false
  e_BadSlates : PySem.W.excIn K (He.ga K "BadSlates") He.veBase "ValueError.__new__" = true ∧ PySem.W.keepIn K (.ref (He.ga K "BadSlates")) = true ∧ PySem.W.subIn K (.ref (He.ga K "BadSlates")) (.type "BaseException") = some true ∧ PySem.W.typeIn K (.ref (He.ga K "BadSlates")) = some (.type "type")
  c_BadSlates : ExcC K (He.ga K "BadSlates")
  x_BadSlates : PySem.W.exmOne K (.ref (He.ga K "BadSlates")) (.ref (He.ga K "SlateError")) = some true
  k_BadSlates_BadHouse : PySem.W.kitOne K (.ref (He.ga K "BadSlates")) (.ref (He.ga K "BadHouse")) = some false
  k_BadSlates_BadRules : PySem.W.kitOne K (.ref (He.ga K "BadSlates")) (.ref (He.ga K "BadRules")) = some false
  k_BadSlates_TooMany : PySem.W.kitOne K (.ref (He.ga K "BadSlates")) (.ref (He.ga K "TooMany")) = some false
  k_BadSlates_BadLot : PySem.W.kitOne K (.ref (He.ga K "BadSlates")) (.ref (He.ga K "BadLot")) = some false
  k_BadSlates_BadNumber : PySem.W.kitOne K (.ref (He.ga K "BadSlates")) (.ref (He.ga K "BadNumber")) = some false
  k_BadSlates_BadSlates : PySem.W.kitOne K (.ref (He.ga K "BadSlates")) (.ref (He.ga K "BadSlates")) = some true
  k_BadSlates_BadNight : PySem.W.kitOne K (.ref (He.ga K "BadSlates")) (.ref (He.ga K "BadNight")) = some false
  e_BadNight : PySem.W.excIn K (He.ga K "BadNight") He.veBase "ValueError.__new__" = true ∧ PySem.W.keepIn K (.ref (He.ga K "BadNight")) = true ∧ PySem.W.subIn K (.ref (He.ga K "BadNight")) (.type "BaseException") = some true ∧ PySem.W.typeIn K (.ref (He.ga K "BadNight")) = some (.type "type")
  c_BadNight : ExcC K (He.ga K "BadNight")
  x_BadNight : PySem.W.exmOne K (.ref (He.ga K "BadNight")) (.ref (He.ga K "SlateError")) = some true
  k_BadNight_BadHouse : PySem.W.kitOne K (.ref (He.ga K "BadNight")) (.ref (He.ga K "BadHouse")) = some false
  k_BadNight_BadRules : PySem.W.kitOne K (.ref (He.ga K "BadNight")) (.ref (He.ga K "BadRules")) = some false
  k_BadNight_TooMany : PySem.W.kitOne K (.ref (He.ga K "BadNight")) (.ref (He.ga K "TooMany")) = some false
  k_BadNight_BadLot : PySem.W.kitOne K (.ref (He.ga K "BadNight")) (.ref (He.ga K "BadLot")) = some false
  k_BadNight_BadNumber : PySem.W.kitOne K (.ref (He.ga K "BadNight")) (.ref (He.ga K "BadNumber")) = some false
  k_BadNight_BadSlates : PySem.W.kitOne K (.ref (He.ga K "BadNight")) (.ref (He.ga K "BadSlates")) = some false
  k_BadNight_BadNight : PySem.W.kitOne K (.ref (He.ga K "BadNight")) (.ref (He.ga K "BadNight")) = some true
  mk_Bench : Mk K (He.ga K "Bench") (He.fAd K ("Bench", some "__init__"))
  m_all : mg "all" = none
  m_any : mg "any" = none
  m_bool : mg "bool" = none
  m_enumerate : mg "enumerate" = none
  m_int : mg "int" = none
  m_isinstance : mg "isinstance" = none
  m_len : mg "len" = none
  m_list : mg "list" = none
  m_max : mg "max" = none
  m_min : mg "min" = none
  m_range : mg "range" = none
  m_sorted : mg "sorted" = none
  m_tuple : mg "tuple" = none
  m_zip : mg "zip" = none
  c_MOST_CLERKS : ∃ t, mg "MOST_CLERKS" = some (.int 7 t)
  c_MOST_SIGNS : ∃ t, mg "MOST_SIGNS" = some (.int 3 t)
  c_MOST_STEPS : ∃ t, mg "MOST_STEPS" = some (.int 200000 t)
  c_MOST_EVENING : ∃ t, mg "MOST_EVENING" = some (.int 200 t)
  f_BadHouse___init__ : FunD K "__init__" "BadHouse.__init__" (defArgs s_BadHouse___init__) (defBody s_BadHouse___init__) (defScope s_BadHouse___init__) [] [] (He.fAd K ("BadHouse", some "__init__")) (fd 0)
  f_BadRules___init__ : FunD K "__init__" "BadRules.__init__" (defArgs s_BadRules___init__) (defBody s_BadRules___init__) (defScope s_BadRules___init__) [] [] (He.fAd K ("BadRules", some "__init__")) (fd 1)
  f_TooMany___init__ : FunD K "__init__" "TooMany.__init__" (defArgs s_TooMany___init__) (defBody s_TooMany___init__) (defScope s_TooMany___init__) [] [] (He.fAd K ("TooMany", some "__init__")) (fd 2)
  m_is_number : mg "is_number" = some (.ref (He.fAd K ("is_number", none)))
  f_is_number : FunD K "is_number" "is_number" (defArgs s_is_number) (defBody s_is_number) (defScope s_is_number) [] [] (He.fAd K ("is_number", none)) (fd 3)
  m_need_number : mg "need_number" = some (.ref (He.fAd K ("need_number", none)))
  f_need_number : FunD K "need_number" "need_number" (defArgs s_need_number) (defBody s_need_number) (defScope s_need_number) [] [] (He.fAd K ("need_number", none)) (fd 4)
  m_is_lot : mg "is_lot" = some (.ref (He.fAd K ("is_lot", none)))
  f_is_lot : FunD K "is_lot" "is_lot" (defArgs s_is_lot) (defBody s_is_lot) (defScope s_is_lot) [] [] (He.fAd K ("is_lot", none)) (fd 5)
  t_is_lot : GxR.TabB base mg (He.codeOf K ("is_lot", none)) (He.tabOf K (He.codeOf K ("is_lot", none)))
  g_is_lot : GbOk G (He.tabOf K (He.codeOf K ("is_lot", none)))
  m_need_house : mg "need_house" = some (.ref (He.fAd K ("need_house", none)))
  f_need_house : FunD K "need_house" "need_house" (defArgs s_need_house) (defBody s_need_house) (defScope s_need_house) [] [] (He.fAd K ("need_house", none)) (fd 6)
  m_need_lot : mg "need_lot" = some (.ref (He.fAd K ("need_lot", none)))
  f_need_lot : FunD K "need_lot" "need_lot" (defArgs s_need_lot) (defBody s_need_lot) (defScope s_need_lot) [] [] (He.fAd K ("need_lot", none)) (fd 7)
  m_need_some : mg "need_some" = some (.ref (He.fAd K ("need_some", none)))
  f_need_some : FunD K "need_some" "need_some" (defArgs s_need_some) (defBody s_need_some) (defScope s_need_some) [] [] (He.fAd K ("need_some", none)) (fd 8)
  m_after : mg "after" = some (.ref (He.fAd K ("after", none)))
  f_after : FunD K "after" "after" (defArgs s_after) (defBody s_after) (defScope s_after) [] [] (He.fAd K ("after", none)) (fd 9)
  m_slate_number : mg "slate_number" = some (.ref (He.fAd K ("slate_number", none)))
  f_slate_number : FunD K "slate_number" "slate_number" (defArgs s_slate_number) (defBody s_slate_number) (defScope s_slate_number) [] [] (He.fAd K ("slate_number", none)) (fd 10)
  m_number_of : mg "number_of" = some (.ref (He.fAd K ("number_of", none)))
  f_number_of : FunD K "number_of" "number_of" (defArgs s_number_of) (defBody s_number_of) (defScope s_number_of) [] [] (He.fAd K ("number_of", none)) (fd 11)
  m_need_all : mg "need_all" = some (.ref (He.fAd K ("need_all", none)))
  f_need_all : FunD K "need_all" "need_all" (defArgs s_need_all) (defBody s_need_all) (defScope s_need_all) [] [] (He.fAd K ("need_all", none)) (fd 12)
  m_days_to : mg "days_to" = some (.ref (He.fAd K ("days_to", none)))
  f_days_to : FunD K "days_to" "days_to" (defArgs s_days_to) (defBody s_days_to) (defScope s_days_to) [] [] (He.fAd K ("days_to", none)) (fd 13)
  m_cover_row : mg "cover_row" = some (.ref (He.fAd K ("cover_row", none)))
  f_cover_row : FunD K "cover_row" "cover_row" (defArgs s_cover_row) (defBody s_cover_row) (defScope s_cover_row) [] [] (He.fAd K ("cover_row", none)) (fd 14)
  m_shows_cover_row : mg "shows_cover_row" = some (.ref (He.fAd K ("shows_cover_row", none)))
  f_shows_cover_row : FunD K "shows_cover_row" "shows_cover_row" (defArgs s_shows_cover_row) (defBody s_shows_cover_row) (defScope s_shows_cover_row) [] [] (He.fAd K ("shows_cover_row", none)) (fd 15)
  m_closed_family : mg "closed_family" = some (.ref (He.fAd K ("closed_family", none)))
  f_closed_family : FunD K "closed_family" "closed_family" (defArgs s_closed_family) (defBody s_closed_family) (defScope s_closed_family) [] [] (He.fAd K ("closed_family", none)) (fd 16)
  m_shows_closed_family : mg "shows_closed_family" = some (.ref (He.fAd K ("shows_closed_family", none)))
  f_shows_closed_family : FunD K "shows_closed_family" "shows_closed_family" (defArgs s_shows_closed_family) (defBody s_shows_closed_family) (defScope s_shows_closed_family) [] [] (He.fAd K ("shows_closed_family", none)) (fd 17)
  m_need_enemies : mg "need_enemies" = some (.ref (He.fAd K ("need_enemies", none)))
  f_need_enemies : FunD K "need_enemies" "need_enemies" (defArgs s_need_enemies) (defBody s_need_enemies) (defScope s_need_enemies) [] [] (He.fAd K ("need_enemies", none)) (fd 18)
  m_bears : mg "bears" = some (.ref (He.fAd K ("bears", none)))
  f_bears : FunD K "bears" "bears" (defArgs s_bears) (defBody s_bears) (defScope s_bears) [] [] (He.fAd K ("bears", none)) (fd 19)
  m_lot_bears : mg "lot_bears" = some (.ref (He.fAd K ("lot_bears", none)))
  f_lot_bears : FunD K "lot_bears" "lot_bears" (defArgs s_lot_bears) (defBody s_lot_bears) (defScope s_lot_bears) [] [] (He.fAd K ("lot_bears", none)) (fd 20)
  m_days_borne : mg "days_borne" = some (.ref (He.fAd K ("days_borne", none)))
  f_days_borne : FunD K "days_borne" "days_borne" (defArgs s_days_borne) (defBody s_days_borne) (defScope s_days_borne) [] [] (He.fAd K ("days_borne", none)) (fd 21)
  m_best_lots : mg "best_lots" = some (.ref (He.fAd K ("best_lots", none)))
  f_best_lots : FunD K "best_lots" "best_lots" (defArgs s_best_lots) (defBody s_best_lots) (defScope s_best_lots) [] [] (He.fAd K ("best_lots", none)) (fd 22)
  m_morning : mg "morning" = some (.ref (He.fAd K ("morning", none)))
  f_morning : FunD K "morning" "morning" (defArgs s_morning) (defBody s_morning) (defScope s_morning) [] [] (He.fAd K ("morning", none)) (fd 23)
  m_course : mg "course" = some (.ref (He.fAd K ("course", none)))
  f_course : FunD K "course" "course" (defArgs s_course) (defBody s_course) (defScope s_course) [] [] (He.fAd K ("course", none)) (fd 24)
  m_need_few : mg "need_few" = some (.ref (He.fAd K ("need_few", none)))
  f_need_few : FunD K "need_few" "need_few" (defArgs s_need_few) (defBody s_need_few) (defScope s_need_few) [] [] (He.fAd K ("need_few", none)) (fd 25)
  m_tells : mg "tells" = some (.ref (He.fAd K ("tells", none)))
  f_tells : FunD K "tells" "tells" (defArgs s_tells) (defBody s_tells) (defScope s_tells) [] [] (He.fAd K ("tells", none)) (fd 26)
  m_days_told : mg "days_told" = some (.ref (He.fAd K ("days_told", none)))
  f_days_told : FunD K "days_told" "days_told" (defArgs s_days_told) (defBody s_days_told) (defScope s_days_told) [] [] (He.fAd K ("days_told", none)) (fd 27)
  m_two_courses : mg "two_courses" = some (.ref (He.fAd K ("two_courses", none)))
  f_two_courses : FunD K "two_courses" "two_courses" (defArgs s_two_courses) (defBody s_two_courses) (defScope s_two_courses) [] [] (He.fAd K ("two_courses", none)) (fd 28)
  m_shows_two_courses : mg "shows_two_courses" = some (.ref (He.fAd K ("shows_two_courses", none)))
  f_shows_two_courses : FunD K "shows_two_courses" "shows_two_courses" (defArgs s_shows_two_courses) (defBody s_shows_two_courses) (defScope s_shows_two_courses) [] [] (He.fAd K ("shows_two_courses", none)) (fd 29)
  m_could_be : mg "could_be" = some (.ref (He.fAd K ("could_be", none)))
  f_could_be : FunD K "could_be" "could_be" (defArgs s_could_be) (defBody s_could_be) (defScope s_could_be) [] [] (He.fAd K ("could_be", none)) (fd 30)
  f_Bench___init__ : FunD K "__init__" "Bench.__init__" (defArgs s_Bench___init__) (defBody s_Bench___init__) (defScope s_Bench___init__) [] [] (He.fAd K ("Bench", some "__init__")) (fd 31)
  m_crew : mg "crew" = some (.ref (He.fAd K ("crew", none)))
  f_crew : FunD K "crew" "crew" (defArgs s_crew) (defBody s_crew) (defScope s_crew) [] [] (He.fAd K ("crew", none)) (fd 32)
  m_crew_number : mg "crew_number" = some (.ref (He.fAd K ("crew_number", none)))
  f_crew_number : FunD K "crew_number" "crew_number" (defArgs s_crew_number) (defBody s_crew_number) (defScope s_crew_number) [] [] (He.fAd K ("crew_number", none)) (fd 33)
  m_beside : mg "beside" = some (.ref (He.fAd K ("beside", none)))
  f_beside : FunD K "beside" "beside" (defArgs s_beside) (defBody s_beside) (defScope s_beside) [] [] (He.fAd K ("beside", none)) (fd 34)
  m_with_sight : mg "with_sight" = some (.ref (He.fAd K ("with_sight", none)))
  f_with_sight : FunD K "with_sight" "with_sight" (defArgs s_with_sight) (defBody s_with_sight) (defScope s_with_sight) [] [] (He.fAd K ("with_sight", none)) (fd 35)
  m_best_sight : mg "best_sight" = some (.ref (He.fAd K ("best_sight", none)))
  f_best_sight : FunD K "best_sight" "best_sight" (defArgs s_best_sight) (defBody s_best_sight) (defScope s_best_sight) [] [] (He.fAd K ("best_sight", none)) (fd 36)
  m_spare_sights : mg "spare_sights" = some (.ref (He.fAd K ("spare_sights", none)))
  f_spare_sights : FunD K "spare_sights" "spare_sights" (defArgs s_spare_sights) (defBody s_spare_sights) (defScope s_spare_sights) [] [] (He.fAd K ("spare_sights", none)) (fd 37)
  m__law_taken : mg "_law_taken" = some (.ref (He.fAd K ("_law_taken", none)))
  f__law_taken : FunD K "_law_taken" "_law_taken" (defArgs s__law_taken) (defBody s__law_taken) (defScope s__law_taken) [] [] (He.fAd K ("_law_taken", none)) (fd 38)
  m__law_pick : mg "_law_pick" = some (.ref (He.fAd K ("_law_pick", none)))
  f__law_pick : FunD K "_law_pick" "_law_pick" (defArgs s__law_pick) (defBody s__law_pick) (defScope s__law_pick) [] [] (He.fAd K ("_law_pick", none)) (fd 39)
  m__law_refusal : mg "_law_refusal" = some (.ref (He.fAd K ("_law_refusal", none)))
  f__law_refusal : FunD K "_law_refusal" "_law_refusal" (defArgs s__law_refusal) (defBody s__law_refusal) (defScope s__law_refusal) [] [] (He.fAd K ("_law_refusal", none)) (fd 40)
  m__law_house_refused : mg "_law_house_refused" = some (.ref (He.fAd K ("_law_house_refused", none)))
  f__law_house_refused : FunD K "_law_house_refused" "_law_house_refused" (defArgs s__law_house_refused) (defBody s__law_house_refused) (defScope s__law_house_refused) [] [] (He.fAd K ("_law_house_refused", none)) (fd 41)
  t__law_house_refused : GxR.TabB base mg (He.codeOf K ("_law_house_refused", none)) (He.tabOf K (He.codeOf K ("_law_house_refused", none)))
  l__law_house_refused : (He.tabOf K (He.codeOf K ("_law_house_refused", none)), ("_law_house_refused.<locals>.<lambda>" : Str)) ∈ G.TL
  u__law_house_refused : ∀ p ∈ G.TL, p.1 = He.tabOf K (He.codeOf K ("_law_house_refused", none)) → p.2 = ("_law_house_refused.<locals>.<lambda>" : Str)
  a__law_house_refused : He.tabOf K (He.codeOf K ("_law_house_refused", none)) ∉ G.TG
  m__law_house : mg "_law_house" = some (.ref (He.fAd K ("_law_house", none)))
  f__law_house : FunD K "_law_house" "_law_house" (defArgs s__law_house) (defBody s__law_house) (defScope s__law_house) [] [] (He.fAd K ("_law_house", none)) (fd 42)
  m__law_goals_refused : mg "_law_goals_refused" = some (.ref (He.fAd K ("_law_goals_refused", none)))
  f__law_goals_refused : FunD K "_law_goals_refused" "_law_goals_refused" (defArgs s__law_goals_refused) (defBody s__law_goals_refused) (defScope s__law_goals_refused) [] [] (He.fAd K ("_law_goals_refused", none)) (fd 43)
  t__law_goals_refused : GxR.TabB base mg (He.codeOf K ("_law_goals_refused", none)) (He.tabOf K (He.codeOf K ("_law_goals_refused", none)))
  l__law_goals_refused : (He.tabOf K (He.codeOf K ("_law_goals_refused", none)), ("_law_goals_refused.<locals>.<lambda>" : Str)) ∈ G.TL
  u__law_goals_refused : ∀ p ∈ G.TL, p.1 = He.tabOf K (He.codeOf K ("_law_goals_refused", none)) → p.2 = ("_law_goals_refused.<locals>.<lambda>" : Str)
  a__law_goals_refused : He.tabOf K (He.codeOf K ("_law_goals_refused", none)) ∉ G.TG
  m_law : mg "law" = some (.ref (He.fAd K ("law", none)))
  f_law : FunD K "law" "law" (defArgs s_law) (defBody s_law) (defScope s_law) [] [] (He.fAd K ("law", none)) (fd 44)
  t_law : GxR.TabB base mg (He.codeOf K ("law", none)) (He.tabOf K (He.codeOf K ("law", none)))
  l_law : (He.tabOf K (He.codeOf K ("law", none)), ("law.<locals>.<lambda>" : Str)) ∈ G.TL
  u_law : ∀ p ∈ G.TL, p.1 = He.tabOf K (He.codeOf K ("law", none)) → p.2 = ("law.<locals>.<lambda>" : Str)
  a_law : He.tabOf K (He.codeOf K ("law", none)) ∉ G.TG
section
variable {w : World} {K : PySem.W.Frag} {mg : Str → Option Value} {base : Heap} {G : Gb} {fd : Nat → FuncData}
theorem Tx.b_BadHouse___init__ (T : Tx K mg base G fd) : Binds K (fd 0) ["self", "clerk"] [] := T.f_BadHouse___init__.bindsN fun _ _ _ _ _ _ us hl => match us, hl with | [_, _], _ => rfl
theorem Tx.b_BadRules___init__ (T : Tx K mg base G fd) : Binds K (fd 1) ["self", "part"] [] := T.f_BadRules___init__.bindsN fun _ _ _ _ _ _ us hl => match us, hl with | [_, _], _ => rfl
theorem Tx.b_TooMany___init__ (T : Tx K mg base G fd) : Binds K (fd 2) ["self", "most"] [] := T.f_TooMany___init__.bindsN fun _ _ _ _ _ _ us hl => match us, hl with | [_, _], _ => rfl
theorem Tx.b_is_number (T : Tx K mg base G fd) : Binds K (fd 3) ["value", "low", "high"] [] := T.f_is_number.bindsN fun _ _ _ _ _ _ us hl => match us, hl with | [_, _, _], _ => rfl
theorem Tx.b_need_number (T : Tx K mg base G fd) : Binds K (fd 4) ["value", "low", "high"] [] := T.f_need_number.bindsN fun _ _ _ _ _ _ us hl => match us, hl with | [_, _, _], _ => rfl
theorem Tx.b_is_lot (T : Tx K mg base G fd) : Binds K (fd 5) ["many", "value"] [] := T.f_is_lot.bindsN fun _ _ _ _ _ _ us hl => match us, hl with | [_, _], _ => rfl
theorem Tx.b_need_house (T : Tx K mg base G fd) : Binds K (fd 6) ["value"] [] := T.f_need_house.bindsN fun _ _ _ _ _ _ us hl => match us, hl with | [_], _ => rfl
theorem Tx.b_need_lot (T : Tx K mg base G fd) : Binds K (fd 7) ["house", "value"] [] := T.f_need_lot.bindsN fun _ _ _ _ _ _ us hl => match us, hl with | [_, _], _ => rfl
theorem Tx.b_need_some (T : Tx K mg base G fd) : Binds K (fd 8) ["house", "value"] [] := T.f_need_some.bindsN fun _ _ _ _ _ _ us hl => match us, hl with | [_, _], _ => rfl
theorem Tx.b_after (T : Tx K mg base G fd) : Binds K (fd 9) ["house", "covered", "coins"] [] := T.f_after.bindsN fun _ _ _ _ _ _ us hl => match us, hl with | [_, _, _], _ => rfl
theorem Tx.b_slate_number (T : Tx K mg base G fd) : Binds K (fd 10) ["house"] [] := T.f_slate_number.bindsN fun _ _ _ _ _ _ us hl => match us, hl with | [_], _ => rfl
theorem Tx.b_number_of (T : Tx K mg base G fd) : Binds K (fd 11) ["house", "goal"] [] := T.f_number_of.bindsN fun _ _ _ _ _ _ us hl => match us, hl with | [_, _], _ => rfl
theorem Tx.b_need_all (T : Tx K mg base G fd) : Binds K (fd 12) ["house", "coins", "goal"] [] := T.f_need_all.bindsN fun _ _ _ _ _ _ us hl => match us, hl with | [_, _, _], _ => rfl
theorem Tx.b_days_to (T : Tx K mg base G fd) : Binds K (fd 13) ["house", "coins", "goal"] [] := T.f_days_to.bindsN fun _ _ _ _ _ _ us hl => match us, hl with | [_, _, _], _ => rfl
theorem Tx.b_cover_row (T : Tx K mg base G fd) : Binds K (fd 14) ["house", "coins", "goal"] [] := T.f_cover_row.bindsN fun _ _ _ _ _ _ us hl => match us, hl with | [_, _, _], _ => rfl
theorem Tx.b_shows_cover_row (T : Tx K mg base G fd) : Binds K (fd 15) ["house", "coins", "goal", "value"] [] := T.f_shows_cover_row.bindsN fun _ _ _ _ _ _ us hl => match us, hl with | [_, _, _, _], _ => rfl
theorem Tx.b_closed_family (T : Tx K mg base G fd) : Binds K (fd 16) ["house", "coins", "goal"] [] := T.f_closed_family.bindsN fun _ _ _ _ _ _ us hl => match us, hl with | [_, _, _], _ => rfl
theorem Tx.b_shows_closed_family (T : Tx K mg base G fd) : Binds K (fd 17) ["house", "coins", "goal", "value"] [] := T.f_shows_closed_family.bindsN fun _ _ _ _ _ _ us hl => match us, hl with | [_, _, _, _], _ => rfl
theorem Tx.b_need_enemies (T : Tx K mg base G fd) : Binds K (fd 18) ["liars", "wipers"] [] := T.f_need_enemies.bindsN fun _ _ _ _ _ _ us hl => match us, hl with | [_, _], _ => rfl
theorem Tx.b_bears (T : Tx K mg base G fd) : Binds K (fd 19) ["house", "liars", "wipers"] [] := T.f_bears.bindsN fun _ _ _ _ _ _ us hl => match us, hl with | [_, _, _], _ => rfl
theorem Tx.b_lot_bears (T : Tx K mg base G fd) : Binds K (fd 20) ["house", "liars", "wipers", "goal"] [] := T.f_lot_bears.bindsN fun _ _ _ _ _ _ us hl => match us, hl with | [_, _, _, _], _ => rfl
theorem Tx.b_days_borne (T : Tx K mg base G fd) : Binds K (fd 21) ["house", "liars", "wipers"] [] := T.f_days_borne.bindsN fun _ _ _ _ _ _ us hl => match us, hl with | [_, _, _], _ => rfl
theorem Tx.b_best_lots (T : Tx K mg base G fd) : Binds K (fd 22) ["house"] [] := T.f_best_lots.bindsN fun _ _ _ _ _ _ us hl => match us, hl with | [_], _ => rfl
theorem Tx.b_morning (T : Tx K mg base G fd) : Binds K (fd 23) ["house", "rules", "slates"] [] := T.f_morning.bindsN fun _ _ _ _ _ _ us hl => match us, hl with | [_, _, _], _ => rfl
theorem Tx.b_course (T : Tx K mg base G fd) : Binds K (fd 24) ["house", "rules", "start", "nights"] [] := T.f_course.bindsN fun _ _ _ _ _ _ us hl => match us, hl with | [_, _, _, _], _ => rfl
theorem Tx.b_need_few (T : Tx K mg base G fd) : Binds K (fd 25) ["house", "rules", "liars"] [] := T.f_need_few.bindsN fun _ _ _ _ _ _ us hl => match us, hl with | [_, _, _], _ => rfl
theorem Tx.b_tells (T : Tx K mg base G fd) : Binds K (fd 26) ["house", "rules", "liars"] [] := T.f_tells.bindsN fun _ _ _ _ _ _ us hl => match us, hl with | [_, _, _], _ => rfl
theorem Tx.b_days_told (T : Tx K mg base G fd) : Binds K (fd 27) ["house", "rules", "liars"] [] := T.f_days_told.bindsN fun _ _ _ _ _ _ us hl => match us, hl with | [_, _, _], _ => rfl
theorem Tx.b_two_courses (T : Tx K mg base G fd) : Binds K (fd 28) ["house", "rules", "liars"] [] := T.f_two_courses.bindsN fun _ _ _ _ _ _ us hl => match us, hl with | [_, _, _], _ => rfl
theorem Tx.b_shows_two_courses (T : Tx K mg base G fd) : Binds K (fd 29) ["house", "rules", "liars", "value"] [] := T.f_shows_two_courses.bindsN fun _ _ _ _ _ _ us hl => match us, hl with | [_, _, _, _], _ => rfl
theorem Tx.b_could_be (T : Tx K mg base G fd) : Binds K (fd 30) ["house", "rules", "liars", "evening", "slates"] [] := T.f_could_be.bindsN fun _ _ _ _ _ _ us hl => match us, hl with | [_, _, _, _, _], _ => rfl
theorem Tx.b_Bench___init__ (T : Tx K mg base G fd) : Binds K (fd 31) ["self", "house", "rules", "start"] [] := T.f_Bench___init__.bindsN fun _ _ _ _ _ _ us hl => match us, hl with | [_, _, _, _], _ => rfl
theorem Tx.b_crew (T : Tx K mg base G fd) : Binds K (fd 32) ["house", "least"] [] := T.f_crew.bindsN fun _ _ _ _ _ _ us hl => match us, hl with | [_, _], _ => rfl
theorem Tx.b_crew_number (T : Tx K mg base G fd) : Binds K (fd 33) ["house"] [] := T.f_crew_number.bindsN fun _ _ _ _ _ _ us hl => match us, hl with | [_], _ => rfl
theorem Tx.b_beside (T : Tx K mg base G fd) : Binds K (fd 34) ["one", "other"] [] := T.f_beside.bindsN fun _ _ _ _ _ _ us hl => match us, hl with | [_, _], _ => rfl
theorem Tx.b_with_sight (T : Tx K mg base G fd) : Binds K (fd 35) ["house", "clerk", "slate"] [] := T.f_with_sight.bindsN fun _ _ _ _ _ _ us hl => match us, hl with | [_, _, _], _ => rfl
theorem Tx.b_best_sight (T : Tx K mg base G fd) : Binds K (fd 36) ["house"] [] := T.f_best_sight.bindsN fun _ _ _ _ _ _ us hl => match us, hl with | [_], _ => rfl
theorem Tx.b_spare_sights (T : Tx K mg base G fd) : Binds K (fd 37) ["house"] [] := T.f_spare_sights.bindsN fun _ _ _ _ _ _ us hl => match us, hl with | [_], _ => rfl
theorem Tx.b__law_taken (T : Tx K mg base G fd) : Binds K (fd 38) ["_law_row", "_law_many"] [] := T.f__law_taken.bindsN fun _ _ _ _ _ _ us hl => match us, hl with | [_, _], _ => rfl
theorem Tx.b__law_pick (T : Tx K mg base G fd) : Binds K (fd 39) ["_law_row", "_law_things"] [] := T.f__law_pick.bindsN fun _ _ _ _ _ _ us hl => match us, hl with | [_, _], _ => rfl
theorem Tx.b__law_refusal (T : Tx K mg base G fd) : Binds K (fd 40) ["_law_work"] [] := T.f__law_refusal.bindsN fun _ _ _ _ _ _ us hl => match us, hl with | [_], _ => rfl
theorem Tx.b__law_house_refused (T : Tx K mg base G fd) : Binds K (fd 41) ["_law_value", "_law_due"] [] := T.f__law_house_refused.bindsN fun _ _ _ _ _ _ us hl => match us, hl with | [_, _], _ => rfl
theorem Tx.b__law_house (T : Tx K mg base G fd) : Binds K (fd 42) ["_law_row", "_law_many", "_law_most"] [] := T.f__law_house.bindsN fun _ _ _ _ _ _ us hl => match us, hl with | [_, _, _], _ => rfl
theorem Tx.b__law_goals_refused (T : Tx K mg base G fd) : Binds K (fd 43) ["_law_house_here", "_law_bad"] [] := T.f__law_goals_refused.bindsN fun _ _ _ _ _ _ us hl => match us, hl with | [_, _], _ => rfl
theorem Tx.b_law (T : Tx K mg base G fd) : Binds K (fd 44) ["_law_script"] [] := T.f_law.bindsN fun _ _ _ _ _ _ us hl => match us, hl with | [_], _ => rfl
theorem ok_is_number (T : Tx K mg base G fd) : FnOk PySem.Challenge.pw_nightslates_k07_houses_refused w K mg base CX0 1 (He.fAd K ("is_number", none)) (fd 3) ["value", "low", "high"] (spD G F_is_number) := fnC (k := 0) T.gP (funC_of T.f_is_number) sc_is_number (by decide) fun A outer s H E hr =>
  (ss_one (s_ret (d_and (d_isi isi_int rfl T.m_isinstance (d_var 0) rfl T.m_int (by decide +kernel)) (d_and (d_not (d_isi isi_bool rfl T.m_isinstance (d_var 0) rfl T.m_bool (by decide +kernel))) (d_one (d_chain op_le opD_le op_le opD_le (d_var 1) (d_var 0) (d_var 2)))))))
theorem okx_need_number (T : Tx K mg base G fd) : FnOk PySem.Challenge.pw_nightslates_k07_houses_refused w K mg base (L2.CX PySem.Challenge.pw_nightslates_k07_houses_refused w) 2 (He.fAd K ("need_number", none)) (fd 4) ["value", "low", "high"] (spX G X_need_number) := fnX (k := 1) (funC_of T.f_need_number) sc_need_number (by decide) fun A outer s H E hr W Px tk =>
  (ss_one (s_if (dt_not (dt_val (d_call (ok_is_number (G := G) T) (hr.mono (by decide)) rfl T.m_is_number T.f_is_number.kp T.b_is_number (da_cons (d_var 0) (da_cons (d_var 1) (da_cons (d_var 2) da_nil)))))) (ss_one (s_raise (G := G.wx W Px) rfl tk (mk_own T.gC T.e_BadNumber T.m_BadNumber rfl))) ss_nil))
theorem ok_is_lot (T : Tx K mg base G fd) : FnOk PySem.Challenge.pw_nightslates_k07_houses_refused w K mg base CX0 3 (He.fAd K ("is_lot", none)) (fd 5) ["many", "value"] (spD G F_is_lot) := fnC (k := 2) T.gP (funC_of T.f_is_lot) sc_is_lot (by decide) fun A outer s H E hr =>
  (ss_cons (s_if (dt_w (dw_or (dt_not (dt_val (d_isi isi_tuple rfl T.m_isinstance (d_var 1) rfl T.m_tuple (by decide +kernel)))) (dw_or1 (dt_not (dt_val (d_all (own := [("one", 2)]) (k := 1) (hr.mono (by decide)) rfl T.m_all T.t_is_lot rfl rfl sc_is_lot.nd (di_weak (di_val (d_var 1))) ⟨blkOk_by (by kernel_rfl), by decide +kernel, rfl, rfl⟩ T.g_is_lot (by decide) (fun _ _ _ _ _ _ _ => (dg_name 2 sc_is_lot.nd)) (fun _ _ _ _ _ _ _ hq => (d_call (ok_is_number T) (hq.mono (by decide)) rfl T.m_is_number T.f_is_number.kp T.b_is_number (da_cons (d_var 2) (da_cons d_int (da_cons (d_sub (d_var 0) d_int) da_nil))))))))))) (ss_one (s_ret d_bl)) ss_nil)
  (ss_one (s_ret (d_all (own := [("one", 2), ("other", 3)]) (k := 0) (hr.mono (by decide)) rfl T.m_all T.t_is_lot rfl rfl sc_is_lot.nd (di_weak (di_zip rfl T.m_zip (d_var 1) (d_sl (d_var 1) (dp_some d_int) dp_none))) ⟨blkOk_by (by kernel_rfl), by decide +kernel, rfl, rfl⟩ T.g_is_lot (by decide) (fun _ _ _ _ _ _ _ => (dg_tup2 rfl (dg_name 2 sc_is_lot.nd) (dg_name 3 sc_is_lot.nd))) (fun _ _ _ _ _ _ _ hq => (d_cmp op_lt opD_lt (d_var 2) (d_var 3)))))))
theorem okx_need_house (T : Tx K mg base G fd) : FnOk PySem.Challenge.pw_nightslates_k07_houses_refused w K mg base (L2.CX PySem.Challenge.pw_nightslates_k07_houses_refused w) 4 (He.fAd K ("need_house", none)) (fd 6) ["value"] (spX G X_need_house) := fnX (k := 3) (funC_of T.f_need_house) sc_need_house (by decide) fun A outer s H E hr W Px tk =>
  (ss_cons (s_if (dt_w (dw_or (dt_not (dt_val (d_isi isi_tuple rfl T.m_isinstance (d_var 0) rfl T.m_tuple (by decide +kernel)))) (dw_or1 (dt_not (dt_chain op_le opD_le op_le opD_le d_int (d_len rfl rfl T.m_len (dv_cons (d_var 0) dv_nil)) (d_gint rfl (Classical.choose_spec T.c_MOST_CLERKS))))))) (ss_one (s_raise1 (G := G) (k := 1) rfl tk T.gC T.i_BadHouse T.m_BadHouse (fnInit (k := 0) (funC_of T.f_BadHouse___init__) sc_BadHouse___init__ T.i_BadHouse.oex T.n_BadHouse rfl (by first | exact Or.inl rfl | exact Or.inr (Or.inl rfl)) (by first | exact Or.inl rfl | exact Or.inr (Or.inl rfl))) (hr.mono (by decide)) T.b_BadHouse___init__ rfl d_non)) ss_nil)
  (ss_one (s_for (passes_of rfl) rfl (di_enum rfl T.m_enumerate (d_var 0)) (dg_tup2 rfl (dg_name 1 sc_need_house.nd) (dg_name 2 sc_need_house.nd))
  (ss_one (s_if (dt_w (dw_or (dt_not (dt_val (d_call (ok_is_lot (G := G) T) (hr.mono (by decide)) rfl T.m_is_lot T.f_is_lot.kp T.b_is_lot (da_cons (d_len rfl rfl T.m_len (dv_cons (d_var 0) dv_nil)) (da_cons (d_var 2) da_nil))))) (dw_or1 (dt_cmp (op_eqD (hu64 hr)) opD_eq (d_var 2) (d_tup dv_nil))))) (ss_one (s_raise1 (G := G) (k := 1) rfl tk T.gC T.i_BadHouse T.m_BadHouse (fnInit (k := 0) (funC_of T.f_BadHouse___init__) sc_BadHouse___init__ T.i_BadHouse.oex T.n_BadHouse rfl (by first | exact Or.inl rfl | exact Or.inr (Or.inl rfl)) (by first | exact Or.inl rfl | exact Or.inr (Or.inl rfl))) (hr.mono (by decide)) T.b_BadHouse___init__ rfl (d_var 1))) ss_nil)))))
theorem okx_need_lot (T : Tx K mg base G fd) : FnOk PySem.Challenge.pw_nightslates_k07_houses_refused w K mg base (L2.CX PySem.Challenge.pw_nightslates_k07_houses_refused w) 4 (He.fAd K ("need_lot", none)) (fd 7) ["house", "value"] (spX G X_need_lot) := fnX (k := 3) (funC_of T.f_need_lot) sc_need_lot (by decide) fun A outer s H E hr W Px tk =>
  (ss_one (s_if (dt_not (dt_val (d_call (ok_is_lot (G := G) T) (hr.mono (by decide)) rfl T.m_is_lot T.f_is_lot.kp T.b_is_lot (da_cons (d_len rfl rfl T.m_len (dv_cons (d_var 0) dv_nil)) (da_cons (d_var 1) da_nil))))) (ss_one (s_raise (G := G.wx W Px) rfl tk (mk_own T.gC T.e_BadLot T.m_BadLot rfl))) ss_nil))
theorem okx_need_some (T : Tx K mg base G fd) : FnOk PySem.Challenge.pw_nightslates_k07_houses_refused w K mg base (L2.CX PySem.Challenge.pw_nightslates_k07_houses_refused w) 5 (He.fAd K ("need_some", none)) (fd 8) ["house", "value"] (spX G X_need_some) := fnX (k := 4) (funC_of T.f_need_some) sc_need_some (by decide) fun A outer s H E hr W Px tk =>
  (ss_cons (s_expr (d_callX (okx_need_lot (G := G) T) tk (hr.mono (by decide)) rfl T.m_need_lot T.f_need_lot.kp T.b_need_lot (da_cons (d_var 0) (da_cons (d_var 1) da_nil))))
  (ss_one (s_if (dt_cmp (op_eqD (hu64 hr)) opD_eq (d_var 1) (d_tup dv_nil)) (ss_one (s_raise (G := G.wx W Px) rfl tk (mk_own T.gC T.e_BadLot T.m_BadLot rfl))) ss_nil)))
theorem okx_after (T : Tx K mg base G fd) : FnOk PySem.Challenge.pw_nightslates_k07_houses_refused w K mg base (L2.CX PySem.Challenge.pw_nightslates_k07_houses_refused w) 5 (He.fAd K ("after", none)) (fd 9) ["house", "covered", "coins"] (spX G X_after) := fnX (k := 4) (funC_of T.f_after) sc_after (by decide) fun A outer s H E hr W Px tk =>
  (ss_cons (s_expr (d_callX (okx_need_house (G := G) T) tk (hr.mono (by decide)) rfl T.m_need_house T.f_need_house.kp T.b_need_house (da_cons (d_var 0) da_nil)))
  (ss_cons (s_expr (d_callX (okx_need_lot (G := G) T) tk (hr.mono (by decide)) rfl T.m_need_lot T.f_need_lot.kp T.b_need_lot (da_cons (d_var 0) (da_cons (d_var 1) da_nil))))
  (ss_cons (s_expr (d_callX (okx_need_lot (G := G) T) tk (hr.mono (by decide)) rfl T.m_need_lot T.f_need_lot.kp T.b_need_lot (da_cons (d_var 0) (da_cons (d_var 2) da_nil))))
  ss_never)))
theorem okx_slate_number (T : Tx K mg base G fd) : FnOk PySem.Challenge.pw_nightslates_k07_houses_refused w K mg base (L2.CX PySem.Challenge.pw_nightslates_k07_houses_refused w) 5 (He.fAd K ("slate_number", none)) (fd 10) ["house"] (spX G X_slate_number) := fnX (k := 4) (funC_of T.f_slate_number) sc_slate_number (by decide) fun A outer s H E hr W Px tk =>
  (ss_cons (s_expr (d_callX (okx_need_house (G := G) T) tk (hr.mono (by decide)) rfl T.m_need_house T.f_need_house.kp T.b_need_house (da_cons (d_var 0) da_nil)))
  ss_never)
theorem okx_number_of (T : Tx K mg base G fd) : FnOk PySem.Challenge.pw_nightslates_k07_houses_refused w K mg base (L2.CX PySem.Challenge.pw_nightslates_k07_houses_refused w) 6 (He.fAd K ("number_of", none)) (fd 11) ["house", "goal"] (spX G X_number_of) := fnX (k := 5) (funC_of T.f_number_of) sc_number_of (by decide) fun A outer s H E hr W Px tk =>
  (ss_cons (s_expr (d_callX (okx_need_house (G := G) T) tk (hr.mono (by decide)) rfl T.m_need_house T.f_need_house.kp T.b_need_house (da_cons (d_var 0) da_nil)))
  (ss_cons (s_expr (d_callX (okx_need_some (G := G) T) tk (hr.mono (by decide)) rfl T.m_need_some T.f_need_some.kp T.b_need_some (da_cons (d_var 0) (da_cons (d_var 1) da_nil))))
  ss_never))
theorem okx_need_all (T : Tx K mg base G fd) : FnOk PySem.Challenge.pw_nightslates_k07_houses_refused w K mg base (L2.CX PySem.Challenge.pw_nightslates_k07_houses_refused w) 6 (He.fAd K ("need_all", none)) (fd 12) ["house", "coins", "goal"] (spX G X_need_all) := fnX (k := 5) (funC_of T.f_need_all) sc_need_all (by decide) fun A outer s H E hr W Px tk =>
  (ss_cons (s_expr (d_callX (okx_need_house (G := G) T) tk (hr.mono (by decide)) rfl T.m_need_house T.f_need_house.kp T.b_need_house (da_cons (d_var 0) da_nil)))
  (ss_cons (s_expr (d_callX (okx_need_number (G := G) T) tk (hr.mono (by decide)) rfl T.m_need_number T.f_need_number.kp T.b_need_number (da_cons (d_var 1) (da_cons d_int (da_cons (d_gint rfl (Classical.choose_spec T.c_MOST_CLERKS)) da_nil)))))
  (ss_one (s_expr (d_callX (okx_need_some (G := G) T) tk (hr.mono (by decide)) rfl T.m_need_some T.f_need_some.kp T.b_need_some (da_cons (d_var 0) (da_cons (d_var 2) da_nil)))))))
theorem okx_days_to (T : Tx K mg base G fd) : FnOk PySem.Challenge.pw_nightslates_k07_houses_refused w K mg base (L2.CX PySem.Challenge.pw_nightslates_k07_houses_refused w) 7 (He.fAd K ("days_to", none)) (fd 13) ["house", "coins", "goal"] (spX G X_days_to) := fnX (k := 6) (funC_of T.f_days_to) sc_days_to (by decide) fun A outer s H E hr W Px tk =>
  (ss_cons (s_expr (d_callX (okx_need_all (G := G) T) tk (hr.mono (by decide)) rfl T.m_need_all T.f_need_all.kp T.b_need_all (da_cons (d_var 0) (da_cons (d_var 1) (da_cons (d_var 2) da_nil)))))
  ss_never)
theorem okx_cover_row (T : Tx K mg base G fd) : FnOk PySem.Challenge.pw_nightslates_k07_houses_refused w K mg base (L2.CX PySem.Challenge.pw_nightslates_k07_houses_refused w) 7 (He.fAd K ("cover_row", none)) (fd 14) ["house", "coins", "goal"] (spX G X_cover_row) := fnX (k := 6) (funC_of T.f_cover_row) sc_cover_row (by decide) fun A outer s H E hr W Px tk =>
  (ss_cons (s_expr (d_callX (okx_need_all (G := G) T) tk (hr.mono (by decide)) rfl T.m_need_all T.f_need_all.kp T.b_need_all (da_cons (d_var 0) (da_cons (d_var 1) (da_cons (d_var 2) da_nil)))))
  ss_never)
theorem okx_shows_cover_row (T : Tx K mg base G fd) : FnOk PySem.Challenge.pw_nightslates_k07_houses_refused w K mg base (L2.CX PySem.Challenge.pw_nightslates_k07_houses_refused w) 7 (He.fAd K ("shows_cover_row", none)) (fd 15) ["house", "coins", "goal", "value"] (spX G X_shows_cover_row) := fnX (k := 6) (funC_of T.f_shows_cover_row) sc_shows_cover_row (by decide) fun A outer s H E hr W Px tk =>
  (ss_cons (s_expr (d_callX (okx_need_all (G := G) T) tk (hr.mono (by decide)) rfl T.m_need_all T.f_need_all.kp T.b_need_all (da_cons (d_var 0) (da_cons (d_var 1) (da_cons (d_var 2) da_nil)))))
  ss_never)
theorem okx_closed_family (T : Tx K mg base G fd) : FnOk PySem.Challenge.pw_nightslates_k07_houses_refused w K mg base (L2.CX PySem.Challenge.pw_nightslates_k07_houses_refused w) 7 (He.fAd K ("closed_family", none)) (fd 16) ["house", "coins", "goal"] (spX G X_closed_family) := fnX (k := 6) (funC_of T.f_closed_family) sc_closed_family (by decide) fun A outer s H E hr W Px tk =>
  (ss_cons (s_expr (d_callX (okx_need_all (G := G) T) tk (hr.mono (by decide)) rfl T.m_need_all T.f_need_all.kp T.b_need_all (da_cons (d_var 0) (da_cons (d_var 1) (da_cons (d_var 2) da_nil)))))
  ss_never)
theorem okx_shows_closed_family (T : Tx K mg base G fd) : FnOk PySem.Challenge.pw_nightslates_k07_houses_refused w K mg base (L2.CX PySem.Challenge.pw_nightslates_k07_houses_refused w) 7 (He.fAd K ("shows_closed_family", none)) (fd 17) ["house", "coins", "goal", "value"] (spX G X_shows_closed_family) := fnX (k := 6) (funC_of T.f_shows_closed_family) sc_shows_closed_family (by decide) fun A outer s H E hr W Px tk =>
  (ss_cons (s_expr (d_callX (okx_need_all (G := G) T) tk (hr.mono (by decide)) rfl T.m_need_all T.f_need_all.kp T.b_need_all (da_cons (d_var 0) (da_cons (d_var 1) (da_cons (d_var 2) da_nil)))))
  ss_never)
theorem okx_need_enemies (T : Tx K mg base G fd) : FnOk PySem.Challenge.pw_nightslates_k07_houses_refused w K mg base (L2.CX PySem.Challenge.pw_nightslates_k07_houses_refused w) 3 (He.fAd K ("need_enemies", none)) (fd 18) ["liars", "wipers"] (spX G X_need_enemies) := fnX (k := 2) (funC_of T.f_need_enemies) sc_need_enemies (by decide) fun A outer s H E hr W Px tk =>
  (ss_cons (s_expr (d_callX (okx_need_number (G := G) T) tk (hr.mono (by decide)) rfl T.m_need_number T.f_need_number.kp T.b_need_number (da_cons (d_var 0) (da_cons d_int (da_cons (d_gint rfl (Classical.choose_spec T.c_MOST_CLERKS)) da_nil)))))
  (ss_one (s_expr (d_callX (okx_need_number (G := G) T) tk (hr.mono (by decide)) rfl T.m_need_number T.f_need_number.kp T.b_need_number (da_cons (d_var 1) (da_cons d_int (da_cons (d_gint rfl (Classical.choose_spec T.c_MOST_CLERKS)) da_nil)))))))
theorem okx_bears (T : Tx K mg base G fd) : FnOk PySem.Challenge.pw_nightslates_k07_houses_refused w K mg base (L2.CX PySem.Challenge.pw_nightslates_k07_houses_refused w) 5 (He.fAd K ("bears", none)) (fd 19) ["house", "liars", "wipers"] (spX G X_bears) := fnX (k := 4) (funC_of T.f_bears) sc_bears (by decide) fun A outer s H E hr W Px tk =>
  (ss_cons (s_expr (d_callX (okx_need_house (G := G) T) tk (hr.mono (by decide)) rfl T.m_need_house T.f_need_house.kp T.b_need_house (da_cons (d_var 0) da_nil)))
  (ss_cons (s_expr (d_callX (okx_need_enemies (G := G) T) tk (hr.mono (by decide)) rfl T.m_need_enemies T.f_need_enemies.kp T.b_need_enemies (da_cons (d_var 1) (da_cons (d_var 2) da_nil))))
  ss_never))
theorem okx_lot_bears (T : Tx K mg base G fd) : FnOk PySem.Challenge.pw_nightslates_k07_houses_refused w K mg base (L2.CX PySem.Challenge.pw_nightslates_k07_houses_refused w) 6 (He.fAd K ("lot_bears", none)) (fd 20) ["house", "liars", "wipers", "goal"] (spX G X_lot_bears) := fnX (k := 5) (funC_of T.f_lot_bears) sc_lot_bears (by decide) fun A outer s H E hr W Px tk =>
  (ss_cons (s_expr (d_callX (okx_need_house (G := G) T) tk (hr.mono (by decide)) rfl T.m_need_house T.f_need_house.kp T.b_need_house (da_cons (d_var 0) da_nil)))
  (ss_cons (s_expr (d_callX (okx_need_enemies (G := G) T) tk (hr.mono (by decide)) rfl T.m_need_enemies T.f_need_enemies.kp T.b_need_enemies (da_cons (d_var 1) (da_cons (d_var 2) da_nil))))
  (ss_cons (s_expr (d_callX (okx_need_some (G := G) T) tk (hr.mono (by decide)) rfl T.m_need_some T.f_need_some.kp T.b_need_some (da_cons (d_var 0) (da_cons (d_var 3) da_nil))))
  ss_never)))
theorem okx_days_borne (T : Tx K mg base G fd) : FnOk PySem.Challenge.pw_nightslates_k07_houses_refused w K mg base (L2.CX PySem.Challenge.pw_nightslates_k07_houses_refused w) 5 (He.fAd K ("days_borne", none)) (fd 21) ["house", "liars", "wipers"] (spX G X_days_borne) := fnX (k := 4) (funC_of T.f_days_borne) sc_days_borne (by decide) fun A outer s H E hr W Px tk =>
  (ss_cons (s_expr (d_callX (okx_need_house (G := G) T) tk (hr.mono (by decide)) rfl T.m_need_house T.f_need_house.kp T.b_need_house (da_cons (d_var 0) da_nil)))
  (ss_cons (s_expr (d_callX (okx_need_enemies (G := G) T) tk (hr.mono (by decide)) rfl T.m_need_enemies T.f_need_enemies.kp T.b_need_enemies (da_cons (d_var 1) (da_cons (d_var 2) da_nil))))
  ss_never))
theorem okx_best_lots (T : Tx K mg base G fd) : FnOk PySem.Challenge.pw_nightslates_k07_houses_refused w K mg base (L2.CX PySem.Challenge.pw_nightslates_k07_houses_refused w) 5 (He.fAd K ("best_lots", none)) (fd 22) ["house"] (spX G X_best_lots) := fnX (k := 4) (funC_of T.f_best_lots) sc_best_lots (by decide) fun A outer s H E hr W Px tk =>
  (ss_cons (s_expr (d_callX (okx_need_house (G := G) T) tk (hr.mono (by decide)) rfl T.m_need_house T.f_need_house.kp T.b_need_house (da_cons (d_var 0) da_nil)))
  ss_never)
theorem okx_morning (T : Tx K mg base G fd) : FnOk PySem.Challenge.pw_nightslates_k07_houses_refused w K mg base (L2.CX PySem.Challenge.pw_nightslates_k07_houses_refused w) 5 (He.fAd K ("morning", none)) (fd 23) ["house", "rules", "slates"] (spX G X_morning) := fnX (k := 4) (funC_of T.f_morning) sc_morning (by decide) fun A outer s H E hr W Px tk =>
  (ss_cons (s_expr (d_callX (okx_need_house (G := G) T) tk (hr.mono (by decide)) rfl T.m_need_house T.f_need_house.kp T.b_need_house (da_cons (d_var 0) da_nil)))
  ss_never)
theorem okx_course (T : Tx K mg base G fd) : FnOk PySem.Challenge.pw_nightslates_k07_houses_refused w K mg base (L2.CX PySem.Challenge.pw_nightslates_k07_houses_refused w) 5 (He.fAd K ("course", none)) (fd 24) ["house", "rules", "start", "nights"] (spX G X_course) := fnX (k := 4) (funC_of T.f_course) sc_course (by decide) fun A outer s H E hr W Px tk =>
  (ss_cons (s_expr (d_callX (okx_need_house (G := G) T) tk (hr.mono (by decide)) rfl T.m_need_house T.f_need_house.kp T.b_need_house (da_cons (d_var 0) da_nil)))
  ss_never)
theorem okx_need_few (T : Tx K mg base G fd) : FnOk PySem.Challenge.pw_nightslates_k07_houses_refused w K mg base (L2.CX PySem.Challenge.pw_nightslates_k07_houses_refused w) 5 (He.fAd K ("need_few", none)) (fd 25) ["house", "rules", "liars"] (spX G X_need_few) := fnX (k := 4) (funC_of T.f_need_few) sc_need_few (by decide) fun A outer s H E hr W Px tk =>
  (ss_cons (s_expr (d_callX (okx_need_house (G := G) T) tk (hr.mono (by decide)) rfl T.m_need_house T.f_need_house.kp T.b_need_house (da_cons (d_var 0) da_nil)))
  ss_never)
theorem okx_tells (T : Tx K mg base G fd) : FnOk PySem.Challenge.pw_nightslates_k07_houses_refused w K mg base (L2.CX PySem.Challenge.pw_nightslates_k07_houses_refused w) 6 (He.fAd K ("tells", none)) (fd 26) ["house", "rules", "liars"] (spX G X_tells) := fnX (k := 5) (funC_of T.f_tells) sc_tells (by decide) fun A outer s H E hr W Px tk =>
  (ss_cons (s_expr (d_callX (okx_need_few (G := G) T) tk (hr.mono (by decide)) rfl T.m_need_few T.f_need_few.kp T.b_need_few (da_cons (d_var 0) (da_cons (d_var 1) (da_cons (d_var 2) da_nil)))))
  ss_never)
theorem okx_days_told (T : Tx K mg base G fd) : FnOk PySem.Challenge.pw_nightslates_k07_houses_refused w K mg base (L2.CX PySem.Challenge.pw_nightslates_k07_houses_refused w) 6 (He.fAd K ("days_told", none)) (fd 27) ["house", "rules", "liars"] (spX G X_days_told) := fnX (k := 5) (funC_of T.f_days_told) sc_days_told (by decide) fun A outer s H E hr W Px tk =>
  (ss_cons (s_expr (d_callX (okx_need_few (G := G) T) tk (hr.mono (by decide)) rfl T.m_need_few T.f_need_few.kp T.b_need_few (da_cons (d_var 0) (da_cons (d_var 1) (da_cons (d_var 2) da_nil)))))
  ss_never)
theorem okx_two_courses (T : Tx K mg base G fd) : FnOk PySem.Challenge.pw_nightslates_k07_houses_refused w K mg base (L2.CX PySem.Challenge.pw_nightslates_k07_houses_refused w) 6 (He.fAd K ("two_courses", none)) (fd 28) ["house", "rules", "liars"] (spX G X_two_courses) := fnX (k := 5) (funC_of T.f_two_courses) sc_two_courses (by decide) fun A outer s H E hr W Px tk =>
  (ss_cons (s_expr (d_callX (okx_need_few (G := G) T) tk (hr.mono (by decide)) rfl T.m_need_few T.f_need_few.kp T.b_need_few (da_cons (d_var 0) (da_cons (d_var 1) (da_cons (d_var 2) da_nil)))))
  ss_never)
theorem okx_shows_two_courses (T : Tx K mg base G fd) : FnOk PySem.Challenge.pw_nightslates_k07_houses_refused w K mg base (L2.CX PySem.Challenge.pw_nightslates_k07_houses_refused w) 6 (He.fAd K ("shows_two_courses", none)) (fd 29) ["house", "rules", "liars", "value"] (spX G X_shows_two_courses) := fnX (k := 5) (funC_of T.f_shows_two_courses) sc_shows_two_courses (by decide) fun A outer s H E hr W Px tk =>
  (ss_cons (s_expr (d_callX (okx_need_few (G := G) T) tk (hr.mono (by decide)) rfl T.m_need_few T.f_need_few.kp T.b_need_few (da_cons (d_var 0) (da_cons (d_var 1) (da_cons (d_var 2) da_nil)))))
  ss_never)
theorem okx_could_be (T : Tx K mg base G fd) : FnOk PySem.Challenge.pw_nightslates_k07_houses_refused w K mg base (L2.CX PySem.Challenge.pw_nightslates_k07_houses_refused w) 5 (He.fAd K ("could_be", none)) (fd 30) ["house", "rules", "liars", "evening", "slates"] (spX G X_could_be) := fnX (k := 4) (funC_of T.f_could_be) sc_could_be (by decide) fun A outer s H E hr W Px tk =>
  (ss_cons (s_expr (d_callX (okx_need_house (G := G) T) tk (hr.mono (by decide)) rfl T.m_need_house T.f_need_house.kp T.b_need_house (da_cons (d_var 0) da_nil)))
  ss_never)
theorem okx_Bench___init__ (T : Tx K mg base G fd) : FnOk PySem.Challenge.pw_nightslates_k07_houses_refused w K mg base (L2.CX PySem.Challenge.pw_nightslates_k07_houses_refused w) 5 (He.fAd K ("Bench", some "__init__")) (fd 31) ["self", "house", "rules", "start"] (spX G X_Bench___init__) := fnX (k := 4) (funC_of T.f_Bench___init__) sc_Bench___init__ (by decide) fun A outer s H E hr W Px tk =>
  (ss_cons (s_expr (d_callX (okx_need_house (G := G) T) tk (hr.mono (by decide)) rfl T.m_need_house T.f_need_house.kp T.b_need_house (da_cons (d_var 1) da_nil)))
  ss_never)
theorem okx_crew (T : Tx K mg base G fd) : FnOk PySem.Challenge.pw_nightslates_k07_houses_refused w K mg base (L2.CX PySem.Challenge.pw_nightslates_k07_houses_refused w) 5 (He.fAd K ("crew", none)) (fd 32) ["house", "least"] (spX G X_crew) := fnX (k := 4) (funC_of T.f_crew) sc_crew (by decide) fun A outer s H E hr W Px tk =>
  (ss_cons (s_expr (d_callX (okx_need_house (G := G) T) tk (hr.mono (by decide)) rfl T.m_need_house T.f_need_house.kp T.b_need_house (da_cons (d_var 0) da_nil)))
  (ss_cons (s_expr (d_callX (okx_need_number (G := G) T) tk (hr.mono (by decide)) rfl T.m_need_number T.f_need_number.kp T.b_need_number (da_cons (d_var 1) (da_cons d_int (da_cons (d_gint rfl (Classical.choose_spec T.c_MOST_CLERKS)) da_nil)))))
  ss_never))
theorem okx_crew_number (T : Tx K mg base G fd) : FnOk PySem.Challenge.pw_nightslates_k07_houses_refused w K mg base (L2.CX PySem.Challenge.pw_nightslates_k07_houses_refused w) 5 (He.fAd K ("crew_number", none)) (fd 33) ["house"] (spX G X_crew_number) := fnX (k := 4) (funC_of T.f_crew_number) sc_crew_number (by decide) fun A outer s H E hr W Px tk =>
  (ss_cons (s_expr (d_callX (okx_need_house (G := G) T) tk (hr.mono (by decide)) rfl T.m_need_house T.f_need_house.kp T.b_need_house (da_cons (d_var 0) da_nil)))
  ss_never)
theorem okx_beside (T : Tx K mg base G fd) : FnOk PySem.Challenge.pw_nightslates_k07_houses_refused w K mg base (L2.CX PySem.Challenge.pw_nightslates_k07_houses_refused w) 5 (He.fAd K ("beside", none)) (fd 34) ["one", "other"] (spX G X_beside) := fnX (k := 4) (funC_of T.f_beside) sc_beside (by decide) fun A outer s H E hr W Px tk =>
  (ss_cons (s_expr (d_callX (okx_need_house (G := G) T) tk (hr.mono (by decide)) rfl T.m_need_house T.f_need_house.kp T.b_need_house (da_cons (d_var 0) da_nil)))
  (ss_cons (s_expr (d_callX (okx_need_house (G := G) T) tk (hr.mono (by decide)) rfl T.m_need_house T.f_need_house.kp T.b_need_house (da_cons (d_var 1) da_nil)))
  (ss_cons (s_if (dt_cmp op_gt opD_gt (d_add (d_len rfl rfl T.m_len (dv_cons (d_var 0) dv_nil)) (d_len rfl rfl T.m_len (dv_cons (d_var 1) dv_nil))) (d_gint rfl (Classical.choose_spec T.c_MOST_CLERKS))) (ss_one (s_raise1 (G := G) (k := 1) rfl tk T.gC T.i_TooMany T.m_TooMany (fnInit (k := 0) (funC_of T.f_TooMany___init__) sc_TooMany___init__ T.i_TooMany.oex T.n_TooMany rfl (by first | exact Or.inl rfl | exact Or.inr (Or.inl rfl)) (by first | exact Or.inl rfl | exact Or.inr (Or.inl rfl))) (hr.mono (by decide)) T.b_TooMany___init__ rfl (d_gint rfl (Classical.choose_spec T.c_MOST_CLERKS)))) ss_nil)
  ss_never)))
theorem okx_with_sight (T : Tx K mg base G fd) : FnOk PySem.Challenge.pw_nightslates_k07_houses_refused w K mg base (L2.CX PySem.Challenge.pw_nightslates_k07_houses_refused w) 5 (He.fAd K ("with_sight", none)) (fd 35) ["house", "clerk", "slate"] (spX G X_with_sight) := fnX (k := 4) (funC_of T.f_with_sight) sc_with_sight (by decide) fun A outer s H E hr W Px tk =>
  (ss_cons (s_expr (d_callX (okx_need_house (G := G) T) tk (hr.mono (by decide)) rfl T.m_need_house T.f_need_house.kp T.b_need_house (da_cons (d_var 0) da_nil)))
  (ss_cons (s_expr (d_callX (okx_need_number (G := G) T) tk (hr.mono (by decide)) rfl T.m_need_number T.f_need_number.kp T.b_need_number (da_cons (d_var 1) (da_cons d_int (da_cons (d_sub (d_len rfl rfl T.m_len (dv_cons (d_var 0) dv_nil)) d_int) da_nil)))))
  (ss_cons (s_if (dt_w (dw_or (dt_not (dt_val (d_call (ok_is_number (G := G) T) (hr.mono (by decide)) rfl T.m_is_number T.f_is_number.kp T.b_is_number (da_cons (d_var 2) (da_cons d_int (da_cons (d_sub (d_len rfl rfl T.m_len (dv_cons (d_var 0) dv_nil)) d_int) da_nil)))))) (dw_or1 (dt_cmp (op_inX (hu65 hr)) opD_in (d_var 2) (d_ix (d_var 0) (d_var 1)))))) (ss_one (s_raise (G := G.wx W Px) rfl tk (mk_own T.gC T.e_BadNumber T.m_BadNumber rfl))) ss_nil)
  ss_never)))
theorem okx_best_sight (T : Tx K mg base G fd) : FnOk PySem.Challenge.pw_nightslates_k07_houses_refused w K mg base (L2.CX PySem.Challenge.pw_nightslates_k07_houses_refused w) 5 (He.fAd K ("best_sight", none)) (fd 36) ["house"] (spX G X_best_sight) := fnX (k := 4) (funC_of T.f_best_sight) sc_best_sight (by decide) fun A outer s H E hr W Px tk =>
  (ss_cons (s_expr (d_callX (okx_need_house (G := G) T) tk (hr.mono (by decide)) rfl T.m_need_house T.f_need_house.kp T.b_need_house (da_cons (d_var 0) da_nil)))
  ss_never)
theorem okx_spare_sights (T : Tx K mg base G fd) : FnOk PySem.Challenge.pw_nightslates_k07_houses_refused w K mg base (L2.CX PySem.Challenge.pw_nightslates_k07_houses_refused w) 5 (He.fAd K ("spare_sights", none)) (fd 37) ["house"] (spX G X_spare_sights) := fnX (k := 4) (funC_of T.f_spare_sights) sc_spare_sights (by decide) fun A outer s H E hr W Px tk =>
  (ss_cons (s_expr (d_callX (okx_need_house (G := G) T) tk (hr.mono (by decide)) rfl T.m_need_house T.f_need_house.kp T.b_need_house (da_cons (d_var 0) da_nil)))
  ss_never)
theorem ok__law_taken (T : Tx K mg base G fd) : FnOk PySem.Challenge.pw_nightslates_k07_houses_refused w K mg base CX0 1 (He.fAd K ("_law_taken", none)) (fd 38) ["_law_row", "_law_many"] (spD G F__law_taken) := fnTaken (k := 0) T.gK (funC_of T.f__law_taken) sc__law_taken fun A outer s H E => ⟨_,
  pss_cons (ps_if (pt_cmpR op_gt (pe_ix ix_list (pv 0) pe_int (fun _ _ => rfl)) pe_int (nomark _)) (pss_cons (ps_set (i := 2) sc__law_taken.nd rfl (.inl rfl) (pe_op op_mod (pe_callTy call_int1 rfl T.m_int boot_int (pa_cons (pe_ix ix_list (pv 0) pe_int (fun _ _ => rfl)) pa_nil)) (pv 1))) (pss_cons (ps_asg (pe_op op_fdiv (pe_ix ix_list (pv 0) pe_int (fun _ _ => rfl)) (pv 1)) (pg_sub (pv 0) pe_int set_list)) (pss_one (ps_ret (pv 2))))) pss_nil)
  (pss_cons (ps_asg (pe_op op_add (pe_ix ix_list (pv 0) pe_int (fun _ _ => rfl)) pe_int) (pg_sub (pv 0) pe_int set_list))
  (pss_cons (ps_if (pt_cmpR op_gt (pe_ix ix_list (pv 0) pe_int (fun _ _ => rfl)) (pe_callB call_len rfl T.m_len PySem.boot_len (pa_cons (pe_ix ix_list (pv 0) pe_int (fun _ _ => rfl)) pa_nil)) (nomark _)) (pss_cons (ps_asg (pe_op op_mod (pe_callTy call_int1 rfl T.m_int boot_int (pa_cons (pe_op op_add (pe_op op_mul (pe_ix ix_list (pv 0) pe_int (fun _ _ => rfl)) pe_int) pe_int) pa_nil)) pe_int) (pg_sub (pv 0) pe_int set_list)) (pss_one (ps_ret (pe_op op_mod (pe_callTy call_int1 rfl T.m_int boot_int (pa_cons (pe_op op_fdiv (pe_ix ix_list (pv 0) pe_int (fun _ _ => rfl)) pe_int) pa_nil)) (pv 1))))) pss_nil)
  (pss_cons (ps_set (i := 3) sc__law_taken.nd rfl (.inl rfl) (pe_ix ix_list (pe_ix ix_list (pv 0) pe_int (fun _ _ => rfl)) (pe_op op_sub (pe_ix ix_list (pv 0) pe_int (fun _ _ => rfl)) pe_int) (fun _ _ => rfl)))
  (pss_cons (ps_asg (pe_op op_mod (pe_callTy call_int1 rfl T.m_int boot_int (pa_cons (pe_op op_add (pe_op op_add (pe_op op_mul (pe_ix ix_list (pv 0) pe_int (fun _ _ => rfl)) pe_int) (pv 3)) pe_int) pa_nil)) pe_int) (pg_sub (pv 0) pe_int set_list))
  (pss_cons (ps_if (pt_cmpR op_ge (pv 3) (pe_op op_pow pe_int pe_int) (nomark _)) (pss_one (ps_asg (pe_op op_fdiv (pv 3) (pv 1)) (pg_sub (pv 0) pe_int set_list))) pss_nil)
  (pss_one (ps_ret (pe_op op_mod (pe_callTy call_int1 rfl T.m_int boot_int (pa_cons (pv 3) pa_nil)) (pv 1))))))))), rfl⟩
theorem ok__law_pick (T : Tx K mg base G fd) : FnOk PySem.Challenge.pw_nightslates_k07_houses_refused w K mg base CX0 2 (He.fAd K ("_law_pick", none)) (fd 39) ["_law_row", "_law_things"] (spD G F__law_pick) := fnC (k := 1) T.gP (funC_of T.f__law_pick) sc__law_pick (by decide) fun A outer s H E hr =>
  (ss_one (s_ret (d_ix (d_var 1) (d_call (ok__law_taken T) (hr.mono (by decide)) rfl T.m__law_taken T.f__law_taken.kp T.b__law_taken (da_row 0 (da_cons (d_len rfl rfl T.m_len (dv_cons (d_var 1) dv_nil)) da_nil))))))
theorem gvr (T : Tx K mg base G fd) (A : Around) (outer : List Env) (s : Shared) (H : Hp) (ρ : Option Addr) {k : Nat} (hr : Room k (A.deeper (envOfC "_law_refusal" (defScope s__law_refusal) s.heap.objs.size (He.fAd K ("_law_refusal", none)) (.ref (He.codeOf K ("_law_refusal", none)))))) : GivesR (cxOf C8.CX0 PySem.Challenge.pw_nightslates_k07_houses_refused w K mg base ["_law_work", "e", "_law_some"] "_law_refusal" (defScope s__law_refusal) (He.fAd K ("_law_refusal", none)) (.ref (He.codeOf K ("_law_refusal", none))) A outer s H C8.E0).nox (defBody s__law_refusal) "_law_work" G ρ RefR :=
  givesR_of (CS := He.ga K "SlateError") rfl rfl sc__law_refusal.nd rfl rfl rfl ⟨rfl, rfl, .inl T.m_SlateError⟩ T.gP fun e z hR => by
    have hu5 := hu65 hr
    have hu4 := hu64 hr
    cases hR with
    | house d =>
      refine ⟨He.ga K "BadHouse", by rw [T.gC], T.x_BadHouse, fun ad oe d0 pn hz hf h1 h2 => ?_⟩
      obtain ⟨dx, rfl⟩ := h2 _ rfl
      refine ⟨fsR1 ad dx "clerk" "house", ?_, fun P hP => fsR1_ok hP⟩
      exact (ss_cons (s_if (dt_val (d_isX 1 T.c_BadHouse hz hf T.k_BadHouse_BadHouse rfl T.m_isinstance rfl T.m_BadHouse)) (ss_one (s_ret (d_tup (dv_cons d_str (dv_cons (d_fld 1 T.c_BadHouse T.n_BadHouse hz hf) dv_nil))))) ss_nil) ss_never)
    | rules d =>
      refine ⟨He.ga K "BadRules", by rw [T.gC], T.x_BadRules, fun ad oe d0 pn hz hf h1 h2 => ?_⟩
      obtain ⟨dx, rfl⟩ := h2 _ rfl
      refine ⟨fsR2 ad dx "part" "rules", ?_, fun P hP => fsR2_ok hP⟩
      exact (ss_cons (s_if (dt_val (d_isX 1 T.c_BadRules hz hf T.k_BadRules_BadHouse rfl T.m_isinstance rfl T.m_BadHouse)) ss_never ss_nil) (ss_cons (s_if (dt_val (d_isX 1 T.c_BadRules hz hf T.k_BadRules_BadRules rfl T.m_isinstance rfl T.m_BadRules)) (ss_one (s_ret (d_tup (dv_cons d_str (dv_cons (d_fld 1 T.c_BadRules T.n_BadRules hz hf) dv_nil))))) ss_nil) ss_never))
    | many d =>
      refine ⟨He.ga K "TooMany", by rw [T.gC], T.x_TooMany, fun ad oe d0 pn hz hf h1 h2 => ?_⟩
      obtain ⟨dx, rfl⟩ := h2 _ rfl
      refine ⟨fsR3 ad dx "most" "many", ?_, fun P hP => fsR3_ok hP⟩
      exact (ss_cons (s_if (dt_val (d_isX 1 T.c_TooMany hz hf T.k_TooMany_BadHouse rfl T.m_isinstance rfl T.m_BadHouse)) ss_never ss_nil) (ss_cons (s_if (dt_val (d_isX 1 T.c_TooMany hz hf T.k_TooMany_BadRules rfl T.m_isinstance rfl T.m_BadRules)) ss_never ss_nil) (ss_cons (s_if (dt_val (d_isX 1 T.c_TooMany hz hf T.k_TooMany_TooMany rfl T.m_isinstance rfl T.m_TooMany)) (ss_one (s_ret (d_tup (dv_cons d_str (dv_cons (d_fld 1 T.c_TooMany T.n_TooMany hz hf) dv_nil))))) ss_nil) ss_never)))
    | lot =>
      refine ⟨He.ga K "BadLot", by rw [T.gC], T.x_BadLot, fun ad oe d0 pn hz hf h1 h2 => ?_⟩
      obtain rfl := h1 rfl
      refine ⟨fsRef ad true false false false, ?_, fun P hP => fsRef_lot hP⟩
      exact (ss_cons (s_if (dt_val (d_isE 1 T.c_BadLot hz hf T.k_BadLot_BadHouse rfl T.m_isinstance rfl T.m_BadHouse)) ss_never ss_nil)
        (ss_cons (s_if (dt_val (d_isE 1 T.c_BadLot hz hf T.k_BadLot_BadRules rfl T.m_isinstance rfl T.m_BadRules)) ss_never ss_nil)
        (ss_cons (s_if (dt_val (d_isE 1 T.c_BadLot hz hf T.k_BadLot_TooMany rfl T.m_isinstance rfl T.m_TooMany)) ss_never ss_nil)
        (ss_cons (s_set 2 sc__law_refusal.nd (x_ls (dn_lst (dv_cons (d_isE 1 T.c_BadLot hz hf T.k_BadLot_BadLot rfl T.m_isinstance rfl T.m_BadLot) (dv_cons (d_isE 1 T.c_BadLot hz hf T.k_BadLot_BadNumber rfl T.m_isinstance rfl T.m_BadNumber) (dv_cons (d_isE 1 T.c_BadLot hz hf T.k_BadLot_BadSlates rfl T.m_isinstance rfl T.m_BadSlates) (dv_cons (d_isE 1 T.c_BadLot hz hf T.k_BadLot_BadNight rfl T.m_isinstance rfl T.m_BadNight) dv_nil)))))))
        (ss_one (s_ret (d_if (dt_cmp (op_eqD hu4) opD_eq (d_cntL 2 hu5 d_bl rfl (by first | exact Or.inl rfl | exact Or.inr (Or.inl rfl)) rfl rfl) d_int) (d_ix (d_frz (dn_lst (dv_cons d_str (dv_cons d_str (dv_cons d_str (dv_cons d_str dv_nil)))))) (d_idxL 2 hu5 d_bl rfl (by first | exact Or.inl rfl | exact Or.inr (Or.inl rfl)) rfl rfl)) d_str)))))))
    | number =>
      refine ⟨He.ga K "BadNumber", by rw [T.gC], T.x_BadNumber, fun ad oe d0 pn hz hf h1 h2 => ?_⟩
      obtain rfl := h1 rfl
      refine ⟨fsRef ad false true false false, ?_, fun P hP => fsRef_number hP⟩
      exact (ss_cons (s_if (dt_val (d_isE 1 T.c_BadNumber hz hf T.k_BadNumber_BadHouse rfl T.m_isinstance rfl T.m_BadHouse)) ss_never ss_nil)
        (ss_cons (s_if (dt_val (d_isE 1 T.c_BadNumber hz hf T.k_BadNumber_BadRules rfl T.m_isinstance rfl T.m_BadRules)) ss_never ss_nil)
        (ss_cons (s_if (dt_val (d_isE 1 T.c_BadNumber hz hf T.k_BadNumber_TooMany rfl T.m_isinstance rfl T.m_TooMany)) ss_never ss_nil)
        (ss_cons (s_set 2 sc__law_refusal.nd (x_ls (dn_lst (dv_cons (d_isE 1 T.c_BadNumber hz hf T.k_BadNumber_BadLot rfl T.m_isinstance rfl T.m_BadLot) (dv_cons (d_isE 1 T.c_BadNumber hz hf T.k_BadNumber_BadNumber rfl T.m_isinstance rfl T.m_BadNumber) (dv_cons (d_isE 1 T.c_BadNumber hz hf T.k_BadNumber_BadSlates rfl T.m_isinstance rfl T.m_BadSlates) (dv_cons (d_isE 1 T.c_BadNumber hz hf T.k_BadNumber_BadNight rfl T.m_isinstance rfl T.m_BadNight) dv_nil)))))))
        (ss_one (s_ret (d_if (dt_cmp (op_eqD hu4) opD_eq (d_cntL 2 hu5 d_bl rfl (by first | exact Or.inl rfl | exact Or.inr (Or.inl rfl)) rfl rfl) d_int) (d_ix (d_frz (dn_lst (dv_cons d_str (dv_cons d_str (dv_cons d_str (dv_cons d_str dv_nil)))))) (d_idxL 2 hu5 d_bl rfl (by first | exact Or.inl rfl | exact Or.inr (Or.inl rfl)) rfl rfl)) d_str)))))))
    | slates =>
      refine ⟨He.ga K "BadSlates", by rw [T.gC], T.x_BadSlates, fun ad oe d0 pn hz hf h1 h2 => ?_⟩
      obtain rfl := h1 rfl
      refine ⟨fsRef ad false false true false, ?_, fun P hP => fsRef_slates hP⟩
      exact (ss_cons (s_if (dt_val (d_isE 1 T.c_BadSlates hz hf T.k_BadSlates_BadHouse rfl T.m_isinstance rfl T.m_BadHouse)) ss_never ss_nil)
        (ss_cons (s_if (dt_val (d_isE 1 T.c_BadSlates hz hf T.k_BadSlates_BadRules rfl T.m_isinstance rfl T.m_BadRules)) ss_never ss_nil)
        (ss_cons (s_if (dt_val (d_isE 1 T.c_BadSlates hz hf T.k_BadSlates_TooMany rfl T.m_isinstance rfl T.m_TooMany)) ss_never ss_nil)
        (ss_cons (s_set 2 sc__law_refusal.nd (x_ls (dn_lst (dv_cons (d_isE 1 T.c_BadSlates hz hf T.k_BadSlates_BadLot rfl T.m_isinstance rfl T.m_BadLot) (dv_cons (d_isE 1 T.c_BadSlates hz hf T.k_BadSlates_BadNumber rfl T.m_isinstance rfl T.m_BadNumber) (dv_cons (d_isE 1 T.c_BadSlates hz hf T.k_BadSlates_BadSlates rfl T.m_isinstance rfl T.m_BadSlates) (dv_cons (d_isE 1 T.c_BadSlates hz hf T.k_BadSlates_BadNight rfl T.m_isinstance rfl T.m_BadNight) dv_nil)))))))
        (ss_one (s_ret (d_if (dt_cmp (op_eqD hu4) opD_eq (d_cntL 2 hu5 d_bl rfl (by first | exact Or.inl rfl | exact Or.inr (Or.inl rfl)) rfl rfl) d_int) (d_ix (d_frz (dn_lst (dv_cons d_str (dv_cons d_str (dv_cons d_str (dv_cons d_str dv_nil)))))) (d_idxL 2 hu5 d_bl rfl (by first | exact Or.inl rfl | exact Or.inr (Or.inl rfl)) rfl rfl)) d_str)))))))
    | night =>
      refine ⟨He.ga K "BadNight", by rw [T.gC], T.x_BadNight, fun ad oe d0 pn hz hf h1 h2 => ?_⟩
      obtain rfl := h1 rfl
      refine ⟨fsRef ad false false false true, ?_, fun P hP => fsRef_night hP⟩
      exact (ss_cons (s_if (dt_val (d_isE 1 T.c_BadNight hz hf T.k_BadNight_BadHouse rfl T.m_isinstance rfl T.m_BadHouse)) ss_never ss_nil)
        (ss_cons (s_if (dt_val (d_isE 1 T.c_BadNight hz hf T.k_BadNight_BadRules rfl T.m_isinstance rfl T.m_BadRules)) ss_never ss_nil)
        (ss_cons (s_if (dt_val (d_isE 1 T.c_BadNight hz hf T.k_BadNight_TooMany rfl T.m_isinstance rfl T.m_TooMany)) ss_never ss_nil)
        (ss_cons (s_set 2 sc__law_refusal.nd (x_ls (dn_lst (dv_cons (d_isE 1 T.c_BadNight hz hf T.k_BadNight_BadLot rfl T.m_isinstance rfl T.m_BadLot) (dv_cons (d_isE 1 T.c_BadNight hz hf T.k_BadNight_BadNumber rfl T.m_isinstance rfl T.m_BadNumber) (dv_cons (d_isE 1 T.c_BadNight hz hf T.k_BadNight_BadSlates rfl T.m_isinstance rfl T.m_BadSlates) (dv_cons (d_isE 1 T.c_BadNight hz hf T.k_BadNight_BadNight rfl T.m_isinstance rfl T.m_BadNight) dv_nil)))))))
        (ss_one (s_ret (d_if (dt_cmp (op_eqD hu4) opD_eq (d_cntL 2 hu5 d_bl rfl (by first | exact Or.inl rfl | exact Or.inr (Or.inl rfl)) rfl rfl) d_int) (d_ix (d_frz (dn_lst (dv_cons d_str (dv_cons d_str (dv_cons d_str (dv_cons d_str dv_nil)))))) (d_idxL 2 hu5 d_bl rfl (by first | exact Or.inl rfl | exact Or.inr (Or.inl rfl)) rfl rfl)) d_str)))))))
theorem go_0 (T : Tx K mg base G fd) (q : Str) : LamGo PySem.Challenge.pw_nightslates_k07_houses_refused w K mg base G 8 q (lam_0 K) where
  binds := by
    intro q cl c pm ctv; rfl
  ns := ns_0
  run := ⟨fun px => (eCallA px 0 [(He.fAd K ("slate_number", none), X_slate_number), (He.fAd K ("best_lots", none), X_best_lots), (He.fAd K ("crew_number", none), X_crew_number), (He.fAd K ("best_sight", none), X_best_sight), (He.fAd K ("spare_sights", none), X_spare_sights)] (aCons (eVar 1) aNil)), rfl, fun cl c dV f A outer s H E hr W Px tk => (d_callA (k := 5) 0 [(He.fAd K ("slate_number", none), X_slate_number), (He.fAd K ("best_lots", none), X_best_lots), (He.fAd K ("crew_number", none), X_crew_number), (He.fAd K ("best_sight", none), X_best_sight), (He.fAd K ("spare_sights", none), X_spare_sights)] (fun en hen => by
    simp only [List.mem_cons, List.not_mem_nil, or_false] at hen
    rcases hen with rfl | rfl | rfl | rfl | rfl
    · exact ⟨T.f_slate_number.kp, _, _, T.b_slate_number, (okx_slate_number (G := G) T).mono (by decide)⟩
    · exact ⟨T.f_best_lots.kp, _, _, T.b_best_lots, (okx_best_lots (G := G) T).mono (by decide)⟩
    · exact ⟨T.f_crew_number.kp, _, _, T.b_crew_number, (okx_crew_number (G := G) T).mono (by decide)⟩
    · exact ⟨T.f_best_sight.kp, _, _, T.b_best_sight, (okx_best_sight (G := G) T).mono (by decide)⟩
    · exact ⟨T.f_spare_sights.kp, _, _, T.b_spare_sights, (okx_spare_sights (G := G) T).mono (by decide)⟩) tk (hr.mono (by decide)) (da_cons (d_var 1) da_nil))⟩
theorem go_1 (T : Tx K mg base G fd) (q : Str) : LamGo PySem.Challenge.pw_nightslates_k07_houses_refused w K mg base G 8 q (lam_1 K) where
  binds := by
    intro q cl c pm ctv; rfl
  ns := ns_1
  run := ⟨fun px => (eCallA px 0 [(He.fAd K ("number_of", none), X_number_of), (He.fAd K ("crew", none), X_crew), (He.fAd K ("beside", none), X_beside)] (aCons (eVar 1) (aCons (eC .none) aNil))), rfl, fun cl c dV f A outer s H E hr W Px tk => (d_callA (k := 6) 0 [(He.fAd K ("number_of", none), X_number_of), (He.fAd K ("crew", none), X_crew), (He.fAd K ("beside", none), X_beside)] (fun en hen => by
    simp only [List.mem_cons, List.not_mem_nil, or_false] at hen
    rcases hen with rfl | rfl | rfl
    · exact ⟨T.f_number_of.kp, _, _, T.b_number_of, (okx_number_of (G := G) T).mono (by decide)⟩
    · exact ⟨T.f_crew.kp, _, _, T.b_crew, (okx_crew (G := G) T).mono (by decide)⟩
    · exact ⟨T.f_beside.kp, _, _, T.b_beside, (okx_beside (G := G) T).mono (by decide)⟩) tk (hr.mono (by decide)) (da_cons (d_var 1) (da_cons d_non da_nil)))⟩
theorem go_2 (T : Tx K mg base G fd) (q : Str) : LamGo PySem.Challenge.pw_nightslates_k07_houses_refused w K mg base G 8 q (lam_2 K) where
  binds := by
    intro q cl c pm ctv; rfl
  ns := ns_2
  run := ⟨fun px => (eCallA px 0 [(He.fAd K ("after", none), X_after), (He.fAd K ("days_to", none), X_days_to), (He.fAd K ("cover_row", none), X_cover_row), (He.fAd K ("closed_family", none), X_closed_family), (He.fAd K ("bears", none), X_bears), (He.fAd K ("days_borne", none), X_days_borne), (He.fAd K ("with_sight", none), X_with_sight)] (aCons (eVar 1) (aCons (eC .none) (aCons (eC .none) aNil)))), rfl, fun cl c dV f A outer s H E hr W Px tk => (d_callA (k := 7) 0 [(He.fAd K ("after", none), X_after), (He.fAd K ("days_to", none), X_days_to), (He.fAd K ("cover_row", none), X_cover_row), (He.fAd K ("closed_family", none), X_closed_family), (He.fAd K ("bears", none), X_bears), (He.fAd K ("days_borne", none), X_days_borne), (He.fAd K ("with_sight", none), X_with_sight)] (fun en hen => by
    simp only [List.mem_cons, List.not_mem_nil, or_false] at hen
    rcases hen with rfl | rfl | rfl | rfl | rfl | rfl | rfl
    · exact ⟨T.f_after.kp, _, _, T.b_after, (okx_after (G := G) T).mono (by decide)⟩
    · exact ⟨T.f_days_to.kp, _, _, T.b_days_to, (okx_days_to (G := G) T).mono (by decide)⟩
    · exact ⟨T.f_cover_row.kp, _, _, T.b_cover_row, (okx_cover_row (G := G) T).mono (by decide)⟩
    · exact ⟨T.f_closed_family.kp, _, _, T.b_closed_family, (okx_closed_family (G := G) T).mono (by decide)⟩
    · exact ⟨T.f_bears.kp, _, _, T.b_bears, (okx_bears (G := G) T).mono (by decide)⟩
    · exact ⟨T.f_days_borne.kp, _, _, T.b_days_borne, (okx_days_borne (G := G) T).mono (by decide)⟩
    · exact ⟨T.f_with_sight.kp, _, _, T.b_with_sight, (okx_with_sight (G := G) T).mono (by decide)⟩) tk (hr.mono (by decide)) (da_cons (d_var 1) (da_cons d_non (da_cons d_non da_nil))))⟩
theorem go_3 (T : Tx K mg base G fd) (q : Str) : LamGo PySem.Challenge.pw_nightslates_k07_houses_refused w K mg base G 8 q (lam_3 K) where
  binds := by
    intro q cl c pm ctv; rfl
  ns := ns_3
  run := ⟨fun px => (eCallA px 0 [(He.fAd K ("morning", none), X_morning), (He.fAd K ("tells", none), X_tells), (He.fAd K ("days_told", none), X_days_told), (He.fAd K ("two_courses", none), X_two_courses)] (aCons (eVar 1) (aCons (eC .none) (aCons (eC .none) aNil)))), rfl, fun cl c dV f A outer s H E hr W Px tk => (d_callA (k := 6) 0 [(He.fAd K ("morning", none), X_morning), (He.fAd K ("tells", none), X_tells), (He.fAd K ("days_told", none), X_days_told), (He.fAd K ("two_courses", none), X_two_courses)] (fun en hen => by
    simp only [List.mem_cons, List.not_mem_nil, or_false] at hen
    rcases hen with rfl | rfl | rfl | rfl
    · exact ⟨T.f_morning.kp, _, _, T.b_morning, (okx_morning (G := G) T).mono (by decide)⟩
    · exact ⟨T.f_tells.kp, _, _, T.b_tells, (okx_tells (G := G) T).mono (by decide)⟩
    · exact ⟨T.f_days_told.kp, _, _, T.b_days_told, (okx_days_told (G := G) T).mono (by decide)⟩
    · exact ⟨T.f_two_courses.kp, _, _, T.b_two_courses, (okx_two_courses (G := G) T).mono (by decide)⟩) tk (hr.mono (by decide)) (da_cons (d_var 1) (da_cons d_non (da_cons d_non da_nil))))⟩
theorem go_4 (T : Tx K mg base G fd) (q : Str) : LamGo PySem.Challenge.pw_nightslates_k07_houses_refused w K mg base G 8 q (lam_4 K) where
  binds := by
    intro q cl c pm ctv; rfl
  ns := ns_4
  run := ⟨fun px => (eCallA px 0 [(He.fAd K ("shows_cover_row", none), X_shows_cover_row), (He.fAd K ("shows_closed_family", none), X_shows_closed_family), (He.fAd K ("lot_bears", none), X_lot_bears), (He.fAd K ("course", none), X_course), (He.fAd K ("shows_two_courses", none), X_shows_two_courses)] (aCons (eVar 1) (aCons (eC .none) (aCons (eC .none) (aCons (eC .none) aNil))))), rfl, fun cl c dV f A outer s H E hr W Px tk => (d_callA (k := 7) 0 [(He.fAd K ("shows_cover_row", none), X_shows_cover_row), (He.fAd K ("shows_closed_family", none), X_shows_closed_family), (He.fAd K ("lot_bears", none), X_lot_bears), (He.fAd K ("course", none), X_course), (He.fAd K ("shows_two_courses", none), X_shows_two_courses)] (fun en hen => by
    simp only [List.mem_cons, List.not_mem_nil, or_false] at hen
    rcases hen with rfl | rfl | rfl | rfl | rfl
    · exact ⟨T.f_shows_cover_row.kp, _, _, T.b_shows_cover_row, (okx_shows_cover_row (G := G) T).mono (by decide)⟩
    · exact ⟨T.f_shows_closed_family.kp, _, _, T.b_shows_closed_family, (okx_shows_closed_family (G := G) T).mono (by decide)⟩
    · exact ⟨T.f_lot_bears.kp, _, _, T.b_lot_bears, (okx_lot_bears (G := G) T).mono (by decide)⟩
    · exact ⟨T.f_course.kp, _, _, T.b_course, (okx_course (G := G) T).mono (by decide)⟩
    · exact ⟨T.f_shows_two_courses.kp, _, _, T.b_shows_two_courses, (okx_shows_two_courses (G := G) T).mono (by decide)⟩) tk (hr.mono (by decide)) (da_cons (d_var 1) (da_cons d_non (da_cons d_non (da_cons d_non da_nil)))))⟩
theorem go_5 (T : Tx K mg base G fd) (q : Str) : LamGo PySem.Challenge.pw_nightslates_k07_houses_refused w K mg base G 8 q (lam_5 K) where
  binds := by
    intro q cl c pm ctv; rfl
  ns := ns_5
  run := ⟨fun px => (eCallX px X_could_be (aCons (eVar 0) (aCons (eC .none) (aCons (eC .none) (aCons (eC .none) (aCons (eC .none) aNil)))))), rfl, fun cl c dV f A outer s H E hr W Px tk => (d_callX (okx_could_be (G := G) T) tk (hr.mono (by decide)) rfl T.m_could_be T.f_could_be.kp T.b_could_be (da_cons (d_var 0) (da_cons d_non (da_cons d_non (da_cons d_non (da_cons d_non da_nil))))))⟩
theorem go_6 (T : Tx K mg base G fd) (q : Str) : LamGo PySem.Challenge.pw_nightslates_k07_houses_refused w K mg base G 8 q (lam_6 K) where
  binds := by
    intro q cl c pm ctv; rfl
  ns := ns_6
  run := ⟨fun px => (eMakeX px X_Bench___init__ (aCons (eVar 0) (aCons (eC .none) (aCons (eC .none) aNil)))), rfl, fun cl c dV f A outer s H E hr W Px tk => (d_makeX T.mk_Bench (okx_Bench___init__ (G := G) T) tk (hr.mono (by decide)) rfl T.m_Bench T.b_Bench___init__ (da_cons (d_var 0) (da_cons d_non (da_cons d_non da_nil))))⟩
theorem ok__law_house_refused (T : Tx K mg base G fd) : FnOk PySem.Challenge.pw_nightslates_k07_houses_refused w K mg base CX0 11 (He.fAd K ("_law_house_refused", none)) (fd 41) ["_law_value", "_law_due"] (spD G (F__law_house_refused K)) := fnC (k := 10) T.gP (funC_of T.f__law_house_refused) sc__law_house_refused (by decide) fun A outer s H E hr =>
  (ss_cons (s_forA 2 [He.fAd K ("slate_number", none), He.fAd K ("best_lots", none), He.fAd K ("crew_number", none), He.fAd K ("best_sight", none), He.fAd K ("spare_sights", none)] PassesOwn.never rfl sc__law_house_refused.nd (Nat.le_of_ble_eq_true rfl) (pa_cons (pe_glob (v := .ref (He.fAd K ("slate_number", none))) rfl T.m_slate_number rfl) (pa_cons (pe_glob (v := .ref (He.fAd K ("best_lots", none))) rfl T.m_best_lots rfl) (pa_cons (pe_glob (v := .ref (He.fAd K ("crew_number", none))) rfl T.m_crew_number rfl) (pa_cons (pe_glob (v := .ref (He.fAd K ("best_sight", none))) rfl T.m_best_sight rfl) (pa_cons (pe_glob (v := .ref (He.fAd K ("spare_sights", none))) rfl T.m_spare_sights rfl) pa_nil)))))
  (ss_one (s_if (dt_cmp (op_neD (hu64 hr)) opD_ne (d_ref (R := RefR) (y0 := "_law_ask") (k := 8) T.gP (lamMk_of (LamX.TabB.mk (T.t__law_house_refused).code (T.t__law_house_refused).bm (T.t__law_house_refused).gP) rfl T.l__law_house_refused T.u__law_house_refused T.a__law_house_refused) (at_0 K) (go_0 T _) rfl rfl rfl rfl hf_0 (hr.mono (by decide)) (funC_of T.f__law_refusal) sc__law_refusal T.b__law_refusal T.m__law_refusal T.f__law_refusal.kp rfl (fun A outer s H ρ hr => gvr T A outer s H ρ hr)) (d_var 1)) (ss_one (s_ret d_bl)) ss_nil)))
  (ss_cons (s_forA 2 [He.fAd K ("number_of", none), He.fAd K ("crew", none), He.fAd K ("beside", none)] PassesOwn.never rfl sc__law_house_refused.nd (Nat.le_of_ble_eq_true rfl) (pa_cons (pe_glob (v := .ref (He.fAd K ("number_of", none))) rfl T.m_number_of rfl) (pa_cons (pe_glob (v := .ref (He.fAd K ("crew", none))) rfl T.m_crew rfl) (pa_cons (pe_glob (v := .ref (He.fAd K ("beside", none))) rfl T.m_beside rfl) pa_nil)))
  (ss_one (s_if (dt_cmp (op_neD (hu64 hr)) opD_ne (d_ref (R := RefR) (y0 := "_law_ask") (k := 8) T.gP (lamMk_of (LamX.TabB.mk (T.t__law_house_refused).code (T.t__law_house_refused).bm (T.t__law_house_refused).gP) rfl T.l__law_house_refused T.u__law_house_refused T.a__law_house_refused) (at_1 K) (go_1 T _) rfl rfl rfl rfl hf_1 (hr.mono (by decide)) (funC_of T.f__law_refusal) sc__law_refusal T.b__law_refusal T.m__law_refusal T.f__law_refusal.kp rfl (fun A outer s H ρ hr => gvr T A outer s H ρ hr)) (d_var 1)) (ss_one (s_ret d_bl)) ss_nil)))
  (ss_cons (s_forA 2 [He.fAd K ("after", none), He.fAd K ("days_to", none), He.fAd K ("cover_row", none), He.fAd K ("closed_family", none), He.fAd K ("bears", none), He.fAd K ("days_borne", none), He.fAd K ("with_sight", none)] PassesOwn.never rfl sc__law_house_refused.nd (Nat.le_of_ble_eq_true rfl) (pa_cons (pe_glob (v := .ref (He.fAd K ("after", none))) rfl T.m_after rfl) (pa_cons (pe_glob (v := .ref (He.fAd K ("days_to", none))) rfl T.m_days_to rfl) (pa_cons (pe_glob (v := .ref (He.fAd K ("cover_row", none))) rfl T.m_cover_row rfl) (pa_cons (pe_glob (v := .ref (He.fAd K ("closed_family", none))) rfl T.m_closed_family rfl) (pa_cons (pe_glob (v := .ref (He.fAd K ("bears", none))) rfl T.m_bears rfl) (pa_cons (pe_glob (v := .ref (He.fAd K ("days_borne", none))) rfl T.m_days_borne rfl) (pa_cons (pe_glob (v := .ref (He.fAd K ("with_sight", none))) rfl T.m_with_sight rfl) pa_nil)))))))
  (ss_one (s_if (dt_cmp (op_neD (hu64 hr)) opD_ne (d_ref (R := RefR) (y0 := "_law_ask") (k := 8) T.gP (lamMk_of (LamX.TabB.mk (T.t__law_house_refused).code (T.t__law_house_refused).bm (T.t__law_house_refused).gP) rfl T.l__law_house_refused T.u__law_house_refused T.a__law_house_refused) (at_2 K) (go_2 T _) rfl rfl rfl rfl hf_2 (hr.mono (by decide)) (funC_of T.f__law_refusal) sc__law_refusal T.b__law_refusal T.m__law_refusal T.f__law_refusal.kp rfl (fun A outer s H ρ hr => gvr T A outer s H ρ hr)) (d_var 1)) (ss_one (s_ret d_bl)) ss_nil)))
  (ss_cons (s_forA 2 [He.fAd K ("morning", none), He.fAd K ("tells", none), He.fAd K ("days_told", none), He.fAd K ("two_courses", none)] PassesOwn.never rfl sc__law_house_refused.nd (Nat.le_of_ble_eq_true rfl) (pa_cons (pe_glob (v := .ref (He.fAd K ("morning", none))) rfl T.m_morning rfl) (pa_cons (pe_glob (v := .ref (He.fAd K ("tells", none))) rfl T.m_tells rfl) (pa_cons (pe_glob (v := .ref (He.fAd K ("days_told", none))) rfl T.m_days_told rfl) (pa_cons (pe_glob (v := .ref (He.fAd K ("two_courses", none))) rfl T.m_two_courses rfl) pa_nil))))
  (ss_one (s_if (dt_cmp (op_neD (hu64 hr)) opD_ne (d_ref (R := RefR) (y0 := "_law_ask") (k := 8) T.gP (lamMk_of (LamX.TabB.mk (T.t__law_house_refused).code (T.t__law_house_refused).bm (T.t__law_house_refused).gP) rfl T.l__law_house_refused T.u__law_house_refused T.a__law_house_refused) (at_3 K) (go_3 T _) rfl rfl rfl rfl hf_3 (hr.mono (by decide)) (funC_of T.f__law_refusal) sc__law_refusal T.b__law_refusal T.m__law_refusal T.f__law_refusal.kp rfl (fun A outer s H ρ hr => gvr T A outer s H ρ hr)) (d_var 1)) (ss_one (s_ret d_bl)) ss_nil)))
  (ss_cons (s_forA 2 [He.fAd K ("shows_cover_row", none), He.fAd K ("shows_closed_family", none), He.fAd K ("lot_bears", none), He.fAd K ("course", none), He.fAd K ("shows_two_courses", none)] PassesOwn.never rfl sc__law_house_refused.nd (Nat.le_of_ble_eq_true rfl) (pa_cons (pe_glob (v := .ref (He.fAd K ("shows_cover_row", none))) rfl T.m_shows_cover_row rfl) (pa_cons (pe_glob (v := .ref (He.fAd K ("shows_closed_family", none))) rfl T.m_shows_closed_family rfl) (pa_cons (pe_glob (v := .ref (He.fAd K ("lot_bears", none))) rfl T.m_lot_bears rfl) (pa_cons (pe_glob (v := .ref (He.fAd K ("course", none))) rfl T.m_course rfl) (pa_cons (pe_glob (v := .ref (He.fAd K ("shows_two_courses", none))) rfl T.m_shows_two_courses rfl) pa_nil)))))
  (ss_one (s_if (dt_cmp (op_neD (hu64 hr)) opD_ne (d_ref (R := RefR) (y0 := "_law_ask") (k := 8) T.gP (lamMk_of (LamX.TabB.mk (T.t__law_house_refused).code (T.t__law_house_refused).bm (T.t__law_house_refused).gP) rfl T.l__law_house_refused T.u__law_house_refused T.a__law_house_refused) (at_4 K) (go_4 T _) rfl rfl rfl rfl hf_4 (hr.mono (by decide)) (funC_of T.f__law_refusal) sc__law_refusal T.b__law_refusal T.m__law_refusal T.f__law_refusal.kp rfl (fun A outer s H ρ hr => gvr T A outer s H ρ hr)) (d_var 1)) (ss_one (s_ret d_bl)) ss_nil)))
  (ss_cons (s_if (dt_cmp (op_neD (hu64 hr)) opD_ne (d_ref (R := RefR) (y0 := "_law_value") (k := 8) T.gP (lamMk_of (LamX.TabB.mk (T.t__law_house_refused).code (T.t__law_house_refused).bm (T.t__law_house_refused).gP) rfl T.l__law_house_refused T.u__law_house_refused T.a__law_house_refused) (at_5 K) (go_5 T _) rfl rfl rfl rfl hf_5 (hr.mono (by decide)) (funC_of T.f__law_refusal) sc__law_refusal T.b__law_refusal T.m__law_refusal T.f__law_refusal.kp rfl (fun A outer s H ρ hr => gvr T A outer s H ρ hr)) (d_var 1)) (ss_one (s_ret d_bl)) ss_nil)
  (ss_one (s_ret (d_cmp (op_eqD (hu64 hr)) opD_eq (d_ref (R := RefR) (y0 := "_law_value") (k := 8) T.gP (lamMk_of (LamX.TabB.mk (T.t__law_house_refused).code (T.t__law_house_refused).bm (T.t__law_house_refused).gP) rfl T.l__law_house_refused T.u__law_house_refused T.a__law_house_refused) (at_6 K) (go_6 T _) rfl rfl rfl rfl hf_6 (hr.mono (by decide)) (funC_of T.f__law_refusal) sc__law_refusal T.b__law_refusal T.m__law_refusal T.f__law_refusal.kp rfl (fun A outer s H ρ hr => gvr T A outer s H ρ hr)) (d_var 1))))))))))
theorem ok__law_house (T : Tx K mg base G fd) : FnOk PySem.Challenge.pw_nightslates_k07_houses_refused w K mg base CX0 2 (He.fAd K ("_law_house", none)) (fd 42) ["_law_row", "_law_many", "_law_most"] (spD G F__law_house) := fnC (k := 1) T.gP (funC_of T.f__law_house) sc__law_house (by decide) fun A outer s H E hr =>
  (ss_cons (s_set 3 sc__law_house.nd (x_ls (dn_lst dv_nil)))
  (ss_cons (s_for PassesOwn.never rfl (di_range1 rfl T.m_range (d_var 1)) (dg_name 4 sc__law_house.nd)
  (ss_cons (s_set 5 sc__law_house.nd x_dk0)
  (ss_cons (s_for PassesOwn.never rfl (di_range1 rfl T.m_range (d_add d_int (d_call (ok__law_taken T) (hr.mono (by decide)) rfl T.m__law_taken T.f__law_taken.kp T.b__law_taken (da_row 0 (da_cons (d_var 2) da_nil))))) (dg_name 6 sc__law_house.nd)
  (ss_one (s_dput 5 (hu_of hr) (d_call (ok__law_taken T) (hr.mono (by decide)) rfl T.m__law_taken T.f__law_taken.kp T.b__law_taken (da_row 0 (da_cons (d_var 1) da_nil))) d_bl)))
  (ss_one (s_app 3 (d_tupleL rfl T.m_tuple (dl_new (dn_sortX hr rfl T.m_sorted (dl_new (dn_listD 5 rfl rfl T.m_list))))))))))
  (ss_one (s_ret (d_tupleL rfl T.m_tuple (dl_own 3))))))
theorem go_7 (T : Tx K mg base G fd) (q : Str) : LamGo PySem.Challenge.pw_nightslates_k07_houses_refused w K mg base G 8 q (lam_7 K) where
  binds := by
    intro q cl c pm ctv; rfl
  ns := ns_7
  run := ⟨fun px => (eCallX px X_number_of (aCons (eVar 0) (aCons (eVar 1) aNil))), rfl, fun cl c dV f A outer s H E hr W Px tk => (d_callX (okx_number_of (G := G) T) tk (hr.mono (by decide)) rfl T.m_number_of T.f_number_of.kp T.b_number_of (da_cons (d_var 0) (da_cons (d_var 1) da_nil)))⟩
theorem go_8 (T : Tx K mg base G fd) (q : Str) : LamGo PySem.Challenge.pw_nightslates_k07_houses_refused w K mg base G 8 q (lam_8 K) where
  binds := by
    intro q cl c pm ctv; rfl
  ns := ns_8
  run := ⟨fun px => (eCallA px 0 [(He.fAd K ("days_to", none), X_days_to), (He.fAd K ("cover_row", none), X_cover_row), (He.fAd K ("closed_family", none), X_closed_family)] (aCons (eVar 1) (aCons (eC (.int 0)) (aCons (eVar 2) aNil)))), rfl, fun cl c dV f A outer s H E hr W Px tk => (d_callA (k := 7) 0 [(He.fAd K ("days_to", none), X_days_to), (He.fAd K ("cover_row", none), X_cover_row), (He.fAd K ("closed_family", none), X_closed_family)] (fun en hen => by
    simp only [List.mem_cons, List.not_mem_nil, or_false] at hen
    rcases hen with rfl | rfl | rfl
    · exact ⟨T.f_days_to.kp, _, _, T.b_days_to, (okx_days_to (G := G) T).mono (by decide)⟩
    · exact ⟨T.f_cover_row.kp, _, _, T.b_cover_row, (okx_cover_row (G := G) T).mono (by decide)⟩
    · exact ⟨T.f_closed_family.kp, _, _, T.b_closed_family, (okx_closed_family (G := G) T).mono (by decide)⟩) tk (hr.mono (by decide)) (da_cons (d_var 1) (da_cons d_int (da_cons (d_var 2) da_nil))))⟩
theorem go_9 (T : Tx K mg base G fd) (q : Str) : LamGo PySem.Challenge.pw_nightslates_k07_houses_refused w K mg base G 8 q (lam_9 K) where
  binds := by
    intro q cl c pm ctv; rfl
  ns := ns_9
  run := ⟨fun px => (eCallA px 0 [(He.fAd K ("shows_cover_row", none), X_shows_cover_row), (He.fAd K ("shows_closed_family", none), X_shows_closed_family)] (aCons (eVar 1) (aCons (eC (.int 0)) (aCons (eVar 2) (aCons (eC .none) aNil))))), rfl, fun cl c dV f A outer s H E hr W Px tk => (d_callA (k := 7) 0 [(He.fAd K ("shows_cover_row", none), X_shows_cover_row), (He.fAd K ("shows_closed_family", none), X_shows_closed_family)] (fun en hen => by
    simp only [List.mem_cons, List.not_mem_nil, or_false] at hen
    rcases hen with rfl | rfl
    · exact ⟨T.f_shows_cover_row.kp, _, _, T.b_shows_cover_row, (okx_shows_cover_row (G := G) T).mono (by decide)⟩
    · exact ⟨T.f_shows_closed_family.kp, _, _, T.b_shows_closed_family, (okx_shows_closed_family (G := G) T).mono (by decide)⟩) tk (hr.mono (by decide)) (da_cons (d_var 1) (da_cons d_int (da_cons (d_var 2) (da_cons d_non da_nil)))))⟩
theorem go_10 (T : Tx K mg base G fd) (q : Str) : LamGo PySem.Challenge.pw_nightslates_k07_houses_refused w K mg base G 8 q (lam_10 K) where
  binds := by
    intro q cl c pm ctv; rfl
  ns := ns_10
  run := ⟨fun px => (eCallX px X_lot_bears (aCons (eVar 0) (aCons (eC (.int 0)) (aCons (eC (.int 0)) (aCons (eVar 1) aNil))))), rfl, fun cl c dV f A outer s H E hr W Px tk => (d_callX (okx_lot_bears (G := G) T) tk (hr.mono (by decide)) rfl T.m_lot_bears T.f_lot_bears.kp T.b_lot_bears (da_cons (d_var 0) (da_cons d_int (da_cons d_int (da_cons (d_var 1) da_nil)))))⟩
theorem ok__law_goals_refused (T : Tx K mg base G fd) : FnOk PySem.Challenge.pw_nightslates_k07_houses_refused w K mg base CX0 11 (He.fAd K ("_law_goals_refused", none)) (fd 43) ["_law_house_here", "_law_bad"] (spD G (F__law_goals_refused K)) := fnC (k := 10) T.gP (funC_of T.f__law_goals_refused) sc__law_goals_refused (by decide) fun A outer s H E hr =>
  (ss_cons (s_if (dt_cmp (op_neD (hu64 hr)) opD_ne (d_ref (R := RefR) (y0 := "_law_house_here") (k := 8) T.gP (lamMk_of (LamX.TabB.mk (T.t__law_goals_refused).code (T.t__law_goals_refused).bm (T.t__law_goals_refused).gP) rfl T.l__law_goals_refused T.u__law_goals_refused T.a__law_goals_refused) (at_7 K) (go_7 T _) rfl rfl rfl rfl hf_7 (hr.mono (by decide)) (funC_of T.f__law_refusal) sc__law_refusal T.b__law_refusal T.m__law_refusal T.f__law_refusal.kp rfl (fun A outer s H ρ hr => gvr T A outer s H ρ hr)) d_str) (ss_one (s_ret d_bl)) ss_nil)
  (ss_cons (s_forA 2 [He.fAd K ("days_to", none), He.fAd K ("cover_row", none), He.fAd K ("closed_family", none)] PassesOwn.never rfl sc__law_goals_refused.nd (Nat.le_of_ble_eq_true rfl) (pa_cons (pe_glob (v := .ref (He.fAd K ("days_to", none))) rfl T.m_days_to rfl) (pa_cons (pe_glob (v := .ref (He.fAd K ("cover_row", none))) rfl T.m_cover_row rfl) (pa_cons (pe_glob (v := .ref (He.fAd K ("closed_family", none))) rfl T.m_closed_family rfl) pa_nil)))
  (ss_one (s_if (dt_cmp (op_neD (hu64 hr)) opD_ne (d_ref (R := RefR) (y0 := "_law_ask") (k := 8) T.gP (lamMk_of (LamX.TabB.mk (T.t__law_goals_refused).code (T.t__law_goals_refused).bm (T.t__law_goals_refused).gP) rfl T.l__law_goals_refused T.u__law_goals_refused T.a__law_goals_refused) (at_8 K) (go_8 T _) rfl rfl rfl rfl hf_8 (hr.mono (by decide)) (funC_of T.f__law_refusal) sc__law_refusal T.b__law_refusal T.m__law_refusal T.f__law_refusal.kp rfl (fun A outer s H ρ hr => gvr T A outer s H ρ hr)) d_str) (ss_one (s_ret d_bl)) ss_nil)))
  (ss_cons (s_forA 2 [He.fAd K ("shows_cover_row", none), He.fAd K ("shows_closed_family", none)] PassesOwn.never rfl sc__law_goals_refused.nd (Nat.le_of_ble_eq_true rfl) (pa_cons (pe_glob (v := .ref (He.fAd K ("shows_cover_row", none))) rfl T.m_shows_cover_row rfl) (pa_cons (pe_glob (v := .ref (He.fAd K ("shows_closed_family", none))) rfl T.m_shows_closed_family rfl) pa_nil))
  (ss_one (s_if (dt_cmp (op_neD (hu64 hr)) opD_ne (d_ref (R := RefR) (y0 := "_law_ask") (k := 8) T.gP (lamMk_of (LamX.TabB.mk (T.t__law_goals_refused).code (T.t__law_goals_refused).bm (T.t__law_goals_refused).gP) rfl T.l__law_goals_refused T.u__law_goals_refused T.a__law_goals_refused) (at_9 K) (go_9 T _) rfl rfl rfl rfl hf_9 (hr.mono (by decide)) (funC_of T.f__law_refusal) sc__law_refusal T.b__law_refusal T.m__law_refusal T.f__law_refusal.kp rfl (fun A outer s H ρ hr => gvr T A outer s H ρ hr)) d_str) (ss_one (s_ret d_bl)) ss_nil)))
  (ss_one (s_ret (d_cmp (op_eqD (hu64 hr)) opD_eq (d_ref (R := RefR) (y0 := "_law_house_here") (k := 8) T.gP (lamMk_of (LamX.TabB.mk (T.t__law_goals_refused).code (T.t__law_goals_refused).bm (T.t__law_goals_refused).gP) rfl T.l__law_goals_refused T.u__law_goals_refused T.a__law_goals_refused) (at_10 K) (go_10 T _) rfl rfl rfl rfl hf_10 (hr.mono (by decide)) (funC_of T.f__law_refusal) sc__law_refusal T.b__law_refusal T.m__law_refusal T.f__law_refusal.kp rfl (fun A outer s H ρ hr => gvr T A outer s H ρ hr)) d_str))))))
theorem go_11 (T : Tx K mg base G fd) (q : Str) : LamGo PySem.Challenge.pw_nightslates_k07_houses_refused w K mg base G 8 q (lam_11 K) where
  binds := by
    intro q cl c pm ctv; rfl
  ns := ns_11
  run := ⟨fun px => (eCallX px X_after (aCons (eVar 0) (aCons (eVar 1) (aCons (eC .none) aNil)))), rfl, fun cl c dV f A outer s H E hr W Px tk => (d_callX (okx_after (G := G) T) tk (hr.mono (by decide)) rfl T.m_after T.f_after.kp T.b_after (da_cons (d_var 0) (da_cons (d_var 1) (da_cons d_non da_nil))))⟩
theorem go_12 (T : Tx K mg base G fd) (q : Str) : LamGo PySem.Challenge.pw_nightslates_k07_houses_refused w K mg base G 8 q (lam_12 K) where
  binds := by
    intro q cl c pm ctv; rfl
  ns := ns_12
  run := ⟨fun px => (eCallX px X_after (aCons (eVar 0) (aCons (eTup vNil) (aCons (eVar 1) aNil)))), rfl, fun cl c dV f A outer s H E hr W Px tk => (d_callX (okx_after (G := G) T) tk (hr.mono (by decide)) rfl T.m_after T.f_after.kp T.b_after (da_cons (d_var 0) (da_cons (d_tup dv_nil) (da_cons (d_var 1) da_nil))))⟩
theorem go_13 (T : Tx K mg base G fd) (q : Str) : LamGo PySem.Challenge.pw_nightslates_k07_houses_refused w K mg base G 8 q (lam_13 K) where
  binds := by
    intro q cl c pm ctv; rfl
  ns := ns_13
  run := ⟨fun px => (eCallA px 0 [(He.fAd K ("days_to", none), X_days_to), (He.fAd K ("cover_row", none), X_cover_row), (He.fAd K ("closed_family", none), X_closed_family)] (aCons (eVar 1) (aCons (eVar 2) (aCons (eC .none) aNil)))), rfl, fun cl c dV f A outer s H E hr W Px tk => (d_callA (k := 7) 0 [(He.fAd K ("days_to", none), X_days_to), (He.fAd K ("cover_row", none), X_cover_row), (He.fAd K ("closed_family", none), X_closed_family)] (fun en hen => by
    simp only [List.mem_cons, List.not_mem_nil, or_false] at hen
    rcases hen with rfl | rfl | rfl
    · exact ⟨T.f_days_to.kp, _, _, T.b_days_to, (okx_days_to (G := G) T).mono (by decide)⟩
    · exact ⟨T.f_cover_row.kp, _, _, T.b_cover_row, (okx_cover_row (G := G) T).mono (by decide)⟩
    · exact ⟨T.f_closed_family.kp, _, _, T.b_closed_family, (okx_closed_family (G := G) T).mono (by decide)⟩) tk (hr.mono (by decide)) (da_cons (d_var 1) (da_cons (d_var 2) (da_cons d_non da_nil))))⟩
theorem go_14 (T : Tx K mg base G fd) (q : Str) : LamGo PySem.Challenge.pw_nightslates_k07_houses_refused w K mg base G 8 q (lam_14 K) where
  binds := by
    intro q cl c pm ctv; rfl
  ns := ns_14
  run := ⟨fun px => (eCallA px 0 [(He.fAd K ("shows_cover_row", none), X_shows_cover_row), (He.fAd K ("shows_closed_family", none), X_shows_closed_family), (He.fAd K ("lot_bears", none), X_lot_bears)] (aCons (eVar 1) (aCons (eVar 2) (aCons (eC .none) (aCons (eC .none) aNil))))), rfl, fun cl c dV f A outer s H E hr W Px tk => (d_callA (k := 7) 0 [(He.fAd K ("shows_cover_row", none), X_shows_cover_row), (He.fAd K ("shows_closed_family", none), X_shows_closed_family), (He.fAd K ("lot_bears", none), X_lot_bears)] (fun en hen => by
    simp only [List.mem_cons, List.not_mem_nil, or_false] at hen
    rcases hen with rfl | rfl | rfl
    · exact ⟨T.f_shows_cover_row.kp, _, _, T.b_shows_cover_row, (okx_shows_cover_row (G := G) T).mono (by decide)⟩
    · exact ⟨T.f_shows_closed_family.kp, _, _, T.b_shows_closed_family, (okx_shows_closed_family (G := G) T).mono (by decide)⟩
    · exact ⟨T.f_lot_bears.kp, _, _, T.b_lot_bears, (okx_lot_bears (G := G) T).mono (by decide)⟩) tk (hr.mono (by decide)) (da_cons (d_var 1) (da_cons (d_var 2) (da_cons d_non (da_cons d_non da_nil)))))⟩
theorem go_15 (T : Tx K mg base G fd) (q : Str) : LamGo PySem.Challenge.pw_nightslates_k07_houses_refused w K mg base G 8 q (lam_15 K) where
  binds := by
    intro q cl c pm ctv; rfl
  ns := ns_15
  run := ⟨fun px => (eCallA px 0 [(He.fAd K ("bears", none), X_bears), (He.fAd K ("days_borne", none), X_days_borne)] (aCons (eVar 1) (aCons (eVar 2) (aCons (eC .none) aNil)))), rfl, fun cl c dV f A outer s H E hr W Px tk => (d_callA (k := 5) 0 [(He.fAd K ("bears", none), X_bears), (He.fAd K ("days_borne", none), X_days_borne)] (fun en hen => by
    simp only [List.mem_cons, List.not_mem_nil, or_false] at hen
    rcases hen with rfl | rfl
    · exact ⟨T.f_bears.kp, _, _, T.b_bears, (okx_bears (G := G) T).mono (by decide)⟩
    · exact ⟨T.f_days_borne.kp, _, _, T.b_days_borne, (okx_days_borne (G := G) T).mono (by decide)⟩) tk (hr.mono (by decide)) (da_cons (d_var 1) (da_cons (d_var 2) (da_cons d_non da_nil))))⟩
theorem go_16 (T : Tx K mg base G fd) (q : Str) : LamGo PySem.Challenge.pw_nightslates_k07_houses_refused w K mg base G 8 q (lam_16 K) where
  binds := by
    intro q cl c pm ctv; rfl
  ns := ns_16
  run := ⟨fun px => (eCallA px 0 [(He.fAd K ("bears", none), X_bears), (He.fAd K ("days_borne", none), X_days_borne)] (aCons (eVar 1) (aCons (eC (.int 0)) (aCons (eVar 2) aNil)))), rfl, fun cl c dV f A outer s H E hr W Px tk => (d_callA (k := 5) 0 [(He.fAd K ("bears", none), X_bears), (He.fAd K ("days_borne", none), X_days_borne)] (fun en hen => by
    simp only [List.mem_cons, List.not_mem_nil, or_false] at hen
    rcases hen with rfl | rfl
    · exact ⟨T.f_bears.kp, _, _, T.b_bears, (okx_bears (G := G) T).mono (by decide)⟩
    · exact ⟨T.f_days_borne.kp, _, _, T.b_days_borne, (okx_days_borne (G := G) T).mono (by decide)⟩) tk (hr.mono (by decide)) (da_cons (d_var 1) (da_cons d_int (da_cons (d_var 2) da_nil))))⟩
theorem go_17 (T : Tx K mg base G fd) (q : Str) : LamGo PySem.Challenge.pw_nightslates_k07_houses_refused w K mg base G 8 q (lam_17 K) where
  binds := by
    intro q cl c pm ctv; rfl
  ns := ns_17
  run := ⟨fun px => (eCallX px X_lot_bears (aCons (eVar 0) (aCons (eC (.int 0)) (aCons (eVar 1) (aCons (eC .none) aNil))))), rfl, fun cl c dV f A outer s H E hr W Px tk => (d_callX (okx_lot_bears (G := G) T) tk (hr.mono (by decide)) rfl T.m_lot_bears T.f_lot_bears.kp T.b_lot_bears (da_cons (d_var 0) (da_cons d_int (da_cons (d_var 1) (da_cons d_non da_nil)))))⟩
theorem go_18 (T : Tx K mg base G fd) (q : Str) : LamGo PySem.Challenge.pw_nightslates_k07_houses_refused w K mg base G 8 q (lam_18 K) where
  binds := by
    intro q cl c pm ctv; rfl
  ns := ns_18
  run := ⟨fun px => (eCallX px X_crew (aCons (eVar 0) (aCons (eVar 1) aNil))), rfl, fun cl c dV f A outer s H E hr W Px tk => (d_callX (okx_crew (G := G) T) tk (hr.mono (by decide)) rfl T.m_crew T.f_crew.kp T.b_crew (da_cons (d_var 0) (da_cons (d_var 1) da_nil)))⟩
theorem go_19 (T : Tx K mg base G fd) (q : Str) : LamGo PySem.Challenge.pw_nightslates_k07_houses_refused w K mg base G 8 q (lam_19 K) where
  binds := by
    intro q cl c pm ctv; rfl
  ns := ns_19
  run := ⟨fun px => (eCallX px X_with_sight (aCons (eVar 0) (aCons (eVar 1) (aCons (eC .none) aNil)))), rfl, fun cl c dV f A outer s H E hr W Px tk => (d_callX (okx_with_sight (G := G) T) tk (hr.mono (by decide)) rfl T.m_with_sight T.f_with_sight.kp T.b_with_sight (da_cons (d_var 0) (da_cons (d_var 1) (da_cons d_non da_nil))))⟩
theorem go_20 (T : Tx K mg base G fd) (q : Str) : LamGo PySem.Challenge.pw_nightslates_k07_houses_refused w K mg base G 8 q (lam_20 K) where
  binds := by
    intro q cl c pm ctv; rfl
  ns := ns_20
  run := ⟨fun px => (eCallX px X_with_sight (aCons (eVar 0) (aCons (eC (.int 0)) (aCons (eVar 1) aNil)))), rfl, fun cl c dV f A outer s H E hr W Px tk => (d_callX (okx_with_sight (G := G) T) tk (hr.mono (by decide)) rfl T.m_with_sight T.f_with_sight.kp T.b_with_sight (da_cons (d_var 0) (da_cons d_int (da_cons (d_var 1) da_nil))))⟩
theorem go_21 (T : Tx K mg base G fd) (q : Str) : LamGo PySem.Challenge.pw_nightslates_k07_houses_refused w K mg base G 8 q (lam_21 K) where
  binds := by
    intro q cl c pm ctv; rfl
  ns := ns_21
  run := ⟨fun px => (eCallX px X_with_sight (aCons (eVar 0) (aCons (eC (.int 0)) (aCons (eOp oIx (eOp oIx (eVar 0) (eC (.int 0))) (eC (.int 0))) aNil)))), rfl, fun cl c dV f A outer s H E hr W Px tk => (d_callX (okx_with_sight (G := G) T) tk (hr.mono (by decide)) rfl T.m_with_sight T.f_with_sight.kp T.b_with_sight (da_cons (d_var 0) (da_cons d_int (da_cons (d_ix (d_ix (d_var 0) d_int) d_int) da_nil))))⟩
theorem go_22 (T : Tx K mg base G fd) (q : Str) : LamGo PySem.Challenge.pw_nightslates_k07_houses_refused w K mg base G 8 q (lam_22 K) where
  binds := by
    intro q cl c pm ctv; rfl
  ns := ns_22
  run := ⟨fun px => (eCallX px X_beside (aCons (eVar 0) (aCons (eTup (vCons (eTup (vCons (eC (.int 0)) vNil)) (vCons (eTup vNil) vNil))) aNil))), rfl, fun cl c dV f A outer s H E hr W Px tk => (d_callX (okx_beside (G := G) T) tk (hr.mono (by decide)) rfl T.m_beside T.f_beside.kp T.b_beside (da_cons (d_var 0) (da_cons (d_tup (dv_cons (d_tup (dv_cons d_int dv_nil)) (dv_cons (d_tup dv_nil) dv_nil))) da_nil)))⟩
theorem go_23 (T : Tx K mg base G fd) (q : Str) : LamGo PySem.Challenge.pw_nightslates_k07_houses_refused w K mg base G 8 q (lam_23 K) where
  binds := by
    intro q cl c pm ctv; rfl
  ns := ns_23
  run := ⟨fun px => (eCallX px X_beside (aCons (eVar 0) (aCons (eOp oRepT (eTup (vCons (eTup (vCons (eC (.int 0)) vNil)) vNil)) (eC (.int 6))) aNil))), rfl, fun cl c dV f A outer s H E hr W Px tk => (d_callX (okx_beside (G := G) T) tk (hr.mono (by decide)) rfl T.m_beside T.f_beside.kp T.b_beside (da_cons (d_var 0) (da_cons (d_repT (d_tup (dv_cons (d_tup (dv_cons d_int dv_nil)) dv_nil)) d_int) da_nil)))⟩
theorem ok_law (T : Tx K mg base G fd) : FnOk PySem.Challenge.pw_nightslates_k07_houses_refused w K mg base CX0 12 (He.fAd K ("law", none)) (fd 44) ["_law_script"] (spLaw G 8 (B_law K)) :=
  fnLaw (k := 11) T.gP T.gK (funC_of T.f_law) sc_law (by decide) rfl (by decide) (by decide) (fun A outer s H E => ps_set (i := 1) sc_law.nd rfl (by first | exact Or.inl rfl | exact Or.inr rfl) (pe_lst (pa_cons (pv 0) (pa_cons pe_int (pa_cons pe_int (pa_cons pe_int pa_nil)))))) fun A outer s H E hr =>
  (ss_cons (s_set 2 sc_law.nd (x_val (d_frz (dn_lst (dv_cons (d_tup (dv_cons d_non (dv_cons d_non dv_nil))) (dv_cons (d_tup (dv_cons (d_frz (dn_lst (dv_cons (d_tup (dv_cons d_int dv_nil)) dv_nil))) (dv_cons d_non dv_nil))) (dv_cons (d_tup (dv_cons (d_tup dv_nil) (dv_cons d_non dv_nil))) (dv_cons (d_tup (dv_cons (d_repT (d_tup (dv_cons (d_tup (dv_cons d_int dv_nil)) dv_nil)) d_int) (dv_cons d_non dv_nil))) (dv_cons (d_tup (dv_cons (d_tup (dv_cons d_non dv_nil)) (dv_cons d_int dv_nil))) (dv_cons (d_tup (dv_cons (d_tup (dv_cons (d_tup dv_nil) dv_nil)) (dv_cons d_int dv_nil))) (dv_cons (d_tup (dv_cons (d_tup (dv_cons (d_tup (dv_cons d_int dv_nil)) (dv_cons (d_tup dv_nil) dv_nil))) (dv_cons d_int dv_nil))) dv_nil)))))))))))
  (ss_cons (s_set 2 sc_law.nd (x_val (d_frz (dn_cat (dl_val (d_var 2)) (dl_new (dn_lst (dv_cons (d_tup (dv_cons (d_tup (dv_cons (d_tup (dv_cons d_int dv_nil)) (dv_cons (d_tup (dv_cons d_int dv_nil)) dv_nil))) (dv_cons d_int dv_nil))) (dv_cons (d_tup (dv_cons (d_tup (dv_cons (d_tup (dv_cons d_int dv_nil)) (dv_cons (d_tup (dv_cons d_int (dv_cons d_int dv_nil))) dv_nil))) (dv_cons d_int dv_nil))) (dv_cons (d_tup (dv_cons (d_tup (dv_cons (d_tup (dv_cons d_int (dv_cons d_int dv_nil))) (dv_cons (d_tup (dv_cons d_int dv_nil)) dv_nil))) (dv_cons d_int dv_nil))) (dv_cons (d_tup (dv_cons (d_tup (dv_cons (d_frz (dn_lst (dv_cons d_int dv_nil))) dv_nil)) (dv_cons d_int dv_nil))) (dv_cons (d_tup (dv_cons (d_tup (dv_cons (d_tup (dv_cons d_bl dv_nil)) (dv_cons (d_tup (dv_cons d_int dv_nil)) dv_nil))) (dv_cons d_int dv_nil))) dv_nil)))))))))))
  (ss_cons (s_set 2 sc_law.nd (x_val (d_frz (dn_cat (dl_val (d_var 2)) (dl_new (dn_lst (dv_cons (d_tup (dv_cons (d_tup (dv_cons (d_tup (dv_cons d_int dv_nil)) (dv_cons (d_tup (dv_cons (d_neg d_int) dv_nil)) dv_nil))) (dv_cons d_int dv_nil))) (dv_cons (d_tup (dv_cons d_str (dv_cons d_non dv_nil))) (dv_cons (d_tup (dv_cons d_dct0 (dv_cons d_non dv_nil))) (dv_cons (d_tup (dv_cons (d_tup (dv_cons (d_tup (dv_cons d_int dv_nil)) (dv_cons (d_tup (dv_cons d_str dv_nil)) dv_nil))) (dv_cons d_int dv_nil))) dv_nil))))))))))
  (ss_cons (s_for PassesOwn.never rfl (di_range1 rfl T.m_range d_int) (dg_name 3 sc_law.nd)
  (ss_cons (s_asg (d_call (ok__law_pick T) (hr.mono (by decide)) rfl T.m__law_pick T.f__law_pick.kp T.b__law_pick (da_row 1 (da_cons (d_var 2) da_nil))) (dg_tup2 rfl (dg_name 4 sc_law.nd) (dg_name 5 sc_law.nd)))
  (ss_one (s_if (dt_not (dt_val (d_call (ok__law_house_refused T) (hr.mono (by decide)) rfl T.m__law_house_refused T.f__law_house_refused.kp T.b__law_house_refused (da_cons (d_var 4) (da_cons (d_tup (dv_cons d_str (dv_cons (d_var 5) dv_nil))) da_nil))))) (ss_one (s_ret d_bl)) ss_nil))))
  (ss_cons (s_set 6 sc_law.nd (x_val (d_call (ok__law_house T) (hr.mono (by decide)) rfl T.m__law_house T.f__law_house.kp T.b__law_house (da_row 1 (da_cons d_int (da_cons d_int da_nil))))))
  (ss_cons (s_for PassesOwn.never rfl (di_val (d_frz (dn_lst (dv_cons d_non (dv_cons (d_frz (dn_lst (dv_cons d_int dv_nil))) (dv_cons (d_tup (dv_cons d_int dv_nil)) (dv_cons (d_tup (dv_cons d_int (dv_cons d_int dv_nil))) (dv_cons (d_tup (dv_cons d_int (dv_cons d_int dv_nil))) (dv_cons (d_tup (dv_cons d_bl dv_nil)) (dv_cons d_str (dv_cons d_int dv_nil))))))))))) (dg_name 4 sc_law.nd)
  (ss_cons (s_if (dt_not (dt_val (d_call (ok__law_goals_refused T) (hr.mono (by decide)) rfl T.m__law_goals_refused T.f__law_goals_refused.kp T.b__law_goals_refused (da_cons (d_var 6) (da_cons (d_var 4) da_nil))))) (ss_one (s_ret d_bl)) ss_nil)
  (ss_cons (s_if (dt_cmp (op_neD (hu64 hr)) opD_ne (d_ref (R := RefR) (y0 := "_law_house_here") (k := 8) T.gP (lamMk_of (LamX.TabB.mk (T.t_law).code (T.t_law).bm (T.t_law).gP) rfl T.l_law T.u_law T.a_law) (at_11 K) (go_11 T _) rfl rfl rfl rfl hf_11 (hr.mono (by decide)) (funC_of T.f__law_refusal) sc__law_refusal T.b__law_refusal T.m__law_refusal T.f__law_refusal.kp rfl (fun A outer s H ρ hr => gvr T A outer s H ρ hr)) d_str) (ss_one (s_ret d_bl)) ss_nil)
  (ss_one (s_if (dt_cmp (op_neD (hu64 hr)) opD_ne (d_ref (R := RefR) (y0 := "_law_house_here") (k := 8) T.gP (lamMk_of (LamX.TabB.mk (T.t_law).code (T.t_law).bm (T.t_law).gP) rfl T.l_law T.u_law T.a_law) (at_12 K) (go_12 T _) rfl rfl rfl rfl hf_12 (hr.mono (by decide)) (funC_of T.f__law_refusal) sc__law_refusal T.b__law_refusal T.m__law_refusal T.f__law_refusal.kp rfl (fun A outer s H ρ hr => gvr T A outer s H ρ hr)) d_str) (ss_one (s_ret d_bl)) ss_nil)))))
  (ss_cons (s_if (dt_not (dt_val (d_call (ok__law_goals_refused T) (hr.mono (by decide)) rfl T.m__law_goals_refused T.f__law_goals_refused.kp T.b__law_goals_refused (da_cons (d_var 6) (da_cons (d_tup dv_nil) da_nil))))) (ss_one (s_ret d_bl)) ss_nil)
  (ss_cons (s_for PassesOwn.never rfl (di_val (d_frz (dn_lst (dv_cons d_non (dv_cons (d_neg d_int) (dv_cons d_int (dv_cons d_bl (dv_cons d_str (dv_cons (d_tup (dv_cons d_int dv_nil)) dv_nil))))))))) (dg_name 4 sc_law.nd)
  (ss_cons (s_forA 7 [He.fAd K ("days_to", none), He.fAd K ("cover_row", none), He.fAd K ("closed_family", none)] PassesOwn.never rfl sc_law.nd (Nat.le_of_ble_eq_true rfl) (pa_cons (pe_glob (v := .ref (He.fAd K ("days_to", none))) rfl T.m_days_to rfl) (pa_cons (pe_glob (v := .ref (He.fAd K ("cover_row", none))) rfl T.m_cover_row rfl) (pa_cons (pe_glob (v := .ref (He.fAd K ("closed_family", none))) rfl T.m_closed_family rfl) pa_nil)))
  (ss_one (s_if (dt_cmp (op_neD (hu64 hr)) opD_ne (d_ref (R := RefR) (y0 := "_law_ask") (k := 8) T.gP (lamMk_of (LamX.TabB.mk (T.t_law).code (T.t_law).bm (T.t_law).gP) rfl T.l_law T.u_law T.a_law) (at_13 K) (go_13 T _) rfl rfl rfl rfl hf_13 (hr.mono (by decide)) (funC_of T.f__law_refusal) sc__law_refusal T.b__law_refusal T.m__law_refusal T.f__law_refusal.kp rfl (fun A outer s H ρ hr => gvr T A outer s H ρ hr)) d_str) (ss_one (s_ret d_bl)) ss_nil)))
  (ss_cons (s_forA 7 [He.fAd K ("shows_cover_row", none), He.fAd K ("shows_closed_family", none), He.fAd K ("lot_bears", none)] PassesOwn.never rfl sc_law.nd (Nat.le_of_ble_eq_true rfl) (pa_cons (pe_glob (v := .ref (He.fAd K ("shows_cover_row", none))) rfl T.m_shows_cover_row rfl) (pa_cons (pe_glob (v := .ref (He.fAd K ("shows_closed_family", none))) rfl T.m_shows_closed_family rfl) (pa_cons (pe_glob (v := .ref (He.fAd K ("lot_bears", none))) rfl T.m_lot_bears rfl) pa_nil)))
  (ss_one (s_if (dt_cmp (op_neD (hu64 hr)) opD_ne (d_ref (R := RefR) (y0 := "_law_ask") (k := 8) T.gP (lamMk_of (LamX.TabB.mk (T.t_law).code (T.t_law).bm (T.t_law).gP) rfl T.l_law T.u_law T.a_law) (at_14 K) (go_14 T _) rfl rfl rfl rfl hf_14 (hr.mono (by decide)) (funC_of T.f__law_refusal) sc__law_refusal T.b__law_refusal T.m__law_refusal T.f__law_refusal.kp rfl (fun A outer s H ρ hr => gvr T A outer s H ρ hr)) d_str) (ss_one (s_ret d_bl)) ss_nil)))
  (ss_cons (s_forA 7 [He.fAd K ("bears", none), He.fAd K ("days_borne", none)] PassesOwn.never rfl sc_law.nd (Nat.le_of_ble_eq_true rfl) (pa_cons (pe_glob (v := .ref (He.fAd K ("bears", none))) rfl T.m_bears rfl) (pa_cons (pe_glob (v := .ref (He.fAd K ("days_borne", none))) rfl T.m_days_borne rfl) pa_nil))
  (ss_cons (s_if (dt_cmp (op_neD (hu64 hr)) opD_ne (d_ref (R := RefR) (y0 := "_law_ask") (k := 8) T.gP (lamMk_of (LamX.TabB.mk (T.t_law).code (T.t_law).bm (T.t_law).gP) rfl T.l_law T.u_law T.a_law) (at_15 K) (go_15 T _) rfl rfl rfl rfl hf_15 (hr.mono (by decide)) (funC_of T.f__law_refusal) sc__law_refusal T.b__law_refusal T.m__law_refusal T.f__law_refusal.kp rfl (fun A outer s H ρ hr => gvr T A outer s H ρ hr)) d_str) (ss_one (s_ret d_bl)) ss_nil)
  (ss_one (s_if (dt_cmp (op_neD (hu64 hr)) opD_ne (d_ref (R := RefR) (y0 := "_law_ask") (k := 8) T.gP (lamMk_of (LamX.TabB.mk (T.t_law).code (T.t_law).bm (T.t_law).gP) rfl T.l_law T.u_law T.a_law) (at_16 K) (go_16 T _) rfl rfl rfl rfl hf_16 (hr.mono (by decide)) (funC_of T.f__law_refusal) sc__law_refusal T.b__law_refusal T.m__law_refusal T.f__law_refusal.kp rfl (fun A outer s H ρ hr => gvr T A outer s H ρ hr)) d_str) (ss_one (s_ret d_bl)) ss_nil))))
  (ss_one (s_if (dt_cmp (op_neD (hu64 hr)) opD_ne (d_ref (R := RefR) (y0 := "_law_house_here") (k := 8) T.gP (lamMk_of (LamX.TabB.mk (T.t_law).code (T.t_law).bm (T.t_law).gP) rfl T.l_law T.u_law T.a_law) (at_17 K) (go_17 T _) rfl rfl rfl rfl hf_17 (hr.mono (by decide)) (funC_of T.f__law_refusal) sc__law_refusal T.b__law_refusal T.m__law_refusal T.f__law_refusal.kp rfl (fun A outer s H ρ hr => gvr T A outer s H ρ hr)) d_str) (ss_one (s_ret d_bl)) ss_nil))))))
  (ss_cons (s_for PassesOwn.never rfl (di_val (d_frz (dn_lst (dv_cons d_non (dv_cons d_int (dv_cons d_int (dv_cons d_bl dv_nil))))))) (dg_name 4 sc_law.nd)
  (ss_one (s_if (dt_cmp (op_neD (hu64 hr)) opD_ne (d_ref (R := RefR) (y0 := "_law_house_here") (k := 8) T.gP (lamMk_of (LamX.TabB.mk (T.t_law).code (T.t_law).bm (T.t_law).gP) rfl T.l_law T.u_law T.a_law) (at_18 K) (go_18 T _) rfl rfl rfl rfl hf_18 (hr.mono (by decide)) (funC_of T.f__law_refusal) sc__law_refusal T.b__law_refusal T.m__law_refusal T.f__law_refusal.kp rfl (fun A outer s H ρ hr => gvr T A outer s H ρ hr)) d_str) (ss_one (s_ret d_bl)) ss_nil)))
  (ss_cons (s_for PassesOwn.never rfl (di_val (d_frz (dn_lst (dv_cons d_non (dv_cons (d_neg d_int) (dv_cons d_int (dv_cons d_bl dv_nil))))))) (dg_name 4 sc_law.nd)
  (ss_cons (s_if (dt_cmp (op_neD (hu64 hr)) opD_ne (d_ref (R := RefR) (y0 := "_law_house_here") (k := 8) T.gP (lamMk_of (LamX.TabB.mk (T.t_law).code (T.t_law).bm (T.t_law).gP) rfl T.l_law T.u_law T.a_law) (at_19 K) (go_19 T _) rfl rfl rfl rfl hf_19 (hr.mono (by decide)) (funC_of T.f__law_refusal) sc__law_refusal T.b__law_refusal T.m__law_refusal T.f__law_refusal.kp rfl (fun A outer s H ρ hr => gvr T A outer s H ρ hr)) d_str) (ss_one (s_ret d_bl)) ss_nil)
  (ss_one (s_if (dt_cmp (op_neD (hu64 hr)) opD_ne (d_ref (R := RefR) (y0 := "_law_house_here") (k := 8) T.gP (lamMk_of (LamX.TabB.mk (T.t_law).code (T.t_law).bm (T.t_law).gP) rfl T.l_law T.u_law T.a_law) (at_20 K) (go_20 T _) rfl rfl rfl rfl hf_20 (hr.mono (by decide)) (funC_of T.f__law_refusal) sc__law_refusal T.b__law_refusal T.m__law_refusal T.f__law_refusal.kp rfl (fun A outer s H ρ hr => gvr T A outer s H ρ hr)) d_str) (ss_one (s_ret d_bl)) ss_nil))))
  (ss_cons (s_if (dt_cmp (op_neD (hu64 hr)) opD_ne (d_ref (R := RefR) (y0 := "_law_house_here") (k := 8) T.gP (lamMk_of (LamX.TabB.mk (T.t_law).code (T.t_law).bm (T.t_law).gP) rfl T.l_law T.u_law T.a_law) (at_21 K) (go_21 T _) rfl rfl rfl rfl hf_21 (hr.mono (by decide)) (funC_of T.f__law_refusal) sc__law_refusal T.b__law_refusal T.m__law_refusal T.f__law_refusal.kp rfl (fun A outer s H ρ hr => gvr T A outer s H ρ hr)) d_str) (ss_one (s_ret d_bl)) ss_nil)
  (ss_cons (s_if (dt_cmp (op_neD (hu64 hr)) opD_ne (d_ref (R := RefR) (y0 := "_law_house_here") (k := 8) T.gP (lamMk_of (LamX.TabB.mk (T.t_law).code (T.t_law).bm (T.t_law).gP) rfl T.l_law T.u_law T.a_law) (at_22 K) (go_22 T _) rfl rfl rfl rfl hf_22 (hr.mono (by decide)) (funC_of T.f__law_refusal) sc__law_refusal T.b__law_refusal T.m__law_refusal T.f__law_refusal.kp rfl (fun A outer s H ρ hr => gvr T A outer s H ρ hr)) (d_tup (dv_cons d_str (dv_cons d_int dv_nil)))) (ss_one (s_ret d_bl)) ss_nil)
  (ss_one (s_ret (d_cmp (op_eqD (hu64 hr)) opD_eq (d_ref (R := RefR) (y0 := "_law_house_here") (k := 8) T.gP (lamMk_of (LamX.TabB.mk (T.t_law).code (T.t_law).bm (T.t_law).gP) rfl T.l_law T.u_law T.a_law) (at_23 K) (go_23 T _) rfl rfl rfl rfl hf_23 (hr.mono (by decide)) (funC_of T.f__law_refusal) sc__law_refusal T.b__law_refusal T.m__law_refusal T.f__law_refusal.kp rfl (fun A outer s H ρ hr => gvr T A outer s H ρ hr)) (d_tup (dv_cons d_str (dv_cons d_int dv_nil))))))))))))))))))
end
end K07
set_option Elab.async false
set_option linter.all false
set_option maxRecDepth 100000
set_option maxHeartbeats 2000000
/-! plain facts about the readings: what is enough for each -/
namespace DL
open PySem PySem.Spec PyProof.Rows L2

/-! ### loops over lists -/
theorem compL_suf {g : Fg} {t : Ed → Dm Bool} {f : Fe} {E : Ed} (p : PyData → Bool) (m : PyData → PyData) : ∀ {ds : List PyData} {Q : List PyData → Prop},
    (∀ d ∈ ds, ∀ (Qt : PyData → Prop) (Qf : Prop), (p d = true → Qt (m d)) → (p d = false → Qf) → g d E fun E1 => t E1 fun b => if b = true then f E1 Qt else Qf) → Q ((ds.filter p).map m) → compL g t f E ds Q
  | [], Q, _, h => h
  | d :: ds, Q, hs, h => by
    have ih := @compL_suf g t f E p m ds
    have hs' := fun x hx => hs x (List.mem_cons_of_mem d hx)
    show g d E fun E1 => t E1 fun b => if b = true then f E1 (fun y => compL g t f E ds fun ys => Q (y :: ys)) else compL g t f E ds Q
    refine hs d List.mem_cons_self _ _ (fun hp => ih hs' ?_) fun hp => ih hs' ?_
    · rw [List.filter_cons_of_pos hp, List.map_cons] at h; exact h
    · rw [List.filter_cons_of_neg (by rw [hp]; exact Bool.false_ne_true)] at h; exact h
/-- no test -/
theorem compL_map {g : Fg} {f : Fe} {E : Ed} (m : PyData → PyData) {ds : List PyData} {Q : List PyData → Prop} (hs : ∀ d ∈ ds, ∀ (Qt : PyData → Prop), Qt (m d) → g d E fun E1 => f E1 Qt) (h : Q (ds.map m)) : compL g tYesD f E ds Q := by
  refine compL_suf (fun _ => true) m (fun d hd Qt Qf h1 _ => ?_) ?_
  · show g d E fun E1 => if true = true then f E1 Qt else Qf
    simp only [if_true]
    exact hs d hd Qt (h1 rfl)
  · rw [List.filter_eq_self.mpr fun _ _ => rfl]; exact h
theorem genL_suf {g : Fg} {f : Fe} {E : Ed} {ds : List PyData} (b : PyData → Bool) (hs : ∀ d ∈ ds, ∀ Q : PyData → Prop, Q (.bool (b d)) → g d E fun E1 => f E1 Q) : genL g f E ds (ds.map b) := by
  refine ⟨List.length_map _, fun i d hd => hs d (List.mem_of_getElem? hd) _ ⟨b d, ?_, rfl⟩⟩
  rw [List.getElem?_map, hd]; rfl
theorem all_map_id (b : PyData → Bool) (ds : List PyData) : (ds.map b).all id = ds.all b := by rw [List.all_map]; rfl
theorem any_map_id (b : PyData → Bool) (ds : List PyData) : (ds.map b).any id = ds.any b := by rw [List.any_map]; rfl
/-- a loop by an invariant, nothing leaves it -/
theorem for_suf {g : Fg} {body : Fs} (I : Nat → Ed → Prop) {ds : List PyData} {E : Ed} {Q : Out → Prop} (h0 : I 0 E)
    (step : ∀ (i : Nat) (d : PyData) (E : Ed) (Q' : Out → Prop), ds[i]? = some d → I i E → (∀ E', I (i + 1) E' → Q' (.nx E')) → (∀ r, Q (.rt r) → Q' (.rt r)) → (∀ E', Q (.nx E') → Q' (.bk E')) → g d E fun E1 => body E1 Q')
    (fin : ∀ E, I ds.length E → Q (.nx E)) : sForL g body ds E Q := by
  have key : ∀ (k i : Nat) (E : Ed), i + k = ds.length → I i E → sForL g body (ds.drop i) E Q := by
    intro k
    induction k with
    | zero =>
      intro i E hi hI
      have : i = ds.length := by omega
      subst this
      rw [List.drop_of_length_le (Nat.le_refl _)]
      exact fin E hI
    | succ k ih =>
      intro i E hi hI
      have hlt : i < ds.length := by omega
      rw [List.drop_eq_getElem_cons hlt]
      exact step i ds[i] E _ (List.getElem?_eq_getElem hlt) hI (fun E' hE => ih (i + 1) E' (by omega) hE) (fun r hr => hr) fun E' hE => hE
  have := key ds.length 0 E (by omega) h0
  rwa [List.drop_zero] at this

/-! ### numbers and lots as data -/
abbrev iD (n : Nat) : PyData := .int n
def lotD (l : List Nat) : PyData := .tuple (l.map iD)
def houseD (h : List (List Nat)) : PyData := .tuple (h.map lotD)
def lotsD (ls : List (List Nat)) : PyData := .list (ls.map lotD)
theorem eqv_int (a b : Nat) : PyData.eqv (iD a) (iD b) = decide (a = b) := by
  show ((a : Int) == (b : Int)) = _
  by_cases h : a = b
  · subst h; simp
  · have : ¬ (a : Int) = b := by omega
    rw [decide_eq_false h]
    exact beq_false_of_ne this
theorem eqvAll_ints : ∀ a b : List Nat, PyData.eqvAll (a.map iD) (b.map iD) = decide (a = b)
  | [], [] => rfl
  | [], _ :: _ => rfl
  | _ :: _, [] => rfl
  | x :: a, y :: b => by
    rw [List.map_cons, List.map_cons]
    show (PyData.eqv (iD x) (iD y) && PyData.eqvAll (a.map iD) (b.map iD)) = _
    rw [eqv_int, eqvAll_ints a b]
    by_cases h : x = y <;> by_cases h2 : a = b <;> simp [h, h2]
theorem eqv_lot (a b : List Nat) : PyData.eqv (lotD a) (lotD b) = decide (a = b) := eqvAll_ints a b
theorem any_int (a : List Nat) (n : Nat) : ((a.map iD).any fun z => PyData.eqv z (iD n)) = decide (n ∈ a) := by
  rw [List.any_map]
  induction a with
  | nil => simp
  | cons x a ih =>
    rw [List.any_cons, ih]
    show (PyData.eqv (iD x) (iD n) || _) = _
    rw [eqv_int]
    by_cases h : x = n
    · subst h; simp
    · have h' : ¬ n = x := fun z => h z.symm
      simp [h, h']
theorem any_lot (a : List (List Nat)) (l : List Nat) : ((a.map lotD).any fun z => PyData.eqv z (lotD l)) = decide (l ∈ a) := by
  rw [List.any_map]
  induction a with
  | nil => simp
  | cons x a ih =>
    rw [List.any_cons, ih]
    show (PyData.eqv (lotD x) (lotD l) || _) = _
    rw [eqv_lot]
    by_cases h : x = l
    · subst h; simp
    · have h' : ¬ l = x := fun z => h z.symm
      simp [h, h']
theorem noDicts_map {α : Type} {f : α → PyData} (h : ∀ a, noDict (f a) = true) : ∀ l : List α, noDicts (l.map f) = true
  | [] => rfl
  | a :: l => by simp [noDicts, h a, noDicts_map h l]
theorem noDict_lot (l : List Nat) : noDict (lotD l) = true := noDicts_map (fun _ => rfl) l
theorem canAll {α : Type} {f : α → PyData} (h : ∀ a, (f a).canLay0 = true) : ∀ l : List α, PyData.canLayAll0 (l.map f) = true
  | [] => rfl
  | a :: l => by
    show ((f a).canLay0 && PyData.canLayAll0 (l.map f)) = true
    rw [h a, canAll h l]; rfl
theorem depthAll_le {α : Type} {f : α → PyData} {n : Nat} (h : ∀ a, (f a).depth ≤ n) : ∀ l : List α, PyData.depthAll (l.map f) ≤ n
  | [] => Nat.zero_le _
  | a :: l => by
    show max (f a).depth (PyData.depthAll (l.map f)) ≤ n
    exact Nat.max_le.mpr ⟨h a, depthAll_le h l⟩
theorem eqOk_int (i : Int) : eqOk (.int i) := ⟨rfl, rfl⟩
theorem eqOk_none : eqOk .none := ⟨rfl, rfl⟩
theorem eqOk_bool (b : Bool) : eqOk (.bool b) := ⟨rfl, rfl⟩
theorem depth_tup (ds : List PyData) : (PyData.tuple ds).depth = PyData.depthAll ds + 1 := by
  show PyData.depth _ = _
  simp [PyData.depth]
theorem depth_list (ds : List PyData) : (PyData.list ds).depth = PyData.depthAll ds + 1 := by
  simp [PyData.depth]
theorem depth_lot (l : List Nat) : (lotD l).depth ≤ 2 := by
  unfold lotD
  rw [depth_tup]
  have := depthAll_le (f := iD) (n := 1) (fun _ => by simp [PyData.depth]) l
  omega
theorem eqOk_tup {ds : List PyData} (h1 : noDicts ds = true) (h2 : PyData.canLayAll0 ds = true) (h3 : PyData.depthAll ds ≤ 60) : eqOk (.tuple ds) := by
  refine ⟨h1, ?_⟩
  unfold SeqAt.shaped
  rw [Bool.and_eq_true_iff]
  refine ⟨h2, decide_eq_true ?_⟩
  rw [depth_tup]; omega
theorem eqOk_lst {ds : List PyData} (h1 : noDicts ds = true) (h2 : PyData.canLayAll0 ds = true) (h3 : PyData.depthAll ds ≤ 60) : eqOk (.list ds) := by
  refine ⟨h1, ?_⟩
  unfold SeqAt.shaped
  rw [Bool.and_eq_true_iff]
  refine ⟨h2, decide_eq_true ?_⟩
  rw [depth_list]; omega
theorem can_lot (l : List Nat) : (lotD l).canLay0 = true := canAll (fun _ => rfl) l
theorem eqOk_lot (l : List Nat) : eqOk (lotD l) := eqOk_tup (noDicts_map (fun _ => rfl) l) (canAll (fun _ => rfl) l) (Nat.le_trans (depthAll_le (n := 1) (fun _ => by simp [PyData.depth]) l) (by decide))
theorem eqOk_nil : eqOk (.list []) := ⟨rfl, by decide⟩
theorem eqOk_lots (ls : List (List Nat)) : eqOk (lotsD ls) := eqOk_lst (noDicts_map noDict_lot ls) (canAll can_lot ls) (Nat.le_trans (depthAll_le (n := 2) depth_lot ls) (by decide))
theorem rgD_nat (n : Nat) : rgD 0 n = (List.range n).map iD := by
  unfold rgD
  have : ((n : Int) - 0).toNat = n := by omega
  rw [this]
  refine List.map_congr_left fun i _ => ?_
  show PyData.int (0 + (i : Int)) = .int i
  rw [Int.zero_add]
theorem enumD_map {α : Type} (f : α → PyData) (l : List α) : enumD (l.map f) = l.mapIdx fun i a => .tuple [iD i, f a] := by
  unfold enumD
  apply List.ext_getElem?
  intro i
  rw [List.getElem?_mapIdx, List.getElem?_mapIdx, List.getElem?_map]
  cases l[i]? <;> rfl
theorem line_small {n : Nat} (h : n ≤ 100000) : n ≤ sizeLine := Nat.le_trans h (by decide)

/-! ### lots -/
/-- ascending, below n -/
def AscN (n : Nat) (l : List Nat) : Prop := l.Pairwise (· < ·) ∧ ∀ x ∈ l, x < n
def powN : Nat → List (List Nat)
  | 0 => [[]]
  | n + 1 => powN n ++ (powN n).map (· ++ [n])
theorem powN_length : ∀ n, (powN n).length = 2 ^ n
  | 0 => rfl
  | n + 1 => by
    show (powN n ++ _).length = _
    rw [List.length_append, List.length_map, powN_length n, Nat.pow_succ]; omega
theorem AscN.mono {n m : Nat} {l : List Nat} (h : AscN n l) (hn : n ≤ m) : AscN m l := ⟨h.1, fun x hx => Nat.lt_of_lt_of_le (h.2 x hx) hn⟩
theorem mem_powN : ∀ {n : Nat} {l : List Nat}, l ∈ powN n ↔ AscN n l
  | 0, l => by
    constructor
    · intro h
      have : l = [] := by simpa [powN] using h
      subst this
      exact ⟨.nil, fun x hx => by cases hx⟩
    · intro h
      cases l with
      | nil => simp [powN]
      | cons x r => exact absurd (h.2 x List.mem_cons_self) (Nat.not_lt_zero _)
  | n + 1, l => by
    show l ∈ powN n ++ (powN n).map (· ++ [n]) ↔ _
    rw [List.mem_append, List.mem_map]
    constructor
    · rintro (h | ⟨a, ha, rfl⟩)
      · exact (mem_powN.mp h).mono (Nat.le_succ _)
      · have := mem_powN.mp ha
        refine ⟨List.pairwise_append.mpr ⟨this.1, List.pairwise_singleton _ _, fun x hx y hy => ?_⟩, fun x hx => ?_⟩
        · have e : y = n := by simpa using hy
          rw [e]; exact this.2 x hx
        · rcases List.mem_append.mp hx with h | h
          · exact Nat.lt_succ_of_lt (this.2 x h)
          · have e : x = n := by simpa using h
            omega
    · intro h
      by_cases hn : n ∈ l
      · right
        -- n is the last
        obtain ⟨a, b, rfl⟩ := List.append_of_mem hn
        have hp := List.pairwise_append.mp h.1
        have hb : b = [] := by
          cases b with
          | nil => rfl
          | cons y r =>
            have h1 : n < y := (List.pairwise_cons.mp hp.2.1).1 y List.mem_cons_self
            have h2 := h.2 y (by simp)
            omega
        subst hb
        refine ⟨a, mem_powN.mpr ⟨hp.1, fun x hx => hp.2.2 x hx n (by simp)⟩, rfl⟩
      · left
        refine mem_powN.mpr ⟨h.1, fun x hx => ?_⟩
        have h1 := h.2 x hx
        have h2 : x ≠ n := fun e => hn (e ▸ hx)
        omega
theorem AscN.nodup {n : Nat} {l : List Nat} (h : AscN n l) : l.Nodup := h.1.imp fun h => Nat.ne_of_lt h
/-- no more than are there -/
theorem nodup_sub {α : Type} [DecidableEq α] : ∀ {l m : List α}, l.Nodup → (∀ x ∈ l, x ∈ m) → l.length ≤ m.length
  | [], _, _, _ => Nat.zero_le _
  | x :: l, m, hn, hs => by
    obtain ⟨h1, h2⟩ := List.nodup_cons.mp hn
    have hx := hs x List.mem_cons_self
    have := nodup_sub (m := m.erase x) h2 fun y hy => by
      have ne : y ≠ x := fun e => h1 (by rw [← e]; exact hy)
      exact (List.mem_erase_of_ne ne).mpr (hs y (List.mem_cons_of_mem _ hy))
    rw [List.length_erase_of_mem hx] at this
    have hpos : 0 < m.length := List.length_pos_of_mem hx
    rw [List.length_cons]
    omega
theorem AscN.length {n : Nat} {l : List Nat} (h : AscN n l) : l.length ≤ n := by
  have := nodup_sub (m := List.range n) h.nodup fun x hx => List.mem_range.mpr (h.2 x hx)
  rwa [List.length_range] at this
/-- by size, then ascending: as the program sorts -/
def lotLe (a b : List Nat) : Bool := PySem.W.dataLe false keyLL (a.map iD) (b.map iD)
def sortN (ls : List (List Nat)) : List (List Nat) := ls.mergeSort lotLe
theorem sortLL_lots (ls : List (List Nat)) : sortLL (ls.map (·.map iD)) = (sortN ls).map (·.map iD) := by
  unfold sortLL sortN
  exact (List.map_mergeSort (r := lotLe) (s := PySem.W.dataLe false keyLL) (f := fun l : List Nat => l.map iD) (l := ls) fun a _ b _ => rfl).symm
theorem pureDs_ints : ∀ l : List Nat, pureDs (l.map iD) = true
  | [] => rfl
  | a :: l => by simp [pureDs, pureD, pureDs_ints l]
theorem alikeAll_ints : ∀ a b : List Nat, PySem.W.alikeAll (a.map iD) (b.map iD) = true
  | [], _ => by simp [PySem.W.alikeAll]
  | _ :: _, [] => by simp [PySem.W.alikeAll]
  | x :: a, y :: b => by simp [PySem.W.alikeAll, PySem.W.alike, alikeAll_ints a b]
theorem sortOk_lots {n : Nat} {ls : List (List Nat)} (h : ∀ l ∈ ls, l.length ≤ 100000) : SortOkLL (ls.map (·.map iD)) := by
  refine ⟨fun b hb => ?_, fun b hb c hc => ?_⟩
  · obtain ⟨l, hl, rfl⟩ := List.mem_map.mp hb
    refine ⟨pureDs_ints l, by rw [List.length_map]; exact line_small (h l hl), ?_⟩
    unfold keyLL
    rw [depth_tup]
    have h1 : PyData.depthAll [PyData.int ((l.map iD).length : Nat), .tuple (l.map iD)] ≤ 3 := by
      have h2 := depth_lot l
      unfold lotD at h2
      simp [PyData.depthAll, PyData.depth] at h2 ⊢
      omega
    omega
  · obtain ⟨l, hl, rfl⟩ := List.mem_map.mp hb
    obtain ⟨m, hm, rfl⟩ := List.mem_map.mp hc
    simp [keyLL, PySem.W.alike, PySem.W.alikeAll, alikeAll_ints]
end DL
set_option Elab.async false
set_option linter.all false
set_option maxRecDepth 100000
set_option maxHeartbeats 2000000
/-! houses and lots: the mathematics -/
namespace DL
open PySem PySem.Spec PyProof.Rows L2
structure HouseOk (h : List (List Nat)) : Prop where
  one : 1 ≤ h.length
  few : h.length ≤ 7
  row : ∀ r ∈ h, r ≠ [] ∧ AscN h.length r
def behindN (h : List (List Nat)) (a b : List Nat) : List Nat := (List.range h.length).filter fun c => (h[c]?.getD []).all fun s => decide (s ∈ a ++ b)
def lotsN (n : Nat) : List (List Nat) := sortN (powN n)
def lotsToN (n m : Nat) : List (List Nat) := (lotsN n).filter fun l => decide (l.length ≤ m)
def holdsN (lot part : List Nat) : Bool := part.all fun x => decide (x ∈ lot)
theorem behind_asc (h : List (List Nat)) (a b : List Nat) : AscN h.length (behindN h a b) :=
  ⟨List.Pairwise.filter _ List.pairwise_lt_range, fun x hx => List.mem_range.mp (List.mem_filter.mp hx).1⟩
theorem mem_behind {h : List (List Nat)} {a b : List Nat} {c : Nat} : c ∈ behindN h a b ↔ c < h.length ∧ ∀ s ∈ h[c]?.getD [], s ∈ a ++ b := by
  unfold behindN
  rw [List.mem_filter, List.mem_range, List.all_eq_true]
  simp only [decide_eq_true_eq]
theorem mem_lotsN {n : Nat} {l : List Nat} : l ∈ lotsN n ↔ AscN n l := (List.mergeSort_perm _ _).mem_iff.trans mem_powN
theorem lotsN_length (n : Nat) : (lotsN n).length = 2 ^ n := (List.mergeSort_perm _ _).length_eq.trans (powN_length n)
theorem pow7 {n : Nat} (h : n ≤ 7) : 2 ^ n ≤ 128 := Nat.le_trans (Nat.pow_le_pow_right (by decide) h) (by decide)
theorem mem_lotsToN {n m : Nat} {l : List Nat} : l ∈ lotsToN n m ↔ AscN n l ∧ l.length ≤ m := by
  unfold lotsToN
  rw [List.mem_filter, mem_lotsN, decide_eq_true_eq]
theorem asc_range (n : Nat) : AscN n (List.range n) := ⟨List.pairwise_lt_range, fun x hx => List.mem_range.mp hx⟩
/-- what can be covered, so many coins a day -/
inductive Cov (h : List (List Nat)) (m : Nat) : List Nat → Prop
  | nil : Cov h m []
  | step {a b : List Nat} : Cov h m a → AscN h.length b → b.length ≤ m → Cov h m (behindN h a b)
theorem Cov.asc {h : List (List Nat)} {m : Nat} {a : List Nat} (c : Cov h m a) : AscN h.length a := by
  cases c with
  | nil => exact ⟨.nil, fun x hx => by cases hx⟩
  | step _ _ _ => exact behind_asc _ _ _
theorem asc_ext {n : Nat} {a b : List Nat} (ha : AscN n a) (hb : AscN n b) (h : ∀ x, x ∈ a ↔ x ∈ b) : a = b := by
  induction a generalizing b with
  | nil =>
    cases b with
    | nil => rfl
    | cons y b => exact absurd ((h y).mpr List.mem_cons_self) (by simp)
  | cons x a ih =>
    cases b with
    | nil => exact absurd ((h x).mp List.mem_cons_self) (by simp)
    | cons y b =>
      have hxa := List.pairwise_cons.mp ha.1
      have hyb := List.pairwise_cons.mp hb.1
      have hxy : x = y := by
        rcases List.mem_cons.mp ((h x).mp List.mem_cons_self) with e | e
        · exact e
        · rcases List.mem_cons.mp ((h y).mpr List.mem_cons_self) with e2 | e2
          · exact e2.symm
          · have h1 := hxa.1 y e2
            have h2 := hyb.1 x e
            omega
      subst hxy
      congr 1
      refine ih ⟨hxa.2, fun z hz => ha.2 z (List.mem_cons_of_mem _ hz)⟩ ⟨hyb.2, fun z hz => hb.2 z (List.mem_cons_of_mem _ hz)⟩ fun z => ?_
      constructor
      · intro hz
        rcases List.mem_cons.mp ((h z).mp (List.mem_cons_of_mem _ hz)) with e | e
        · subst e; exact absurd (hxa.1 z hz) (Nat.lt_irrefl _)
        · exact e
      · intro hz
        rcases List.mem_cons.mp ((h z).mpr (List.mem_cons_of_mem _ hz)) with e | e
        · subst e; exact absurd (hyb.1 z hz) (Nat.lt_irrefl _)
        · exact e
/-- t[1:] -/
theorem cut1 (xs : List PyData) : cutD xs (some 1) none = xs.drop 1 := by
  unfold cutD
  rw [show HT.sIx xs.length 0 (some 1) = min 1 xs.length from HT.sIx_nat xs.length 0 1, HT.sIx_none]
  cases xs with
  | nil => rfl
  | cons x r =>
    rw [show min 1 (x :: r).length = 1 by rw [List.length_cons]; omega]
    show (List.take ((x :: r).length - 1) r) = r
    rw [List.length_cons, Nat.add_sub_cancel]
    exact List.take_length
theorem zip_tail {l : List Nat} (h : l.Pairwise (· < ·)) : ∀ d ∈ zipD (l.map iD) (cutD (l.map iD) (some 1) none), ∃ x y, d = .tuple [iD x, iD y] ∧ x < y := by
  rw [cut1]
  induction l with
  | nil => intro d hd; simp [zipD] at hd
  | cons a l ih =>
    cases l with
    | nil => intro d hd; simp [zipD] at hd
    | cons b r =>
      intro d hd
      obtain ⟨h1, h2⟩ := List.pairwise_cons.mp h
      have e : zipD ((a :: b :: r).map iD) (((a :: b :: r).map iD).drop 1) = .tuple [iD a, iD b] :: zipD ((b :: r).map iD) (((b :: r).map iD).drop 1) := rfl
      rw [e] at hd
      rcases List.mem_cons.mp hd with rfl | hd
      · exact ⟨a, b, rfl, h1 b List.mem_cons_self⟩
      · exact ih h2 d hd
theorem house_at {h : List (List Nat)} {c : Nat} (hc : c < h.length) : (h.map lotD)[c]? = some (lotD h[c]) := by
  rw [List.getElem?_map, List.getElem?_eq_getElem hc]; rfl
theorem getD_at {h : List (List Nat)} {c : Nat} (hc : c < h.length) : h[c]?.getD [] = h[c] := by
  rw [List.getElem?_eq_getElem hc]; rfl
theorem lot_ne {l : List Nat} (h : l ≠ []) : PyData.eqv (lotD l) (.tuple []) = false := by
  have : PyData.eqv (lotD l) (lotD []) = decide (l = []) := eqv_lot l []
  rw [show PyData.tuple [] = lotD [] from rfl, this, decide_eq_false h]
/-- what a walk over enumerate(house) yields -/
theorem enum_house {h : List (List Nat)} {i : Nat} {d : PyData} (e : (enumD (h.map lotD))[i]? = some d) : ∃ hi : i < h.length, d = .tuple [iD i, lotD h[i]] := by
  obtain ⟨x, hx, rfl⟩ := enum_at e
  have hi : i < h.length := by
    have := (List.getElem?_eq_some_iff.mp hx).1
    rwa [List.length_map] at this
  rw [house_at hi] at hx
  cases hx
  exact ⟨hi, rfl⟩
theorem enumD_length (ds : List PyData) : (enumD ds).length = ds.length := by unfold enumD; rw [List.length_mapIdx]
/-- enumerate, then the first of each pair for which p holds -/
theorem enum_filter (h : List (List Nat)) (p : PyData → Bool) (q : Nat → Bool) (m : PyData → PyData) (hp : ∀ i (hi : i < h.length), p (.tuple [iD i, lotD h[i]]) = q i) (hm : ∀ i (hi : i < h.length), m (.tuple [iD i, lotD h[i]]) = iD i) :
    ((enumD (h.map lotD)).filter p).map m = ((List.range h.length).filter q).map iD := by
  have e : enumD (h.map lotD) = (List.range h.length).map fun i => .tuple [iD i, lotD (h[i]?.getD [])] := by
    apply List.ext_getElem?
    intro i
    rw [List.getElem?_map]
    by_cases hi : i < h.length
    · rw [List.getElem?_range hi]
      unfold enumD
      rw [List.getElem?_mapIdx, house_at hi]
      show some (PyData.tuple [iD i, lotD h[i]]) = some (PyData.tuple [iD i, lotD (h[i]?.getD [])])
      rw [getD_at hi]
    · rw [List.getElem?_eq_none (by rw [enumD_length, List.length_map]; omega), List.getElem?_eq_none (by rw [List.length_range]; omega)]
      rfl
  rw [e, List.filter_map, List.map_map]
  have f1 : (List.range h.length).filter (p ∘ fun i => .tuple [iD i, lotD (h[i]?.getD [])]) = (List.range h.length).filter q := by
    refine List.filter_congr fun i hi => ?_
    have hi := List.mem_range.mp hi
    show p (.tuple [iD i, lotD (h[i]?.getD [])]) = q i
    rw [getD_at hi, hp i hi]
  rw [f1]
  refine List.map_congr_left fun i hi => ?_
  have hi := List.mem_range.mp (List.mem_filter.mp hi).1
  show m (.tuple [iD i, lotD (h[i]?.getD [])]) = iD i
  rw [getD_at hi, hm i hi]
/-- the program's way to all lots: one more clerk a turn -/
theorem powN_step (n : Nat) : powN n ++ (powN n).map (· ++ [n]) = powN (n + 1) := rfl
theorem powN_small {n : Nat} (h : n ≤ 7) : (powN n).length ≤ 128 := by rw [powN_length]; exact pow7 h
theorem lotD_snoc (l : List Nat) (n : Nat) : (PyData.tuple (l.map iD ++ [iD n])) = lotD (l ++ [n]) := by unfold lotD; rw [List.map_append]; rfl
theorem lots_tup (ls : List (List Nat)) : ls.map lotD = (ls.map (·.map iD)).map PyData.tuple := by rw [List.map_map]; rfl
theorem sortN_tup (ls : List (List Nat)) : (sortLL (ls.map (·.map iD))).map PyData.tuple = (sortN ls).map lotD := by rw [sortLL_lots, List.map_map]; rfl
/-! the items of comprehensions, as data -/
def fstD : PyData → PyData
  | .tuple [i, _] => i
  | _ => .none
def sndD : PyData → PyData
  | .tuple [_, i] => i
  | _ => .none
def inD (a : List Nat) : PyData → Bool
  | .int s => decide (s.toNat ∈ a)
  | _ => false
def pBehind (h : List (List Nat)) (a b : List Nat) : PyData → Bool
  | .tuple [.int i, _] => (h[i.toNat]?.getD []).all fun s => decide (s ∈ a ++ b)
  | _ => false
def snocD (n : Nat) : PyData → PyData
  | .tuple xs => .tuple (xs ++ [iD n])
  | _ => .none
def lenLe (m : Nat) : PyData → Bool
  | .tuple xs => decide (xs.length ≤ m)
  | _ => false
end DL
set_option Elab.async false
set_option linter.all false
set_option maxRecDepth 100000
set_option maxHeartbeats 2000000
/-! the ways to all that can be covered, day by day: the mathematics -/
namespace DL
open PySem PySem.Spec PyProof.Rows L2
abbrev Row := List (List Nat)
def rowD (r : Row) : PyData := .tuple (r.map lotD)
def keyN (k : List Nat) : List Key := k.map fun (n : Nat) => (Sum.inl (n : Int) : Key)
theorem tupD_keyN (k : List Nat) : tupD (keyN k) = lotD k := by
  unfold tupD keyN lotD
  rw [List.map_map]; rfl
theorem keyN_inj {a b : List Nat} (h : keyN a = keyN b) : a = b := by
  have : lotD a = lotD b := by rw [← tupD_keyN, ← tupD_keyN, h]
  have e := eqv_lot a b
  rw [this] at e
  have e2 := eqv_lot b b
  rw [decide_eq_true rfl] at e2
  rw [e2] at e
  exact of_decide_eq_true e.symm
abbrev Fnd := List (List Nat × Row)
def kvsT (fo : Fnd) : List (List Key × PyData) := fo.map fun p => (keyN p.1, rowD p.2)
theorem kvsT_app (a b : Fnd) : kvsT (a ++ b) = kvsT a ++ kvsT b := List.map_append
theorem valD_none {fo : Fnd} {k : List Nat} (h : k ∉ fo.map Prod.fst) : valD (kvsT fo) (keyN k) = none := by
  unfold valD
  rw [List.find?_eq_none.mpr fun p hp => ?_]
  · rfl
  · obtain ⟨x, hx, rfl⟩ := List.mem_map.mp hp
    intro z
    have e := keyN_inj (a := x.1) (b := k) (of_decide_eq_true z)
    exact h (List.mem_map.mpr ⟨x, hx, e⟩)
theorem valD_some {fo : Fnd} {k : List Nat} {r : Row} (hn : (fo.map Prod.fst).Nodup) (h : (k, r) ∈ fo) : valD (kvsT fo) (keyN k) = some (rowD r) := by
  induction fo with
  | nil => cases h
  | cons p fo ih =>
    rw [List.map_cons, List.nodup_cons] at hn
    unfold valD kvsT
    rw [List.map_cons, List.find?_cons]
    by_cases hp : p.1 = k
    · have hd : decide (keyN p.1 = keyN k) = true := decide_eq_true (by rw [hp])
      rw [hd]
      rcases List.mem_cons.mp h with e | e
      · rw [← e]; rfl
      · exact absurd (List.mem_map.mpr ⟨_, e, rfl⟩) (by rw [← hp] at *; exact hn.1)
    · have hd : decide (keyN p.1 = keyN k) = false := decide_eq_false fun e => hp (keyN_inj e)
      rw [hd]
      rcases List.mem_cons.mp h with e | e
      · exact absurd (by rw [← e]) hp
      · exact ih hn.2 e
theorem putD_new {fo : Fnd} {k : List Nat} {r : Row} (h : k ∉ fo.map Prod.fst) : putD (kvsT fo) (keyN k) (rowD r) = kvsT (fo ++ [(k, r)]) := by
  unfold putD
  rw [if_neg, kvsT_app]
  · rfl
  · intro z
    obtain ⟨p, hp, e⟩ := List.any_eq_true.mp z
    obtain ⟨x, hx, rfl⟩ := List.mem_map.mp hp
    exact h (List.mem_map.mpr ⟨x, hx, keyN_inj (of_decide_eq_true e)⟩)
/-- the row of coins leads from nothing to k -/
def Leads (h : List (List Nat)) (m : Nat) (r : Row) (k : List Nat) : Prop := (∀ l ∈ r, AscN h.length l ∧ l.length ≤ m) ∧ r.foldl (behindN h) [] = k
theorem Leads.nil (h : List (List Nat)) (m : Nat) : Leads h m [] [] := ⟨(fun _ hl => by cases hl), rfl⟩
theorem Leads.snoc {h : List (List Nat)} {m : Nat} {r : Row} {k l : List Nat} (a : Leads h m r k) (hl : AscN h.length l ∧ l.length ≤ m) : Leads h m (r ++ [l]) (behindN h k l) := by
  refine ⟨fun x hx => ?_, ?_⟩
  · rcases List.mem_append.mp hx with q | q
    · exact a.1 x q
    · have : x = l := by simpa using q
      rw [this]; exact hl
  · rw [List.foldl_append, a.2]; rfl
theorem Leads.last {h : List (List Nat)} {m : Nat} {r : Row} {l k : List Nat} (a : Leads h m (r ++ [l]) k) : (AscN h.length l ∧ l.length ≤ m) ∧ ∃ k', Leads h m r k' ∧ k = behindN h k' l := by
  refine ⟨a.1 l (by simp), r.foldl (behindN h) [], ⟨fun x hx => a.1 x (List.mem_append_left _ hx), rfl⟩, ?_⟩
  rw [← a.2, List.foldl_append]; rfl
theorem Leads.asc {h : List (List Nat)} {m : Nat} {r : Row} {k : List Nat} (a : Leads h m r k) : AscN h.length k := by
  cases hr : r.reverse with
  | nil =>
    have : r = [] := by simpa using hr
    subst this
    rw [← a.2]
    exact ⟨.nil, fun x hx => by cases hx⟩
  | cons l s =>
    have : r = s.reverse ++ [l] := by rw [← List.reverse_reverse r, hr, List.reverse_cons]
    subst this
    obtain ⟨_, k', _, e⟩ := a.last
    rw [e]
    exact behind_asc _ _ _
/-- what the dict holds when the search is at its day d -/
structure Bfs (h : List (List Nat)) (m d : Nat) (fo : Fnd) (layer : List (List Nat)) : Prop where
  nd : (fo.map Prod.fst).Nodup
  good : ∀ p ∈ fo, Leads h m p.2 p.1 ∧ p.2.length ≤ d ∧ ∀ r, Leads h m r p.1 → p.2.length ≤ r.length
  all : ∀ k r, Leads h m r k → r.length ≤ d → k ∈ fo.map Prod.fst
  lay : ∀ k, k ∈ layer ↔ ∃ r, (k, r) ∈ fo ∧ r.length = d
  few : ∀ p ∈ fo, p.2.length < fo.length
theorem Bfs.start (h : List (List Nat)) (m : Nat) : Bfs h m 0 [([], [])] [[]] where
  nd := by simp
  good := fun p hp => by
    have : p = ([], []) := by simpa using hp
    subst this
    exact ⟨.nil h m, Nat.le_refl _, fun _ _ => Nat.zero_le _⟩
  all := fun k r a hr => by
    have : r = [] := List.eq_nil_of_length_eq_zero (by omega)
    subst this
    rw [← a.2]; simp
  lay := fun k => by
    constructor
    · intro hk
      have : k = [] := by simpa using hk
      subst this
      exact ⟨[], by simp, rfl⟩
    · rintro ⟨r, hr, _⟩
      have : k = [] ∧ r = [] := by simpa using hr
      simp [this.1]
  few := fun p hp => by
    have : p = ([], []) := by simpa using hp
    subst this
    exact Nat.zero_lt_one
theorem Bfs.size {h : List (List Nat)} {m d : Nat} {fo : Fnd} {layer : List (List Nat)} (b : Bfs h m d fo layer) : fo.length ≤ 2 ^ h.length := by
  have := nodup_sub (m := powN h.length) b.nd fun x hx => by
    obtain ⟨p, hp, rfl⟩ := List.mem_map.mp hx
    exact mem_powN.mpr (b.good p hp).1.asc
  rwa [List.length_map, powN_length] at this
/-- within a day: what is new -/
structure Mid (h : List (List Nat)) (m d : Nat) (fo fo' : Fnd) (later : List (List Nat)) : Prop where
  eq : ∃ new : Fnd, fo' = fo ++ new ∧ later = new.map Prod.fst ∧ ∀ p ∈ new, Leads h m p.2 p.1 ∧ p.2.length = d + 1
  nd : (fo'.map Prod.fst).Nodup
  few : ∀ p ∈ fo', p.2.length < fo'.length
theorem Mid.start {h : List (List Nat)} {m d : Nat} {fo : Fnd} {layer : List (List Nat)} (b : Bfs h m d fo layer) : Mid h m d fo fo [] := ⟨⟨[], by simp, rfl, fun p hp => by cases hp⟩, b.nd, b.few⟩
theorem Mid.add {h : List (List Nat)} {m d : Nat} {fo fo' : Fnd} {later layer : List (List Nat)} {c l : List Nat} {r : Row} (b : Bfs h m d fo layer) (a : Mid h m d fo fo' later) (hc : (c, r) ∈ fo) (hr : r.length = d) (hl : AscN h.length l ∧ l.length ≤ m) (hn : behindN h c l ∉ fo'.map Prod.fst) :
    Mid h m d fo (fo' ++ [(behindN h c l, r ++ [l])]) (later ++ [behindN h c l]) := by
  obtain ⟨new, e1, e2, e3⟩ := a.eq
  refine ⟨⟨new ++ [(behindN h c l, r ++ [l])], by rw [e1, List.append_assoc], by rw [List.map_append, e2]; rfl, fun p hp => ?_⟩, ?_, fun p hp => ?_⟩
  · rcases List.mem_append.mp hp with q | q
    · exact e3 p q
    · have : p = (behindN h c l, r ++ [l]) := by simpa using q
      subst this
      exact ⟨(b.good _ hc).1.snoc hl, by show (r ++ [l]).length = _; rw [List.length_append, hr]; rfl⟩
  · rw [List.map_append, List.nodup_append]
    refine ⟨a.nd, by simp, fun x hx y hy => ?_⟩
    have : y = behindN h c l := by simpa using hy
    subst this
    intro z
    subst z
    exact hn hx
  · rw [List.length_append]
    rcases List.mem_append.mp hp with q | q
    · have := a.few p q
      show _ < fo'.length + 1
      omega
    · have : p = (behindN h c l, r ++ [l]) := by simpa using q
      subst this
      have h1 := b.few _ hc
      have h2 : fo.length ≤ fo'.length := by rw [e1, List.length_append]; omega
      show (r ++ [l]).length < fo'.length + 1
      rw [List.length_append]
      show r.length + 1 < _
      have h3 : r.length < fo.length := h1
      omega
theorem Mid.done {h : List (List Nat)} {m d : Nat} {fo fo' : Fnd} {later layer : List (List Nat)} (b : Bfs h m d fo layer) (a : Mid h m d fo fo' later) (hp : ∀ c ∈ layer, ∀ l, AscN h.length l → l.length ≤ m → behindN h c l ∈ fo'.map Prod.fst) : Bfs h m (d + 1) fo' later := by
  obtain ⟨new, e1, e2, e3⟩ := a.eq
  have old : ∀ x, x ∈ fo.map Prod.fst → x ∈ fo'.map Prod.fst := fun x hx => by rw [e1, List.map_append]; exact List.mem_append_left _ hx
  have apart : ∀ p ∈ new, p.1 ∉ fo.map Prod.fst := fun p hp z => by
    have := a.nd
    rw [e1, List.map_append, List.nodup_append] at this
    exact this.2.2 _ z _ (List.mem_map.mpr ⟨p, hp, rfl⟩) rfl
  refine ⟨a.nd, fun p hpm => ?_, fun k r hl hr => ?_, fun k => ?_, a.few⟩
  · rw [e1] at hpm
    rcases List.mem_append.mp hpm with q | q
    · obtain ⟨g1, g2, g3⟩ := b.good p q
      exact ⟨g1, by omega, g3⟩
    · obtain ⟨g1, g2⟩ := e3 p q
      refine ⟨g1, by omega, fun r hr => ?_⟩
      rw [g2]
      -- not within d days, else it would be old
      by_cases hd : r.length ≤ d
      · exact absurd (b.all _ _ hr hd) (apart p q)
      · omega
  · by_cases hd : r.length ≤ d
    · exact old _ (b.all _ _ hl hd)
    · have hlen : r.length = d + 1 := by omega
      cases hrr : r.reverse with
      | nil =>
        have : r = [] := by simpa using hrr
        subst this
        cases hlen
      | cons l s =>
        have er : r = s.reverse ++ [l] := by rw [← List.reverse_reverse r, hrr, List.reverse_cons]
        rw [er] at hl hlen
        obtain ⟨ok, k', hk', rfl⟩ := hl.last
        have hs : s.reverse.length = d := by rw [List.length_append] at hlen; simpa using hlen
        obtain ⟨p, hpm, ep⟩ := List.mem_map.mp (b.all _ _ hk' (Nat.le_of_eq hs))
        obtain ⟨g1, g2, g3⟩ := b.good p hpm
        rw [ep] at g1
        by_cases hpd : p.2.length = d
        · exact hp k' ((b.lay k').mpr ⟨p.2, by rw [← ep]; exact hpm, hpd⟩) l ok.1 ok.2
        · refine old _ (b.all _ _ (g1.snoc ok) ?_)
          rw [List.length_append]
          show p.2.length + 1 ≤ d
          omega
  · rw [e2]
    constructor
    · intro hk
      obtain ⟨p, hpm, rfl⟩ := List.mem_map.mp hk
      exact ⟨p.2, by rw [e1]; exact List.mem_append_right _ hpm, (e3 p hpm).2⟩
    · rintro ⟨r, hr, hd⟩
      rw [e1] at hr
      rcases List.mem_append.mp hr with q | q
      · have h1 : r.length ≤ d := (b.good _ q).2.1
        omega
      · exact List.mem_map.mpr ⟨_, q, rfl⟩
/-- all that can be covered, each by a shortest row -/
structure Ways (h : List (List Nat)) (m : Nat) (fo : Fnd) : Prop where
  nd : (fo.map Prod.fst).Nodup
  good : ∀ p ∈ fo, Leads h m p.2 p.1 ∧ ∀ r, Leads h m r p.1 → p.2.length ≤ r.length
  all : ∀ k r, Leads h m r k → k ∈ fo.map Prod.fst
  few : ∀ p ∈ fo, p.2.length < fo.length
  size : fo.length ≤ 2 ^ h.length
theorem Bfs.ways {h : List (List Nat)} {m d : Nat} {fo : Fnd} (b : Bfs h m d fo []) : Ways h m fo := by
  refine ⟨b.nd, fun p hp => ⟨(b.good p hp).1, (b.good p hp).2.2⟩, fun k r hl => ?_, b.few, b.size⟩
  have key : ∀ n, ∀ (r : Row) (k : List Nat), r.length = n → Leads h m r k → k ∈ fo.map Prod.fst := by
    intro n
    induction n with
    | zero =>
      intro r k hr hl
      exact b.all _ _ hl (by omega)
    | succ n ih =>
      intro r k hr hl
      cases hrr : r.reverse with
      | nil =>
        have : r = [] := by simpa using hrr
        subst this
        cases hr
      | cons l s =>
        have er : r = s.reverse ++ [l] := by rw [← List.reverse_reverse r, hrr, List.reverse_cons]
        rw [er] at hl hr
        obtain ⟨ok, k', hk', rfl⟩ := hl.last
        have hs : s.reverse.length = n := by rw [List.length_append] at hr; simpa using hr
        obtain ⟨p, hpm, ep⟩ := List.mem_map.mp (ih _ _ hs hk')
        obtain ⟨g1, g2, g3⟩ := b.good p hpm
        rw [ep] at g1
        have : p.2.length ≠ d := fun z => by
          have := (b.lay p.1).mpr ⟨p.2, hpm, z⟩
          cases this
        exact b.all _ _ (g1.snoc ok) (by rw [List.length_append]; show p.2.length + 1 ≤ d; omega)
  exact key _ r k rfl hl
end DL
set_option Elab.async false
set_option linter.all false
set_option maxRecDepth 100000
set_option maxHeartbeats 2000000
/-! rows as data: pairs, sorting, the least -/
namespace DL
open PySem PySem.Spec PyProof.Rows L2
theorem pairs_kvsT (fo : Fnd) : pairsD ((((kvsT fo).map Prod.fst).map tupD).zip ((kvsT fo).map Prod.snd)) = fo.map fun p => .tuple [lotD p.1, rowD p.2] := by
  unfold pairsD kvsT
  induction fo with
  | nil => rfl
  | cons p fo ih =>
    simp only [List.map_cons, List.zip_cons_cons]
    rw [ih, tupD_keyN]
def natI : PyData → Nat
  | .int i => i.toNat
  | _ => 0
def natL : PyData → List Nat
  | .tuple xs => xs.map natI
  | _ => []
theorem natI_map : ∀ l : List Nat, (l.map iD).map natI = l
  | [] => rfl
  | a :: l => by
    rw [List.map_cons, List.map_cons, natI_map l]
    rfl
theorem natL_lot (l : List Nat) : natL (lotD l) = l := natI_map l
def pHolds (goal : List Nat) : PyData → Bool
  | .tuple [k, _] => holdsN (natL k) goal
  | _ => false
theorem depth_row (r : Row) : (rowD r).depth ≤ 3 := by
  unfold rowD
  rw [depth_tup]
  have := depthAll_le (f := lotD) (n := 2) depth_lot r
  omega
theorem pureDs_lots : ∀ r : Row, pureDs (r.map lotD) = true
  | [] => rfl
  | a :: r => by
    have : pureD (lotD a) = true := pureDs_ints a
    simp [pureDs, this, pureDs_lots r]
theorem alikeAll_lots : ∀ a b : Row, PySem.W.alikeAll (a.map lotD) (b.map lotD) = true
  | [], _ => by simp [PySem.W.alikeAll]
  | _ :: _, [] => by simp [PySem.W.alikeAll]
  | x :: a, y :: b => by
    have : PySem.W.alike (lotD x) (lotD y) = true := by
      unfold lotD; simp [PySem.W.alike, alikeAll_ints]
    simp [PySem.W.alikeAll, this, alikeAll_lots a b]
theorem sortOk_rows {rs : List Row} (h : ∀ r ∈ rs, r.length ≤ 100000) : SortOkLL (rs.map (·.map lotD)) := by
  refine ⟨fun b hb => ?_, fun b hb c hc => ?_⟩
  · obtain ⟨l, hl, rfl⟩ := List.mem_map.mp hb
    refine ⟨pureDs_lots l, by rw [List.length_map]; exact line_small (h l hl), ?_⟩
    unfold keyLL
    rw [depth_tup]
    have h1 : PyData.depthAll [PyData.int ((l.map lotD).length : Nat), .tuple (l.map lotD)] ≤ 4 := by
      have h2 := depth_row l
      unfold rowD at h2
      simp [PyData.depthAll, PyData.depth] at h2 ⊢
      omega
    omega
  · obtain ⟨l, hl, rfl⟩ := List.mem_map.mp hb
    obtain ⟨m, hm, rfl⟩ := List.mem_map.mp hc
    simp [keyLL, PySem.W.alike, PySem.W.alikeAll, alikeAll_lots]
theorem minLL_some {bs : List (List PyData)} (h : bs ≠ []) : ∃ b ∈ bs, minLL bs = some b := by
  have hl := bestIx_le (fun i => keyLL (bs[i]?.getD [])) (bs.length - 1)
  have : 0 < bs.length := List.length_pos_iff.mpr h
  have hi : bestIx (fun i => keyLL (bs[i]?.getD [])) (bs.length - 1) < bs.length := by omega
  exact ⟨_, List.getElem_mem hi, List.getElem?_eq_getElem hi⟩
/-- a row for the goal -/
def RowTo (h : List (List Nat)) (m : Nat) (goal : List Nat) (r : Row) : Prop := ∃ c, Leads h m r c ∧ holdsN c goal = true
/-- the least number of coins a day with which the goal can be covered -/
structure Least (h : List (List Nat)) (goal : List Nat) (k : Nat) : Prop where
  can : ∃ r, RowTo h k goal r
  no : ∀ j, j < k → ∀ r, ¬ RowTo h j goal r
end DL
set_option Elab.async false
set_option linter.all false
set_option maxRecDepth 100000
set_option maxHeartbeats 2000000
/-! crews: the mathematics; the order of lots -/
namespace DL
open PySem PySem.Spec PyProof.Rows L2
theorem lotLe_len {a b : List Nat} (h : lotLe a b = true) : a.length ≤ b.length := by
  by_cases z : b.length < a.length
  · have e : PySem.W.dataLt (keyLL (b.map iD)) (keyLL (a.map iD)) = true := by
      unfold keyLL
      rw [PySem.W.dataLt_pair (by simp [PySem.W.alike]) (by simp [PySem.W.alike, alikeAll_ints])]
      have : PyData.eqv (PyData.int ((b.map iD).length : Nat)) (PyData.int ((a.map iD).length : Nat)) = false := by
        show ((((b.map iD).length : Nat) : Int) == (((a.map iD).length : Nat) : Int)) = false
        rw [List.length_map, List.length_map]
        exact beq_false_of_ne (by omega)
      rw [this, if_neg Bool.false_ne_true, PySem.W.dataLt_int, List.length_map, List.length_map]
      exact decide_eq_true (by omega)
    have : lotLe a b = !PySem.W.dataLt (keyLL (b.map iD)) (keyLL (a.map iD)) := rfl
    rw [this, e] at h
    cases h
  · omega
theorem sortN_pairwise (ls : List (List Nat)) : (sortN ls).Pairwise fun a b => a.length ≤ b.length := by
  have t := PySem.W.sortLe_total (listOrd itemOrd) false fun b : List Nat => PySem.W.keyToks (keyLL (b.map iD))
  have := List.pairwise_mergeSort (le := lotLe) (fun a b c h1 h2 => t.trans a b c h1 h2) (fun a b => by
    rw [Bool.or_eq_true]; exact t.total a b) ls
  exact this.imp fun h => lotLe_len h
def cntN (h : List (List Nat)) (S : List Nat) (c : Nat) : Nat := ((h[c]?.getD []).filter fun s => decide (s ∈ S)).length
def Fine (h : List (List Nat)) (m : Nat) (S : List Nat) : Prop := ∀ c ∈ S, m ≤ cntN h S c
instance (h : List (List Nat)) (m : Nat) (S : List Nat) : Decidable (Fine h m S) := inferInstanceAs (Decidable (∀ c ∈ S, _))
structure CrewIs (h : List (List Nat)) (m : Nat) (G : List Nat) : Prop where
  asc : AscN h.length G
  fine : Fine h m G
  great : ∀ S, AscN h.length S → Fine h m S → ∀ x ∈ S, x ∈ G
theorem cnt_mono {h : List (List Nat)} {S T : List Nat} {c : Nat} (hs : ∀ x ∈ S, x ∈ T) : cntN h S c ≤ cntN h T c := by
  unfold cntN
  induction h[c]?.getD [] with
  | nil => exact Nat.le_refl _
  | cons x l ih =>
    rw [List.filter_cons, List.filter_cons]
    by_cases h1 : x ∈ S
    · rw [if_pos (decide_eq_true h1), if_pos (decide_eq_true (hs x h1))]
      simp only [List.length_cons]; omega
    · rw [if_neg (by simp [h1])]
      split
      · simp only [List.length_cons]; omega
      · exact ih
/-- the last fine lot is the greatest crew -/
def lastFine (h : List (List Nat)) (m : Nat) (ls : List (List Nat)) (f : List Nat) : List Nat := ls.foldl (fun f l => if Fine h m l then l else f) f
theorem asc_eq {n : Nat} {S G : List Nat} (hS : AscN n S) (hG : AscN n G) (hs : ∀ x ∈ S, x ∈ G) (hl : G.length ≤ S.length) : S = G := by
  refine asc_ext hS hG fun x => ⟨hs x, fun hx => Classical.byContradiction fun z => ?_⟩
  have := nodup_sub (l := x :: S) (m := G) (List.nodup_cons.mpr ⟨z, hS.nodup⟩) fun y hy => by
    rcases List.mem_cons.mp hy with e | e
    · rw [e]; exact hx
    · exact hs y e
  rw [List.length_cons] at this
  omega
theorem lastFine_stay {h : List (List Nat)} {m : Nat} {G : List Nat} : ∀ {ls : List (List Nat)}, (∀ l ∈ ls, Fine h m l → l = G) → lastFine h m ls G = G
  | [], _ => rfl
  | l :: ls, hl => by
    unfold lastFine
    rw [List.foldl_cons]
    have : (if Fine h m l then l else G) = G := by
      split
      · rename_i f; exact hl l List.mem_cons_self f
      · rfl
    rw [this]
    exact lastFine_stay fun x hx => hl x (List.mem_cons_of_mem _ hx)
theorem lastFine_crew {h : List (List Nat)} {m : Nat} {G : List Nat} (C : CrewIs h m G) : ∀ {ls : List (List Nat)} (f : List Nat), (ls.Pairwise fun a b => a.length ≤ b.length) → (∀ l ∈ ls, AscN h.length l) → G ∈ ls → lastFine h m ls f = G
  | l :: ls, f, hp, ha, hG => by
    obtain ⟨h1, h2⟩ := List.pairwise_cons.mp hp
    have ha' := fun x hx => ha x (List.mem_cons_of_mem _ hx)
    by_cases hG' : G ∈ ls
    · rw [show lastFine h m (l :: ls) f = lastFine h m ls (if Fine h m l then l else f) from rfl]
      exact lastFine_crew C _ h2 ha' hG'
    · have : G = l := by
        rcases List.mem_cons.mp hG with e | e
        · exact e
        · exact absurd e hG'
      subst this
      unfold lastFine
      rw [List.foldl_cons, if_pos C.fine]
      exact lastFine_stay fun x hx fx => asc_eq (ha' x hx) C.asc (C.great x (ha' x hx) fx) (h1 x hx)
theorem lotsN_asc {n : Nat} : ∀ l ∈ lotsN n, AscN n l := fun _ hl => mem_lotsN.mp hl
theorem crew_all {h : List (List Nat)} {G : List Nat} (hh : HouseOk h) (C : CrewIs h 1 G) : G ≠ [] := by
  have f : Fine h 1 (List.range h.length) := fun c hc => by
    have hc := List.mem_range.mp hc
    have hr := hh.row _ (List.getElem_mem hc)
    unfold cntN
    rw [getD_at hc, List.filter_eq_self.mpr fun s hs => decide_eq_true (List.mem_range.mpr (hr.2.2 s hs))]
    exact List.length_pos_iff.mpr hr.1
  intro z
  have := C.great _ (asc_range _) f 0 (List.mem_range.mpr hh.one)
  rw [z] at this
  cases this
theorem crew_few {h : List (List Nat)} {m : Nat} {G : List Nat} (hh : HouseOk h) (C : CrewIs h m G) (hG : G ≠ []) : m ≤ h.length := by
  cases G with
  | nil => exact absurd rfl hG
  | cons c G =>
    have h1 := C.fine c List.mem_cons_self
    have hc := C.asc.2 c List.mem_cons_self
    have h2 := (hh.row _ (List.getElem_mem hc)).2.length
    unfold cntN at h1
    rw [getD_at hc] at h1
    have := List.length_filter_le (fun s => decide (s ∈ c :: G)) h[c]
    omega
/-- with fewer coins than its number, no one of a crew is ever covered -/
theorem crew_never {h : List (List Nat)} {m k : Nat} {G : List Nat} (hh : HouseOk h) (C : CrewIs h m G) (hk : k < m) : ∀ (n : Nat) (r : Row) (c : List Nat), r.length = n → Leads h k r c → ∀ g ∈ G, g ∉ c := by
  intro n
  induction n with
  | zero =>
    intro r c hr hl g hg hgc
    have : r = [] := List.eq_nil_of_length_eq_zero hr
    subst this
    rw [← hl.2] at hgc
    cases hgc
  | succ n ih =>
    intro r c hr hl g hg hgc
    cases hrr : r.reverse with
    | nil =>
      have : r = [] := by simpa using hrr
      subst this
      cases hr
    | cons l s =>
      have er : r = s.reverse ++ [l] := by rw [← List.reverse_reverse r, hrr, List.reverse_cons]
      rw [er] at hl hr
      obtain ⟨ok, c', hc', rfl⟩ := hl.last
      have hs : s.reverse.length = n := by rw [List.length_append] at hr; simpa using hr
      have no := ih _ _ hs hc'
      obtain ⟨hgl, hall⟩ := mem_behind.mp hgc
      have hcnt := C.fine g hg
      have hrow := (hh.row _ (List.getElem_mem hgl)).2
      unfold cntN at hcnt
      rw [getD_at hgl] at hcnt hall
      have := nodup_sub (l := h[g].filter fun s => decide (s ∈ G)) (m := l) (List.Nodup.sublist List.filter_sublist hrow.nodup) fun x hx => by
        obtain ⟨q1, q2⟩ := List.mem_filter.mp hx
        have q2 := of_decide_eq_true q2
        rcases List.mem_append.mp (hall x q1) with e | e
        · exact absurd e (no x q2)
        · exact e
      omega
theorem crew_slate {h : List (List Nat)} {m k : Nat} {G : List Nat} (hh : HouseOk h) (C : CrewIs h m G) (hG : G ≠ []) (L : Least h (List.range h.length) k) : m ≤ k := by
  by_cases hk : k < m
  · obtain ⟨r, c, hl, hc⟩ := L.can
    cases G with
    | nil => exact absurd rfl hG
    | cons g G =>
      refine absurd ?_ (crew_never hh C hk _ r c rfl hl g List.mem_cons_self)
      have := List.all_eq_true.mp hc g (List.mem_range.mpr (C.asc.2 g List.mem_cons_self))
      exact of_decide_eq_true this
  · omega
theorem all_one_day {h : List (List Nat)} (hh : HouseOk h) : ∃ r, RowTo h h.length (List.range h.length) r := by
  refine ⟨[List.range h.length], behindN h [] (List.range h.length), ⟨fun l hl => ?_, rfl⟩, ?_⟩
  · have : l = List.range h.length := by simpa using hl
    subst this
    exact ⟨asc_range _, by rw [List.length_range]; exact Nat.le_refl _⟩
  · refine List.all_eq_true.mpr fun x hx => decide_eq_true (mem_behind.mpr ?_)
    have hx := List.mem_range.mp hx
    refine ⟨hx, fun s hs => ?_⟩
    rw [getD_at hx] at hs
    exact List.mem_append_right _ (List.mem_range.mpr ((hh.row _ (List.getElem_mem hx)).2.2 s hs))
end DL
set_option Elab.async false
set_option linter.all false
set_option maxRecDepth 100000
set_option maxHeartbeats 2000000
/-! crews as data; drawn lots -/
namespace DL
open PySem PySem.Spec PyProof.Rows L2
def crewN (h : List (List Nat)) (m : Nat) : List Nat := (List.range h.length).filter fun c => (powN h.length).any fun S => decide (Fine h m S) && decide (c ∈ S)
theorem mem_crewN {h : List (List Nat)} {m c : Nat} : c ∈ crewN h m ↔ c < h.length ∧ ∃ S, AscN h.length S ∧ Fine h m S ∧ c ∈ S := by
  unfold crewN
  rw [List.mem_filter, List.mem_range, List.any_eq_true]
  constructor
  · rintro ⟨h1, S, h2, h3⟩
    rw [Bool.and_eq_true, decide_eq_true_eq, decide_eq_true_eq] at h3
    exact ⟨h1, S, mem_powN.mp h2, h3.1, h3.2⟩
  · rintro ⟨h1, S, h2, h3, h4⟩
    exact ⟨h1, S, mem_powN.mpr h2, by rw [Bool.and_eq_true, decide_eq_true_eq, decide_eq_true_eq]; exact ⟨h3, h4⟩⟩
theorem crewN_is (h : List (List Nat)) (m : Nat) : CrewIs h m (crewN h m) where
  asc := ⟨List.Pairwise.filter _ List.pairwise_lt_range, fun x hx => (mem_crewN.mp hx).1⟩
  fine := fun c hc => by
    obtain ⟨h1, S, h2, h3, h4⟩ := mem_crewN.mp hc
    exact Nat.le_trans (h3 c h4) (cnt_mono fun x hx => mem_crewN.mpr ⟨h2.2 x hx, S, h2, h3, hx⟩)
  great := fun S h2 h3 x hx => mem_crewN.mpr ⟨h2.2 x hx, S, h2, h3, hx⟩
theorem CrewIs.eq {h : List (List Nat)} {m : Nat} {G : List Nat} (C : CrewIs h m G) : G = crewN h m :=
  asc_ext C.asc (crewN_is h m).asc fun x => ⟨(crewN_is h m).great G C.asc C.fine x, C.great _ (crewN_is h m).asc (crewN_is h m).fine x⟩
theorem ixN_at {n j : Nat} (hj : j < n) : ixN n (j : Int) = some j := by
  unfold ixN
  rw [if_pos (by omega), if_pos (by omega), Int.toNat_natCast]
theorem lot_at {h : List (List Nat)} {c : Nat} (hc : c < h.length) : atI (h.map lotD) (c : Int) = some (lotD h[c]) := by
  unfold atI
  rw [ixN_at (by rw [List.length_map]; exact hc)]
  exact house_at hc
theorem int_at {l : List Nat} {c : Nat} (hc : c < l.length) : atI (l.map iD) (c : Int) = some (iD l[c]) := by
  unfold atI
  rw [ixN_at (by rw [List.length_map]; exact hc)]
  show (l.map iD)[c]? = _
  rw [List.getElem?_map, List.getElem?_eq_getElem hc]; rfl
theorem cnt_len {h : List (List Nat)} {S : List Nat} {c : Nat} (hc : c < h.length) : (((h[c].map iD).filter (inD S)).map id).length = cntN h S c := by
  unfold cntN
  rw [List.map_id, List.filter_map, List.length_map, getD_at hc]
  rfl
def bLess (h : List (List Nat)) (m : Nat) (S : List Nat) (d : PyData) : Bool := decide (cntN h S (natI d) < m)
def bEnough (h : List (List Nat)) (m : Nat) (S : List Nat) (d : PyData) : Bool := decide (m ≤ cntN h S (natI d))
def bCrew (h : List (List Nat)) (d : PyData) : Bool := decide (crewN h (natI d) ≠ [])
theorem rgD_from (a n : Nat) : rgD (a : Int) ((a + n : Nat) : Int) = (List.range n).map fun i => iD (a + i) := by
  unfold rgD
  have : (((a + n : Nat) : Int) - (a : Int)).toNat = n := by omega
  rw [this]
  refine List.map_congr_left fun i _ => ?_
  show PyData.int ((a : Int) + (i : Int)) = .int ((a + i : Nat) : Int)
  rw [Int.natCast_add]
theorem asc_of_perm {n : Nat} {ks : List Nat} {ns : List Int} (hd : ks.Nodup) (hlt : ∀ k ∈ ks, k < n) (hp : ns.Perm (ks.map fun k : Nat => (k : Int))) (hs : ns.Pairwise (· ≤ ·)) : ∃ r, ns.map PyData.int = r.map iD ∧ r.length = ks.length ∧ AscN n r ∧ ∀ x, x ∈ r ↔ x ∈ ks := by
  have hm : ∀ x ∈ ns, ∃ k ∈ ks, x = (k : Int) := fun x hx => by
    obtain ⟨k, hk, e⟩ := List.mem_map.mp (hp.mem_iff.mp hx)
    exact ⟨k, hk, e.symm⟩
  have e : ns = (ns.map Int.toNat).map fun k : Nat => (k : Int) := by
    rw [List.map_map]
    have : ∀ x ∈ ns, ((fun k : Nat => (k : Int)) ∘ Int.toNat) x = x := fun x hx => by
      obtain ⟨k, _, rfl⟩ := hm x hx
      show (((k : Int).toNat : Nat) : Int) = k
      rw [Int.toNat_natCast]
    exact ((List.map_congr_left this).trans (List.map_id' ns)).symm
  have hnd : ns.Nodup := hp.nodup_iff.mpr (by
    rw [List.nodup_iff_pairwise_ne] at hd ⊢
    rw [List.pairwise_map]
    exact hd.imp fun {a b} h z => h (by omega))
  refine ⟨ns.map Int.toNat, ?_, ?_, ⟨?_, ?_⟩, ?_⟩
  · conv => lhs; rw [e]
    rw [List.map_map]; rfl
  · rw [List.length_map, hp.length_eq, List.length_map]
  · rw [List.pairwise_map]
    have h2 : ns.Pairwise fun a b => a ≤ b ∧ a ≠ b := List.pairwise_and_iff.mpr ⟨hs, hnd⟩
    refine h2.imp_of_mem fun {a b} ha hb h => ?_
    obtain ⟨k, _, rfl⟩ := hm a ha
    obtain ⟨l, _, rfl⟩ := hm b hb
    omega
  · intro x hx
    obtain ⟨y, hy, rfl⟩ := List.mem_map.mp hx
    obtain ⟨k, hk, rfl⟩ := hm y hy
    rw [Int.toNat_natCast]
    exact hlt k hk
  · intro x
    constructor
    · intro hx
      obtain ⟨y, hy, rfl⟩ := List.mem_map.mp hx
      obtain ⟨k, hk, rfl⟩ := hm y hy
      rw [Int.toNat_natCast]
      exact hk
    · intro hx
      exact List.mem_map.mpr ⟨x, hp.mem_iff.mpr (List.mem_map.mpr ⟨x, hx, rfl⟩), Int.toNat_natCast x⟩
def inlN (n : Nat) : Key := Sum.inl (n : Int)
theorem inlN_inj {a b : Nat} (h : inlN a = inlN b) : a = b := by
  unfold inlN at h
  injection h with h
  omega
theorem putD_keys {kvs : List (Key × PyData)} {ks : List Nat} (h : kvs.map Prod.fst = ks.map inlN) (k : Nat) (v : PyData) : (putD kvs (inlN k) v).map Prod.fst = (if k ∈ ks then ks else ks ++ [k]).map inlN := by
  unfold putD
  have e : (kvs.any fun kv => decide (kv.1 = inlN k)) = decide (k ∈ ks) := by
    have : (kvs.any fun kv => decide (kv.1 = inlN k)) = (kvs.map Prod.fst).any fun x => decide (x = inlN k) := by rw [List.any_map]; rfl
    rw [this, h, List.any_map]
    by_cases z : k ∈ ks
    · rw [decide_eq_true z]
      exact List.any_eq_true.mpr ⟨k, z, decide_eq_true rfl⟩
    · rw [decide_eq_false z]
      refine List.any_eq_false.mpr fun x hx q => z ?_
      have := inlN_inj (of_decide_eq_true q)
      rw [← this]; exact hx
  rw [e]
  by_cases z : k ∈ ks
  · rw [if_pos (decide_eq_true z), if_pos z, List.map_map, ← h]
    refine List.map_congr_left fun x _ => ?_
    show (if x.1 = inlN k then (x.1, v) else x).1 = x.1
    split <;> rfl
  · rw [if_neg (by simp [z]), if_neg z, List.map_append, List.map_append, h]
    rfl
end DL
set_option Elab.async false
set_option linter.all false
set_option maxRecDepth 100000
set_option maxHeartbeats 2000000
/-! the layers of what is first covered at a day; numbers -/
namespace DL
open PySem PySem.Spec PyProof.Rows L2
/-- k is covered on day d, and not before -/
def At (h : List (List Nat)) (m : Nat) (k : List Nat) (d : Nat) : Prop := (∃ r, Leads h m r k ∧ r.length = d) ∧ ∀ r, Leads h m r k → d ≤ r.length
theorem Leads.cut {h : List (List Nat)} {m : Nat} {r : Row} {k : List Nat} {d : Nat} (a : Leads h m r k) (e : r.length = d + 1) : ∃ r' l k', r = r' ++ [l] ∧ r'.length = d ∧ (AscN h.length l ∧ l.length ≤ m) ∧ Leads h m r' k' ∧ k = behindN h k' l := by
  cases hr : r.reverse with
  | nil =>
    have : r = [] := by simpa using hr
    subst this
    cases e
  | cons l s =>
    have er : r = s.reverse ++ [l] := by rw [← List.reverse_reverse r, hr, List.reverse_cons]
    subst er
    obtain ⟨ok, k', h1, h2⟩ := a.last
    exact ⟨s.reverse, l, k', rfl, by rw [List.length_append] at e; simpa using e, ok, h1, h2⟩
theorem At.back {h : List (List Nat)} {m : Nat} {k : List Nat} {d : Nat} (a : At h m k (d + 1)) : ∃ k' l, At h m k' d ∧ AscN h.length l ∧ l.length ≤ m ∧ k = behindN h k' l := by
  obtain ⟨⟨r, h1, h2⟩, h3⟩ := a
  obtain ⟨r', l, k', rfl, h4, ok, h5, rfl⟩ := h1.cut h2
  refine ⟨k', l, ⟨⟨r', h5, h4⟩, fun s hs => ?_⟩, ok.1, ok.2, rfl⟩
  have := h3 _ (hs.snoc ok)
  rw [List.length_append] at this
  have e : [l].length = 1 := rfl
  omega
theorem At.down {h : List (List Nat)} {m : Nat} {d j : Nat} (hj : j ≤ d) : ∀ {k : List Nat}, At h m k d → ∃ k', At h m k' j := by
  induction d with
  | zero =>
    intro k a
    have : j = 0 := by omega
    subst this
    exact ⟨k, a⟩
  | succ d ih =>
    intro k a
    by_cases e : j = d + 1
    · subst e; exact ⟨k, a⟩
    · obtain ⟨k', l, a', _⟩ := a.back
      exact ih (by omega) a'
theorem At.asc {h : List (List Nat)} {m : Nat} {k : List Nat} {d : Nat} (a : At h m k d) : AscN h.length k := by
  obtain ⟨⟨r, h1, _⟩, _⟩ := a
  exact h1.asc
theorem At.of {h : List (List Nat)} {m : Nat} {r : Row} {k : List Nat} (a : Leads h m r k) : ∃ d, At h m k d ∧ d ≤ r.length := by
  have key : ∀ n, ∀ r : Row, r.length ≤ n → Leads h m r k → ∃ d, At h m k d ∧ d ≤ r.length := by
    intro n
    induction n with
    | zero =>
      intro r hr a
      exact ⟨r.length, ⟨⟨r, a, rfl⟩, fun s _ => by omega⟩, Nat.le_refl _⟩
    | succ n ih =>
      intro r hr a
      by_cases z : ∃ s, Leads h m s k ∧ s.length < r.length
      · obtain ⟨s, hs, hl⟩ := z
        obtain ⟨d, hd, hle⟩ := ih s (by omega) hs
        exact ⟨d, hd, by omega⟩
      · exact ⟨r.length, ⟨⟨r, a, rfl⟩, fun s hs => Classical.byContradiction fun q => z ⟨s, hs, by omega⟩⟩, Nat.le_refl _⟩
  exact key r.length r (Nat.le_refl _) a
def LayOk (h : List (List Nat)) (m : Nat) (LS : List (List (List Nat))) : Prop := ∀ (d : Nat) (k : List Nat), k ∈ LS[d]?.getD [] ↔ At h m k d
/-- within the search: d days told -/
structure Lay (h : List (List Nat)) (m d : Nat) (LS : List (List (List Nat))) (sk : List (List Nat)) (last : List (List Nat)) : Prop where
  len : LS.length = d + 1
  lst : LS[d]? = some last
  lay : ∀ i, i ≤ d → ∀ k, k ∈ LS[i]?.getD [] ↔ At h m k i
  nd : sk.Nodup
  seen : ∀ k, k ∈ sk ↔ ∃ r, Leads h m r k ∧ r.length ≤ d
  days : d ≤ sk.length
  days1 : last ≠ [] → d < sk.length
theorem At.zero {h : List (List Nat)} {m : Nat} {k : List Nat} : At h m k 0 ↔ k = [] := by
  constructor
  · rintro ⟨⟨r, h1, h2⟩, _⟩
    have : r = [] := List.eq_nil_of_length_eq_zero h2
    subst this
    exact h1.2.symm
  · rintro rfl
    exact ⟨⟨[], Leads.nil h m, rfl⟩, fun _ _ => Nat.zero_le _⟩
theorem Lay.start (h : List (List Nat)) (m : Nat) : Lay h m 0 [[[]]] [[]] [[]] where
  len := rfl
  lst := rfl
  lay := fun i hi k => by
    have : i = 0 := by omega
    subst this
    rw [At.zero]
    show k ∈ [[]] ↔ _
    simp
  nd := by simp
  seen := fun k => by
    constructor
    · intro hk
      have : k = [] := by simpa using hk
      subst this
      exact ⟨[], Leads.nil h m, Nat.le_refl _⟩
    · rintro ⟨r, h1, h2⟩
      have : r = [] := List.eq_nil_of_length_eq_zero (by omega)
      subst this
      rw [← h1.2]; simp
  days := Nat.zero_le _
  days1 := fun _ => Nat.zero_lt_one
theorem Lay.size {h : List (List Nat)} {m d : Nat} {LS : List (List (List Nat))} {sk last : List (List Nat)} (L : Lay h m d LS sk last) : sk.length ≤ 2 ^ h.length := by
  have := nodup_sub (m := powN h.length) L.nd fun x hx => by
    obtain ⟨r, hr, _⟩ := (L.seen x).mp hx
    exact mem_powN.mpr hr.asc
  rwa [powN_length] at this
theorem Lay.mem {h : List (List Nat)} {m d : Nat} {LS : List (List (List Nat))} {sk last : List (List Nat)} (L : Lay h m d LS sk last) (k : List Nat) : k ∈ last ↔ At h m k d := by
  have := L.lay d (Nat.le_refl _) k
  rw [L.lst] at this
  exact this
theorem Lay.next {h : List (List Nat)} {m d : Nat} {LS : List (List (List Nat))} {sk last last' : List (List Nat)} (L : Lay h m d LS sk last) (hl : last ≠ []) (hn : last'.Nodup)
    (hm : ∀ k, k ∈ last' ↔ (∃ c ∈ last, ∃ l, AscN h.length l ∧ l.length ≤ m ∧ k = behindN h c l) ∧ k ∉ sk) : Lay h m (d + 1) (LS ++ [last']) (sk ++ last') last' := by
  have at' : ∀ k, k ∈ last' ↔ At h m k (d + 1) := fun k => by
    rw [hm]
    constructor
    · rintro ⟨⟨c, hc, l, h1, h2, rfl⟩, hs⟩
      obtain ⟨⟨r, hr, hrl⟩, _⟩ := (L.mem c).mp hc
      refine ⟨⟨r ++ [l], hr.snoc ⟨h1, h2⟩, by rw [List.length_append, hrl]; rfl⟩, fun s hs' => Classical.byContradiction fun z => hs ((L.seen _).mpr ⟨s, hs', by omega⟩)⟩
    · intro a
      refine ⟨?_, fun z => ?_⟩
      · obtain ⟨k', l, a', h1, h2, e⟩ := a.back
        exact ⟨k', (L.mem k').mpr a', l, h1, h2, e⟩
      · obtain ⟨r, hr, hl⟩ := (L.seen k).mp z
        have := a.2 r hr
        omega
  refine ⟨by rw [List.length_append, L.len]; rfl, ?_, fun i hi k => ?_, ?_, fun k => ?_, ?_, fun z => ?_⟩
  · rw [List.getElem?_append_right (by rw [L.len]; exact Nat.le_refl _), L.len, Nat.sub_self]; rfl
  · by_cases e : i = d + 1
    · subst e
      rw [List.getElem?_append_right (by rw [L.len]; exact Nat.le_refl _), L.len, Nat.sub_self]
      exact at' k
    · rw [List.getElem?_append_left (by rw [L.len]; omega)]
      exact L.lay i (by omega) k
  · rw [List.nodup_append]
    refine ⟨L.nd, hn, fun x hx y hy z => ?_⟩
    subst z
    exact ((hm x).mp hy).2 hx
  · rw [List.mem_append, L.seen, at']
    constructor
    · rintro (⟨r, h1, h2⟩ | ⟨⟨r, h1, h2⟩, _⟩)
      · exact ⟨r, h1, by omega⟩
      · exact ⟨r, h1, by omega⟩
    · rintro ⟨r, h1, h2⟩
      obtain ⟨d', a, hle⟩ := At.of h1
      by_cases e : d' ≤ d
      · obtain ⟨⟨s, q1, q2⟩, _⟩ := a
        exact .inl ⟨s, q1, by omega⟩
      · have : d' = d + 1 := by omega
        subst this
        exact .inr a
  · have := L.days1 hl
    rw [List.length_append]
    omega
  · have := L.days1 hl
    have := List.length_pos_iff.mpr z
    rw [List.length_append]
    omega
theorem Lay.done {h : List (List Nat)} {m d : Nat} {LS : List (List (List Nat))} {sk : List (List Nat)} (L : Lay h m d LS sk []) : LayOk h m LS := fun i k => by
  by_cases hi : i ≤ d
  · exact L.lay i hi k
  · rw [List.getElem?_eq_none (by rw [L.len]; omega)]
    constructor
    · intro z; cases z
    · intro a
      obtain ⟨k', a'⟩ := a.down (j := d) (by omega)
      have := (L.mem k').mpr a'
      cases this
/-- days to the goal -/
def DaysIs (h : List (List Nat)) (m : Nat) (goal : List Nat) (d : Nat) : Prop := (∃ r, RowTo h m goal r ∧ r.length = d) ∧ ∀ r, RowTo h m goal r → d ≤ r.length
noncomputable def numN (h : List (List Nat)) (goal : List Nat) : Nat := open Classical in if H : ∃ k, Least h goal k then H.choose else 0
theorem Least.uniq {h : List (List Nat)} {goal : List Nat} {a b : Nat} (A : Least h goal a) (B : Least h goal b) : a = b := by
  obtain ⟨r, hr⟩ := A.can
  obtain ⟨s, hs⟩ := B.can
  have h1 : ¬ a < b := fun z => B.no a z r hr
  have h2 : ¬ b < a := fun z => A.no b z s hs
  omega
theorem Least.eq {h : List (List Nat)} {goal : List Nat} {k : Nat} (L : Least h goal k) : k = numN h goal := by
  have H : ∃ k, Least h goal k := ⟨k, L⟩
  have : numN h goal = H.choose := by
    unfold numN
    rw [dif_pos H]
  rw [this]
  exact L.uniq H.choose_spec
theorem all_cover {h : List (List Nat)} {goal : List Nat} (hh : HouseOk h) (hg : AscN h.length goal) : ∃ r, RowTo h h.length goal r := by
  obtain ⟨r, c, h1, h2⟩ := all_one_day hh
  refine ⟨r, c, h1, List.all_eq_true.mpr fun x hx => ?_⟩
  exact List.all_eq_true.mp h2 x (List.mem_range.mpr (hg.2 x hx))
theorem least_is {h : List (List Nat)} {goal : List Nat} (hh : HouseOk h) (hg : AscN h.length goal) : Least h goal (numN h goal) ∧ numN h goal ≤ h.length := by
  have key : ∀ n, (∃ r, RowTo h n goal r) → ∃ k, Least h goal k ∧ k ≤ n := by
    intro n
    induction n with
    | zero => intro hr; exact ⟨0, ⟨hr, fun j hj => absurd hj (Nat.not_lt_zero _)⟩, Nat.le_refl _⟩
    | succ n ih =>
      intro hr
      by_cases z : ∃ j r, j ≤ n ∧ RowTo h j goal r
      · obtain ⟨j, r, hj, hr⟩ := z
        obtain ⟨c, ⟨l1, l2⟩, hc⟩ := hr
        obtain ⟨k, hk, hle⟩ := ih ⟨r, c, ⟨fun x hx => ⟨(l1 x hx).1, Nat.le_trans (l1 x hx).2 hj⟩, l2⟩, hc⟩
        exact ⟨k, hk, by omega⟩
      · exact ⟨n + 1, ⟨hr, fun j hj r hr => z ⟨j, r, by omega, hr⟩⟩, Nat.le_refl _⟩
  obtain ⟨k, hk, hle⟩ := key _ (all_cover hh hg)
  rw [← hk.eq]
  exact ⟨hk, hle⟩
/-! dicts whose keys are lots, all True -/
def kvsB (sk : List (List Nat)) : List (List Key × PyData) := sk.map fun k => (keyN k, .bool true)
theorem any_kvsB (sk : List (List Nat)) (k : List Nat) : ((kvsB sk).any fun kv => decide (kv.1 = keyN k)) = decide (k ∈ sk) := by
  unfold kvsB
  rw [List.any_map]
  by_cases z : k ∈ sk
  · rw [decide_eq_true z]
    exact List.any_eq_true.mpr ⟨k, z, decide_eq_true rfl⟩
  · rw [decide_eq_false z]
    refine List.any_eq_false.mpr fun x hx q => z ?_
    have := keyN_inj (a := x) (b := k) (of_decide_eq_true q)
    rw [← this]; exact hx
theorem valD_B (sk : List (List Nat)) (k : List Nat) : (valD (kvsB sk) (keyN k)).isSome = decide (k ∈ sk) := by
  rw [← any_kvsB]
  unfold valD
  rw [Option.isSome_map]
  cases h : (kvsB sk).any fun kv => decide (kv.1 = keyN k) with
  | true =>
    obtain ⟨x, hx, e⟩ := List.any_eq_true.mp h
    exact List.find?_isSome.mpr ⟨x, hx, e⟩
  | false =>
    have : (kvsB sk).find? (fun kv => decide (kv.1 = keyN k)) = none := List.find?_eq_none.mpr fun x hx e => List.any_eq_false.mp h x hx e
    rw [this]; rfl
theorem putD_B (sk : List (List Nat)) (k : List Nat) : putD (kvsB sk) (keyN k) (.bool true) = kvsB (if k ∈ sk then sk else sk ++ [k]) := by
  unfold putD
  rw [any_kvsB]
  by_cases z : k ∈ sk
  · rw [if_pos (decide_eq_true z), if_pos z]
    unfold kvsB
    rw [List.map_map]
    refine List.map_congr_left fun x _ => ?_
    show (if keyN x = keyN k then (keyN x, PyData.bool true) else (keyN x, PyData.bool true)) = _
    split <;> rfl
  · rw [if_neg (by simp [z]), if_neg z]
    unfold kvsB
    rw [List.map_append]; rfl
theorem kvsB_len (sk : List (List Nat)) : (kvsB sk).length = sk.length := List.length_map _
/-! sorting lots by their items -/
def lotLt (a b : List Nat) : Bool := PySem.W.dataLe false PyData.tuple (a.map iD) (b.map iD)
theorem sortTT_lots (ls : List (List Nat)) : (sortTT (ls.map (·.map iD))).map PyData.tuple = (ls.mergeSort lotLt).map lotD := by
  have : sortTT (ls.map (·.map iD)) = (ls.mergeSort lotLt).map (·.map iD) :=
    (List.map_mergeSort (r := lotLt) (s := PySem.W.dataLe false PyData.tuple) (f := fun l : List Nat => l.map iD) (l := ls) fun a _ b _ => rfl).symm
  rw [this, List.map_map]; rfl
theorem sortOkT_lots (ls : List (List Nat)) : SortOkT (ls.map (·.map iD)) := by
  refine ⟨fun b hb => ?_, fun b hb c hc => ?_⟩
  · obtain ⟨l, hl, rfl⟩ := List.mem_map.mp hb
    refine ⟨noDicts_map (fun _ => rfl) l, ?_⟩
    have := depth_lot l
    show (lotD l).depth ≤ 60
    omega
  · obtain ⟨l, hl, rfl⟩ := List.mem_map.mp hb
    obtain ⟨m, hm, rfl⟩ := List.mem_map.mp hc
    simp [PySem.W.alike, alikeAll_ints]
theorem listD_lots (sk : List (List Nat)) : ((kvsB sk).map fun kv => tupD kv.1) = sk.map lotD := by
  unfold kvsB
  rw [List.map_map]
  exact List.map_congr_left fun k _ => tupD_keyN k
def layersD (LS : List (List (List Nat))) : List PyData := LS.map lotsD
/-- what is in none of the two -/
def notIn (a b : List Nat) (d : PyData) : Bool := !inD a d && !inD b d
theorem notIn_none (a b s : List Nat) : PyData.eqv (.list (((s.map iD).filter (notIn a b)).map id)) (.list []) = s.all fun x => decide (x ∈ a ++ b) := by
  have e : ((s.map iD).filter (notIn a b)).map id = (s.filter fun x => !decide (x ∈ a ++ b)).map iD := by
    rw [List.map_id, List.filter_map]
    congr 1
    refine List.filter_congr fun x _ => ?_
    show (!decide (x ∈ a) && !decide (x ∈ b)) = _
    by_cases h1 : x ∈ a <;> by_cases h2 : x ∈ b <;> simp [h1, h2]
  rw [e]
  have q := eqvAll_ints (s.filter fun x => !decide (x ∈ a ++ b)) []
  show PyData.eqvAll _ [] = _
  rw [show ([] : List PyData) = [].map iD from rfl, q]
  cases h : s.all fun x => decide (x ∈ a ++ b) with
  | true =>
    refine decide_eq_true (List.filter_eq_nil_iff.mpr fun x hx z => ?_)
    have := List.all_eq_true.mp h x hx
    rw [this] at z
    cases z
  | false =>
    refine decide_eq_false fun z => ?_
    have : (s.all fun x => decide (x ∈ a ++ b)) = true := List.all_eq_true.mpr fun x hx => by
      have := List.filter_eq_nil_iff.mp z x hx
      cases hh : decide (x ∈ a ++ b) with
      | true => rfl
      | false => rw [hh] at this; exact absurd rfl this
    rw [this] at h
    cases h
end DL
set_option Elab.async false
set_option linter.all false
set_option maxRecDepth 100000
set_option maxHeartbeats 2000000
/-! the lots in order: the empty one, .., all -/
namespace DL
open PySem PySem.Spec PyProof.Rows L2
theorem nodup_powN : ∀ n, (powN n).Nodup
  | 0 => by simp [powN]
  | n + 1 => by
    show (powN n ++ (powN n).map (· ++ [n])).Nodup
    refine List.nodup_append.mpr ⟨nodup_powN n, ?_, fun x hx y hy e => ?_⟩
    · rw [List.nodup_iff_pairwise_ne, List.pairwise_map]
      exact (List.nodup_iff_pairwise_ne.mp (nodup_powN n)).imp fun {a b} h z => h (List.append_cancel_right z)
    · subst e
      obtain ⟨z, _, rfl⟩ := List.mem_map.mp hy
      have := (mem_powN.mp hx).2 n (by simp)
      omega
theorem nodup_lotsN (n : Nat) : (lotsN n).Nodup := (List.mergeSort_perm _ _).nodup_iff.mpr (nodup_powN n)
theorem lots_head (n : Nat) : ∃ rest, lotsN n = [] :: rest ∧ (∀ l ∈ rest, l ≠ [] ∧ AscN n l) ∧ rest.length + 1 = 2 ^ n ∧ (1 ≤ n → List.range n ∈ rest) := by
  have hp := sortN_pairwise (powN n)
  have hn := nodup_lotsN n
  have h0 : ([] : List Nat) ∈ lotsN n := mem_lotsN.mpr ⟨.nil, fun x hx => by cases hx⟩
  have hl := lotsN_length n
  have ha : ∀ l ∈ lotsN n, AscN n l := lotsN_asc
  have hr : List.range n ∈ lotsN n := mem_lotsN.mpr (asc_range n)
  have hp : (lotsN n).Pairwise fun a b => a.length ≤ b.length := hp
  cases h : lotsN n with
  | nil => rw [h] at h0; cases h0
  | cons a rest =>
    rw [h] at hp hn h0 hl ha hr
    have e : a = [] := by
      rcases List.mem_cons.mp h0 with e | e
      · exact e.symm
      · have := (List.pairwise_cons.mp hp).1 _ e
        exact List.eq_nil_of_length_eq_zero (Nat.le_zero.mp this)
    subst e
    refine ⟨rest, rfl, fun l hl => ⟨fun z => ?_, ha l (List.mem_cons_of_mem _ hl)⟩, hl, fun h1 => ?_⟩
    · subst z; exact (List.nodup_cons.mp hn).1 hl
    · rcases List.mem_cons.mp hr with e | e
      · have : (List.range n).length = 0 := by rw [e]; rfl
        rw [List.length_range] at this
        omega
      · exact e
theorem lots_last {n : Nat} {rest : List (List Nat)} (e : lotsN n = [] :: rest) (hr : List.range n ∈ rest) : ∃ hl : rest.length - 1 < rest.length, rest[rest.length - 1] = List.range n := by
  have hpos : 0 < rest.length := List.length_pos_of_mem hr
  have hl : rest.length - 1 < rest.length := by omega
  refine ⟨hl, ?_⟩
  have hp : (lotsN n).Pairwise fun a b => a.length ≤ b.length := sortN_pairwise (powN n)
  rw [e] at hp
  have hp := (List.pairwise_cons.mp hp).2
  obtain ⟨i, hi, ei⟩ := List.mem_iff_getElem.mp hr
  by_cases q : i = rest.length - 1
  · subst q; exact ei
  · have h1 := List.pairwise_iff_getElem.mp hp i (rest.length - 1) hi hl (by omega)
    rw [ei] at h1
    have ha : AscN n rest[rest.length - 1] := lotsN_asc _ (by rw [e]; exact List.mem_cons_of_mem _ (List.getElem_mem hl))
    exact asc_eq ha (asc_range n) (fun x hx => List.mem_range.mpr (ha.2 x hx)) h1
theorem at_last {l : List Nat} (h : l.length - 1 < l.length) : atI (l.map iD) (-1) = some (iD l[l.length - 1]) := by
  unfold atI ixN
  rw [List.length_map, if_neg (by decide), if_pos (by omega)]
  have : (-1 + (l.length : Int)).toNat = l.length - 1 := by omega
  rw [this]
  show (l.map iD)[l.length - 1]? = _
  rw [List.getElem?_map, List.getElem?_eq_getElem h]; rfl
def pSnd (k : Nat) : PyData → Bool
  | .tuple [_, x] => decide (natI x = k)
  | _ => false
theorem zip_maps (f g : List Nat → PyData) (l : List (List Nat)) : zipD (l.map f) (l.map g) = l.map fun x => .tuple [f x, g x] := by
  unfold zipD
  rw [List.zipWith_map]
  induction l with
  | nil => rfl
  | cons a l ih => rw [List.zipWith_cons_cons, ih]; rfl
end DL
set_option Elab.async false
set_option linter.all false
set_option maxRecDepth 100000
set_option maxHeartbeats 4000000
namespace K07
open PySem PySem.Spec PyProof.Rows L2 DL
theorem is_number_ok {i lo hi : Int} {Q : PyData → Prop} (hQ : Q (.bool (decide (lo ≤ i ∧ i ≤ hi)))) : F_is_number [.val (.int i), .val (.int lo), .val (.int hi)] Q := by
  refine ⟨rfl, true, rfl, iteT ⟨false, rfl, true, rfl, iteT ⟨decide (lo ≤ i), rfl, ?_⟩⟩⟩
  by_cases h : lo ≤ i
  · rw [decide_eq_true h]
    refine iteT ?_
    show Q (.bool (decide (i ≤ hi)))
    rw [show decide (i ≤ hi) = decide (lo ≤ i ∧ i ≤ hi) by simp [h]]
    exact hQ
  · rw [decide_eq_false h]
    refine iteF ?_
    show Q (.bool false)
    rw [show false = decide (lo ≤ i ∧ i ≤ hi) by simp [h]]
    exact hQ
theorem is_lot_ok {n : Nat} {l : List Nat} {Q : PyData → Prop} (hl : AscN n l) (hQ : Q (.bool true)) : F_is_lot [.val (iD n), .val (lotD l)] Q := by
  refine ⟨rfl, true, rfl, iteF ⟨l.map iD, rfl, _, genL_suf (fun _ => true) fun d hd Q h => ?_, true, ?_, iteF ?_⟩⟩
  · obtain ⟨x, hx, rfl⟩ := List.mem_map.mp hd
    refine is_number_ok ?_
    have : (0 : Int) ≤ (x : Int) ∧ (x : Int) ≤ (n : Int) - 1 := by have := hl.2 x hx; omega
    rw [decide_eq_true this]
    exact h
  · show PyData.bool (((l.map iD).map fun _ => true).all id) = _
    rw [all_map_id]; simp
  · refine ⟨1, rfl, l.map iD, rfl, Or.inl ⟨l.map iD, cutD (l.map iD) (some 1) none, rfl, rfl, _, genL_suf (fun _ => true) fun d hd Q h => ?_, ?_⟩⟩
    · obtain ⟨x, y, rfl, hxy⟩ := zip_tail hl.1 d hd
      refine ⟨_, _, rfl, ?_⟩
      show Q (.bool (decide ((x : Int) < (y : Int))))
      rw [decide_eq_true (by omega)]
      exact h
    · show Q (.bool (((zipD (l.map iD) (cutD (l.map iD) (some 1) none)).map fun _ => true).all id))
      rw [all_map_id, List.all_eq_true.mpr fun _ _ => rfl]
      exact hQ
theorem law_house_ok {n t : Nat} {Q : PyData → Prop} (h1 : 1 ≤ n) (h2 : n ≤ 7) (ht : 1 ≤ t ∧ t ≤ 1000) (hQ : ∀ h, HouseOk h → h.length = n → Q (houseD h)) : F__law_house [.row, .val (iD n), .val (iD t)] Q := by
  refine ⟨rfl, by decide, n, rfl, ⟨by omega, by omega⟩, ?_⟩
  rw [rgD_nat]
  refine for_suf (fun i E => ∃ rows : List (List Nat), rows.length = i ∧ (∀ r ∈ rows, r ≠ [] ∧ AscN n r) ∧ E = [.row, .val (iD n), .val (iD t), .ls (rows.map lotD), E[4]?.getD .no, E[5]?.getD .no, E[6]?.getD .no]) ⟨[], rfl, (fun r hr => by cases hr), rfl⟩ ?_ ?_
  · rintro i d E Q' hd ⟨rows, hl, hr, hE⟩ nx _ _
    rw [hE]
    have hi : i < n := by
      have := (List.getElem?_eq_some_iff.mp hd).1
      rwa [List.length_map, List.length_range] at this
    refine ⟨t, rfl, by omega, by omega, fun v v0 v1 => ⟨1 + v, rfl, ⟨by omega, by omega⟩, ?_⟩⟩
    obtain ⟨w, rfl⟩ : ∃ w : Nat, v = (w : Int) := ⟨v.toNat, by omega⟩
    rw [show (1 : Int) + (w : Int) = ((1 + w : Nat) : Int) by omega, rgD_nat]
    refine for_suf (fun j E => ∃ (ks : List Nat) (kvs : List (Key × PyData)), ks.Nodup ∧ (∀ k ∈ ks, k < n) ∧ (0 < j → ks ≠ []) ∧ kvs.map Prod.fst = ks.map inlN ∧ E = [.row, .val (iD n), .val (iD t), .ls (rows.map lotD), E[4]?.getD .no, .dk kvs, E[6]?.getD .no]) ⟨[], [], .nil, (fun r hr => by cases hr), (fun z => absurd z (Nat.lt_irrefl _)), rfl, rfl⟩ ?_ ?_
    · rintro j d E Q' hd ⟨ks, kvs, k1, k2, k3, k4, hE⟩ nx _ _
      rw [hE]
      refine ⟨.inr ⟨_, rfl⟩, n, rfl, by omega, by omega, fun v v0 v1 => .inr ⟨kvs, .inl v, rfl, rfl, ?_, nx _ ?_⟩⟩
      · have e1 : kvs.length = ks.length := by rw [← List.length_map (f := Prod.fst) (as := kvs), k4, List.length_map]
        have e2 := nodup_sub (m := List.range n) k1 fun x hx => List.mem_range.mpr (k2 x hx)
        rw [List.length_range] at e2
        rw [e1]
        exact Nat.lt_of_le_of_lt (Nat.le_trans e2 h2) (by decide)
      · obtain ⟨u, rfl⟩ : ∃ u : Nat, v = (u : Int) := ⟨v.toNat, by omega⟩
        refine ⟨if u ∈ ks then ks else ks ++ [u], putD kvs (inlN u) (.bool true), ?_, ?_, ?_, putD_keys k4 u _, rfl⟩
        · split
          · exact k1
          · rename_i z
            refine List.nodup_append.mpr ⟨k1, by simp, fun x hx y hy => ?_⟩
            have : y = u := by simpa using hy
            subst this
            intro e; subst e; exact z hx
        · intro k hk
          split at hk
          · exact k2 k hk
          · rcases List.mem_append.mp hk with e | e
            · exact k2 k e
            · have : k = u := by simpa using e
              omega
        · intro _
          split
          · rename_i z; intro e; rw [e] at z; cases z
          · simp
    · rintro E ⟨ks, kvs, k1, k2, k3, k4, hE⟩
      rw [hE]
      have k3 := k3 (by rw [List.length_map, List.length_range]; omega)
      refine ⟨rows.map lotD, rfl, .inl ⟨ks.map (fun k : Nat => (k : Int)), ?_, fun ns' hp hs => ?_⟩⟩
      · have : kvs.map (fun kv => keyD kv.1) = (kvs.map Prod.fst).map keyD := by rw [List.map_map]; rfl
        rw [this, k4, List.map_map, List.map_map]; rfl
      · obtain ⟨r, e, el, ra, _⟩ := asc_of_perm k1 k2 hp hs
        rw [e]
        refine ⟨by rw [List.length_map]; exact Nat.lt_of_le_of_lt (show rows.length ≤ 7 by omega) (by decide), nx _ ⟨rows ++ [r], by rw [List.length_append, hl]; rfl, fun x hx => ?_, ?_⟩⟩
        · rcases List.mem_append.mp hx with q | q
          · exact hr x q
          · have : x = r := by simpa using q
            subst this
            exact ⟨fun z => k3 (List.eq_nil_of_length_eq_zero (by rw [← el, z]; rfl)), ra⟩
        · rw [List.map_append]; rfl
  · rintro E ⟨rows, hl, hr, hE⟩
    rw [hE]
    rw [List.length_map, List.length_range] at hl
    exact hQ rows ⟨by omega, by omega, fun r hr' => by rw [hl]; exact hr r hr'⟩ hl
end K07
set_option Elab.async false
set_option linter.all false
set_option maxRecDepth 100000
set_option maxHeartbeats 400000
/-! what each function that refuses a house, a lot, a number does -/
namespace K07
open PySem PySem.Spec PyProof.Rows L2 DL
def numB (d : PyData) (lo hi : Int) : Bool := match d with
  | .int i => decide (lo ≤ i ∧ i ≤ hi)
  | _ => false
theorem is_number_all {lo hi : Int} {d : PyData} {Q : PyData → Prop} (hQ : Q (.bool (numB d lo hi))) : F_is_number [.val d, .val (.int lo), .val (.int hi)] Q := by
  cases d with
  | int i => exact is_number_ok hQ
  | bool b => exact ⟨rfl, true, rfl, iteT ⟨true, rfl, false, rfl, iteF hQ⟩⟩
  | _ => exact ⟨rfl, false, rfl, iteF hQ⟩
theorem need_number_all {lo hi : Int} {d : PyData} {P : OutC → Prop} (hy : numB d lo hi = true → P (.ret .none)) (hn : numB d lo hi = false → P (.exc ⟨"BadNumber", none⟩)) : X_need_number [.val d, .val (.int lo), .val (.int hi)] P := by
  refine ⟨rfl, is_number_all ⟨_, rfl, ?_⟩⟩
  cases h : numB d lo hi with
  | true => exact iteF (hy h)
  | false => exact iteT (hn h)
theorem numB_int {d : PyData} {lo hi : Int} (h : numB d lo hi = true) : ∃ i : Int, d = .int i ∧ lo ≤ i ∧ i ≤ hi := by
  cases d with
  | int i => exact ⟨i, rfl, of_decide_eq_true h⟩
  | _ => cases h
/-! lots -/
def ltB (x : PyData) : Bool := match x with
  | .tuple [.int i, .int j] => decide (i < j)
  | _ => false
def lotB (n : Nat) (d : PyData) : Bool := match d with
  | .tuple xs => if xs.all (fun x => numB x 0 ((n : Int) - 1)) = true then (zipD xs (DL.cutD xs (some 1) none)).all ltB else false
  | _ => false
theorem is_lot_all {n : Nat} {d : PyData} {Q : PyData → Prop} (hQ : Q (.bool (lotB n d))) : F_is_lot [.val (iD n), .val d] Q := by
  cases d with
  | tuple xs =>
    have e0 : lotB n (.tuple xs) = if xs.all (fun x => numB x 0 ((n : Int) - 1)) = true then (zipD xs (DL.cutD xs (some 1) none)).all ltB else false := rfl
    refine ⟨rfl, true, rfl, iteF ⟨xs, rfl, _, genL_suf (fun x => numB x 0 ((n : Int) - 1)) fun d hd Q h => is_number_all h, _, rfl, ?_⟩⟩
    show if (!((xs.map fun x => numB x 0 ((n : Int) - 1)).all id)) = true then _ else _
    rw [all_map_id]
    cases ha : xs.all fun x => numB x 0 ((n : Int) - 1) with
    | false =>
      rw [ha] at e0
      rw [e0] at hQ
      exact iteT hQ
    | true =>
      rw [ha] at e0
      refine iteF ⟨1, rfl, xs, rfl, Or.inl ⟨xs, DL.cutD xs (some 1) none, rfl, rfl, _, genL_suf ltB fun d hd Q hq => ?_, ?_⟩⟩
      · obtain ⟨i, hi⟩ := List.getElem?_of_mem hd
        unfold zipD at hi
        rw [List.getElem?_zipWith] at hi
        cases u1 : xs[i]? with
        | none => rw [u1] at hi; simp at hi
        | some x =>
          cases u2 : (DL.cutD xs (some 1) none)[i]? with
          | none => rw [u1, u2] at hi; simp at hi
          | some y =>
            rw [u1, u2] at hi
            cases hi
            have num : ∀ z ∈ xs, ∃ i : Int, z = .int i := fun z hz => by
              obtain ⟨i, rfl, _⟩ := numB_int (List.all_eq_true.mp ha z hz)
              exact ⟨i, rfl⟩
            obtain ⟨i1, rfl⟩ := num x (List.mem_of_getElem? u1)
            obtain ⟨i2, rfl⟩ := num y (by unfold DL.cutD at u2; exact List.mem_of_mem_drop (List.mem_of_mem_take (List.mem_of_getElem? u2)))
            exact ⟨_, _, rfl, hq⟩
      · show Q (.bool (((zipD xs (DL.cutD xs (some 1) none)).map ltB).all id))
        rw [all_map_id]
        rw [e0] at hQ
        exact hQ
  | _ => exact ⟨rfl, false, rfl, iteT hQ⟩
theorem ints_of {n : Nat} : ∀ {xs : List PyData}, xs.all (fun x => numB x 0 ((n : Int) - 1)) = true → ∃ l : List Nat, xs = l.map iD
  | [], _ => ⟨[], rfl⟩
  | x :: xs, h => by
    rw [List.all_cons, Bool.and_eq_true] at h
    obtain ⟨l, rfl⟩ := ints_of h.2
    obtain ⟨i, rfl, h1, h2⟩ := numB_int h.1
    obtain ⟨k, rfl⟩ : ∃ k : Nat, i = k := ⟨i.toNat, by omega⟩
    exact ⟨k :: l, rfl⟩
theorem lotB_lot {n : Nat} {d : PyData} (h : lotB n d = true) : ∃ l, d = lotD l := by
  cases d with
  | tuple xs =>
    have e0 : lotB n (.tuple xs) = if xs.all (fun x => numB x 0 ((n : Int) - 1)) = true then (zipD xs (DL.cutD xs (some 1) none)).all ltB else false := rfl
    cases ha : xs.all fun x => numB x 0 ((n : Int) - 1) with
    | false => rw [e0, ha] at h; cases h
    | true =>
      obtain ⟨l, rfl⟩ := ints_of ha
      exact ⟨l, rfl⟩
  | _ => cases h
theorem eqOk_lotB {n : Nat} {d : PyData} (h : lotB n d = true) : eqOk d := by
  obtain ⟨l, rfl⟩ := lotB_lot h
  exact eqOk_lot l
/-! houses -/
def rowOk (n : Nat) (a : PyData) : Bool := if lotB n a = true then !PyData.eqv a (.tuple []) else false
def houseR (d : PyData) : Option PyData := match d with
  | .tuple [] => some .none
  | .tuple [a] => if rowOk 1 a = true then none else some (.int 0)
  | .tuple [a, b] => if rowOk 2 a = true then (if rowOk 2 b = true then none else some (.int 1)) else some (.int 0)
  | .tuple xs => if (7 : Int) < ((xs.length : Nat) : Int) then some .none else none
  | _ => some .none
theorem row_if {n : Nat} {d : PyData} {E : Ed} {Q : Out → Prop} {fa : Ed → Dm (List Sl)} {f : Fe} {x y : Fs} (ha : ∀ K : List Sl → Prop, K [.val (iD n), .val d] → fa E K) (hf : ∀ K : PyData → Prop, K d → f E K) (ht : rowOk n d = true → y E Q) (hn : rowOk n d = false → x E Q) :
    sIf (bOr (bNot (asB (eCall F_is_lot fa))) (asB (eOp oEq f (eTup vNil)))) x y E Q := by
  refine ha _ (is_lot_all ⟨_, rfl, ?_⟩)
  have e : rowOk n d = if lotB n d = true then !PyData.eqv d (.tuple []) else false := rfl
  cases hl : lotB n d with
  | false =>
    rw [hl] at e
    exact iteT (iteT (hn e))
  | true =>
    rw [hl] at e
    refine iteF (hf _ ⟨by decide, eqOk_lotB hl, eqOk_lot [], _, rfl, ?_⟩)
    have e : rowOk n d = !PyData.eqv d (.tuple []) := e
    cases he : PyData.eqv d (.tuple []) with
    | true => exact iteT (hn (by rw [e, he]; rfl))
    | false => exact iteF (ht (by rw [e, he]; rfl))
section
variable {h : List (List Nat)} {v u : PyData} {P : OutC → Prop}
abbrev badH (c : PyData) : OutC := .exc ⟨"BadHouse", some ("clerk", c)⟩
abbrev badN : OutC := .exc ⟨"BadNumber", none⟩
abbrev badL : OutC := .exc ⟨"BadLot", none⟩
abbrev badM : OutC := .exc ⟨"TooMany", some ("most", .int 7)⟩
theorem house_yes (hh : HouseOk h) (hQ : P (.ret .none)) : X_need_house [.val (houseD h)] P := by
  have hlen : (h.map lotD).length = h.length := List.length_map _
  refine ⟨rfl, true, rfl, iteF ⟨h.length, by rw [← hlen]; rfl, true, ?_, iteT ⟨true, ?_, iteF ?_⟩⟩⟩
  · show PyData.bool (decide ((1 : Int) ≤ (h.length : Int))) = _
    rw [decide_eq_true (by have := hh.one; omega)]
  · show PyData.bool (decide ((h.length : Int) ≤ 7)) = _
    rw [decide_eq_true (by have := hh.few; omega)]
  · refine ⟨h.map lotD, rfl, for_suf (fun _ E => E = [.val (houseD h), E[1]?.getD .no, E[2]?.getD .no]) rfl (fun i d E Q' hd hE nx _ _ => ?_) fun E _ => hQ⟩
    obtain ⟨hi, rfl⟩ := enum_house hd
    rw [hE]
    refine ⟨_, _, rfl, ⟨h.length, by rw [← hlen]; rfl, is_lot_ok (hh.row _ (List.getElem_mem hi)).2 ⟨true, rfl, iteF ?_⟩⟩⟩
    refine ⟨by decide, eqOk_lot _, eqOk_lot [], false, ?_, iteF (nx _ rfl)⟩
    rw [lot_ne (hh.row _ (List.getElem_mem hi)).1]
theorem house_no {c : PyData} (hr : houseR v = some c) (hP : P (badH c)) : X_need_house [.val v] P := by
  cases v with
  | tuple xs =>
    match xs, hr with
    | [], hr =>
      cases hr
      exact ⟨rfl, true, rfl, iteF ⟨0, rfl, false, rfl, iteF ⟨false, rfl, iteT hP⟩⟩⟩
    | [a], hr =>
      have e : houseR (.tuple [a]) = if rowOk 1 a = true then none else some (.int 0) := rfl
      rw [e] at hr
      refine ⟨rfl, true, rfl, iteF ⟨1, rfl, true, rfl, iteT ⟨true, rfl, iteF ⟨[a], rfl, ?_⟩⟩⟩⟩
      refine ⟨_, _, rfl, row_if (n := 1) (d := a) (fun K k => ⟨1, rfl, k⟩) (fun K k => k) (fun ht => ?_) fun hn => ?_⟩
      · rw [if_pos ht] at hr; cases hr
      · rw [hn] at hr; cases hr; exact hP
    | [a, b], hr =>
      have e : houseR (.tuple [a, b]) = if rowOk 2 a = true then (if rowOk 2 b = true then none else some (.int 1)) else some (.int 0) := rfl
      rw [e] at hr
      refine ⟨rfl, true, rfl, iteF ⟨2, rfl, true, rfl, iteT ⟨true, rfl, iteF ⟨[a, b], rfl, ?_⟩⟩⟩⟩
      refine ⟨_, _, rfl, row_if (n := 2) (d := a) (fun K k => ⟨2, rfl, k⟩) (fun K k => k) (fun ht => ?_) fun hn => ?_⟩
      · rw [if_pos ht] at hr
        refine ⟨_, _, rfl, row_if (n := 2) (d := b) (fun K k => ⟨2, rfl, k⟩) (fun K k => k) (fun ht => ?_) fun hn => ?_⟩
        · rw [if_pos ht] at hr; cases hr
        · rw [hn] at hr; cases hr; exact hP
      · rw [hn] at hr; cases hr; exact hP
    | a :: b :: c' :: r, hr =>
      have e : houseR (.tuple (a :: b :: c' :: r)) = if (7 : Int) < (((a :: b :: c' :: r).length : Nat) : Int) then some .none else none := rfl
      rw [e] at hr
      by_cases h7 : (7 : Int) < (((a :: b :: c' :: r).length : Nat) : Int)
      · rw [if_pos h7] at hr
        cases hr
        refine ⟨rfl, true, rfl, iteF ⟨(a :: b :: c' :: r).length, rfl, true, ?_, iteT ⟨false, ?_, iteT hP⟩⟩⟩
        · show PyData.bool (decide ((1 : Int) ≤ (((a :: b :: c' :: r).length : Nat) : Int))) = _
          rw [decide_eq_true (by omega)]
        · show PyData.bool (decide ((((a :: b :: c' :: r).length : Nat) : Int) ≤ 7)) = _
          rw [decide_eq_false (by omega)]
      · rw [if_neg h7] at hr; cases hr
  | _ => cases hr; exact ⟨rfl, false, rfl, iteT hP⟩
theorem number_no {lo hi : Int} (hb : numB v lo hi = false) (hP : P badN) : X_need_number [.val v, .val (.int lo), .val (.int hi)] P :=
  need_number_all (fun e => by rw [hb] at e; cases e) fun _ => hP
theorem number_yes {lo hi : Int} (hb : numB v lo hi = true) (hP : P (.ret .none)) : X_need_number [.val v, .val (.int lo), .val (.int hi)] P :=
  need_number_all (fun _ => hP) fun e => by rw [hb] at e; cases e
theorem lot_all (hy : lotB h.length v = true → P (.ret .none)) (hn : lotB h.length v = false → P badL) : X_need_lot [.val (houseD h), .val v] P := by
  have hlen : (h.map lotD).length = h.length := List.length_map _
  refine ⟨rfl, h.length, by rw [← hlen]; rfl, is_lot_all ⟨_, rfl, ?_⟩⟩
  cases hb : lotB h.length v with
  | true => exact iteF (hy hb)
  | false => exact iteT (hn hb)
theorem some_no (hb : rowOk h.length v = false) (hP : P badL) : X_need_some [.val (houseD h), .val v] P := by
  refine ⟨rfl, lot_all (fun hy => ?_) fun hn => hP⟩
  have e : rowOk h.length v = if lotB h.length v = true then !PyData.eqv v (.tuple []) else false := rfl
  rw [if_pos hy, hb] at e
  refine ⟨by decide, eqOk_lotB hy, eqOk_lot [], _, rfl, ?_⟩
  have e : PyData.eqv v (.tuple []) = true := by simpa using e.symm
  rw [e]
  exact iteT hP
end
end K07
set_option Elab.async false
set_option linter.all false
set_option maxRecDepth 100000
set_option maxHeartbeats 200000
namespace K07
open PySem PySem.Spec PyProof.Rows L2 DL
section
variable {h : List (List Nat)} {v u g t c : PyData} {P : OutC → Prop}
/-! the first statements of a def -/
section
variable {E : Ed} {Q : Out → Prop} {rest : Fs} {px : ExD → Prop} {fa : Ed → Dm (List Sl)}
theorem callX_s {F : FfX} {as : List Sl} (ha : ∀ K : List Sl → Prop, K as → fa E K) (h : F as fun o => match o with | .ret _ => rest E Q | .exc e => px e) : sSeq (sExpr (eCallX px F fa)) rest E Q := ha _ h
theorem callX_e {F : FfX} {as : List Sl} (ha : ∀ K : List Sl → Prop, K as → fa E K) (h : F as fun o => match o with | .ret _ => Q (.nx E) | .exc e => px e) : sExpr (eCallX px F fa) E Q := ha _ h
theorem house_s (hh : HouseOk h) (ha : ∀ K : List Sl → Prop, K [.val (houseD h)] → fa E K) (k : rest E Q) : sSeq (sExpr (eCallX px X_need_house fa)) rest E Q := callX_s ha (house_yes hh k)
theorem house_x (hr : houseR v = some c) (ha : ∀ K : List Sl → Prop, K [.val v] → fa E K) (k : px ⟨"BadHouse", some ("clerk", c)⟩) : sSeq (sExpr (eCallX px X_need_house fa)) rest E Q := callX_s ha (house_no hr k)
theorem num_s {lo hi : Int} (hb : numB v lo hi = true) (ha : ∀ K : List Sl → Prop, K [.val v, .val (.int lo), .val (.int hi)] → fa E K) (k : rest E Q) : sSeq (sExpr (eCallX px X_need_number fa)) rest E Q := callX_s ha (number_yes hb k)
theorem num_x {lo hi : Int} (hb : numB v lo hi = false) (ha : ∀ K : List Sl → Prop, K [.val v, .val (.int lo), .val (.int hi)] → fa E K) (k : px ⟨"BadNumber", none⟩) : sSeq (sExpr (eCallX px X_need_number fa)) rest E Q := callX_s ha (number_no hb k)
theorem num_e {lo hi : Int} (hb : numB v lo hi = true) (ha : ∀ K : List Sl → Prop, K [.val v, .val (.int lo), .val (.int hi)] → fa E K) (k : Q (.nx E)) : sExpr (eCallX px X_need_number fa) E Q := callX_e ha (number_yes hb k)
theorem num_ex {lo hi : Int} (hb : numB v lo hi = false) (ha : ∀ K : List Sl → Prop, K [.val v, .val (.int lo), .val (.int hi)] → fa E K) (k : px ⟨"BadNumber", none⟩) : sExpr (eCallX px X_need_number fa) E Q := callX_e ha (number_no hb k)
theorem lot_s (hb : lotB h.length v = true) (ha : ∀ K : List Sl → Prop, K [.val (houseD h), .val v] → fa E K) (k : rest E Q) : sSeq (sExpr (eCallX px X_need_lot fa)) rest E Q := callX_s ha (lot_all (fun _ => k) fun e => by rw [hb] at e; cases e)
theorem lot_x (hb : lotB h.length v = false) (ha : ∀ K : List Sl → Prop, K [.val (houseD h), .val v] → fa E K) (k : px ⟨"BadLot", none⟩) : sSeq (sExpr (eCallX px X_need_lot fa)) rest E Q := callX_s ha (lot_all (fun e => by rw [hb] at e; cases e) fun _ => k)
theorem some_x (hb : rowOk h.length v = false) (ha : ∀ K : List Sl → Prop, K [.val (houseD h), .val v] → fa E K) (k : px ⟨"BadLot", none⟩) : sSeq (sExpr (eCallX px X_need_some fa)) rest E Q := callX_s ha (some_no hb k)
theorem some_ex (hb : rowOk h.length v = false) (ha : ∀ K : List Sl → Prop, K [.val (houseD h), .val v] → fa E K) (k : px ⟨"BadLot", none⟩) : sExpr (eCallX px X_need_some fa) E Q := callX_e ha (some_no hb k)
end
theorem after_h (hr : houseR v = some c) (hP : P (badH c)) : X_after [.val v, .val u, .val g] P := ⟨rfl, house_x hr (fun K k => k) hP⟩
theorem slate_number_h (hr : houseR v = some c) (hP : P (badH c)) : X_slate_number [.val v] P := ⟨rfl, house_x hr (fun K k => k) hP⟩
theorem number_of_h (hr : houseR v = some c) (hP : P (badH c)) : X_number_of [.val v, .val u] P := ⟨rfl, house_x hr (fun K k => k) hP⟩
theorem need_all_h (hr : houseR v = some c) (hP : P (badH c)) : X_need_all [.val v, .val u, .val g] P := ⟨rfl, house_x hr (fun K k => k) hP⟩
theorem bears_h (hr : houseR v = some c) (hP : P (badH c)) : X_bears [.val v, .val u, .val g] P := ⟨rfl, house_x hr (fun K k => k) hP⟩
theorem lot_bears_h (hr : houseR v = some c) (hP : P (badH c)) : X_lot_bears [.val v, .val u, .val g, .val t] P := ⟨rfl, house_x hr (fun K k => k) hP⟩
theorem days_borne_h (hr : houseR v = some c) (hP : P (badH c)) : X_days_borne [.val v, .val u, .val g] P := ⟨rfl, house_x hr (fun K k => k) hP⟩
theorem best_lots_h (hr : houseR v = some c) (hP : P (badH c)) : X_best_lots [.val v] P := ⟨rfl, house_x hr (fun K k => k) hP⟩
theorem morning_h (hr : houseR v = some c) (hP : P (badH c)) : X_morning [.val v, .val u, .val g] P := ⟨rfl, house_x hr (fun K k => k) hP⟩
theorem course_h (hr : houseR v = some c) (hP : P (badH c)) : X_course [.val v, .val u, .val g, .val t] P := ⟨rfl, house_x hr (fun K k => k) hP⟩
theorem need_few_h (hr : houseR v = some c) (hP : P (badH c)) : X_need_few [.val v, .val u, .val g] P := ⟨rfl, house_x hr (fun K k => k) hP⟩
theorem crew_h (hr : houseR v = some c) (hP : P (badH c)) : X_crew [.val v, .val u] P := ⟨rfl, house_x hr (fun K k => k) hP⟩
theorem crew_number_h (hr : houseR v = some c) (hP : P (badH c)) : X_crew_number [.val v] P := ⟨rfl, house_x hr (fun K k => k) hP⟩
theorem beside_h (hr : houseR v = some c) (hP : P (badH c)) : X_beside [.val v, .val u] P := ⟨rfl, house_x hr (fun K k => k) hP⟩
theorem with_sight_h (hr : houseR v = some c) (hP : P (badH c)) : X_with_sight [.val v, .val u, .val g] P := ⟨rfl, house_x hr (fun K k => k) hP⟩
theorem best_sight_h (hr : houseR v = some c) (hP : P (badH c)) : X_best_sight [.val v] P := ⟨rfl, house_x hr (fun K k => k) hP⟩
theorem spare_sights_h (hr : houseR v = some c) (hP : P (badH c)) : X_spare_sights [.val v] P := ⟨rfl, house_x hr (fun K k => k) hP⟩
theorem could_be_h {w : PyData} (hr : houseR v = some c) (hP : P (badH c)) : X_could_be [.val v, .val u, .val g, .val t, .val w] P := ⟨rfl, house_x hr (fun K k => k) hP⟩
theorem bench_h {a : Addr} (hr : houseR v = some c) (hP : P (badH c)) : X_Bench___init__ [.adr a, .val v, .val u, .val g] P := ⟨rfl, house_x hr (fun K k => k) hP⟩
theorem days_to_h (hr : houseR v = some c) (hP : P (badH c)) : X_days_to [.val v, .val u, .val g] P := ⟨rfl, callX_s (as := [.val v, .val u, .val g]) (fun K k => k) (need_all_h hr hP)⟩
theorem cover_row_h (hr : houseR v = some c) (hP : P (badH c)) : X_cover_row [.val v, .val u, .val g] P := ⟨rfl, callX_s (as := [.val v, .val u, .val g]) (fun K k => k) (need_all_h hr hP)⟩
theorem closed_family_h (hr : houseR v = some c) (hP : P (badH c)) : X_closed_family [.val v, .val u, .val g] P := ⟨rfl, callX_s (as := [.val v, .val u, .val g]) (fun K k => k) (need_all_h hr hP)⟩
theorem shows_cover_row_h (hr : houseR v = some c) (hP : P (badH c)) : X_shows_cover_row [.val v, .val u, .val g, .val t] P := ⟨rfl, callX_s (as := [.val v, .val u, .val g]) (fun K k => k) (need_all_h hr hP)⟩
theorem shows_closed_family_h (hr : houseR v = some c) (hP : P (badH c)) : X_shows_closed_family [.val v, .val u, .val g, .val t] P := ⟨rfl, callX_s (as := [.val v, .val u, .val g]) (fun K k => k) (need_all_h hr hP)⟩
theorem tells_h (hr : houseR v = some c) (hP : P (badH c)) : X_tells [.val v, .val u, .val g] P := ⟨rfl, callX_s (as := [.val v, .val u, .val g]) (fun K k => k) (need_few_h hr hP)⟩
theorem days_told_h (hr : houseR v = some c) (hP : P (badH c)) : X_days_told [.val v, .val u, .val g] P := ⟨rfl, callX_s (as := [.val v, .val u, .val g]) (fun K k => k) (need_few_h hr hP)⟩
theorem two_courses_h (hr : houseR v = some c) (hP : P (badH c)) : X_two_courses [.val v, .val u, .val g] P := ⟨rfl, callX_s (as := [.val v, .val u, .val g]) (fun K k => k) (need_few_h hr hP)⟩
theorem shows_two_courses_h (hr : houseR v = some c) (hP : P (badH c)) : X_shows_two_courses [.val v, .val u, .val g, .val t] P := ⟨rfl, callX_s (as := [.val v, .val u, .val g]) (fun K k => k) (need_few_h hr hP)⟩
theorem after_l1 (hh : HouseOk h) (hb : lotB h.length v = false) (hP : P badL) : X_after [.val (houseD h), .val v, .val u] P := ⟨rfl, house_s hh (fun K k => k) (lot_x hb (fun K k => k) hP)⟩
theorem after_l2 (hh : HouseOk h) (hu : lotB h.length u = true) (hb : lotB h.length v = false) (hP : P badL) : X_after [.val (houseD h), .val u, .val v] P := ⟨rfl, house_s hh (fun K k => k) (lot_s hu (fun K k => k) (lot_x hb (fun K k => k) hP))⟩
theorem number_of_l (hh : HouseOk h) (hb : rowOk h.length v = false) (hP : P badL) : X_number_of [.val (houseD h), .val v] P := ⟨rfl, house_s hh (fun K k => k) (some_x hb (fun K k => k) hP)⟩
theorem need_all_l (hh : HouseOk h) (hu : numB u 0 7 = true) (hb : rowOk h.length v = false) (hP : P badL) : X_need_all [.val (houseD h), .val u, .val v] P := ⟨rfl, house_s hh (fun K k => k) (num_s hu (fun K k => k) (some_ex hb (fun K k => k) hP))⟩
theorem need_all_n (hh : HouseOk h) (hb : numB v 0 7 = false) (hP : P badN) : X_need_all [.val (houseD h), .val v, .val u] P := ⟨rfl, house_s hh (fun K k => k) (num_x hb (fun K k => k) hP)⟩
theorem days_to_l (hh : HouseOk h) (hu : numB u 0 7 = true) (hb : rowOk h.length v = false) (hP : P badL) : X_days_to [.val (houseD h), .val u, .val v] P := ⟨rfl, callX_s (as := [.val (houseD h), .val u, .val v]) (fun K k => k) (need_all_l hh hu hb hP)⟩
theorem days_to_n (hh : HouseOk h) (hb : numB v 0 7 = false) (hP : P badN) : X_days_to [.val (houseD h), .val v, .val u] P := ⟨rfl, callX_s (as := [.val (houseD h), .val v, .val u]) (fun K k => k) (need_all_n hh hb hP)⟩
theorem cover_row_l (hh : HouseOk h) (hu : numB u 0 7 = true) (hb : rowOk h.length v = false) (hP : P badL) : X_cover_row [.val (houseD h), .val u, .val v] P := ⟨rfl, callX_s (as := [.val (houseD h), .val u, .val v]) (fun K k => k) (need_all_l hh hu hb hP)⟩
theorem cover_row_n (hh : HouseOk h) (hb : numB v 0 7 = false) (hP : P badN) : X_cover_row [.val (houseD h), .val v, .val u] P := ⟨rfl, callX_s (as := [.val (houseD h), .val v, .val u]) (fun K k => k) (need_all_n hh hb hP)⟩
theorem closed_family_l (hh : HouseOk h) (hu : numB u 0 7 = true) (hb : rowOk h.length v = false) (hP : P badL) : X_closed_family [.val (houseD h), .val u, .val v] P := ⟨rfl, callX_s (as := [.val (houseD h), .val u, .val v]) (fun K k => k) (need_all_l hh hu hb hP)⟩
theorem closed_family_n (hh : HouseOk h) (hb : numB v 0 7 = false) (hP : P badN) : X_closed_family [.val (houseD h), .val v, .val u] P := ⟨rfl, callX_s (as := [.val (houseD h), .val v, .val u]) (fun K k => k) (need_all_n hh hb hP)⟩
theorem shows_cover_row_l (hh : HouseOk h) (hu : numB u 0 7 = true) (hb : rowOk h.length v = false) (hP : P badL) : X_shows_cover_row [.val (houseD h), .val u, .val v, .val t] P := ⟨rfl, callX_s (as := [.val (houseD h), .val u, .val v]) (fun K k => k) (need_all_l hh hu hb hP)⟩
theorem shows_cover_row_n (hh : HouseOk h) (hb : numB v 0 7 = false) (hP : P badN) : X_shows_cover_row [.val (houseD h), .val v, .val u, .val t] P := ⟨rfl, callX_s (as := [.val (houseD h), .val v, .val u]) (fun K k => k) (need_all_n hh hb hP)⟩
theorem shows_closed_family_l (hh : HouseOk h) (hu : numB u 0 7 = true) (hb : rowOk h.length v = false) (hP : P badL) : X_shows_closed_family [.val (houseD h), .val u, .val v, .val t] P := ⟨rfl, callX_s (as := [.val (houseD h), .val u, .val v]) (fun K k => k) (need_all_l hh hu hb hP)⟩
theorem shows_closed_family_n (hh : HouseOk h) (hb : numB v 0 7 = false) (hP : P badN) : X_shows_closed_family [.val (houseD h), .val v, .val u, .val t] P := ⟨rfl, callX_s (as := [.val (houseD h), .val v, .val u]) (fun K k => k) (need_all_n hh hb hP)⟩
theorem enem_1 (hb : numB v 0 7 = false) (hP : P badN) : X_need_enemies [.val v, .val u] P := ⟨rfl, num_x hb (fun K k => k) hP⟩
theorem enem_2 (hu : numB u 0 7 = true) (hb : numB v 0 7 = false) (hP : P badN) : X_need_enemies [.val u, .val v] P := ⟨rfl, num_s hu (fun K k => k) (num_ex hb (fun K k => k) hP)⟩
theorem enem_0 (hu : numB u 0 7 = true) (hv : numB v 0 7 = true) (hP : P (.ret .none)) : X_need_enemies [.val u, .val v] P := ⟨rfl, num_s hu (fun K k => k) (num_e hv (fun K k => k) hP)⟩
theorem bears_1 (hh : HouseOk h) (hb : numB v 0 7 = false) (hP : P badN) : X_bears [.val (houseD h), .val v, .val u] P := ⟨rfl, house_s hh (fun K k => k) (callX_s (as := [.val v, .val u]) (fun K k => k) (enem_1 hb hP))⟩
theorem bears_2 (hh : HouseOk h) (hu : numB u 0 7 = true) (hb : numB v 0 7 = false) (hP : P badN) : X_bears [.val (houseD h), .val u, .val v] P := ⟨rfl, house_s hh (fun K k => k) (callX_s (as := [.val u, .val v]) (fun K k => k) (enem_2 hu hb hP))⟩
theorem days_borne_1 (hh : HouseOk h) (hb : numB v 0 7 = false) (hP : P badN) : X_days_borne [.val (houseD h), .val v, .val u] P := ⟨rfl, house_s hh (fun K k => k) (callX_s (as := [.val v, .val u]) (fun K k => k) (enem_1 hb hP))⟩
theorem days_borne_2 (hh : HouseOk h) (hu : numB u 0 7 = true) (hb : numB v 0 7 = false) (hP : P badN) : X_days_borne [.val (houseD h), .val u, .val v] P := ⟨rfl, house_s hh (fun K k => k) (callX_s (as := [.val u, .val v]) (fun K k => k) (enem_2 hu hb hP))⟩
theorem lot_bears_1 (hh : HouseOk h) (hb : numB v 0 7 = false) (hP : P badN) : X_lot_bears [.val (houseD h), .val v, .val u, .val t] P := ⟨rfl, house_s hh (fun K k => k) (callX_s (as := [.val v, .val u]) (fun K k => k) (enem_1 hb hP))⟩
theorem lot_bears_2 (hh : HouseOk h) (hu : numB u 0 7 = true) (hb : numB v 0 7 = false) (hP : P badN) : X_lot_bears [.val (houseD h), .val u, .val v, .val t] P := ⟨rfl, house_s hh (fun K k => k) (callX_s (as := [.val u, .val v]) (fun K k => k) (enem_2 hu hb hP))⟩
theorem lot_bears_l (hh : HouseOk h) (hu : numB u 0 7 = true) (hg : numB g 0 7 = true) (hb : rowOk h.length v = false) (hP : P badL) : X_lot_bears [.val (houseD h), .val u, .val g, .val v] P := ⟨rfl, house_s hh (fun K k => k) (callX_s (as := [.val u, .val g]) (fun K k => k) (enem_0 hu hg (some_x hb (fun K k => k) hP)))⟩
theorem crew_n (hh : HouseOk h) (hb : numB v 1 7 = false) (hP : P badN) : X_crew [.val (houseD h), .val v] P := ⟨rfl, house_s hh (fun K k => k) (num_x hb (fun K k => k) hP)⟩
theorem len_h (h : List (List Nat)) : lenOf (houseD h) = some h.length := by show some ((h.map lotD).length) = _; rw [List.length_map]
theorem with_sight_1 (hh : HouseOk h) (hb : numB v 0 ((h.length : Int) - 1) = false) (hP : P badN) : X_with_sight [.val (houseD h), .val v, .val u] P :=
  ⟨rfl, house_s hh (fun K k => k) (num_x (lo := 0) (hi := (h.length : Int) - 1) hb (fun K k => ⟨h.length, len_h h, k⟩) hP)⟩
theorem with_sight_2 (hh : HouseOk h) (hu : numB u 0 ((h.length : Int) - 1) = true) (hb : numB v 0 ((h.length : Int) - 1) = false) (hP : P badN) : X_with_sight [.val (houseD h), .val u, .val v] P := by
  refine ⟨rfl, house_s hh (fun K k => k) (num_s (lo := 0) (hi := (h.length : Int) - 1) hu (fun K k => ⟨h.length, len_h h, k⟩) ⟨h.length, len_h h, is_number_all ⟨_, rfl, ?_⟩⟩)⟩
  rw [hb]
  exact iteT (iteT hP)
theorem with_sight_3 {r : List Nat} {s : Nat} (hh : HouseOk h) (hr : h[0]? = some r) (hs : r[0]? = some s) (hP : P badN) : X_with_sight [.val (houseD h), .val (.int 0), .val (iD s)] P := by
  have hlt : 0 < h.length := (List.getElem?_eq_some_iff.mp hr).1
  have er : h[0] = r := (List.getElem?_eq_some_iff.mp hr).2
  have hrow := hh.row r (er ▸ List.getElem_mem hlt)
  have hmem : s ∈ r := List.mem_of_getElem? hs
  have hsl := hrow.2.2 s hmem
  have hu : numB (.int 0) 0 ((h.length : Int) - 1) = true := decide_eq_true (by omega)
  have hv : numB (iD s) 0 ((h.length : Int) - 1) = true := decide_eq_true (by omega)
  refine ⟨rfl, house_s hh (fun K k => k) (num_s (lo := 0) (hi := (h.length : Int) - 1) hu (fun K k => ⟨h.length, len_h h, k⟩) ⟨h.length, len_h h, is_number_all ⟨_, rfl, ?_⟩⟩)⟩
  rw [hv]
  refine iteF ⟨h.map lotD, 0, lotD r, rfl, rfl, by have := lot_at hlt; rw [er] at this; exact this, eqOk_int _, eqOk_lot _, r.map iD, rfl, true, ?_, iteT hP⟩
  show PyData.bool ((r.map iD).any fun z => PyData.eqv z (iD s)) = _
  rw [any_int, decide_eq_true hmem]
theorem beside_1 (hh : HouseOk h) (hr : houseR v = some c) (hP : P (badH c)) : X_beside [.val (houseD h), .val v] P := ⟨rfl, house_s hh (fun K k => k) (house_x hr (fun K k => k) hP)⟩
theorem beside_2 {h2 : List (List Nat)} (hh : HouseOk h) (hh2 : HouseOk h2) (hm : 7 < h.length + h2.length) (hP : P badM) : X_beside [.val (houseD h), .val (houseD h2)] P := by
  refine ⟨rfl, house_s hh (fun K k => k) (house_s hh2 (fun K k => k) ⟨h.length, len_h h, h2.length, len_h h2, true, ?_, iteT hP⟩)⟩
  show PyData.bool (decide ((7 : Int) < (h.length : Int) + (h2.length : Int))) = _
  rw [decide_eq_true (by omega)]
end
end K07
set_option Elab.async false
set_option linter.all false
set_option maxRecDepth 100000
set_option maxHeartbeats 200000
namespace K07
open PySem PySem.Spec PyProof.Rows L2 DL
theorem pick_ok {ds : List PyData} {Q : PyData → Prop} (h0 : ds ≠ []) (hs : ds.length ≤ 100000) (hQ : ∀ d ∈ ds, Q d) : F__law_pick [.row, .val (.list ds)] Q := by
  have hp : 0 < ds.length := List.length_pos_iff.mpr h0
  refine ⟨rfl, ds.length, rfl, ds.length, rfl, by omega, by omega, fun v v0 v1 => ?_⟩
  obtain ⟨w, rfl⟩ : ∃ w : Nat, v = (w : Int) := ⟨v.toNat, by omega⟩
  have hw : w < ds.length := by omega
  refine ⟨ds, w, ds[w], rfl, rfl, ?_, hQ _ (List.getElem_mem hw)⟩
  unfold atI
  rw [ixN_at hw]
  exact List.getElem?_eq_getElem hw
/-! ### what a lambda does -/
section
variable {n : Nat} {fa : Ed → Dm (List Sl)} {as bs : List Sl} {Q : OutC → Prop}
theorem lam_x {F : FfX} (hl : as.length = n) (ha : ∀ K : List Sl → Prop, K bs → fa (as ++ List.replicate (n - n) .no) K) (hF : F bs fun o => match o with | .ret d => Q (.ret d) | .exc e => Q (.exc e)) : runL n n (fun px => eCallX px F fa) as Q := ⟨hl, ha _ hF⟩
theorem lam_a {tbl : List (Addr × FfX)} {i : Nat} {a : Addr} (F : FfX) (hl : as.length = n) (hm : (a, F) ∈ tbl) (hi : (as ++ List.replicate (n - n) .no)[i]? = some (.adr a)) (ha : ∀ K : List Sl → Prop, K bs → fa (as ++ List.replicate (n - n) .no) K) (hF : F bs fun o => match o with | .ret d => Q (.ret d) | .exc e => Q (.exc e)) : runL n n (fun px => eCallA px i tbl fa) as Q := ⟨hl, (a, F), hm, hi, ha _ hF⟩
theorem lam_m {F : FfX} (hl : as.length = n) (ha : ∀ K : List Sl → Prop, K bs → fa (as ++ List.replicate (n - n) .no) K) (hF : ∀ a, F (.adr a :: bs) fun o => match o with | .ret _ => False | .exc e => Q (.exc e)) : runL n n (fun px => eMakeX px F fa) as Q := ⟨hl, ha _ hF⟩
end
/-! ### an answer compared -/
section
variable {L : LamI} {as : List Sl} {w : PyData} {f : Fe} {E : Ed} {Q : Out → Prop}
theorem ref_if (hp : L.par = none) (hc : Caught E L.js as) (hF : L.F as (fun o => RefIs RefR o w)) (hf : ∀ K : PyData → Prop, K w → f E K) (ok : eqOk w) (sf : PyData.eqv w w = true) (hQ : Q (.nx E)) : sIf (asB (eOp oNe (eRef L RefR) f)) (sRet (eC (.bool false))) sNil E Q := by
  refine ⟨as, w, hc, by rw [hp]; exact hF, hf _ ⟨ok, ok, _, rfl, ?_⟩⟩
  rw [sf]
  exact iteF hQ
theorem ref_ret (hp : L.par = none) (hc : Caught E L.js as) (hF : L.F as (fun o => RefIs RefR o w)) (hf : ∀ K : PyData → Prop, K w → f E K) (ok : eqOk w) (sf : PyData.eqv w w = true) (hQ : Q (.rt (.bool true))) : sRet (eOp oEq (eRef L RefR) f) E Q := by
  refine ⟨as, w, hc, by rw [hp]; exact hF, hf _ ⟨ok, ok, ?_⟩⟩
  show Q (.rt (.bool (PyData.eqv w w)))
  rw [sf]
  exact hQ
theorem forA_ok {i : Nat} {body : Fs} {E0 : Ed} : ∀ {as : List Addr} {s : Sl}, (∀ a ∈ as, ∀ Q' : Out → Prop, Q' (.nx (E0.set i (.adr a))) → body (E0.set i (.adr a)) Q') → (∀ s', Q (.nx (E0.set i s'))) → forA i body as (E0.set i s) Q
  | [], s, _, hQ => hQ s
  | a :: as, s, hb, hQ => by
    show body ((E0.set i s).set i (.adr a)) _
    rw [List.set_set]
    refine hb a List.mem_cons_self _ ?_
    exact forA_ok (fun b hm => hb b (List.mem_cons_of_mem _ hm)) hQ
end

section
variable {K : PySem.W.Frag} {h : List (List Nat)} {v c : PyData}
abbrev dueH (c : PyData) : PyData := .tuple [.str "house", c]
theorem l0_ok {a : Addr} (ha : a ∈ ([He.fAd K ("slate_number", none), He.fAd K ("best_lots", none), He.fAd K ("crew_number", none), He.fAd K ("best_sight", none), He.fAd K ("spare_sights", none)] : List Addr)) (hr : houseR v = some c) : (lam_0 K).F [.adr a, .val v] (fun o => RefIs RefR o (dueH c)) := by
  have hm : a = He.fAd K ("slate_number", none) ∨ a = He.fAd K ("best_lots", none) ∨ a = He.fAd K ("crew_number", none) ∨ a = He.fAd K ("best_sight", none) ∨ a = He.fAd K ("spare_sights", none) := by simpa using ha
  rw [lamF_0]
  rcases hm with rfl | rfl | rfl | rfl | rfl
  · exact lam_a (bs := [.val v]) X_slate_number rfl (.head _) rfl (fun K k => k) (slate_number_h hr (RefR.house _))
  · exact lam_a (bs := [.val v]) X_best_lots rfl (.tail _ (.head _)) rfl (fun K k => k) (best_lots_h hr (RefR.house _))
  · exact lam_a (bs := [.val v]) X_crew_number rfl (.tail _ (.tail _ (.head _))) rfl (fun K k => k) (crew_number_h hr (RefR.house _))
  · exact lam_a (bs := [.val v]) X_best_sight rfl (.tail _ (.tail _ (.tail _ (.head _)))) rfl (fun K k => k) (best_sight_h hr (RefR.house _))
  · exact lam_a (bs := [.val v]) X_spare_sights rfl (.tail _ (.tail _ (.tail _ (.tail _ (.head _))))) rfl (fun K k => k) (spare_sights_h hr (RefR.house _))
theorem l1_ok {a : Addr} (ha : a ∈ ([He.fAd K ("number_of", none), He.fAd K ("crew", none), He.fAd K ("beside", none)] : List Addr)) (hr : houseR v = some c) : (lam_1 K).F [.adr a, .val v] (fun o => RefIs RefR o (dueH c)) := by
  have hm : a = He.fAd K ("number_of", none) ∨ a = He.fAd K ("crew", none) ∨ a = He.fAd K ("beside", none) := by simpa using ha
  rw [lamF_1]
  rcases hm with rfl | rfl | rfl
  · exact lam_a (bs := [.val v, .val .none]) X_number_of rfl (.head _) rfl (fun K k => k) (number_of_h hr (RefR.house _))
  · exact lam_a (bs := [.val v, .val .none]) X_crew rfl (.tail _ (.head _)) rfl (fun K k => k) (crew_h hr (RefR.house _))
  · exact lam_a (bs := [.val v, .val .none]) X_beside rfl (.tail _ (.tail _ (.head _))) rfl (fun K k => k) (beside_h hr (RefR.house _))
theorem l2_ok {a : Addr} (ha : a ∈ ([He.fAd K ("after", none), He.fAd K ("days_to", none), He.fAd K ("cover_row", none), He.fAd K ("closed_family", none), He.fAd K ("bears", none), He.fAd K ("days_borne", none), He.fAd K ("with_sight", none)] : List Addr)) (hr : houseR v = some c) : (lam_2 K).F [.adr a, .val v] (fun o => RefIs RefR o (dueH c)) := by
  have hm : a = He.fAd K ("after", none) ∨ a = He.fAd K ("days_to", none) ∨ a = He.fAd K ("cover_row", none) ∨ a = He.fAd K ("closed_family", none) ∨ a = He.fAd K ("bears", none) ∨ a = He.fAd K ("days_borne", none) ∨ a = He.fAd K ("with_sight", none) := by simpa using ha
  rw [lamF_2]
  rcases hm with rfl | rfl | rfl | rfl | rfl | rfl | rfl
  · exact lam_a (bs := [.val v, .val .none, .val .none]) X_after rfl (.head _) rfl (fun K k => k) (after_h hr (RefR.house _))
  · exact lam_a (bs := [.val v, .val .none, .val .none]) X_days_to rfl (.tail _ (.head _)) rfl (fun K k => k) (days_to_h hr (RefR.house _))
  · exact lam_a (bs := [.val v, .val .none, .val .none]) X_cover_row rfl (.tail _ (.tail _ (.head _))) rfl (fun K k => k) (cover_row_h hr (RefR.house _))
  · exact lam_a (bs := [.val v, .val .none, .val .none]) X_closed_family rfl (.tail _ (.tail _ (.tail _ (.head _)))) rfl (fun K k => k) (closed_family_h hr (RefR.house _))
  · exact lam_a (bs := [.val v, .val .none, .val .none]) X_bears rfl (.tail _ (.tail _ (.tail _ (.tail _ (.head _))))) rfl (fun K k => k) (bears_h hr (RefR.house _))
  · exact lam_a (bs := [.val v, .val .none, .val .none]) X_days_borne rfl (.tail _ (.tail _ (.tail _ (.tail _ (.tail _ (.head _)))))) rfl (fun K k => k) (days_borne_h hr (RefR.house _))
  · exact lam_a (bs := [.val v, .val .none, .val .none]) X_with_sight rfl (.tail _ (.tail _ (.tail _ (.tail _ (.tail _ (.tail _ (.head _))))))) rfl (fun K k => k) (with_sight_h hr (RefR.house _))
theorem l3_ok {a : Addr} (ha : a ∈ ([He.fAd K ("morning", none), He.fAd K ("tells", none), He.fAd K ("days_told", none), He.fAd K ("two_courses", none)] : List Addr)) (hr : houseR v = some c) : (lam_3 K).F [.adr a, .val v] (fun o => RefIs RefR o (dueH c)) := by
  have hm : a = He.fAd K ("morning", none) ∨ a = He.fAd K ("tells", none) ∨ a = He.fAd K ("days_told", none) ∨ a = He.fAd K ("two_courses", none) := by simpa using ha
  rw [lamF_3]
  rcases hm with rfl | rfl | rfl | rfl
  · exact lam_a (bs := [.val v, .val .none, .val .none]) X_morning rfl (.head _) rfl (fun K k => k) (morning_h hr (RefR.house _))
  · exact lam_a (bs := [.val v, .val .none, .val .none]) X_tells rfl (.tail _ (.head _)) rfl (fun K k => k) (tells_h hr (RefR.house _))
  · exact lam_a (bs := [.val v, .val .none, .val .none]) X_days_told rfl (.tail _ (.tail _ (.head _))) rfl (fun K k => k) (days_told_h hr (RefR.house _))
  · exact lam_a (bs := [.val v, .val .none, .val .none]) X_two_courses rfl (.tail _ (.tail _ (.tail _ (.head _)))) rfl (fun K k => k) (two_courses_h hr (RefR.house _))
theorem l4_ok {a : Addr} (ha : a ∈ ([He.fAd K ("shows_cover_row", none), He.fAd K ("shows_closed_family", none), He.fAd K ("lot_bears", none), He.fAd K ("course", none), He.fAd K ("shows_two_courses", none)] : List Addr)) (hr : houseR v = some c) : (lam_4 K).F [.adr a, .val v] (fun o => RefIs RefR o (dueH c)) := by
  have hm : a = He.fAd K ("shows_cover_row", none) ∨ a = He.fAd K ("shows_closed_family", none) ∨ a = He.fAd K ("lot_bears", none) ∨ a = He.fAd K ("course", none) ∨ a = He.fAd K ("shows_two_courses", none) := by simpa using ha
  rw [lamF_4]
  rcases hm with rfl | rfl | rfl | rfl | rfl
  · exact lam_a (bs := [.val v, .val .none, .val .none, .val .none]) X_shows_cover_row rfl (.head _) rfl (fun K k => k) (shows_cover_row_h hr (RefR.house _))
  · exact lam_a (bs := [.val v, .val .none, .val .none, .val .none]) X_shows_closed_family rfl (.tail _ (.head _)) rfl (fun K k => k) (shows_closed_family_h hr (RefR.house _))
  · exact lam_a (bs := [.val v, .val .none, .val .none, .val .none]) X_lot_bears rfl (.tail _ (.tail _ (.head _))) rfl (fun K k => k) (lot_bears_h hr (RefR.house _))
  · exact lam_a (bs := [.val v, .val .none, .val .none, .val .none]) X_course rfl (.tail _ (.tail _ (.tail _ (.head _)))) rfl (fun K k => k) (course_h hr (RefR.house _))
  · exact lam_a (bs := [.val v, .val .none, .val .none, .val .none]) X_shows_two_courses rfl (.tail _ (.tail _ (.tail _ (.tail _ (.head _))))) rfl (fun K k => k) (shows_two_courses_h hr (RefR.house _))
theorem l5_ok (hr : houseR v = some c) : (lam_5 K).F [.val v] (fun o => RefIs RefR o (dueH c)) := by
  rw [lamF_5]
  exact lam_x (bs := [.val v, .val .none, .val .none, .val .none, .val .none]) rfl (fun K k => k) (could_be_h (w := .none) hr (RefR.house _))
theorem l6_ok (hr : houseR v = some c) : (lam_6 K).F [.val v] (fun o => RefIs RefR o (dueH c)) := by
  rw [lamF_6]
  exact lam_m (bs := [.val v, .val .none, .val .none]) rfl (fun K k => k) (fun a => bench_h hr (RefR.house _))
theorem l7_ok (hh : HouseOk h) (hb : rowOk h.length v = false) : (lam_7 K).F [.val (houseD h), .val v] (fun o => RefIs RefR o (.str "lot")) := by
  rw [lamF_7]
  exact lam_x (bs := [.val (houseD h), .val v]) rfl (fun K k => k) (number_of_l hh hb RefR.lot)
theorem l8_ok {a : Addr} (ha : a ∈ ([He.fAd K ("days_to", none), He.fAd K ("cover_row", none), He.fAd K ("closed_family", none)] : List Addr)) (hh : HouseOk h) (hb : rowOk h.length v = false) : (lam_8 K).F [.adr a, .val (houseD h), .val v] (fun o => RefIs RefR o (.str "lot")) := by
  have hm : a = He.fAd K ("days_to", none) ∨ a = He.fAd K ("cover_row", none) ∨ a = He.fAd K ("closed_family", none) := by simpa using ha
  rw [lamF_8]
  rcases hm with rfl | rfl | rfl
  · exact lam_a (bs := [.val (houseD h), .val (.int 0), .val v]) X_days_to rfl (.head _) rfl (fun K k => k) (days_to_l hh rfl hb RefR.lot)
  · exact lam_a (bs := [.val (houseD h), .val (.int 0), .val v]) X_cover_row rfl (.tail _ (.head _)) rfl (fun K k => k) (cover_row_l hh rfl hb RefR.lot)
  · exact lam_a (bs := [.val (houseD h), .val (.int 0), .val v]) X_closed_family rfl (.tail _ (.tail _ (.head _))) rfl (fun K k => k) (closed_family_l hh rfl hb RefR.lot)
theorem l9_ok {a : Addr} (ha : a ∈ ([He.fAd K ("shows_cover_row", none), He.fAd K ("shows_closed_family", none)] : List Addr)) (hh : HouseOk h) (hb : rowOk h.length v = false) : (lam_9 K).F [.adr a, .val (houseD h), .val v] (fun o => RefIs RefR o (.str "lot")) := by
  have hm : a = He.fAd K ("shows_cover_row", none) ∨ a = He.fAd K ("shows_closed_family", none) := by simpa using ha
  rw [lamF_9]
  rcases hm with rfl | rfl
  · exact lam_a (bs := [.val (houseD h), .val (.int 0), .val v, .val .none]) X_shows_cover_row rfl (.head _) rfl (fun K k => k) (shows_cover_row_l hh rfl hb RefR.lot)
  · exact lam_a (bs := [.val (houseD h), .val (.int 0), .val v, .val .none]) X_shows_closed_family rfl (.tail _ (.head _)) rfl (fun K k => k) (shows_closed_family_l hh rfl hb RefR.lot)
theorem l10_ok (hh : HouseOk h) (hb : rowOk h.length v = false) : (lam_10 K).F [.val (houseD h), .val v] (fun o => RefIs RefR o (.str "lot")) := by
  rw [lamF_10]
  exact lam_x (bs := [.val (houseD h), .val (.int 0), .val (.int 0), .val v]) rfl (fun K k => k) (lot_bears_l hh rfl rfl hb RefR.lot)
theorem l11_ok (hh : HouseOk h) (hb : lotB h.length v = false) : (lam_11 K).F [.val (houseD h), .val v] (fun o => RefIs RefR o (.str "lot")) := by
  rw [lamF_11]
  exact lam_x (bs := [.val (houseD h), .val v, .val .none]) rfl (fun K k => k) (after_l1 hh hb RefR.lot)
theorem l12_ok (hh : HouseOk h) (hb : lotB h.length v = false) : (lam_12 K).F [.val (houseD h), .val v] (fun o => RefIs RefR o (.str "lot")) := by
  rw [lamF_12]
  exact lam_x (bs := [.val (houseD h), .val (.tuple []), .val v]) rfl (fun K k => ⟨by show 0 ≤ sizeLine; decide, k⟩) (after_l2 hh rfl hb RefR.lot)
theorem l13_ok {a : Addr} (ha : a ∈ ([He.fAd K ("days_to", none), He.fAd K ("cover_row", none), He.fAd K ("closed_family", none)] : List Addr)) (hh : HouseOk h) (hb : numB v 0 7 = false) : (lam_13 K).F [.adr a, .val (houseD h), .val v] (fun o => RefIs RefR o (.str "number")) := by
  have hm : a = He.fAd K ("days_to", none) ∨ a = He.fAd K ("cover_row", none) ∨ a = He.fAd K ("closed_family", none) := by simpa using ha
  rw [lamF_13]
  rcases hm with rfl | rfl | rfl
  · exact lam_a (bs := [.val (houseD h), .val v, .val .none]) X_days_to rfl (.head _) rfl (fun K k => k) (days_to_n hh hb RefR.number)
  · exact lam_a (bs := [.val (houseD h), .val v, .val .none]) X_cover_row rfl (.tail _ (.head _)) rfl (fun K k => k) (cover_row_n hh hb RefR.number)
  · exact lam_a (bs := [.val (houseD h), .val v, .val .none]) X_closed_family rfl (.tail _ (.tail _ (.head _))) rfl (fun K k => k) (closed_family_n hh hb RefR.number)
theorem l14_ok {a : Addr} (ha : a ∈ ([He.fAd K ("shows_cover_row", none), He.fAd K ("shows_closed_family", none), He.fAd K ("lot_bears", none)] : List Addr)) (hh : HouseOk h) (hb : numB v 0 7 = false) : (lam_14 K).F [.adr a, .val (houseD h), .val v] (fun o => RefIs RefR o (.str "number")) := by
  have hm : a = He.fAd K ("shows_cover_row", none) ∨ a = He.fAd K ("shows_closed_family", none) ∨ a = He.fAd K ("lot_bears", none) := by simpa using ha
  rw [lamF_14]
  rcases hm with rfl | rfl | rfl
  · exact lam_a (bs := [.val (houseD h), .val v, .val .none, .val .none]) X_shows_cover_row rfl (.head _) rfl (fun K k => k) (shows_cover_row_n hh hb RefR.number)
  · exact lam_a (bs := [.val (houseD h), .val v, .val .none, .val .none]) X_shows_closed_family rfl (.tail _ (.head _)) rfl (fun K k => k) (shows_closed_family_n hh hb RefR.number)
  · exact lam_a (bs := [.val (houseD h), .val v, .val .none, .val .none]) X_lot_bears rfl (.tail _ (.tail _ (.head _))) rfl (fun K k => k) (lot_bears_1 hh hb RefR.number)
theorem l15_ok {a : Addr} (ha : a ∈ ([He.fAd K ("bears", none), He.fAd K ("days_borne", none)] : List Addr)) (hh : HouseOk h) (hb : numB v 0 7 = false) : (lam_15 K).F [.adr a, .val (houseD h), .val v] (fun o => RefIs RefR o (.str "number")) := by
  have hm : a = He.fAd K ("bears", none) ∨ a = He.fAd K ("days_borne", none) := by simpa using ha
  rw [lamF_15]
  rcases hm with rfl | rfl
  · exact lam_a (bs := [.val (houseD h), .val v, .val .none]) X_bears rfl (.head _) rfl (fun K k => k) (bears_1 hh hb RefR.number)
  · exact lam_a (bs := [.val (houseD h), .val v, .val .none]) X_days_borne rfl (.tail _ (.head _)) rfl (fun K k => k) (days_borne_1 hh hb RefR.number)
theorem l16_ok {a : Addr} (ha : a ∈ ([He.fAd K ("bears", none), He.fAd K ("days_borne", none)] : List Addr)) (hh : HouseOk h) (hb : numB v 0 7 = false) : (lam_16 K).F [.adr a, .val (houseD h), .val v] (fun o => RefIs RefR o (.str "number")) := by
  have hm : a = He.fAd K ("bears", none) ∨ a = He.fAd K ("days_borne", none) := by simpa using ha
  rw [lamF_16]
  rcases hm with rfl | rfl
  · exact lam_a (bs := [.val (houseD h), .val (.int 0), .val v]) X_bears rfl (.head _) rfl (fun K k => k) (bears_2 hh rfl hb RefR.number)
  · exact lam_a (bs := [.val (houseD h), .val (.int 0), .val v]) X_days_borne rfl (.tail _ (.head _)) rfl (fun K k => k) (days_borne_2 hh rfl hb RefR.number)
theorem l17_ok (hh : HouseOk h) (hb : numB v 0 7 = false) : (lam_17 K).F [.val (houseD h), .val v] (fun o => RefIs RefR o (.str "number")) := by
  rw [lamF_17]
  exact lam_x (bs := [.val (houseD h), .val (.int 0), .val v, .val .none]) rfl (fun K k => k) (lot_bears_2 hh rfl hb RefR.number)
theorem l18_ok (hh : HouseOk h) (hb : numB v 1 7 = false) : (lam_18 K).F [.val (houseD h), .val v] (fun o => RefIs RefR o (.str "number")) := by
  rw [lamF_18]
  exact lam_x (bs := [.val (houseD h), .val v]) rfl (fun K k => k) (crew_n hh hb RefR.number)
theorem l19_ok (hh : HouseOk h) (hb : numB v 0 ((h.length : Int) - 1) = false) : (lam_19 K).F [.val (houseD h), .val v] (fun o => RefIs RefR o (.str "number")) := by
  rw [lamF_19]
  exact lam_x (bs := [.val (houseD h), .val v, .val .none]) rfl (fun K k => k) (with_sight_1 hh hb RefR.number)
theorem l20_ok (hh : HouseOk h) (hb : numB v 0 ((h.length : Int) - 1) = false) : (lam_20 K).F [.val (houseD h), .val v] (fun o => RefIs RefR o (.str "number")) := by
  rw [lamF_20]
  exact lam_x (bs := [.val (houseD h), .val (.int 0), .val v]) rfl (fun K k => k) (with_sight_2 hh (decide_eq_true (by have := hh.one; omega)) hb RefR.number)
theorem l21_ok (hh : HouseOk h) : (lam_21 K).F [.val (houseD h)] (fun o => RefIs RefR o (.str "number")) := by
  have hlt : 0 < h.length := hh.one
  have hrow := hh.row _ (List.getElem_mem hlt)
  cases hr : h[0] with
  | nil => exact absurd hr hrow.1
  | cons s l =>
    have e1 : atI (h.map lotD) (0 : Int) = some (lotD (s :: l)) := by have := lot_at hlt; rw [hr] at this; exact this
    have e2 : atI ((s :: l).map iD) (0 : Int) = some (iD s) := by
      unfold atI
      rw [show (0 : Int) = ((0 : Nat) : Int) from rfl, ixN_at (by simp)]
      rfl
    rw [lamF_21]
    refine lam_x (bs := [.val (houseD h), .val (.int 0), .val (iD s)]) rfl (fun K k => ⟨h.map lotD, 0, lotD (s :: l), rfl, rfl, e1, (s :: l).map iD, 0, iD s, rfl, rfl, e2, k⟩) (with_sight_3 (r := s :: l) hh (by rw [List.getElem?_eq_getElem hlt, hr]) rfl RefR.number)
def b1 : PyData := .tuple [.tuple [.int 0], .tuple []]
def h6 : List (List Nat) := List.replicate 6 [0]
theorem ok6 : HouseOk h6 := ⟨by decide, by decide, fun r hr => by
  have : r = [0] := (List.mem_replicate.mp hr).2
  subst this
  exact ⟨by decide, by decide, by decide⟩⟩
theorem b1_no : houseR b1 = some (.int 1) := rfl
theorem l22_ok (hh : HouseOk h) : (lam_22 K).F [.val (houseD h)] (fun o => RefIs RefR o (dueH (.int 1))) := by
  rw [lamF_22]
  exact lam_x (bs := [.val (houseD h), .val b1]) rfl (fun K k => ⟨by show 1 ≤ sizeLine; decide, by show 0 ≤ sizeLine; decide, by show 2 ≤ sizeLine; decide, k⟩) (beside_1 hh b1_no (RefR.house _))
theorem rep_e {f : Fe} {n : Nat} {x : PyData} {E : Ed} {Q : PyData → Prop} (ha : ∀ K : PyData → Prop, K (.tuple [x]) → f E K) (h1 : 2 ≤ n) (h2 : n ≤ 1000) (hQ : Q (.tuple (List.replicate n x))) : eOp oRepT f (eC (.int n)) E Q :=
  ha _ ⟨[x], n, rfl, rfl, by simp, h1, h2, by show 1 ≤ 1000; decide, by rw [List.flatten_replicate_singleton]; exact hQ⟩
abbrev manyD : PyData := .tuple [.str "many", .int 7]
theorem l23_ok (hh : HouseOk h) (hl : h.length = 2) : (lam_23 K).F [.val (houseD h)] (fun o => RefIs RefR o manyD) := by
  rw [lamF_23]
  refine lam_x (bs := [.val (houseD h), .val (houseD h6)]) rfl (fun K k => ?_) (beside_2 hh ok6 (by rw [hl]; decide) (RefR.many _))
  show eOp oRepT (eTup (vCons (eTup (vCons (eC (.int 0)) vNil)) vNil)) (eC (.int 6)) _ (fun b => K [.val (houseD h), .val b])
  exact rep_e (n := 6) (x := .tuple [.int 0]) (fun K k => ⟨by show 1 ≤ sizeLine; decide, by show 1 ≤ sizeLine; decide, k⟩) (by decide) (by decide) k
end
end K07
set_option Elab.async false
set_option linter.all false
set_option maxRecDepth 100000
set_option maxHeartbeats 400000
namespace K07
open PySem PySem.Spec PyProof.Rows L2 DL
section
variable {K : PySem.W.Frag} {h : List (List Nat)} {v c : PyData}
theorem refused_ok {Q : PyData → Prop} (hr : houseR v = some c) (ok : eqOk (dueH c)) (sf : PyData.eqv (dueH c) (dueH c) = true) (hQ : Q (.bool true)) : F__law_house_refused K [.val v, .val (dueH c)] Q := by
  refine ⟨rfl, ?_⟩
  show sSeq (forA 2 _ _) _ ([.val v, .val (dueH c), .no].set 2 .no) _
  refine forA_ok (fun a ha Q' hq => ref_if (as := [.adr a, .val v]) (w := dueH c) rfl (.adr rfl (.val rfl .nil)) (l0_ok ha hr) (fun K k => k) ok sf hq) fun s => ?_
  show sSeq (forA 2 _ _) _ ([.val v, .val (dueH c), .no].set 2 s) _
  refine forA_ok (fun a ha Q' hq => ref_if (as := [.adr a, .val v]) (w := dueH c) rfl (.adr rfl (.val rfl .nil)) (l1_ok ha hr) (fun K k => k) ok sf hq) fun s => ?_
  show sSeq (forA 2 _ _) _ ([.val v, .val (dueH c), .no].set 2 s) _
  refine forA_ok (fun a ha Q' hq => ref_if (as := [.adr a, .val v]) (w := dueH c) rfl (.adr rfl (.val rfl .nil)) (l2_ok ha hr) (fun K k => k) ok sf hq) fun s => ?_
  show sSeq (forA 2 _ _) _ ([.val v, .val (dueH c), .no].set 2 s) _
  refine forA_ok (fun a ha Q' hq => ref_if (as := [.adr a, .val v]) (w := dueH c) rfl (.adr rfl (.val rfl .nil)) (l3_ok ha hr) (fun K k => k) ok sf hq) fun s => ?_
  show sSeq (forA 2 _ _) _ ([.val v, .val (dueH c), .no].set 2 s) _
  refine forA_ok (fun a ha Q' hq => ref_if (as := [.adr a, .val v]) (w := dueH c) rfl (.adr rfl (.val rfl .nil)) (l4_ok ha hr) (fun K k => k) ok sf hq) fun s => ?_
  refine ref_if (as := [.val v]) (w := dueH c) rfl (.val rfl .nil) (l5_ok hr) (fun K k => k) ok sf ?_
  exact ref_ret (as := [.val v]) (w := dueH c) rfl (.val rfl .nil) (l6_ok hr) (fun K k => k) ok sf hQ
theorem sL : PyData.eqv (.str "lot") (.str "lot") = true := by decide +kernel
theorem sN : PyData.eqv (.str "number") (.str "number") = true := by decide +kernel
theorem oL : eqOk (.str "lot") := ⟨rfl, by decide +kernel⟩
theorem oN : eqOk (.str "number") := ⟨rfl, by decide +kernel⟩
theorem goals_ok {Q : PyData → Prop} (hh : HouseOk h) (hb : rowOk h.length v = false) (hQ : Q (.bool true)) : F__law_goals_refused K [.val (houseD h), .val v] Q := by
  refine ⟨rfl, ?_⟩
  refine ref_if (as := [.val (houseD h), .val v]) (w := .str "lot") rfl (.val rfl (.val rfl .nil)) (l7_ok hh hb) (fun K k => k) oL sL ?_
  show sSeq (forA 2 _ _) _ ([.val (houseD h), .val v, .no].set 2 .no) _
  refine forA_ok (fun a ha Q' hq => ref_if (as := [.adr a, .val (houseD h), .val v]) (w := .str "lot") rfl (.adr rfl (.val rfl (.val rfl .nil))) (l8_ok ha hh hb) (fun K k => k) oL sL hq) fun s => ?_
  show sSeq (forA 2 _ _) _ ([.val (houseD h), .val v, .no].set 2 s) _
  refine forA_ok (fun a ha Q' hq => ref_if (as := [.adr a, .val (houseD h), .val v]) (w := .str "lot") rfl (.adr rfl (.val rfl (.val rfl .nil))) (l9_ok ha hh hb) (fun K k => k) oL sL hq) fun s => ?_
  exact ref_ret (as := [.val (houseD h), .val v]) (w := .str "lot") rfl (.val rfl (.val rfl .nil)) (l10_ok hh hb) (fun K k => k) oL sL hQ
end
/-! ### the values -/
def i0 : PyData := .tuple [.int 0]
def bad1 : List PyData := [.tuple [.none, .none], .tuple [.list [i0], .none], .tuple [.tuple [], .none], .tuple [.tuple (List.replicate 8 i0), .none], .tuple [.tuple [.none], .int 0], .tuple [.tuple [.tuple []], .int 0], .tuple [.tuple [i0, .tuple []], .int 1]]
def bad2 : List PyData := [.tuple [.tuple [i0, .tuple [.int 2]], .int 1], .tuple [.tuple [i0, .tuple [.int 1, .int 0]], .int 1], .tuple [.tuple [.tuple [.int 0, .int 0], .tuple [.int 1]], .int 0], .tuple [.tuple [.list [.int 0]], .int 0], .tuple [.tuple [.tuple [.bool true], i0], .int 0]]
def bad3 : List PyData := [.tuple [.tuple [i0, .tuple [.int (-1)]], .int 1], .tuple [.str "0", .none], .tuple [.dict [], .none], .tuple [.tuple [i0, .tuple [.str "0"]], .int 1]]
def badL0 : List PyData := (bad1 ++ bad2) ++ bad3
def cB (r : Option PyData) (c : PyData) : Bool := match r, c with
  | some .none, .none => true
  | some (.int i), .int j => decide (i = j) && (decide (j = 0) || decide (j = 1))
  | _, _ => false
def badB (d : PyData) : Bool := match d with
  | .tuple [v, c] => cB (houseR v) c
  | _ => false
theorem cB_of {r : Option PyData} {c : PyData} (hb : cB r c = true) : r = some c ∧ eqOk (dueH c) ∧ PyData.eqv (dueH c) (dueH c) = true := by
  unfold cB at hb
  split at hb
  · exact ⟨rfl, ⟨rfl, by decide +kernel⟩, by decide +kernel⟩
  · simp only [Bool.and_eq_true, Bool.or_eq_true, decide_eq_true_eq] at hb
    obtain ⟨rfl, hp⟩ := hb
    refine ⟨rfl, ?_⟩
    rcases hp with rfl | rfl
    · exact ⟨⟨rfl, by decide +kernel⟩, by decide +kernel⟩
    · exact ⟨⟨rfl, by decide +kernel⟩, by decide +kernel⟩
  · cases hb
theorem bad_all : badL0.all badB = true := by decide +kernel
theorem bad_of {d : PyData} (h : d ∈ badL0) : ∃ v c, d = .tuple [v, c] ∧ houseR v = some c ∧ eqOk (dueH c) ∧ PyData.eqv (dueH c) (dueH c) = true := by
  have hb := List.all_eq_true.mp bad_all d h
  match d, hb with
  | .tuple [v, c], hb =>
    exact ⟨v, c, rfl, cB_of hb⟩
def w1 : List PyData := [.none, .list [.int 0], .tuple [.int 2], .tuple [.int 1, .int 0], .tuple [.int 0, .int 0], .tuple [.bool true], .str "0", .int 0]
def w2 : List PyData := [.none, .int (-1), .int 8, .bool true, .str "1", .tuple [.int 1]]
def w3 : List PyData := [.none, .int 0, .int 8, .bool true]
def w4 : List PyData := [.none, .int (-1), .int 2, .bool true]
theorem a1 : w1.all (fun d => !lotB 2 d) = true := by decide +kernel
theorem a2 : w2.all (fun d => !numB d 0 7) = true := by decide +kernel
theorem a3 : w3.all (fun d => !numB d 1 7) = true := by decide +kernel
theorem a4 : w4.all (fun d => !numB d 0 ((2 : Int) - 1)) = true := by decide +kernel
theorem not_of {b : Bool} (h : (!b) = true) : b = false := by simpa using h
theorem row_no {n : Nat} {d : PyData} (h : lotB n d = false) : rowOk n d = false := by unfold rowOk; rw [if_neg (by rw [h]; exact Bool.false_ne_true)]
theorem row_nil {n : Nat} : rowOk n (.tuple []) = false := by
  unfold rowOk
  split
  · decide +kernel
  · rfl
theorem sM : PyData.eqv manyD manyD = true := by decide +kernel
theorem oM : eqOk manyD := ⟨rfl, by decide +kernel⟩
theorem s22 : PyData.eqv (dueH (.int 1)) (dueH (.int 1)) = true := by decide +kernel
theorem o22 : eqOk (dueH (.int 1)) := ⟨rfl, by decide +kernel⟩
section
variable {E : Ed} {Q : Out → Prop} {x rest body : Fs} {fa : Ed → Dm (List Sl)} {as : List Sl} {g : Fg} {fi : Fi} {ds : List PyData}
theorem asg_s {F : Ff} (ha : ∀ K : List Sl → Prop, K as → fa E K) (h : F as fun d => g d E fun E' => rest E' Q) : sSeq (sAsg (eCall F fa) g) rest E Q := ha _ h
theorem if_not {F : Ff} (ha : ∀ K : List Sl → Prop, K as → fa E K) (h : ∀ P : PyData → Prop, P (.bool true) → F as P) (hQ : Q (.nx E)) : sIf (bNot (asB (eCall F fa))) x sNil E Q := ha _ (h _ ⟨true, rfl, iteF hQ⟩)
theorem ifs_not {F : Ff} (ha : ∀ K : List Sl → Prop, K as → fa E K) (h : ∀ P : PyData → Prop, P (.bool true) → F as P) (hQ : rest E Q) : sSeq (sIf (bNot (asB (eCall F fa))) x sNil) rest E Q := ha _ (h _ ⟨true, rfl, iteF hQ⟩)
theorem for_s (hi : ∀ K : List PyData → Prop, K ds → fi E K) (I : Ed → Prop) (h0 : I E) (step : ∀ d ∈ ds, ∀ E, I E → ∀ Q' : Out → Prop, (∀ E', I E' → Q' (.nx E')) → g d E fun E1 => body E1 Q') (fin : ∀ E, I E → rest E Q) : sSeq (sFor fi g body) rest E Q :=
  hi _ (for_suf (fun _ E => I E) h0 (fun i d E Q' hd hE nx _ _ => step d (List.mem_of_getElem? hd) E hE Q' nx) fun E hE => fin E hE)
end

/-- the law's slots -/
def IA (E : Ed) : Prop := ∃ s3 s4 s5 : Sl, E = [.no, .row, .val (.list badL0), s3, s4, s5, .no, .no]
def IE (h : List (List Nat)) (E : Ed) : Prop := ∃ s3 s4 s5 s7 : Sl, E = [.no, .row, .val (.list badL0), s3, s4, s5, .val (houseD h), s7]
theorem set_c {F : Ff} {fa : Ed → Dm (List Sl)} {as : List Sl} {i : Nat} {rest : Fs} {E : Ed} {Q : Out → Prop} (ha : ∀ K : List Sl → Prop, K as → fa E K) (h : F as fun d => rest (E.set i (.val d)) Q) : sSeq (sSet i (xV (eCall F fa))) rest E Q := ha _ h
theorem set_v {f : Fe} {i : Nat} {d : PyData} {rest : Fs} {E : Ed} {Q : Out → Prop} (ha : ∀ K : PyData → Prop, K d → f E K) (k : rest (E.set i (.val d)) Q) : sSeq (sSet i (xV f)) rest E Q := ha _ k
theorem plain {K : PySem.W.Frag} : B_law K ([.no, .row] ++ List.replicate (8 - 2) .no) (endP fun d => d = .bool true) := by
  unfold B_law
  refine set_v (d := .list bad1) (fun K k => ?_) ?_
  · repeat (first | refine ⟨by decide, ?_⟩ | refine ⟨_, _, rfl, rfl, by simp, by decide, by decide, by decide, ?_⟩)
    exact k
  repeat (first | refine ⟨by decide, ?_⟩ | refine ⟨_, _, _, rfl, rfl, rfl, ?_⟩ | refine ⟨_, rfl, _, rfl, ?_⟩ | refine ⟨_, rfl, ?_⟩)
  refine ⟨⟨by decide, by decide⟩, ?_⟩
  refine for_suf (fun _ E => IA E) ⟨.no, .no, .no, rfl⟩ (fun i d E Q' hd hE nx _ _ => ?_) fun E hE => ?_
  · obtain ⟨s3, s4, s5, rfl⟩ := hE
    refine asg_s (as := [.row, .val (.list badL0)]) (fun K k => k) (pick_ok (by decide) (by decide) fun d hd => ?_)
    obtain ⟨v, c, rfl, hp, ok, sf⟩ := bad_of hd
    refine ⟨v, c, rfl, ?_⟩
    exact if_not (as := [.val v, .val (dueH c)]) (fun K k => ⟨by show 2 ≤ sizeLine; decide, k⟩) (fun P hP => refused_ok hp ok sf hP) (nx _ ⟨_, _, _, rfl⟩)
  obtain ⟨s3, s4, s5, rfl⟩ := hE
  refine set_c (as := [.row, .val (iD 2), .val (iD 2)]) (fun K k => k) (law_house_ok (n := 2) (t := 2) (by decide) (by decide) ⟨by decide, by decide⟩ fun h hh h2 => ?_)
  have hl : ((h.length : Nat) : Int) = 2 := by omega
  have hE : IE h [.no, .row, .val (.list badL0), s3, s4, s5, .val (houseD h), .no] := ⟨_, _, _, _, rfl⟩
  refine for_s (ds := w1) (fun K k => by
    repeat (first | refine ⟨by decide, ?_⟩ | refine ⟨_, rfl, ?_⟩)
    exact k) (IE h) hE (fun d hd E hE Q' nx => ?_) fun E hE => ?_
  · have hb := List.all_eq_true.mp a1 d hd
    have hb := not_of hb
    obtain ⟨s3, s4, s5, s7, rfl⟩ := hE
    rw [← h2] at hb
    refine if_not (as := [.val (houseD h), .val d]) (fun K k => k) (fun P hP => goals_ok hh (row_no hb) hP) ?_
    refine ref_if (as := [.val (houseD h), .val d]) (w := .str "lot") rfl (.val rfl (.val rfl .nil)) (l11_ok hh hb) (fun K k => k) oL sL ?_
    exact ref_if (as := [.val (houseD h), .val d]) (w := .str "lot") rfl (.val rfl (.val rfl .nil)) (l12_ok hh hb) (fun K k => k) oL sL (nx _ ⟨_, _, _, _, rfl⟩)
  obtain ⟨s3, s4, s5, s7, rfl⟩ := hE
  refine ifs_not (as := [.val (houseD h), .val (.tuple [])]) (fun K k => ⟨by show 0 ≤ sizeLine; decide, k⟩) (fun P hP => goals_ok hh row_nil hP) ?_
  have hE : IE h [.no, .row, .val (.list badL0), s3, s4, s5, .val (houseD h), s7] := ⟨_, _, _, _, rfl⟩
  refine for_s (ds := w2) (fun K k => by
    repeat (first | refine ⟨by decide, ?_⟩ | refine ⟨_, rfl, ?_⟩)
    exact k) (IE h) hE (fun d hd E hE Q' nx => ?_) fun E hE => ?_
  · have hb := List.all_eq_true.mp a2 d hd
    have hb := not_of hb
    obtain ⟨s3, s4, s5, s7, rfl⟩ := hE
    refine forA_ok (E0 := [.no, .row, .val (.list badL0), s3, .val d, s5, .val (houseD h), s7]) (s := s7) (fun a ha Q' hq => ref_if (as := [.adr a, .val (houseD h), .val d]) (w := .str "number") rfl (.adr rfl (.val rfl (.val rfl .nil))) (l13_ok ha hh hb) (fun K k => k) oN sN hq) fun s7 => ?_
    refine forA_ok (E0 := [.no, .row, .val (.list badL0), s3, .val d, s5, .val (houseD h), s7]) (s := s7) (fun a ha Q' hq => ref_if (as := [.adr a, .val (houseD h), .val d]) (w := .str "number") rfl (.adr rfl (.val rfl (.val rfl .nil))) (l14_ok ha hh hb) (fun K k => k) oN sN hq) fun s7 => ?_
    refine forA_ok (E0 := [.no, .row, .val (.list badL0), s3, .val d, s5, .val (houseD h), s7]) (s := s7) (fun a ha Q' hq => ref_if (as := [.adr a, .val (houseD h), .val d]) (w := .str "number") rfl (.adr rfl (.val rfl (.val rfl .nil))) (l15_ok ha hh hb) (fun K k => k) oN sN (ref_if (as := [.adr a, .val (houseD h), .val d]) (w := .str "number") rfl (.adr rfl (.val rfl (.val rfl .nil))) (l16_ok ha hh hb) (fun K k => k) oN sN hq)) fun s7 => ?_
    exact ref_if (as := [.val (houseD h), .val d]) (w := .str "number") rfl (.val rfl (.val rfl .nil)) (l17_ok hh hb) (fun K k => k) oN sN (nx _ ⟨_, _, _, _, rfl⟩)
  refine for_s (ds := w3) (fun K k => by
    repeat (first | refine ⟨by decide, ?_⟩ | refine ⟨_, rfl, ?_⟩)
    exact k) (IE h) hE (fun d hd E hE Q' nx => ?_) fun E hE => ?_
  · have hb := List.all_eq_true.mp a3 d hd
    have hb := not_of hb
    obtain ⟨s3, s4, s5, s7, rfl⟩ := hE
    exact ref_if (as := [.val (houseD h), .val d]) (w := .str "number") rfl (.val rfl (.val rfl .nil)) (l18_ok hh hb) (fun K k => k) oN sN (nx _ ⟨_, _, _, _, rfl⟩)
  refine for_s (ds := w4) (fun K k => by
    repeat (first | refine ⟨by decide, ?_⟩ | refine ⟨_, rfl, ?_⟩)
    exact k) (IE h) hE (fun d hd E hE Q' nx => ?_) fun E hE => ?_
  · have hb := List.all_eq_true.mp a4 d hd
    have hb := not_of hb
    obtain ⟨s3, s4, s5, s7, rfl⟩ := hE
    rw [← hl] at hb
    refine ref_if (as := [.val (houseD h), .val d]) (w := .str "number") rfl (.val rfl (.val rfl .nil)) (l19_ok hh hb) (fun K k => k) oN sN ?_
    exact ref_if (as := [.val (houseD h), .val d]) (w := .str "number") rfl (.val rfl (.val rfl .nil)) (l20_ok hh hb) (fun K k => k) oN sN (nx _ ⟨_, _, _, _, rfl⟩)
  obtain ⟨s3, s4, s5, s7, rfl⟩ := hE
  refine ref_if (as := [.val (houseD h)]) (w := .str "number") rfl (.val rfl .nil) (l21_ok hh) (fun K k => k) oN sN ?_
  refine ref_if (as := [.val (houseD h)]) (w := dueH (.int 1)) rfl (.val rfl .nil) (l22_ok hh) (fun K k => ⟨by show 2 ≤ sizeLine; decide, k⟩) o22 s22 ?_
  exact ref_ret (as := [.val (houseD h)]) (w := manyD) rfl (.val rfl .nil) (l23_ok hh h2) (fun K k => ⟨by show 2 ≤ sizeLine; decide, k⟩) oM sM rfl
end K07
set_option Elab.async false
set_option linter.all false
set_option maxRecDepth 100000
set_option maxHeartbeats 0
/-! ### the head: facts by names, the run; the end -/
namespace K07
open PySem PySem.Spec PyProof.Rows L2 DL
def fnL : List He.DefD := [⟨("BadHouse", some "__init__"), "__init__", "BadHouse.__init__", defArgs s_BadHouse___init__, defBody s_BadHouse___init__, defScope s_BadHouse___init__, [], []⟩,
  ⟨("BadRules", some "__init__"), "__init__", "BadRules.__init__", defArgs s_BadRules___init__, defBody s_BadRules___init__, defScope s_BadRules___init__, [], []⟩,
  ⟨("TooMany", some "__init__"), "__init__", "TooMany.__init__", defArgs s_TooMany___init__, defBody s_TooMany___init__, defScope s_TooMany___init__, [], []⟩,
  ⟨("is_number", none), "is_number", "is_number", defArgs s_is_number, defBody s_is_number, defScope s_is_number, [], []⟩,
  ⟨("need_number", none), "need_number", "need_number", defArgs s_need_number, defBody s_need_number, defScope s_need_number, [], []⟩,
  ⟨("is_lot", none), "is_lot", "is_lot", defArgs s_is_lot, defBody s_is_lot, defScope s_is_lot, [], []⟩,
  ⟨("need_house", none), "need_house", "need_house", defArgs s_need_house, defBody s_need_house, defScope s_need_house, [], []⟩,
  ⟨("need_lot", none), "need_lot", "need_lot", defArgs s_need_lot, defBody s_need_lot, defScope s_need_lot, [], []⟩,
  ⟨("need_some", none), "need_some", "need_some", defArgs s_need_some, defBody s_need_some, defScope s_need_some, [], []⟩,
  ⟨("after", none), "after", "after", defArgs s_after, defBody s_after, defScope s_after, [], []⟩,
  ⟨("slate_number", none), "slate_number", "slate_number", defArgs s_slate_number, defBody s_slate_number, defScope s_slate_number, [], []⟩,
  ⟨("number_of", none), "number_of", "number_of", defArgs s_number_of, defBody s_number_of, defScope s_number_of, [], []⟩,
  ⟨("need_all", none), "need_all", "need_all", defArgs s_need_all, defBody s_need_all, defScope s_need_all, [], []⟩,
  ⟨("days_to", none), "days_to", "days_to", defArgs s_days_to, defBody s_days_to, defScope s_days_to, [], []⟩,
  ⟨("cover_row", none), "cover_row", "cover_row", defArgs s_cover_row, defBody s_cover_row, defScope s_cover_row, [], []⟩,
  ⟨("shows_cover_row", none), "shows_cover_row", "shows_cover_row", defArgs s_shows_cover_row, defBody s_shows_cover_row, defScope s_shows_cover_row, [], []⟩,
  ⟨("closed_family", none), "closed_family", "closed_family", defArgs s_closed_family, defBody s_closed_family, defScope s_closed_family, [], []⟩,
  ⟨("shows_closed_family", none), "shows_closed_family", "shows_closed_family", defArgs s_shows_closed_family, defBody s_shows_closed_family, defScope s_shows_closed_family, [], []⟩,
  ⟨("need_enemies", none), "need_enemies", "need_enemies", defArgs s_need_enemies, defBody s_need_enemies, defScope s_need_enemies, [], []⟩,
  ⟨("bears", none), "bears", "bears", defArgs s_bears, defBody s_bears, defScope s_bears, [], []⟩,
  ⟨("lot_bears", none), "lot_bears", "lot_bears", defArgs s_lot_bears, defBody s_lot_bears, defScope s_lot_bears, [], []⟩,
  ⟨("days_borne", none), "days_borne", "days_borne", defArgs s_days_borne, defBody s_days_borne, defScope s_days_borne, [], []⟩,
  ⟨("best_lots", none), "best_lots", "best_lots", defArgs s_best_lots, defBody s_best_lots, defScope s_best_lots, [], []⟩,
  ⟨("morning", none), "morning", "morning", defArgs s_morning, defBody s_morning, defScope s_morning, [], []⟩,
  ⟨("course", none), "course", "course", defArgs s_course, defBody s_course, defScope s_course, [], []⟩,
  ⟨("need_few", none), "need_few", "need_few", defArgs s_need_few, defBody s_need_few, defScope s_need_few, [], []⟩,
  ⟨("tells", none), "tells", "tells", defArgs s_tells, defBody s_tells, defScope s_tells, [], []⟩,
  ⟨("days_told", none), "days_told", "days_told", defArgs s_days_told, defBody s_days_told, defScope s_days_told, [], []⟩,
  ⟨("two_courses", none), "two_courses", "two_courses", defArgs s_two_courses, defBody s_two_courses, defScope s_two_courses, [], []⟩,
  ⟨("shows_two_courses", none), "shows_two_courses", "shows_two_courses", defArgs s_shows_two_courses, defBody s_shows_two_courses, defScope s_shows_two_courses, [], []⟩,
  ⟨("could_be", none), "could_be", "could_be", defArgs s_could_be, defBody s_could_be, defScope s_could_be, [], []⟩,
  ⟨("Bench", some "__init__"), "__init__", "Bench.__init__", defArgs s_Bench___init__, defBody s_Bench___init__, defScope s_Bench___init__, [], []⟩,
  ⟨("crew", none), "crew", "crew", defArgs s_crew, defBody s_crew, defScope s_crew, [], []⟩,
  ⟨("crew_number", none), "crew_number", "crew_number", defArgs s_crew_number, defBody s_crew_number, defScope s_crew_number, [], []⟩,
  ⟨("beside", none), "beside", "beside", defArgs s_beside, defBody s_beside, defScope s_beside, [], []⟩,
  ⟨("with_sight", none), "with_sight", "with_sight", defArgs s_with_sight, defBody s_with_sight, defScope s_with_sight, [], []⟩,
  ⟨("best_sight", none), "best_sight", "best_sight", defArgs s_best_sight, defBody s_best_sight, defScope s_best_sight, [], []⟩,
  ⟨("spare_sights", none), "spare_sights", "spare_sights", defArgs s_spare_sights, defBody s_spare_sights, defScope s_spare_sights, [], []⟩,
  ⟨("_law_taken", none), "_law_taken", "_law_taken", defArgs s__law_taken, defBody s__law_taken, defScope s__law_taken, [], []⟩,
  ⟨("_law_pick", none), "_law_pick", "_law_pick", defArgs s__law_pick, defBody s__law_pick, defScope s__law_pick, [], []⟩,
  ⟨("_law_refusal", none), "_law_refusal", "_law_refusal", defArgs s__law_refusal, defBody s__law_refusal, defScope s__law_refusal, [], []⟩,
  ⟨("_law_house_refused", none), "_law_house_refused", "_law_house_refused", defArgs s__law_house_refused, defBody s__law_house_refused, defScope s__law_house_refused, [], []⟩,
  ⟨("_law_house", none), "_law_house", "_law_house", defArgs s__law_house, defBody s__law_house, defScope s__law_house, [], []⟩,
  ⟨("_law_goals_refused", none), "_law_goals_refused", "_law_goals_refused", defArgs s__law_goals_refused, defBody s__law_goals_refused, defScope s__law_goals_refused, [], []⟩,
  ⟨("law", none), "law", "law", defArgs s_law, defBody s_law, defScope s_law, [], []⟩]
def faL : List He.Fa := [.glo "is_number", .glo "need_number", .glo "is_lot", .glo "need_house", .glo "need_lot", .glo "need_some", .glo "after", .glo "slate_number", .glo "number_of", .glo "need_all", .glo "days_to", .glo "cover_row", .glo "shows_cover_row", .glo "closed_family", .glo "shows_closed_family", .glo "need_enemies", .glo "bears", .glo "lot_bears", .glo "days_borne", .glo "best_lots", .glo "morning", .glo "course", .glo "need_few", .glo "tells", .glo "days_told", .glo "two_courses", .glo "shows_two_courses", .glo "could_be", .glo "crew", .glo "crew_number", .glo "beside", .glo "with_sight", .glo "best_sight", .glo "spare_sights", .glo "_law_taken", .glo "_law_pick", .glo "_law_refusal", .glo "_law_house_refused", .glo "_law_house", .glo "_law_goals_refused", .glo "law", .free "all", .free "any", .free "bool", .free "enumerate", .free "int", .free "isinstance", .free "len", .free "list", .free "max", .free "min", .free "range", .free "sorted", .free "tuple", .free "zip", .int "MOST_CLERKS" 7, .int "MOST_SIGNS" 3, .int "MOST_STEPS" 200000, .int "MOST_EVENING" 200, .glo "SlateError", .glo "BadHouse", .glo "BadLot", .glo "BadNumber", .glo "BadRules", .glo "BadSlates", .glo "BadNight", .glo "TooMany", .glo "Bench", .exc "BadLot", .exc "BadNumber", .exc "BadSlates", .exc "BadNight", .exm "BadHouse" "SlateError" true, .exm "BadRules" "SlateError" true, .exm "TooMany" "SlateError" true, .exm "BadLot" "SlateError" true, .exm "BadNumber" "SlateError" true, .exm "BadSlates" "SlateError" true, .exm "BadNight" "SlateError" true, .mkr "Bench"]
def tfL : List He.Defn := [("is_lot", none), ("_law_house_refused", none), ("_law_goals_refused", none), ("law", none)]
def excL : List PySem.Str := ["BadHouse", "BadRules", "TooMany", "BadLot", "BadNumber", "BadSlates", "BadNight"]
def kitL : List (PySem.Str × PySem.Str × Bool) := ([("BadHouse", "BadHouse", true), ("BadHouse", "BadRules", false), ("BadHouse", "TooMany", false), ("BadHouse", "BadLot", false), ("BadHouse", "BadNumber", false), ("BadHouse", "BadSlates", false), ("BadHouse", "BadNight", false), ("BadRules", "BadHouse", false), ("BadRules", "BadRules", true), ("BadRules", "TooMany", false), ("BadRules", "BadLot", false), ("BadRules", "BadNumber", false), ("BadRules", "BadSlates", false), ("BadRules", "BadNight", false)] : List (PySem.Str × PySem.Str × Bool)) ++ ([("TooMany", "BadHouse", false), ("TooMany", "BadRules", false), ("TooMany", "TooMany", true), ("TooMany", "BadLot", false), ("TooMany", "BadNumber", false), ("TooMany", "BadSlates", false), ("TooMany", "BadNight", false), ("BadLot", "BadHouse", false), ("BadLot", "BadRules", false), ("BadLot", "TooMany", false), ("BadLot", "BadLot", true), ("BadLot", "BadNumber", false), ("BadLot", "BadSlates", false), ("BadLot", "BadNight", false)] : List (PySem.Str × PySem.Str × Bool)) ++ ([("BadNumber", "BadHouse", false), ("BadNumber", "BadRules", false), ("BadNumber", "TooMany", false), ("BadNumber", "BadLot", false), ("BadNumber", "BadNumber", true), ("BadNumber", "BadSlates", false), ("BadNumber", "BadNight", false), ("BadSlates", "BadHouse", false), ("BadSlates", "BadRules", false), ("BadSlates", "TooMany", false), ("BadSlates", "BadLot", false), ("BadSlates", "BadNumber", false), ("BadSlates", "BadSlates", true), ("BadSlates", "BadNight", false)] : List (PySem.Str × PySem.Str × Bool)) ++ ([("BadNight", "BadHouse", false), ("BadNight", "BadRules", false), ("BadNight", "TooMany", false), ("BadNight", "BadLot", false), ("BadNight", "BadNumber", false), ("BadNight", "BadSlates", false), ("BadNight", "BadNight", true)] : List (PySem.Str × PySem.Str × Bool))
def initL : List (PySem.Str × PySem.Str) := [("BadHouse", "clerk"), ("BadRules", "part"), ("TooMany", "most")]
def exL (K : PySem.W.Frag) : Bool := decide ((tfL.map fun p => (He.cT K p).2).Nodup) && (excL.all (fun x => excCB K (He.ga K x)) && (initL.all (fun p => initB K p.1 p.2) && kitL.all fun p => decide (PySem.W.kitOne K (.ref (He.ga K p.1)) (.ref (He.ga K p.2.1)) = some p.2.2)))
abbrev tb (K : PySem.W.Frag) (x : Str) : Addr := He.tabOf K (He.codeOf K (x, none))
def gb (K : PySem.W.Frag) : Gb := { K := K, TL := [(tb K "_law_house_refused", "_law_house_refused.<locals>.<lambda>"), (tb K "_law_goals_refused", "_law_goals_refused.<locals>.<lambda>"), (tb K "law", "law.<locals>.<lambda>")], TG := [tb K "is_lot"], cls := fun x => .ref (He.ga K x) }
abbrev R : PySem.W.OpenRow := PySem.W.OpenLaw.row PySem.Challenge.rw_nightslates_k07_houses_refused
abbrev hk : PySem.W.Hook := He.hookX 4 faL fnL [] tfL exL
def ob (s : PySem.W.SharedT) : He.AlX := He.obsX 4 faL fnL [] tfL exL (HandSHeadRun.getT s)
theorem ob_eq (s : PySem.W.SharedT) : ob s = hk.obs s.abs := He.obsX_eq (HandSHeadRun.getT_eq s)
def looseL : List PySem.Str := (["_wall", "SlateError", "BadHouse", "BadLot", "BadNumber", "BadRules", "BadSlates", "BadNight", "TooMany", "MOST_CLERKS", "is_number", "need_number", "is_lot", "need_house", "need_lot", "need_some", "behind", "lots_of", "lots_to", "after", "holds", "ways_to", "row_to", "number_for", "everybody", "slate_number", "number_of", "need_all", "days_to", "cover_row"] : List PySem.Str) ++ (["shows_cover_row", "closed_family", "shows_closed_family", "need_enemies", "bears", "lot_bears", "days_borne", "best_lots", "MOST_SIGNS", "MOST_STEPS", "MOST_EVENING", "power", "is_table", "need_rules", "written", "need_slates", "morning", "is_night", "rewritten", "nights_of", "walked", "course", "later", "meeting", "need_steps", "need_few", "tells", "days_told", "two_courses", "shows_two_courses"] : List PySem.Str) ++ (["could_be", "Bench", "crew_of", "crew", "crew_number", "beside", "with_sight", "best_sight", "spare_sights", "_law_taken", "_law_pick", "_law_refusal", "_law_house_refused", "_law_house", "_law_goals_refused"] : List PySem.Str)
theorem run (w : World) : HandSHeadRun.RunEq R (PySem.W.view R.prog [82]) hk ob 8000 looseL w := by
  intro os
  kernel_rfl
theorem txOf {w : World} {K : PySem.W.Frag} {h : Heap} {mg : Str → Option Value} (X : K.In h) (Gm : h.Ns mainGlobals mg) (c : He.SaysX faL fnL [] tfL exL w h K) :
    ∃ fd : Nat → FuncData, FunD K "law" "law" (defArgs s_law) (defBody s_law) (defScope s_law) [] [] (He.fAd K ("law", none)) (fd 44) ∧ ∀ base : Heap, K.In base → base.Ns mainGlobals mg → (∀ p ∈ tfL.map (He.cT K), LamX.TabB base mg p.1 p.2) → Tx K mg base (gb K) fd := by
  have cD : He.SaysD faL fnL K := congrArg (fun z : He.AlT => z.1) c.t
  have more := Bool.and_eq_true_iff.mp c.more
  have more2 := Bool.and_eq_true_iff.mp more.2
  have more3 := Bool.and_eq_true_iff.mp more2.2
  have hexc : ∀ x ∈ excL, ExcC K (He.ga K x) := fun x hx => excC_of (List.all_eq_true.mp more2.1 x hx)
  have hinit : ∀ p ∈ initL, InitC K p.1 p.2 ∧ PySem.W.findIn K (.ref (He.ga K p.1)) p.2 = some none := fun p hp => initC_of (List.all_eq_true.mp more3.1 p hp)
  have hkit : ∀ p ∈ kitL, PySem.W.kitOne K (.ref (He.ga K p.1)) (.ref (He.ga K p.2.1)) = some p.2.2 := fun p hp => of_decide_eq_true (List.all_eq_true.mp more3.2 p hp)
  have nd : (tfL.map fun p => (He.cT K p).2).Nodup := of_decide_eq_true more.1
  have nd : [tb K "is_lot", tb K "_law_house_refused", tb K "_law_goals_refused", tb K "law"].Nodup := nd
  have ne := List.pairwise_iff_getElem.mp nd
  obtain ⟨fd0, F0⟩ := cD.def_ 0 rfl
  obtain ⟨fd1, F1⟩ := cD.def_ 1 rfl
  obtain ⟨fd2, F2⟩ := cD.def_ 2 rfl
  obtain ⟨fd3, F3⟩ := cD.def_ 3 rfl
  obtain ⟨fd4, F4⟩ := cD.def_ 4 rfl
  obtain ⟨fd5, F5⟩ := cD.def_ 5 rfl
  obtain ⟨fd6, F6⟩ := cD.def_ 6 rfl
  obtain ⟨fd7, F7⟩ := cD.def_ 7 rfl
  obtain ⟨fd8, F8⟩ := cD.def_ 8 rfl
  obtain ⟨fd9, F9⟩ := cD.def_ 9 rfl
  obtain ⟨fd10, F10⟩ := cD.def_ 10 rfl
  obtain ⟨fd11, F11⟩ := cD.def_ 11 rfl
  obtain ⟨fd12, F12⟩ := cD.def_ 12 rfl
  obtain ⟨fd13, F13⟩ := cD.def_ 13 rfl
  obtain ⟨fd14, F14⟩ := cD.def_ 14 rfl
  obtain ⟨fd15, F15⟩ := cD.def_ 15 rfl
  obtain ⟨fd16, F16⟩ := cD.def_ 16 rfl
  obtain ⟨fd17, F17⟩ := cD.def_ 17 rfl
  obtain ⟨fd18, F18⟩ := cD.def_ 18 rfl
  obtain ⟨fd19, F19⟩ := cD.def_ 19 rfl
  obtain ⟨fd20, F20⟩ := cD.def_ 20 rfl
  obtain ⟨fd21, F21⟩ := cD.def_ 21 rfl
  obtain ⟨fd22, F22⟩ := cD.def_ 22 rfl
  obtain ⟨fd23, F23⟩ := cD.def_ 23 rfl
  obtain ⟨fd24, F24⟩ := cD.def_ 24 rfl
  obtain ⟨fd25, F25⟩ := cD.def_ 25 rfl
  obtain ⟨fd26, F26⟩ := cD.def_ 26 rfl
  obtain ⟨fd27, F27⟩ := cD.def_ 27 rfl
  obtain ⟨fd28, F28⟩ := cD.def_ 28 rfl
  obtain ⟨fd29, F29⟩ := cD.def_ 29 rfl
  obtain ⟨fd30, F30⟩ := cD.def_ 30 rfl
  obtain ⟨fd31, F31⟩ := cD.def_ 31 rfl
  obtain ⟨fd32, F32⟩ := cD.def_ 32 rfl
  obtain ⟨fd33, F33⟩ := cD.def_ 33 rfl
  obtain ⟨fd34, F34⟩ := cD.def_ 34 rfl
  obtain ⟨fd35, F35⟩ := cD.def_ 35 rfl
  obtain ⟨fd36, F36⟩ := cD.def_ 36 rfl
  obtain ⟨fd37, F37⟩ := cD.def_ 37 rfl
  obtain ⟨fd38, F38⟩ := cD.def_ 38 rfl
  obtain ⟨fd39, F39⟩ := cD.def_ 39 rfl
  obtain ⟨fd40, F40⟩ := cD.def_ 40 rfl
  obtain ⟨fd41, F41⟩ := cD.def_ 41 rfl
  obtain ⟨fd42, F42⟩ := cD.def_ 42 rfl
  obtain ⟨fd43, F43⟩ := cD.def_ 43 rfl
  obtain ⟨fd44, F44⟩ := cD.def_ 44 rfl
  refine ⟨fun i => match i with
    | 0 => fd0
    | 1 => fd1
    | 2 => fd2
    | 3 => fd3
    | 4 => fd4
    | 5 => fd5
    | 6 => fd6
    | 7 => fd7
    | 8 => fd8
    | 9 => fd9
    | 10 => fd10
    | 11 => fd11
    | 12 => fd12
    | 13 => fd13
    | 14 => fd14
    | 15 => fd15
    | 16 => fd16
    | 17 => fd17
    | 18 => fd18
    | 19 => fd19
    | 20 => fd20
    | 21 => fd21
    | 22 => fd22
    | 23 => fd23
    | 24 => fd24
    | 25 => fd25
    | 26 => fd26
    | 27 => fd27
    | 28 => fd28
    | 29 => fd29
    | 30 => fd30
    | 31 => fd31
    | 32 => fd32
    | 33 => fd33
    | 34 => fd34
    | 35 => fd35
    | 36 => fd36
    | 37 => fd37
    | 38 => fd38
    | 39 => fd39
    | 40 => fd40
    | 41 => fd41
    | 42 => fd42
    | 43 => fd43
    | 44 => fd44
    | _ => fd0, F44, fun base Xb Gb TB => ?_⟩
  have TB : ∀ x ∈ tfL, LamX.TabB base mg (He.codeOf K x) (He.tabOf K (He.codeOf K x)) := fun x hx => TB _ (List.mem_map.mpr ⟨x, hx, rfl⟩)
  exact {
    gK := rfl
    gP := fun e h => h
    gC := rfl
    m_SlateError := He.glo_ok X Gm (cD.fact 59 (f := .glo "SlateError") rfl)
    m_BadHouse := He.glo_ok X Gm (cD.fact 60 (f := .glo "BadHouse") rfl)
    m_BadLot := He.glo_ok X Gm (cD.fact 61 (f := .glo "BadLot") rfl)
    m_BadNumber := He.glo_ok X Gm (cD.fact 62 (f := .glo "BadNumber") rfl)
    m_BadRules := He.glo_ok X Gm (cD.fact 63 (f := .glo "BadRules") rfl)
    m_BadSlates := He.glo_ok X Gm (cD.fact 64 (f := .glo "BadSlates") rfl)
    m_BadNight := He.glo_ok X Gm (cD.fact 65 (f := .glo "BadNight") rfl)
    m_TooMany := He.glo_ok X Gm (cD.fact 66 (f := .glo "TooMany") rfl)
    m_Bench := He.glo_ok X Gm (cD.fact 67 (f := .glo "Bench") rfl)
    i_BadHouse := (hinit ("BadHouse", "clerk") (by decide +kernel)).1
    n_BadHouse := (hinit ("BadHouse", "clerk") (by decide +kernel)).2
    c_BadHouse := hexc "BadHouse" (by decide +kernel)
    x_BadHouse := He.exm_ok (cD.fact 72 (f := .exm "BadHouse" "SlateError" true) rfl)
    k_BadHouse_BadHouse := hkit ("BadHouse", "BadHouse", true) (by decide +kernel)
    k_BadHouse_BadRules := hkit ("BadHouse", "BadRules", false) (by decide +kernel)
    k_BadHouse_TooMany := hkit ("BadHouse", "TooMany", false) (by decide +kernel)
    k_BadHouse_BadLot := hkit ("BadHouse", "BadLot", false) (by decide +kernel)
    k_BadHouse_BadNumber := hkit ("BadHouse", "BadNumber", false) (by decide +kernel)
    k_BadHouse_BadSlates := hkit ("BadHouse", "BadSlates", false) (by decide +kernel)
    k_BadHouse_BadNight := hkit ("BadHouse", "BadNight", false) (by decide +kernel)
    i_BadRules := (hinit ("BadRules", "part") (by decide +kernel)).1
    n_BadRules := (hinit ("BadRules", "part") (by decide +kernel)).2
    c_BadRules := hexc "BadRules" (by decide +kernel)
    x_BadRules := He.exm_ok (cD.fact 73 (f := .exm "BadRules" "SlateError" true) rfl)
    k_BadRules_BadHouse := hkit ("BadRules", "BadHouse", false) (by decide +kernel)
    k_BadRules_BadRules := hkit ("BadRules", "BadRules", true) (by decide +kernel)
    k_BadRules_TooMany := hkit ("BadRules", "TooMany", false) (by decide +kernel)
    k_BadRules_BadLot := hkit ("BadRules", "BadLot", false) (by decide +kernel)
    k_BadRules_BadNumber := hkit ("BadRules", "BadNumber", false) (by decide +kernel)
    k_BadRules_BadSlates := hkit ("BadRules", "BadSlates", false) (by decide +kernel)
    k_BadRules_BadNight := hkit ("BadRules", "BadNight", false) (by decide +kernel)
    i_TooMany := (hinit ("TooMany", "most") (by decide +kernel)).1
    n_TooMany := (hinit ("TooMany", "most") (by decide +kernel)).2
    c_TooMany := hexc "TooMany" (by decide +kernel)
    x_TooMany := He.exm_ok (cD.fact 74 (f := .exm "TooMany" "SlateError" true) rfl)
    k_TooMany_BadHouse := hkit ("TooMany", "BadHouse", false) (by decide +kernel)
    k_TooMany_BadRules := hkit ("TooMany", "BadRules", false) (by decide +kernel)
    k_TooMany_TooMany := hkit ("TooMany", "TooMany", true) (by decide +kernel)
    k_TooMany_BadLot := hkit ("TooMany", "BadLot", false) (by decide +kernel)
    k_TooMany_BadNumber := hkit ("TooMany", "BadNumber", false) (by decide +kernel)
    k_TooMany_BadSlates := hkit ("TooMany", "BadSlates", false) (by decide +kernel)
    k_TooMany_BadNight := hkit ("TooMany", "BadNight", false) (by decide +kernel)
    e_BadLot := He.exc_ok (cD.fact 68 (f := .exc "BadLot") rfl)
    c_BadLot := hexc "BadLot" (by decide +kernel)
    x_BadLot := He.exm_ok (cD.fact 75 (f := .exm "BadLot" "SlateError" true) rfl)
    k_BadLot_BadHouse := hkit ("BadLot", "BadHouse", false) (by decide +kernel)
    k_BadLot_BadRules := hkit ("BadLot", "BadRules", false) (by decide +kernel)
    k_BadLot_TooMany := hkit ("BadLot", "TooMany", false) (by decide +kernel)
    k_BadLot_BadLot := hkit ("BadLot", "BadLot", true) (by decide +kernel)
    k_BadLot_BadNumber := hkit ("BadLot", "BadNumber", false) (by decide +kernel)
    k_BadLot_BadSlates := hkit ("BadLot", "BadSlates", false) (by decide +kernel)
    k_BadLot_BadNight := hkit ("BadLot", "BadNight", false) (by decide +kernel)
    e_BadNumber := He.exc_ok (cD.fact 69 (f := .exc "BadNumber") rfl)
    c_BadNumber := hexc "BadNumber" (by decide +kernel)
    x_BadNumber := He.exm_ok (cD.fact 76 (f := .exm "BadNumber" "SlateError" true) rfl)
    k_BadNumber_BadHouse := hkit ("BadNumber", "BadHouse", false) (by decide +kernel)
    k_BadNumber_BadRules := hkit ("BadNumber", "BadRules", false) (by decide +kernel)
    k_BadNumber_TooMany := hkit ("BadNumber", "TooMany", false) (by decide +kernel)
    k_BadNumber_BadLot := hkit ("BadNumber", "BadLot", false) (by decide +kernel)
    k_BadNumber_BadNumber := hkit ("BadNumber", "BadNumber", true) (by decide +kernel)
    k_BadNumber_BadSlates := hkit ("BadNumber", "BadSlates", false) (by decide +kernel)
    k_BadNumber_BadNight := hkit ("BadNumber", "BadNight", false) (by decide +kernel)
    e_BadSlates := He.exc_ok (cD.fact 70 (f := .exc "BadSlates") rfl)
    c_BadSlates := hexc "BadSlates" (by decide +kernel)
    x_BadSlates := He.exm_ok (cD.fact 77 (f := .exm "BadSlates" "SlateError" true) rfl)
    k_BadSlates_BadHouse := hkit ("BadSlates", "BadHouse", false) (by decide +kernel)
    k_BadSlates_BadRules := hkit ("BadSlates", "BadRules", false) (by decide +kernel)
    k_BadSlates_TooMany := hkit ("BadSlates", "TooMany", false) (by decide +kernel)
    k_BadSlates_BadLot := hkit ("BadSlates", "BadLot", false) (by decide +kernel)
    k_BadSlates_BadNumber := hkit ("BadSlates", "BadNumber", false) (by decide +kernel)
    k_BadSlates_BadSlates := hkit ("BadSlates", "BadSlates", true) (by decide +kernel)
    k_BadSlates_BadNight := hkit ("BadSlates", "BadNight", false) (by decide +kernel)
    e_BadNight := He.exc_ok (cD.fact 71 (f := .exc "BadNight") rfl)
    c_BadNight := hexc "BadNight" (by decide +kernel)
    x_BadNight := He.exm_ok (cD.fact 78 (f := .exm "BadNight" "SlateError" true) rfl)
    k_BadNight_BadHouse := hkit ("BadNight", "BadHouse", false) (by decide +kernel)
    k_BadNight_BadRules := hkit ("BadNight", "BadRules", false) (by decide +kernel)
    k_BadNight_TooMany := hkit ("BadNight", "TooMany", false) (by decide +kernel)
    k_BadNight_BadLot := hkit ("BadNight", "BadLot", false) (by decide +kernel)
    k_BadNight_BadNumber := hkit ("BadNight", "BadNumber", false) (by decide +kernel)
    k_BadNight_BadSlates := hkit ("BadNight", "BadSlates", false) (by decide +kernel)
    k_BadNight_BadNight := hkit ("BadNight", "BadNight", true) (by decide +kernel)
    mk_Bench := He.mkr_ok (cD.fact 79 (f := .mkr "Bench") rfl)
    m_all := He.free_ok X Gm (cD.fact 41 (f := .free "all") rfl)
    m_any := He.free_ok X Gm (cD.fact 42 (f := .free "any") rfl)
    m_bool := He.free_ok X Gm (cD.fact 43 (f := .free "bool") rfl)
    m_enumerate := He.free_ok X Gm (cD.fact 44 (f := .free "enumerate") rfl)
    m_int := He.free_ok X Gm (cD.fact 45 (f := .free "int") rfl)
    m_isinstance := He.free_ok X Gm (cD.fact 46 (f := .free "isinstance") rfl)
    m_len := He.free_ok X Gm (cD.fact 47 (f := .free "len") rfl)
    m_list := He.free_ok X Gm (cD.fact 48 (f := .free "list") rfl)
    m_max := He.free_ok X Gm (cD.fact 49 (f := .free "max") rfl)
    m_min := He.free_ok X Gm (cD.fact 50 (f := .free "min") rfl)
    m_range := He.free_ok X Gm (cD.fact 51 (f := .free "range") rfl)
    m_sorted := He.free_ok X Gm (cD.fact 52 (f := .free "sorted") rfl)
    m_tuple := He.free_ok X Gm (cD.fact 53 (f := .free "tuple") rfl)
    m_zip := He.free_ok X Gm (cD.fact 54 (f := .free "zip") rfl)
    c_MOST_CLERKS := He.int_ok X Gm (cD.fact 55 (f := .int "MOST_CLERKS" 7) rfl)
    c_MOST_SIGNS := He.int_ok X Gm (cD.fact 56 (f := .int "MOST_SIGNS" 3) rfl)
    c_MOST_STEPS := He.int_ok X Gm (cD.fact 57 (f := .int "MOST_STEPS" 200000) rfl)
    c_MOST_EVENING := He.int_ok X Gm (cD.fact 58 (f := .int "MOST_EVENING" 200) rfl)
    f_BadHouse___init__ := F0
    f_BadRules___init__ := F1
    f_TooMany___init__ := F2
    m_is_number := He.glo_ok X Gm (cD.fact 0 (f := .glo "is_number") rfl)
    f_is_number := F3
    m_need_number := He.glo_ok X Gm (cD.fact 1 (f := .glo "need_number") rfl)
    f_need_number := F4
    m_is_lot := He.glo_ok X Gm (cD.fact 2 (f := .glo "is_lot") rfl)
    f_is_lot := F5
    t_is_lot := (fun t => ⟨t.code, t.bm, t.gP⟩) (TB ("is_lot", none) (by decide +kernel))
    g_is_lot := ⟨by simp [gb], by
      intro p hp
      simp only [gb, List.mem_cons, List.not_mem_nil, or_false] at hp
      rcases hp with rfl | rfl | rfl
      · exact (Ne.symm (ne 0 1 (by decide : 0 < 4) (by decide : 1 < 4) (by decide)))
      · exact (Ne.symm (ne 0 2 (by decide : 0 < 4) (by decide : 2 < 4) (by decide)))
      · exact (Ne.symm (ne 0 3 (by decide : 0 < 4) (by decide : 3 < 4) (by decide)))⟩
    m_need_house := He.glo_ok X Gm (cD.fact 3 (f := .glo "need_house") rfl)
    f_need_house := F6
    m_need_lot := He.glo_ok X Gm (cD.fact 4 (f := .glo "need_lot") rfl)
    f_need_lot := F7
    m_need_some := He.glo_ok X Gm (cD.fact 5 (f := .glo "need_some") rfl)
    f_need_some := F8
    m_after := He.glo_ok X Gm (cD.fact 6 (f := .glo "after") rfl)
    f_after := F9
    m_slate_number := He.glo_ok X Gm (cD.fact 7 (f := .glo "slate_number") rfl)
    f_slate_number := F10
    m_number_of := He.glo_ok X Gm (cD.fact 8 (f := .glo "number_of") rfl)
    f_number_of := F11
    m_need_all := He.glo_ok X Gm (cD.fact 9 (f := .glo "need_all") rfl)
    f_need_all := F12
    m_days_to := He.glo_ok X Gm (cD.fact 10 (f := .glo "days_to") rfl)
    f_days_to := F13
    m_cover_row := He.glo_ok X Gm (cD.fact 11 (f := .glo "cover_row") rfl)
    f_cover_row := F14
    m_shows_cover_row := He.glo_ok X Gm (cD.fact 12 (f := .glo "shows_cover_row") rfl)
    f_shows_cover_row := F15
    m_closed_family := He.glo_ok X Gm (cD.fact 13 (f := .glo "closed_family") rfl)
    f_closed_family := F16
    m_shows_closed_family := He.glo_ok X Gm (cD.fact 14 (f := .glo "shows_closed_family") rfl)
    f_shows_closed_family := F17
    m_need_enemies := He.glo_ok X Gm (cD.fact 15 (f := .glo "need_enemies") rfl)
    f_need_enemies := F18
    m_bears := He.glo_ok X Gm (cD.fact 16 (f := .glo "bears") rfl)
    f_bears := F19
    m_lot_bears := He.glo_ok X Gm (cD.fact 17 (f := .glo "lot_bears") rfl)
    f_lot_bears := F20
    m_days_borne := He.glo_ok X Gm (cD.fact 18 (f := .glo "days_borne") rfl)
    f_days_borne := F21
    m_best_lots := He.glo_ok X Gm (cD.fact 19 (f := .glo "best_lots") rfl)
    f_best_lots := F22
    m_morning := He.glo_ok X Gm (cD.fact 20 (f := .glo "morning") rfl)
    f_morning := F23
    m_course := He.glo_ok X Gm (cD.fact 21 (f := .glo "course") rfl)
    f_course := F24
    m_need_few := He.glo_ok X Gm (cD.fact 22 (f := .glo "need_few") rfl)
    f_need_few := F25
    m_tells := He.glo_ok X Gm (cD.fact 23 (f := .glo "tells") rfl)
    f_tells := F26
    m_days_told := He.glo_ok X Gm (cD.fact 24 (f := .glo "days_told") rfl)
    f_days_told := F27
    m_two_courses := He.glo_ok X Gm (cD.fact 25 (f := .glo "two_courses") rfl)
    f_two_courses := F28
    m_shows_two_courses := He.glo_ok X Gm (cD.fact 26 (f := .glo "shows_two_courses") rfl)
    f_shows_two_courses := F29
    m_could_be := He.glo_ok X Gm (cD.fact 27 (f := .glo "could_be") rfl)
    f_could_be := F30
    f_Bench___init__ := F31
    m_crew := He.glo_ok X Gm (cD.fact 28 (f := .glo "crew") rfl)
    f_crew := F32
    m_crew_number := He.glo_ok X Gm (cD.fact 29 (f := .glo "crew_number") rfl)
    f_crew_number := F33
    m_beside := He.glo_ok X Gm (cD.fact 30 (f := .glo "beside") rfl)
    f_beside := F34
    m_with_sight := He.glo_ok X Gm (cD.fact 31 (f := .glo "with_sight") rfl)
    f_with_sight := F35
    m_best_sight := He.glo_ok X Gm (cD.fact 32 (f := .glo "best_sight") rfl)
    f_best_sight := F36
    m_spare_sights := He.glo_ok X Gm (cD.fact 33 (f := .glo "spare_sights") rfl)
    f_spare_sights := F37
    m__law_taken := He.glo_ok X Gm (cD.fact 34 (f := .glo "_law_taken") rfl)
    f__law_taken := F38
    m__law_pick := He.glo_ok X Gm (cD.fact 35 (f := .glo "_law_pick") rfl)
    f__law_pick := F39
    m__law_refusal := He.glo_ok X Gm (cD.fact 36 (f := .glo "_law_refusal") rfl)
    f__law_refusal := F40
    m__law_house_refused := He.glo_ok X Gm (cD.fact 37 (f := .glo "_law_house_refused") rfl)
    f__law_house_refused := F41
    t__law_house_refused := (fun t => ⟨t.code, t.bm, t.gP⟩) (TB ("_law_house_refused", none) (by decide +kernel))
    l__law_house_refused := by simp [gb]
    u__law_house_refused := by
      intro p hp
      simp only [gb, List.mem_cons, List.not_mem_nil, or_false] at hp
      rcases hp with rfl | rfl | rfl
      · intro _; rfl
      · intro z; exact absurd z (Ne.symm (ne 1 2 (by decide : 1 < 4) (by decide : 2 < 4) (by decide)))
      · intro z; exact absurd z (Ne.symm (ne 1 3 (by decide : 1 < 4) (by decide : 3 < 4) (by decide)))
    a__law_house_refused := by
      intro hp
      simp only [gb, List.mem_cons, List.not_mem_nil, or_false] at hp
      rcases hp with hp
      · exact absurd hp (Ne.symm (ne 0 1 (by decide : 0 < 4) (by decide : 1 < 4) (by decide)))
    m__law_house := He.glo_ok X Gm (cD.fact 38 (f := .glo "_law_house") rfl)
    f__law_house := F42
    m__law_goals_refused := He.glo_ok X Gm (cD.fact 39 (f := .glo "_law_goals_refused") rfl)
    f__law_goals_refused := F43
    t__law_goals_refused := (fun t => ⟨t.code, t.bm, t.gP⟩) (TB ("_law_goals_refused", none) (by decide +kernel))
    l__law_goals_refused := by simp [gb]
    u__law_goals_refused := by
      intro p hp
      simp only [gb, List.mem_cons, List.not_mem_nil, or_false] at hp
      rcases hp with rfl | rfl | rfl
      · intro z; exact absurd z (ne 1 2 (by decide : 1 < 4) (by decide : 2 < 4) (by decide))
      · intro _; rfl
      · intro z; exact absurd z (Ne.symm (ne 2 3 (by decide : 2 < 4) (by decide : 3 < 4) (by decide)))
    a__law_goals_refused := by
      intro hp
      simp only [gb, List.mem_cons, List.not_mem_nil, or_false] at hp
      rcases hp with hp
      · exact absurd hp (Ne.symm (ne 0 2 (by decide : 0 < 4) (by decide : 2 < 4) (by decide)))
    m_law := He.glo_ok X Gm (cD.fact 40 (f := .glo "law") rfl)
    f_law := F44
    t_law := (fun t => ⟨t.code, t.bm, t.gP⟩) (TB ("law", none) (by decide +kernel))
    l_law := by simp [gb]
    u_law := by
      intro p hp
      simp only [gb, List.mem_cons, List.not_mem_nil, or_false] at hp
      rcases hp with rfl | rfl | rfl
      · intro z; exact absurd z (ne 1 3 (by decide : 1 < 4) (by decide : 3 < 4) (by decide))
      · intro z; exact absurd z (ne 2 3 (by decide : 2 < 4) (by decide : 3 < 4) (by decide))
      · intro _; rfl
    a_law := by
      intro hp
      simp only [gb, List.mem_cons, List.not_mem_nil, or_false] at hp
      rcases hp with hp
      · exact absurd hp (Ne.symm (ne 0 3 (by decide : 0 < 4) (by decide : 3 < 4) (by decide)))
  }
theorem gok {K : PySem.W.Frag} {H : Hp} (hH : ∀ p ∈ tfL.map (He.cT K), H p.2 = some (.tbl #[])) : GOk (gb K) H := by
  have h1 : ∀ x ∈ tfL, H (He.tabOf K (He.codeOf K x)) = some (.tbl #[]) := fun x hx => hH _ (List.mem_map.mpr ⟨x, hx, rfl⟩)
  refine ⟨fun p hp => ?_, fun P hP => ?_⟩
  · simp only [gb, List.mem_cons, List.not_mem_nil, or_false] at hp
    rcases hp with rfl | rfl | rfl <;> exact LamX.TabS.nil (h1 (_, none) (by decide +kernel))
  · simp only [gb, List.mem_cons, List.not_mem_nil, or_false] at hP
    rcases hP with rfl <;> exact ⟨#[], h1 (_, none) (by decide +kernel), True.intro⟩
end K07
open PySem PySem.W PySem.Calls PyProof.Rows
theorem PySem.Challenge.cw_nightslates_k07_houses_refused_holds : PySem.Challenge.rw_nightslates_k07_houses_refused.Holds := by
  w_on; o_law
  refine HandSHeadRun.head_any (r := K07.R) (q := view K07.R.prog [82]) (H := K07.hk) (ob := K07.ob) (M := 8000) (loose := K07.looseL) (d := HandSHeadRun.topDef K07.R.prog 82) (kwd := []) K07.ob_eq
    (by kernel_rfl) (fun s => by kernel_rfl) K07.run (by kernel_rfl) (by kernel_rfl) (by kernel_rfl) (by rfl) (by first | assumption | decide +kernel) (by decide +kernel) ⟨rfl, rfl, rfl, rfl, rfl, by decide +kernel⟩ ?hw ?hc
  case hw => w_witness2
  case hc =>
    refine LamX.walk_ofTsE (l := PySem.Challenge.rw_nightslates_k07_houses_refused) (n := 63) (k := 12) (x := "_law_script") (CX := fun _ => L2.CX0) rfl (by decide) (by kernel_rfl) ⟨rfl, by decide, by decide⟩ ?F (fun _ _ _ _ _ z => z)
    intro w mg fa h Y G hmg0
    obtain ⟨K, KX, c⟩ := Y
    have hmg : mg ("law" : PySem.Str) = some (.ref fa) := by
      have e : (HandSHeadRun.topDef K07.R.prog 82).name = ("law" : PySem.Str) := by kernel_rfl
      rw [← e]
      exact hmg0
    obtain ⟨fd, F0, T⟩ := K07.txOf KX G c
    have cD : He.SaysD K07.faL K07.fnL K := congrArg (fun z : He.AlT => z.1) c.t
    have ef := hmg.symm.trans (He.glo_ok KX G (cD.fact 40 (f := .glo "law") rfl))
    cases ef
    refine ⟨K, KX, fd 44, K07.tfL.map (He.cT K), DL.spLaw (K07.gb K) 8 (K07.B_law K), ?_, ?_, ?_, ?_, ?_, ?_⟩
    · intro p hp
      obtain ⟨x, hx, rfl⟩ := List.mem_map.mp hp
      exact c.empty x hx
    · intro p hp
      obtain ⟨x, hx, rfl⟩ := List.mem_map.mp hp
      exact c.out x hx
    · intro p hp
      obtain ⟨x, hx, rfl⟩ := List.mem_map.mp hp
      exact PySem.W.codeHd_of_K KX (c.hd x hx)
    · intro s u
      exact L2.FunD.bindsA (ps := ["_law_script"]) F0 (fun _ _ _ _ _ _ us hl => match us, hl with | [_], _ => rfl) s [u] rfl
    · intro H a ns hl hb hH hS
      exact ⟨a, ns, rfl, hS, hl, K07.gok hH, K07.plain, fun _ => rfl⟩
    · intro base Xb Gb TB
      exact K07.ok_law (T base Xb Gb TB)
