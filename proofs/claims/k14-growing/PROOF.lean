import PyProof.Rows.All
import HandS.Lambda
import Wide.All
import OpenK.AllK
import Wide.FinOn
import HandS.ForMost
import HandS.Exc
import HandS.AnyAll
import HandS.GenOver
import HandS.Defaults
import KE.KSuper
import KE.KExcSuper
import HandS.ExcInit
import HandS.ExcField
import HandS.HeadWalk
import HandS.Wide
import HandS.TupAny
import HandS.TupMul
import HandS.IsInst
import HandS.List
import HandS.More
import HandS.Flow
import HandS.WordsDict
import HandS.Conv
import HandS.Codes
import HandS.Comp
import HandS.Zip
import HandS.Iter
import HandS.WordsExc
import HandS.MakeKw
import KE.KSortTupG
import KE.KDictSum
import KE.KDictPairs
import KE.KDictKeyed
import HandS.Head0
import HandS.Head1
import HandS.Head2
import HandS.HeadEnd
import HandS.HeadHook1
import HandS.HeadHook2
import HandS.HeadHook3
import HandS.HeadHook4
import PySem.Challenge.RW_cornerwalls_k14_whole_growing
namespace CD
open PySem PySem.Spec PyProof.Rows L2
/-- tables of the code objects that make lambdas, and the lambdas' names -/
def lamT : List (Addr × Str) := [(343, "_law_right.<locals>.<lambda>")]
end CD

set_option Elab.async false
set_option linter.all false
set_option maxRecDepth 100000
set_option maxHeartbeats 2000000
namespace CWG
open PySem PySem.Spec PyProof.Rows L2 GxR

section
variable {prog : Program} {w : World} {A : Around}
/-- all(it): each item a bool; J i: i items have come, all true -/
theorem all_loopI {a : Addr} {n : Nat} {J : Nat → Shared → Prop} {R : Result → Shared → Prop}
    (item : ∀ i s, i < n → J i s → wpAny (model prog w) A.in1 (pyNext (.ref a)) (fun r s' => ∃ b, r = some (.bool b) ∧ (b = true → J (i + 1) s') ∧ (b = false → R (.ok (.ret (.bool false))) s')) (fun _ _ => False) s)
    (done : ∀ s, J n s → wpAny (model prog w) A.in1 (pyNext (.ref a)) (fun r s' => r = none ∧ R (.ok (.ret (.bool true))) s') (fun _ _ => False) s) :
    ∀ (k i : Nat) (s : Shared), n - i = k → i ≤ n → J i s → codeAny (model prog w) A (.builtin "all.loop" ⟨[.ref a], []⟩) R s := by
  intro k
  induction k with
  | zero =>
    intro i s hk hi hst
    have hin : i = n := by omega
    subst hin
    refine codeAny_builtin F.entry_all_loop ?_
    rw [Around.under_plainId F.plain_all_loop _]
    show wpAny _ A.in1 (pyNext (.ref a) >>= _) _ _ s
    refine wpAny_bind (wpAny_mono (done s hst) (fun r s' h => ?_) fun _ _ e => e.elim)
    obtain ⟨rfl, h⟩ := h
    exact wpAny_bind (wpAny_rule (wpAny_pure h))
  | succ k ih =>
    intro i s hk hi hst
    have hlt : i < n := by omega
    refine codeAny_builtin F.entry_all_loop ?_
    rw [Around.under_plainId F.plain_all_loop _]
    show wpAny _ A.in1 (pyNext (.ref a) >>= _) _ _ s
    refine wpAny_bind (wpAny_mono (item i s hlt hst) (fun r s' h => ?_) fun _ _ e => e.elim)
    obtain ⟨b, rfl, h1, h2⟩ := h
    refine wpAny_bind (wpAny_holding (wpAny_truthy_bool ?_))
    refine wpAny_bind (wpAny_letGo ?_)
    cases b with
    | true =>
      simp only [if_true]
      exact wpAny_pure ⟨plainId_quiet F.plain_all_loop _, ih (i + 1) _ (by omega) hlt (h1 rfl)⟩
    | false =>
      simp only [Bool.false_eq_true, if_false]
      exact wpAny_bind (wpAny_rule (wpAny_pure (h2 rfl)))
end
/-- the frame of a generator expression as a context -/
abbrev gcx (X : Cx) (A : Around) (s : Shared) (H : Hp) (cenv : Env) (fp : List Addr) : Cx :=
  { X with A := A, s_0 := s, H_0 := H, env := cenv, outer := X.stack, stack := cenv :: X.stack, ex := fp, fn := fun _ => false, pn := [], xe := fun _ _ => False }
section
variable {X : Cx} {pins : List (Addr × Obj)} {σ : L2.St} {H : Hp} {s : Shared}
theorem gen_start {A : Around} {scope : Scope} {own : List (Str × Nat)} {fp : List Addr} {code itv : Value} {go : Obj} {h' : Heap} {g' : Array GenState} {d' : Drawn} {t' : Nat} (I : Inv X pins σ H s) (ok : BlkOk X.N X.env.scope scope own) (hN : X.N.Nodup)
    (hcell : ∀ y ∈ scope.names, y.2 ≠ .cell) (hdot : (".0" : Str) ∉ X.N) (hfp : ∀ b ∈ fp, FpOk X pins H b ∧ b < s.heap.objs.size)
    (hA : A.handled = none) (hfr : A.frames = some (genEnv scope (cloFrom X.env.cells scope.names []) s.heap.objs.size code builtinsNs X.env :: X.stack)) (hg : AllBare g')
    (hns : h'.Ns s.heap.objs.size (fun y => if y = ".0" then some itv else none)) (kp : ∀ b o, s.heap.get? b = some o → h'.get? b = some o) {a : Addr} (ha : s.heap.objs.size < a) (hgo : h'.get? a = some go) (hgc : ∀ v, go.data ≠ .cell v) :
    Inv (gcx X A s H (genEnv scope (cloFrom X.env.cells scope.names []) s.heap.objs.size code builtinsNs X.env) fp) [(a, go)] (wipe σ (own.map (·.2))) H { s with heap := h', gens := g', drawn := d', toks := t' } := by
  have hfree : ∀ y ∈ scope.names, y.2 = .free → ∃ c, X.env.cells.lookup y.1 = some c := fun y hy e => by
    rcases ok.free y hy e with k | k
    · exact I.ok.has _ (.inl k)
    · exact I.ok.has _ (.inr k)
  generalize hcenv : genEnv scope (cloFrom X.env.cells scope.names []) s.heap.objs.size code builtinsNs X.env = cenv at hfr ⊢
  have hL : cenv.locals = s.heap.objs.size := by rw [← hcenv]; rfl
  have hcl : cenv.cells = cloFrom X.env.cells scope.names [] := by rw [← hcenv]; rfl
  have hsc : cenv.scope = scope := by rw [← hcenv]; rfl
  have cm : ∀ {y c}, (y, c) ∈ cloFrom X.env.cells scope.names [] → X.env.cells.lookup y = some c ∧ c < s.heap.objs.size := fun {y c} hm => by
    rcases cloFrom_mem hm with hm | ⟨h1, rfl⟩
    · cases hm
    · obtain ⟨c, hc⟩ := hfree _ h1 rfl
      rw [hc]
      obtain ⟨w, z⟩ := I.cell _ _ hc
      exact ⟨rfl, z.lt⟩
  have mem : ∀ {y c}, cenv.cells.lookup y = some c → X.env.cells.lookup y = some c ∧ c < s.heap.objs.size := fun {y c} e => by
    rw [hcl] at e
    exact cm (PySem.mem_of_lookup e)
  have look : ∀ {y}, scope.names.lookup y = some .free → ∃ c, cenv.cells.lookup y = some c ∧ X.env.cells.lookup y = some c := fun {y} hl => by
    have hy : (y, NameKind.free) ∈ scope.names := PySem.mem_of_lookup hl
    obtain ⟨c', e'⟩ := mem_lookup (cloFrom_has (cells := X.env.cells) (acc := []) hy)
    rw [← hcl] at e'
    exact ⟨c', e', (mem e').1⟩
  have okG : (gcx X A s H cenv fp).Ok := by
    refine ⟨I.ok.mod, by show cenv.scope.kind = _; rw [hsc]; exact ok.kind, by show cenv.globals = _; rw [← hcenv]; exact I.ok.glob, by show cenv.builtins = _; rw [← hcenv]; rfl, by show s.heap.objs.size ≤ cenv.locals; rw [hL]; exact Nat.le_refl _,
      fun y z c e1 e2 => I.ok.inj y z c (mem e1).1 (mem e2).1, fun y hy => ?_, fun y c z e => (nomatch z), fun _ => hA, hfr, .inr ⟨rfl, by show cenv.frame = some cenv.locals; rw [← hcenv]; rfl⟩, fun b hb => ⟨?_, fun y c e z => ?_⟩, I.bs, Nat.le_trans I.ok.bsz I.sz, fun b o e hb => ?_, fun b hb z => ?_, I.stack, I.stkFree⟩
    · show ∃ c, cenv.cells.lookup y = some c
      have hy' : scope.names.lookup y = some .cell ∨ scope.names.lookup y = some .free := by
        rcases hy with hy | hy
        · exact .inl (by rw [← hsc]; exact hy)
        · exact .inr (by rw [← hsc]; exact hy)
      rcases hy' with hy' | hy'
      · exact absurd rfl (hcell _ (PySem.mem_of_lookup hy'))
      · obtain ⟨c, h1, _⟩ := look hy'
        exact ⟨c, h1⟩
    · show b ≠ cenv.locals
      rw [hL]; exact Nat.ne_of_lt (hfp b hb).2
    · exact (hfp b hb).1.2.2.2.2.1 y c (mem e).1 z
    · rcases (hfp b hb).1.2.2.2.1 with z | z
      · exact I.ok.noex b o e z
      · exact absurd (Nat.lt_of_lt_of_le (Heap.lt_size e) (Nat.le_trans I.ok.bsz z)) (Nat.lt_irrefl _)
    · rcases List.mem_cons.mp (I.stkSub b z) with z | z
      · exact (hfp b hb).1.2.1 z
      · exact (hfp b hb).1.2.2.1 z
  have hfree0 : ∀ {b : Addr}, s.heap.objs.size ≤ b → H b = none := fun h => I.hok.fresh h
  refine ⟨okG, rfl, hg, Un.kept kp, ⟨fun y => if y = ".0" then some itv else none, ?_, fun i y av e1 e2 e3 => ?_⟩, fun y c e => ?_, ?_, fun y c e => ?_, fun p hp => ?_, I.hok.kept kp, by rw [wipe_length]; exact I.len⟩
  · show Heap.Ns _ cenv.locals _
    rw [hL]
    exact hns
  · obtain ⟨e2, hne⟩ := wipe_some e2
    have hfrk : scope.names.lookup y = some .free := by
      have e3 : Vis cenv.scope y := e3
      rw [hsc] at e3
      have no : ∀ k, scope.names.lookup y = some k → ¬ (k = .local ∨ k = .cell) := fun k e hh => by
        rcases ok.own _ (PySem.mem_of_lookup e) hh with e' | e'
        · obtain ⟨p, hp, hpy⟩ := List.mem_map.mp e'
          have e4 := ok.ix p hp
          have : p.1 = y := hpy
          rw [this] at e4
          exact hne (List.mem_map.mpr ⟨p, hp, nodup_ix hN e4 e1⟩)
        · exact e' (List.mem_of_getElem? e1)
      rcases e3 with e3 | e3 | e3
      · exact absurd (.inl rfl) (no _ e3)
      · exact absurd (.inr rfl) (no _ e3)
      · exact e3
    obtain ⟨m, hn, hl⟩ := I.loc
    have hvis : Vis X.env.scope y := (ok.free _ (PySem.mem_of_lookup hfrk) rfl).elim (fun k => .inr (.inl k)) (fun k => .inr (.inr k))
    obtain ⟨w, r, q⟩ := hl i y av e1 e2 hvis
    refine ⟨w, r, .inr ⟨.inr (by show cenv.scope.names.lookup y = _; rw [hsc]; exact hfrk), ?_⟩⟩
    obtain ⟨c, h1, h2⟩ := look hfrk
    rcases q with ⟨k, _⟩ | ⟨_, c', e', z⟩
    · have k : X.env.scope.names.lookup y = some .local := k
      rcases ok.free _ (PySem.mem_of_lookup hfrk) rfl with k' | k' <;> rw [show X.env.scope.names.lookup y = _ from k'] at k <;> cases k
    · rw [h2] at e'; cases e'
      exact ⟨c, h1, z.keeps kp⟩
  · obtain ⟨h1, _⟩ := mem (show cenv.cells.lookup y = some c from e)
    obtain ⟨w, z⟩ := I.cell y c h1
    exact ⟨w, z.keeps kp⟩
  · show H cenv.locals = none
    rw [hL]; exact hfree0 (Nat.le_refl _)
  · obtain ⟨h1, _⟩ := mem (show cenv.cells.lookup y = some c from e)
    exact I.freeC y c h1
  · have hp : p ∈ ([(a, go)] : List (Addr × Obj)) := hp
    have e : p = (a, go) := by simpa using hp
    subst e
    refine ⟨hgo, hfree0 (Nat.le_of_lt ha), ?_, fun z => ?_, hgc⟩
    · show a ≠ cenv.locals
      rw [hL]; exact Nat.ne_of_gt ha
    · have hlt : a < s.heap.objs.size := by
        have z : a ∈ frs X.stack := z
        rcases List.mem_cons.mp (I.stkSub a z) with z | z
        · rw [z]; exact I.lt
        · exact Nat.lt_of_not_le fun hh => I.nofs hh z
      exact Nat.lt_irrefl _ (Nat.lt_trans ha hlt)
end
section
variable {X : Cx} {pins : List (Addr × Obj)} {σ : L2.St} {H : Hp} {s : Shared}
/-- the state moved but for its generators and tokens -/
theorem inv_same {s' : Shared} (I : Inv X pins σ H s) (h1 : s'.heap = s.heap) (h2 : s'.os = s.os) (h3 : AllBare s'.gens) : Inv X pins σ H s' := by
  obtain ⟨h, g, d, t, o⟩ := s'
  have e1 : h = s.heap := h1
  have e2 : o = s.os := h2
  subst e1 e2
  exact I.step (h' := s.heap) (g' := g) (d' := d) (t' := t) (ch := []) (fun _ z => nomatch z) (fun _ _ _ _ _ e _ => e) (fun b o _ _ _ e _ => ⟨o.slots, e⟩) (fun _ _ _ _ n => n) (fun b o _ e => ⟨o, e⟩) (fun _ _ e => e) (fun _ _ _ e => e)
    (fun b ps e => ⟨#[], by rw [e]; simp⟩) (fun _ hm => hm) I.hok h3
/-- what the generator gives, one after the other -/
def Yg (X : Cx) (pp : List (Addr × Obj)) (σ0 : L2.St) (n : Nat) (Qf : Hp → Prop) : Protocol := fun m s₀ v s kap => ∃ i b, v = .bool b ∧ i < n ∧ m = n - i ∧
  (b = true → (∃ H', Inv X pp σ0 H' s) ∧ ∀ s'' : Shared, s''.heap = s.heap → s''.os = s.os → AllBare s''.gens → kap (.send .none) s'') ∧ (b = false → ∃ H', Inv X pp σ0 H' s ∧ Qf H')
def Rg (X : Cx) (pp : List (Addr × Obj)) (σ0 : L2.St) (n : Nat) (W : Nat → Hp → Prop) : Nat → Shared → Shared → Prop := fun m _ s₁ => m = 1 ∧ ∃ H', Inv X pp σ0 H' s₁ ∧ W n H'
theorem seg_genI {A : Around} {s4 : Shared} {H4 : Hp} {cenv : Env} {fp : List Addr} {tg iter elt : Expr} {scope : Scope} {pos : Pos} {it a : Addr} {go : Obj} {tn : Nat → Heap → Prop} {J : It} {g : TG} {te : TE} {vs : List Nat} {σ0 : L2.St} {n : Nat} {W : Nat → Hp → Prop} {Qf : Hp → Prop}
    (T : Turn X.prog X.w X.K tg J fp it tn) (hc : X.calm = true) (hco : cenv.scope.isCoroutine = false)
    (pg : PG (gcx X (A.over (.compLoop (.GeneratorExp elt [⟨tg, iter, [], 0⟩] scope pos) 0 (.ref it) .none cenv) []) s4 H4 cenv fp) tg g)
    (pe : PE (gcx X (A.over (.compLoop (.GeneratorExp elt [⟨tg, iter, [], 0⟩] scope pos) 0 (.ref it) .none cenv) []) s4 H4 cenv fp) elt te)
    (hafp : a ∉ fp) (hw0 : σ0 = wipe σ vs)
    (step : ∀ i H, W i H → i < n → J.go i H ∧ ∀ x H', J.yld i H x H' → g x σ0 H' fun σ2 H2 => wipe σ2 vs = σ0 ∧ te σ2 H2 fun y H3 => ∃ b, y = .bl b ∧ (b = true → W (i + 1) H3) ∧ (b = false → Qf H3))
    (stop : ∀ H, W n H → J.stop n H) :
    ∀ (k i : Nat) (s₀ s : Shared) (H : Hp), n - i = k → i ≤ n → Inv (gcx X (A.over (.compLoop (.GeneratorExp elt [⟨tg, iter, [], 0⟩] scope pos) 0 (.ref it) .none cenv) []) s4 H4 cenv fp) [(a, go)] σ0 H s → tn i s.heap → (∀ b ∈ fp, H b = none) → W i H →
      Seg (model X.prog X.w) A (fun n' s₀ r s₁ => r = .ok .next ∧ Rg (gcx X (A.over (.compLoop (.GeneratorExp elt [⟨tg, iter, [], 0⟩] scope pos) 0 (.ref it) .none cenv) []) s4 H4 cenv fp) [(a, go)] σ0 n W n' s₀ s₁)
        (Yg (gcx X (A.over (.compLoop (.GeneratorExp elt [⟨tg, iter, [], 0⟩] scope pos) 0 (.ref it) .none cenv) []) s4 H4 cenv fp) [(a, go)] σ0 n Qf) (k + 1) s₀
        (.compLoop (.GeneratorExp elt [⟨tg, iter, [], 0⟩] scope pos) 0 (.ref it) .none cenv)
        ((model X.prog X.w).den (.compLoop (.GeneratorExp elt [⟨tg, iter, [], 0⟩] scope pos) 0 (.ref it) .none cenv)) [] s := by
  generalize hXg : gcx X (A.over (.compLoop (.GeneratorExp elt [⟨tg, iter, [], 0⟩] scope pos) 0 (.ref it) .none cenv) []) s4 H4 cenv fp = Xg at pg pe ⊢
  have x1 : Xg.prog = X.prog := by rw [← hXg]
  have x2 : Xg.w = X.w := by rw [← hXg]
  have x3 : Xg.K = X.K := by rw [← hXg]
  have x4 : Xg.calm = true := by rw [← hXg]; exact hc
  have x5 : Xg.ex = fp := by rw [← hXg]
  have x6 : Xg.pn = [] := by rw [← hXg]
  have xA : Xg.A = A.over (.compLoop (.GeneratorExp elt [⟨tg, iter, [], 0⟩] scope pos) 0 (.ref it) .none cenv) [] := by rw [← hXg]
  have xE : Xg.env = cenv := by rw [← hXg]
  have xx : Xg.xe = fun _ _ => False := by rw [← hXg]
  have stat : ∀ {σ' : L2.St} {H' : Hp} {s' : Shared}, Inv Xg [(a, go)] σ' H' s' → (∀ b ∈ fp, H' b = none) → ∀ b ∈ fp, FpOk Xg [(a, go)] H' b := fun {σ' H' s'} I' hn b hb =>
    ⟨hn b hb, (I'.ok.exf b (by rw [x5]; exact hb)).1, I'.ok.exfs b (by rw [x5]; exact hb), .inl (by rw [x5]; exact hb), fun x c e => (I'.ok.exf b (by rw [x5]; exact hb)).2 x c e, fun p hp z => by
      rw [x6] at hp
      have e : p = (a, go) := by simpa using hp
      subst e
      exact hafp (by rw [show a = b from z]; exact hb)⟩
  intro k
  induction k with
  | zero =>
    intro i s₀ s H hk hi I st hn w
    have hin : i = n := by omega
    subst hin
    show Seg _ A _ _ _ s₀ _ ((compTurn (.GeneratorExp elt [⟨tg, iter, [], 0⟩] scope pos) 0 (.ref it) .none cenv).onRaise (leaving cenv)) [] s
    rw [compTurn_gen, Sem.onRaise_eq_wrap]
    refine seg_bind_wrap (wpAny_standAt ?_)
    have td := T.done Xg x1 x2 x3 x4 i [(a, go)] s _ H (fun _ _ => False) I (stat I hn) st (stop H w)
    rw [xA] at td
    refine seg_bind_wrap (wpAny_mono td (fun r s' h => ?_) fun _ _ e => e.elim)
    obtain ⟨rfl, I'⟩ := h
    exact seg_end (.ok .next) ⟨rfl, rfl, H, I', w⟩
  | succ k ih =>
    intro i s₀ s H hk hi I st hn w
    have hlt : i < n := by omega
    obtain ⟨go', sp⟩ := step i H w hlt
    show Seg _ A _ _ _ s₀ _ ((compTurn (.GeneratorExp elt [⟨tg, iter, [], 0⟩] scope pos) 0 (.ref it) .none cenv).onRaise (leaving cenv)) [] s
    rw [compTurn_gen, Sem.onRaise_eq_wrap]
    refine seg_bind_wrap (wpAny_standAt ?_)
    have ti := T.item Xg x1 x2 x3 x4 i [(a, go)] s _ H (fun _ _ => False) I (stat I hn) st go'
    rw [xA] at ti
    refine seg_bind_wrap (wpAny_mono ti (fun r s1 h1 => ?_) fun _ _ e => e.elim)
    obtain ⟨u, rfl, h1⟩ := h1
    refine seg_bind_wrap (wpAny_mono h1 (fun _ s2 h2 => ?_) fun _ _ e => e.elim)
    obtain ⟨x, H2, I2, r2, y2, st2, n2⟩ := h2
    have I2' := I2.pinned (stat I2 n2) (T.obj _ _ st2)
    have hgr := pg.run _ s2 σ0 H2 x u _ I2' r2 (sp x H2 y2)
    rw [x1, x2, xA, xE, xx] at hgr
    refine seg_bind_wrap (wpAny_mono hgr (fun _ s3 h3 => ?_) fun _ _ e => e.elim)
    obtain ⟨σ3, H3, I3, hw3, q3⟩ := h3
    simp only [List.forIn_nil]
    refine seg_bind_wrap (wpAny_pure ?_)
    simp only [if_true]
    have hy : ∀ v, yieldOut cenv v = yieldValue v := fun v => by simp only [yieldOut, hco, Bool.false_eq_true, if_false]
    simp only [hy]
    rw [Sem.bind_eq_wrap', Sem.bind_eq_wrap', Sem.wrap_wrap, Sem.wrap_wrap]
    have her := pe.run _ s3 σ3 H3 _ I3 q3
    rw [x1, x2, xA, xE, xx] at her
    refine seg_wrap (wpAny_mono her (fun yv s4' h4 => ?_) fun _ _ e => e.elim)
    obtain ⟨y, H5, I5, r5, b, rfl, hb1, hb2⟩ := h4
    obtain rfl : yv = Value.bool b := r5
    have pin' : ∀ c ∈ fp, ∀ o, s2.heap.get? c = some o → s4'.heap.get? c = some o ∧ H5 c = none := fun c hcf o e =>
      let z := I5.pin (c, o) (List.mem_append_right _ (List.mem_append_right _ (mem_pinsAt hcf e)))
      ⟨z.1, z.2.1⟩
    have hl : σ0.length = σ3.length := by rw [← hw3, wipe_length]
    have J5 : Inv Xg [(a, go)] σ0 H5 s4' := (I5.unpinned (pins := [(a, go)])).weak hl fun j v e => by
      rw [← hw3] at e
      exact (wipe_some e).1
    have st5 : tn (i + 1) s4'.heap := T.keep _ _ _ st2 fun c hcf o e => (pin' c hcf o e).1
    have n5 : ∀ c ∈ fp, H5 c = none := fun c hcf => by
      obtain ⟨o, e, _⟩ := T.obj _ _ st2 c hcf
      exact (pin' c hcf o e).2
    refine seg_at (seg_yield rfl rfl rfl ⟨i, b, rfl, hlt, by omega, fun hb => ⟨⟨H5, J5⟩, fun s'' e1 e2 e3 => ?_⟩, fun hb => ⟨H5, J5, hb2 hb⟩⟩)
    exact seg_again rfl (ih (i + 1) s'' s'' H5 (by omega) hlt (inv_same J5 e1 e2 e3) (by rw [e1]; exact st5) n5 (hb1 hb))
end
section
variable {X : Cx}
/-- all(elt for tg in iter): W i holds when i items have come, all true; the def's table may have grown -/
def tAllG (P : Addr) (wi : TI) (g : TG) (te : TE) (vs : List Nat) : TE := fun σ H Q => wi σ H fun J H1 => TabG H1 P ∧ ∀ H2, Tabbed P H1 H2 → ∃ (n : Nat) (W : Nat → Hp → Prop), W 0 H2 ∧ (∀ H, W n H → J.stop n H ∧ Q (.bl true) H) ∧
  ∀ i H, W i H → i < n → J.go i H ∧ ∀ x H', J.yld i H x H' → g x (wipe σ vs) H' fun σ2 H3 => wipe σ2 vs = wipe σ vs ∧ te σ2 H3 fun y H4 => ∃ b, y = .bl b ∧ (b = true → W (i + 1) H4) ∧ (b = false → Q (.bl false) H4)
theorem pe_allG {c P : Addr} {elt iter tg : Expr} {own : List (Str × Nat)} {p pos gpos : Pos} {scope : Scope} {wi : TI} {g : TG} {te : TE} {k : Nat}
    (hr : Room (k + 1) X.A) (hcalm : X.calm = true) (hN : X.N.Nodup) (hg : Gl X "all") (hm : X.mg "all" = none) (TB : TabB X.base X.mg c P) (hcode : X.env.code = .ref c) (ok : BlkOk X.N X.env.scope scope own)
    (hcell : ∀ y ∈ scope.names, y.2 ≠ .cell) (hdotN : (".0" : Str) ∉ X.N) (hdot : scope.names.lookup (".0" : Str) = some NameKind.local) (hco : scope.isCoroutine = false) (hi : PI X tg iter wi)
    (hgt : ∀ (A : Around) (s : Shared) (H : Hp) (C : Addr) (cl : List (Str × Addr)) (code : Value) (fp : List Addr), PG (gcx X A s H (genEnv scope cl C code builtinsNs X.env) fp) tg g)
    (he : ∀ (A : Around) (s : Shared) (H : Hp) (C : Addr) (cl : List (Str × Addr)) (code : Value) (fp : List Addr), Room k A → PE (gcx X A s H (genEnv scope cl C code builtinsNs X.env) fp) elt te)
    (hb : bootBuiltins "all" = some (.builtin "all") := by decide +kernel)
    (hs : ∀ v, genFold iter X.env v = pure v := by intro _; rfl)
    (hst : starEach [.GeneratorExp elt [⟨tg, iter, [], 0⟩] scope gpos] X.env = (false, eval (.GeneratorExp elt [⟨tg, iter, [], 0⟩] scope gpos) X.env) :: starEach [] X.env := by rfl) :
    PE X (.Call (.Name "all" p) [.GeneratorExp elt [⟨tg, iter, [], 0⟩] scope gpos] [] pos) (tAllG P wi g te (own.map (·.2))) := by
  refine ⟨fun pins s σ H Q I h => ?_⟩
  refine wpAny_Call_Name_kw (ld_blt I hg hm hb ?_)
  refine PyProof.Rows.callWith_builtin1 ?_ hst (by rfl)
  rw [hst]
  show wpAny _ _ (spliced ((false, eval (.GeneratorExp elt [⟨tg, iter, [], 0⟩] scope gpos) X.env) :: backTo pos (starEach [] X.env))) _ _ s
  refine Calls.spliced_cons ?_
  have hfree : ∀ y ∈ scope.names, y.2 = .free → ∃ c, X.env.cells.lookup y.1 = some c := fun y hy e => by
    rcases ok.free y hy e with k | k
    · exact I.ok.has _ (.inl k)
    · exact I.ok.has _ (.inr k)
  refine wpAny_GeneratorExp_make hco (closure_ok hfree) hcell hdot ok.kind (by have := hr.dp; omega) (thn (hi.run pins s σ H _ I h) fun xv s1 hx => thn hx fun itv s2 h2 => ?_) hs
  obtain ⟨it, fp, tn, J, H1, rfl, I2, T, st2, f2, ⟨ps, hP, htr⟩, q⟩ := h2
  refine ⟨I2.nolimit, ?_⟩
  have hPs : s2.heap.get? P = some { cls := .none, data := .fields ps } := I2.hok P _ hP
  have cd : PySem.W.CodeHd s2.heap c P := TB.code.keeps I2.bk
  have sz : ∀ b ∈ fp, b < s2.heap.objs.size := fun b hb => by
    obtain ⟨o, e, _⟩ := T.obj _ _ st2 b hb
    exact Heap.lt_size e
  have hPf : P ∉ fp := fun hb => by
    have := (f2 P hb).1
    rw [hP] at this
    cases this
  -- behind the code object
  have cont : ∀ (code : Value) (h3 : Heap) (tk : Nat) (ps' : Array Value), Heap.ExtBut P s2.heap h3 → s2.heap.objs.size ≤ h3.objs.size → h3.get? P = some { cls := .none, data := .fields ps' } → (∃ more, ps' = ps ++ more) → TriplesOk ps'.toList →
      wpAny (model X.prog X.w) X.A (builtinsFor X.env.globals X.env.builtins) (fun bi s₄ =>
        ∀ h', h'.Ns s₄.heap.objs.size (fun y => if y = ".0" then some (.ref it) else none) → Heap.SameBut s₄.heap.objs.size (s₄.heap.push { cls := .type "frame", data := .dict #[] }) h' →
          wpAny (model X.prog X.w) X.A (spliced (backTo pos (starEach [] X.env))) (fun vs s5 => wpAny (model X.prog X.w) X.A (call (.builtin "all") (.ref h'.objs.size :: vs)) (EP X pins σ Q) X.xe s5) X.xe
            { s₄ with gens := s₄.gens.push (.fresh (.compStart (.GeneratorExp elt [⟨tg, iter, [], 0⟩] scope gpos) 0 (.ref it) .none (genEnv scope (cloFrom X.env.cells scope.names []) s₄.heap.objs.size code bi X.env))),
                      toks := s₄.toks + 1 + 1 + 1,
                      heap := h'.push { cls := .type "generator", data := .fields #[.int s₄.gens.size 0, .str "<genexpr>" (s₄.toks + 1), .str (X.env.qual ++ "<genexpr>") (s₄.toks + 1 + 1)] } }) X.xe { s2 with heap := h3, toks := tk } := by
    intro code h3 tk ps' hx hsz hP3 hmore ht3
    obtain ⟨bm, ob, e1, e2, e3, e4, e5, e6, e7, e8⟩ := TB.bm
    have keep3 : ∀ b u, b ≠ P → s2.heap.get? b = some u → h3.get? b = some u := fun b u hb e => hx b u hb e
    refine wpAny_builtinsFor (m := X.mg) (by rw [I2.ok.glob]; exact (I2.mod.glob.keeps I2.bk).extBut hx TB.gP) e1 e2 (keep3 _ _ e4 (I2.bk _ _ e5)) e6 e7 e8 ?_
    obtain ⟨more, em⟩ := hmore
    have I3 : Inv X pins σ (upd H1 P (.tbl (ps ++ more))) { s2 with heap := h3, toks := tk } := by
      have J := inv_tab (more := more) (h' := h3) (g' := s2.gens) (d' := s2.drawn) (t' := tk) I2 hP keep3 (by rw [← em]; exact hP3) I2.bare
      exact J
    have hT : Tabbed P H1 (upd H1 P (.tbl (ps ++ more))) := ⟨⟨ps ++ more, upd_same, by rw [← em]; exact ht3⟩, fun b hb => upd_ne hb⟩
    obtain ⟨n, W, w0, wn, wi'⟩ := q _ hT
    intro h' hns hsb
    generalize hs3 : ({ s2 with heap := h3, toks := tk } : Shared) = s3 at I3 hns hsb ⊢
    generalize hH3 : upd H1 P (.tbl (ps ++ more)) = H3 at I3 w0
    have e33 : s3.heap = h3 := by rw [← hs3]
    refine Calls.spliced_nil ?_
    have hsz' : h'.objs.size = s3.heap.objs.size + 1 := by rw [hsb.1, Heap.size_push]
    have keep' : ∀ b o, s3.heap.get? b = some o → h'.get? b = some o := fun b o e => hsb.extBut b o (Nat.ne_of_lt (Heap.lt_size e)) (Heap.get?_push_of_some _ e)
    generalize hgo : ({ cls := .type "generator", data := .fields #[.int s3.gens.size 0, .str "<genexpr>" (s3.toks + 1), .str (X.env.qual ++ "<genexpr>") (s3.toks + 1 + 1)] } : Obj) = go
    have hgf : go.isFreed = false := by rw [← hgo]; rfl
    generalize hcenv : genEnv scope (cloFrom X.env.cells scope.names []) s3.heap.objs.size code builtinsNs X.env = cenv
    have hns6 : (h'.push go).Ns s3.heap.objs.size (fun y => if y = ".0" then some (.ref it) else none) := hns.push _
    have keep6 : ∀ b o, s3.heap.get? b = some o → (h'.push go).get? b = some o := fun b o e => Heap.get?_push_of_some _ (keep' b o e)
    have hgeta : (h'.push go).get? h'.objs.size = some go := Heap.get?_push_size _ hgf
    have hfp3 : ∀ b ∈ fp, FpOk X pins H3 b ∧ b < s3.heap.objs.size := fun b hb => by
      refine ⟨⟨?_, (f2 b hb).2⟩, by rw [e33]; exact Nat.lt_of_lt_of_le (sz b hb) hsz⟩
      rw [← hH3, upd_ne (fun e => hPf (by rw [← e]; exact hb))]
      exact (f2 b hb).1
    have st3 : tn 0 (h'.push go) := T.keep _ _ _ st2 fun b hb o e => keep6 b o (by rw [e33]; exact keep3 b o (fun e' => hPf (by rw [← e']; exact hb)) e)
    have hafp : h'.objs.size ∉ fp := fun hb => by
      have h9 : h'.objs.size < s3.heap.objs.size := (hfp3 _ hb).2
      rw [hsz'] at h9
      exact absurd h9 (by omega)
    -- the generator's around
    have roomA : ∀ c' : Code, c'.weight = 1 → c'.cUnits = 3 → (X.A.in1.in1.over c' []).handled = none ∧ Room k (X.A.in1.in1.over c' []) := fun c' h1 h2 => by
      have hd : (X.A.in1.in1.over c' []).handled = none := hr.hd
      refine ⟨hd, hd, ?_, ?_⟩
      · have := hr.dp
        show X.A.depth + frameCount (([] : List Frame).map Frame.where_) + c'.weight + 3 * k + 5 < recursionLimit
        rw [h1]
        simp only [List.map_nil]
        have : frameCount [] = 0 := rfl
        omega
      · have := hr.un
        show X.A.units + 1 + 1 + unitsOf (([] : List Frame).map Frame.where_) + c'.cUnits + 16 * k + 200 < cLine
        rw [h2]
        simp only [List.map_nil]
        have : unitsOf [] = 0 := rfl
        omega
    have frA : (X.A.in1.in1.over (.compLoop (.GeneratorExp elt [⟨tg, iter, [], 0⟩] scope gpos) 0 (.ref it) .none cenv) []).frames = some (cenv :: X.stack) := by
      show pushEnvs (Code.envs (.compLoop (.GeneratorExp elt [⟨tg, iter, [], 0⟩] scope gpos) 0 (.ref it) .none cenv)) (pushEnvs (envsOf (([] : List Frame).map Frame.where_)) X.A.frames) = _
      rw [I.ok.frames]
      rfl
    have rA := roomA (.compLoop (.GeneratorExp elt [⟨tg, iter, [], 0⟩] scope gpos) 0 (.ref it) .none cenv) rfl rfl
    have okInv : ∀ s'' : Shared, s''.heap = h'.push go → s''.os = s3.os → AllBare s''.gens → Inv (gcx X (X.A.in1.in1.over (.compLoop (.GeneratorExp elt [⟨tg, iter, [], 0⟩] scope gpos) 0 (.ref it) .none cenv) []) s3 H3 cenv fp) [(h'.objs.size, go)] (wipe σ (own.map (·.2))) H3 s'' := fun s'' q1 q2 q3 => by
      obtain ⟨hh, gg, dd, tt, oo⟩ := s''
      have q1 : hh = h'.push go := q1
      have q2 : oo = s3.os := q2
      subst q1 q2
      have G := gen_start (A := X.A.in1.in1.over (.compLoop (.GeneratorExp elt [⟨tg, iter, [], 0⟩] scope gpos) 0 (.ref it) .none cenv) []) (code := code) (itv := .ref it) (go := go) (h' := h'.push go) (g' := gg) (d' := dd) (t' := tt) I3 ok hN hcell hdotN hfp3 rA.1 (by rw [hcenv]; exact frA) q3 hns6 keep6
        (a := h'.objs.size) (by rw [hsz']; exact Nat.lt_succ_self _) hgeta (by rw [← hgo]; intro v z; cases z)
      rw [hcenv] at G
      exact G
    have hpg := hgt (X.A.in1.in1.over (.compLoop (.GeneratorExp elt [⟨tg, iter, [], 0⟩] scope gpos) 0 (.ref it) .none cenv) []) s3 H3 s3.heap.objs.size (cloFrom X.env.cells scope.names []) code fp
    have hpe := he (X.A.in1.in1.over (.compLoop (.GeneratorExp elt [⟨tg, iter, [], 0⟩] scope gpos) 0 (.ref it) .none cenv) []) s3 H3 s3.heap.objs.size (cloFrom X.env.cells scope.names []) code fp rA.2
    rw [hcenv] at hpg hpe
    have hcocenv : cenv.scope.isCoroutine = false := by rw [← hcenv]; exact hco
    have seg := seg_genI (X := X) (A := X.A.in1.in1) (s4 := s3) (H4 := H3) (cenv := cenv) (fp := fp) (tg := tg) (iter := iter) (elt := elt) (scope := scope) (pos := gpos) (it := it) (a := h'.objs.size) (go := go) (tn := tn) (J := J) (g := g) (te := te) (vs := own.map (·.2)) (σ0 := wipe σ (own.map (·.2))) (n := n) (W := W)
      (Qf := fun H => Q (.bl false) H) T hcalm hcocenv hpg hpe hafp rfl wi' (fun H w => (wn H w).1)
    -- back in the def
    have back : ∀ {H' : Hp} {s' : Shared}, Inv (gcx X (X.A.in1.in1.over (.compLoop (.GeneratorExp elt [⟨tg, iter, [], 0⟩] scope gpos) 0 (.ref it) .none cenv) []) s3 H3 cenv fp) [(h'.objs.size, go)] (wipe σ (own.map (·.2))) H' s' → Inv X pins σ H' s' := fun {H' s'} J' =>
      I3.call' (ch := fp) J'.os J'.base J'.hok J'.bare fun b hb => ⟨(hfp3 b hb).1.2.2.2.1, (hfp3 b hb).1.2.1, (hfp3 b hb).1.2.2.2.2.1, (hfp3 b hb).1.2.2.2.2.2⟩
    have fromRet : ∀ {b : Bool} {H' : Hp} {s' : Shared}, Inv X pins σ H' s' → Q (.bl b) H' → EP X pins σ Q (.bool b) s' := fun J' q' => ⟨.bl _, _, J', rfl, q'⟩
    generalize hgn : s3.gens.size = gn
    have hgen : ∀ hh : Heap, hh.get? h'.objs.size = some go → hh.IsGen h'.objs.size gn := fun hh e => ⟨go, _, _, e, by rw [← hgo], by rw [← hgo, ← hgn], by rw [← hgo]⟩
    -- the consumer
    let Xg := gcx X (X.A.in1.in1.over (.compLoop (.GeneratorExp elt [⟨tg, iter, [], 0⟩] scope gpos) 0 (.ref it) .none cenv) []) s3 H3 cenv fp
    let pp : List (Addr × Obj) := [(h'.objs.size, go)]
    let σ0 := wipe σ (own.map (·.2))
    let RR : GenEnd := fun n' s₀ r s₁ => r = .ok .next ∧ Rg Xg pp σ0 n W n' s₀ s₁
    let YY : Protocol := Yg Xg pp σ0 n fun H => Q (.bl false) H
    let Jn : Nat → Shared → Prop := fun i s' => ∃ gs, s'.gens[gn]? = some gs ∧ (∃ H', Inv Xg pp σ0 H' s') ∧
      ∀ s'' : Shared, s''.heap = s'.heap → s''.os = s'.os → AllBare s''.gens → gs.Goes (model X.prog X.w) X.A.in1.in1 RR YY (n - i + 1) (.send .none) s''
    have pinAt : ∀ {H' : Hp} {s' : Shared}, Inv Xg pp σ0 H' s' → s'.heap.get? h'.objs.size = some go := fun J' => (J'.pin (h'.objs.size, go) (by show (h'.objs.size, go) ∈ ([] : List (Addr × Obj)) ++ [(h'.objs.size, go)]; simp)).1
    have setHeap : ∀ (s' : Shared) (x : GenState), (s'.setGen gn x).heap = s'.heap := fun _ _ => rfl
    have setOs : ∀ (s' : Shared) (x : GenState), (s'.setGen gn x).os = s'.os := fun _ _ => rfl
    have bareSet : ∀ (s' : Shared) (x : GenState), AllBare s'.gens → x.bare = true → AllBare (s'.setGen gn x).gens := fun s' x hb hx y hy => by
      have hy' : y ∈ s'.gens.setIfInBounds gn x := hy
      rcases Array.mem_or_eq_of_mem_setIfInBounds hy' with z | z
      · exact hb y z
      · rw [z]; exact hx
    have getSet : ∀ (s' : Shared) (x : GenState), gn < s'.gens.size → (s'.setGen gn x).gens[gn]? = some x := fun s' x hlt => by simp [Shared.setGen, hlt]
    have item : ∀ i s', i < n → Jn i s' → wpAny (model X.prog X.w) X.A.in1 (pyNext (.ref h'.objs.size)) (fun r s'' => ∃ b, r = some (.bool b) ∧ (b = true → Jn (i + 1) s'') ∧ (b = false → EP X pins σ Q (.bool false) s'')) (fun _ _ => False) s' := by
      rintro i s' hlt ⟨gs, hgs, ⟨H', J'⟩, hgo'⟩
      have hsz : gn < s'.gens.size := by
        rcases Nat.lt_or_ge gn s'.gens.size with z | z
        · exact z
        · rw [Array.getElem?_eq_none z] at hgs; cases hgs
      obtain ⟨m, hm⟩ : ∃ m, n - i = m + 1 := ⟨n - i - 1, by omega⟩
      refine GenW.wpAny_gsz (n := gn + 1) hsz ?_
      refine wpAny_pyNext_genexpQ (n := m + 1 + 1) (P := Rg Xg pp σ0 n W) (Y := YY) (gs := gs) hr.hd J'.nolimit (by have := hr.dp; show X.A.depth < _; omega) (hgen _ (pinAt J')) hgs ?_ (fun v s1 gs' hb hv => ?_) (fun s1 hp h1 hk => ?_)
      · rw [← hm]
        exact hgo' _ (setHeap _ _) (setOs _ _) (bareSet _ _ J'.bare rfl)
      · obtain ⟨i', b, rfl, hi', hmi, hb1, hb2⟩ := hv
        have hii : i' = i := by omega
        subst hii
        intro hsz1
        have hsz2 : gn < s1.gens.size := by
          have e : (s1.setGen gn gs').gens.size = s1.gens.size := GenW.setGen_size _ _ _
          rw [e] at hsz1
          exact hsz1
        refine ⟨b, rfl, fun hbt => ?_, fun hbf => ?_⟩
        · obtain ⟨⟨H5, J5⟩, hk⟩ := hb1 hbt
          refine ⟨gs', getSet _ _ hsz2, ⟨H5, inv_same J5 (setHeap _ _) (setOs _ _) (bareSet _ _ J5.bare hb)⟩, fun s'' q1 q2 q3 => ?_⟩
          have e : n - (i' + 1) + 1 = m + 1 := by omega
          rw [e]
          exact hk s'' q1 q2 q3
        · obtain ⟨H5, J5, q5⟩ := hb2 hbf
          exact fromRet (back (inv_same J5 (setHeap s1 gs') (setOs s1 gs') (bareSet _ _ J5.bare hb))) q5
      · exact absurd hp.1 (by omega)
    have done : ∀ s', Jn n s' → wpAny (model X.prog X.w) X.A.in1 (pyNext (.ref h'.objs.size)) (fun r s'' => r = none ∧ EP X pins σ Q (.bool true) s'') (fun _ _ => False) s' := by
      rintro s' ⟨gs, hgs, ⟨H', J'⟩, hgo'⟩
      rw [Nat.sub_self, Nat.zero_add] at hgo'
      refine wpAny_pyNext_genexpQ (n := 1) (P := Rg Xg pp σ0 n W) (Y := YY) (gs := gs) hr.hd J'.nolimit (by have := hr.dp; show X.A.depth < _; omega) (hgen _ (pinAt J')) hgs ?_ (fun v s1 gs' hb hv => ?_) (fun s1 hp h1 hk => ?_)
      · exact hgo' _ (setHeap _ _) (setOs _ _) (bareSet _ _ J'.bare rfl)
      · obtain ⟨i', b, rfl, hi', hmi, hb1, hb2⟩ := hv
        omega
      · obtain ⟨_, H5, J5, w5⟩ := hp
        refine ⟨rfl, ?_⟩
        have J6 := inv_same J5 (setHeap s1 .finished) (setOs s1 .finished) (bareSet _ _ J5.bare rfl)
        have J7 := J6.kept (h' := h1) (t' := (s1.setGen gn .finished).toks) hk
        exact fromRet (back J7) (wn H5 w5).2
    refine call_function_tree F.kind_all F.plain_all F.entry_all (F.args_all1 _) ?_
    unfold Builtin.«all»
    refine wpAny_bind (m := oneArg "all" _) (wpAny_pure ?_)
    refine wpAny_bind (wpAny_pyIter_gen (hgen _ hgeta) ?_)
    refine wpAny_pure ⟨plainId_quiet F.plain_all_loop _, all_loopI (A := X.A) (n := n) (J := Jn) (fun i s' hi hJ => ?_) (fun s' hJ => ?_) n 0 _ rfl (Nat.zero_le _) ?_⟩
    · exact item i s' hi hJ
    · exact done s' hJ
    · have hb6 : AllBare (s3.gens.push (GenState.fresh (Code.compStart (Expr.GeneratorExp elt [⟨tg, iter, [], 0⟩] scope gpos) 0 (Value.ref it) Value.none cenv))) := I3.bare.push rfl
      refine ⟨.fresh (Code.compStart (Expr.GeneratorExp elt [⟨tg, iter, [], 0⟩] scope gpos) 0 (Value.ref it) Value.none cenv), ?_, ⟨H3, okInv _ rfl rfl hb6⟩, fun s'' q1 q2 q3 => ⟨rfl, ?_⟩⟩
      · show (s3.gens.push _)[gn]? = some _
        rw [← hgn]
        exact Array.getElem?_push_size ..
      · have hloop := seg n 0 s'' s'' H3 (Nat.sub_zero _) (Nat.zero_le _) (okInv s'' q1 q2 q3) (by rw [q1]; exact st3) (fun b hb => (hfp3 b hb).1.1) w0
        show Seg _ X.A.in1.in1 _ _ _ s'' _ ((compStart (.GeneratorExp elt [⟨tg, iter, [], 0⟩] scope gpos) 0 (.ref it) .none cenv).onRaise (leaving cenv)) [] s''
        unfold compStart
        rw [Sem.onRaise_eq_wrap]
        show Seg _ X.A.in1.in1 _ _ _ s'' _ ((ask >>= _).wrap _ _ _ _) [] s''
        refine seg_bind_wrap (wpAny_askSetting ?_)
        split
        · exact seg_again rfl hloop
        · first
            | exact seg_bind_wrap (wpAny_rule (seg_bind_wrap (wpAny_standAt (seg_bind_wrap (T.self _ 0 s'' _ _ (by rw [q1]; exact st3) (seg_again rfl hloop))))))
            | (refine seg_bind_wrap (wpAny_rule ?_); show Seg _ X.A.in1.in1 _ _ _ s'' _ ((standAt iter.pos >>= _).wrap _ _ _ _) [] s''; exact seg_bind_wrap (wpAny_standAt (seg_bind_wrap (T.self _ 0 s'' _ _ (by rw [q1]; exact st3) (seg_again rfl hloop)))))
  cases hf : codeAmong gpos ps.toList with
  | none =>
    refine wpAny_genexprCodeX hcode (cd.code hPs htr) (cd.tab hPs) hf fun c' h' tk hx hge hlt hco' _ htab' _ => ?_
    obtain ⟨o1, vs, f1, tf, fl, tg', inF, tx, tt, op, _, _, _, _, _, _, _, _, _, htr', _⟩ := hco'
    exact cont _ h' tk _ hx (Nat.le_trans hge (Nat.le_of_lt hlt)) htab'.2 ⟨_, rfl⟩ htr'
  | some cv =>
    refine wpAny_genexprCode_hit hcode (cd.code hPs htr) hf ?_
    exact cont cv s2.heap s2.toks ps (Heap.ExtBut.refl _ _) (Nat.le_refl _) hPs ⟨#[], by simp⟩ htr
end
end CWG

set_option Elab.async false
set_option linter.all false
set_option maxRecDepth 100000
set_option maxHeartbeats 2000000
namespace CWG
open PySem PySem.Spec PyProof.Rows L2
/-- keywords behind n positional arguments, in the sequence of the parameters -/
theorem kbn_of {K : PySem.W.Frag} {x qual : Str} {params : Arguments} {body : List Stmt} {scope : Scope} {f : Addr} {fd : FuncData} {ps ks : List Str} {n : Nat} {kws : List (Str × V)} (F : FunD K x qual params body scope [] kws f fd)
    (h : ∀ (kV doc pm : Value) (an : Option Addr) (cdv ct : Value) (us ws : List Value), us.length = n → ws.length = ks.length → bindArgs (PySem.W.fnOf x qual params body scope .none kV doc pm an cdv ct) ⟨us, ks.zip ws⟩ = pure (ps.zip (us ++ ws))) :
    KBn K fd ps n ks (fun us ws => us ++ ws) (fun vs zs => vs ++ zs) := by
  refine ⟨fun s us ws hk h1 h2 => ?_, fun a b => a.append b⟩
  obtain ⟨oc, od, dV, kV, doc, pm, an, cdv, ct, osl, rfl, _, _, hd, _⟩ := F.ex
  rcases hd with ⟨_, rfl⟩ | ⟨hn, _⟩
  · exact .of_eq (h kV doc pm an cdv ct us ws h1 h2)
  · exact absurd rfl hn
section
variable {X : Cx} {CX : CXT} {k n : Nat} {f C : Addr} {fd : FuncData} {ps ks : List Str} {sp : Sp} {E : XK} {x m : Str} {p pos apos : Pos} {e o : Expr} {es : List Expr} {kws : List Keyword} {t tk : TA} {ta : TE} {g : List Value → List Value → List Value} {gV : List V → List V → List V}
/-- f(k = v, ..) -/
theorem pe_callN0 (F : FnOk X.prog X.w X.K X.mg X.base CX k f fd ps sp) (hr : Room k X.A) (hg : Gl X x) (hm : X.mg x = some (.ref f)) (hk : PySem.W.keepIn X.K (.ref f) = true) (hb : KBn X.K fd ps 0 ks g gV) (hx : Passes CX X E)
    (hkw : PK X kws tk) (hall : (backToKw pos (keywordEach kws X.env)).all (·.1.isSome) = true := by rfl) (hks : (backToKw pos (keywordEach kws X.env)).filterMap (·.1) = ks := by rfl)
    (hdb : (x == ("__debug__" : Str)) = false := by decide)
    (hpl : ((backTo pos (starEach [] X.env)).any (·.1) || (backToKw pos (keywordEach kws X.env)).any (·.1.isNone)) = false := by rfl) :
    PE X (.Call (.Name x p) [] kws pos) (tCallN 0 ks.length sp gV E tNil tk) := by
  refine ⟨fun pins s σ H Q I h => ?_⟩
  refine wpAny_Call_Name_kw (ld_glob I hg hm ?_ hdb)
  have h : tk σ H fun zs H2 => ([] : List V).length = 0 ∧ zs.length = ks.length ∧ sp (gV [] zs) H2 Q E := h
  refine PySem.W.callWith_KW0 (h₀ := X.base) I.ok.mod.kin hk hall (thn (hkw.run pos pins s σ H _ I h) fun ws s2 ⟨zs, H2, I2, rz, l1, l2, q2⟩ => ⟨I2.kIn, ?_⟩) hpl
  rw [hks]
  exact run_fnN F hr hb hx I2 .nil rz l1 l2 q2
/-- o.m(k = v, ..): self and the keywords -/
def tMethN (C : Addr) (m : Str) (j : Nat) (sp : Sp) (gV : List V → List V → List V) (E : XK) (ta : TE) (tk : TA) : TE := fun σ H Q => ta σ H fun x H1 => ∃ a dx fs, x = .ref a ∧ H1 a = some (.ins C dx fs) ∧ fs.lookup m = none ∧
  tk σ H1 fun zs H2 => zs.length = j ∧ sp (gV [x] zs) H2 Q E
theorem pe_methN0 {pl : Sem Bool} (he : PE X o ta) (c : Cls X.K C) (hm : Meth X.K C m f) (F : FnOk X.prog X.w X.K X.mg X.base CX k f fd ps sp) (hr : Room k X.A) (hb : KBn X.K fd ps 1 ks g gV) (hx : Passes CX X E) (hkw : PK X kws tk)
    (hall : (backToKw pos (keywordEach kws X.env)).all (·.1.isSome) = true := by rfl) (hks : (backToKw pos (keywordEach kws X.env)).filterMap (·.1) = ks := by rfl)
    (hpl : ((backTo pos (starEach [] X.env)).any (·.1) || (backToKw pos (keywordEach kws X.env)).any (·.1.isNone)) = false := by rfl)
    (ht : eval (.Call (.Attribute o m apos) [] kws pos) X.env = (do
      let ov ← eval o X.env
      standAt apos.atName
      let (f, first) ← holding [ov] (getMethod ov m pl)
      callWith pos f first (backTo pos (starEach [] X.env)) (backToKw pos (keywordEach kws X.env))) := by rfl) :
    PE X (.Call (.Attribute o m apos) [] kws pos) (tMethN C m ks.length sp gV E ta tk) := by
  refine ⟨fun pins s σ H Q I h => ?_⟩
  refine PySem.W.methodCall_KW (pl := pl) (thn (he.run pins s σ H _ I h) fun u s1 ⟨x, H1, I1, rx, a, dx, fs, ex, ea, l, q⟩ => ?_) ht
  subst ex
  obtain rfl : u = Value.ref a := rx
  refine getmeth_ok I1 ea c hm l ?_
  refine PySem.W.callWith_KW0 (first := [.ref a]) (h₀ := X.base) I.ok.mod.kin hm.kp hall (thn (hkw.run pos pins s1 σ H1 _ I1 q) fun ws s2 ⟨zs, H2, I2, rz, l2, q2⟩ => ⟨I2.kIn, ?_⟩) hpl
  rw [hks]
  exact run_fnN (us := [.ref a]) (vs := [.ref a]) F hr hb hx I2 (.cons rfl .nil) rz rfl l2 q2
end
end CWG

set_option Elab.async false
set_option linter.all false
set_option maxRecDepth 100000
set_option maxHeartbeats 4000000
namespace CWG
open PySem PySem.Spec PyProof.Rows L2
/-- what the written part says of an own error class whose __init__ says super().__init__(text + name) and keeps name -/
structure BadC (prog : Program) (K : PySem.W.Frag) (mg : Str → Option Value) (C fI : Addr) (fd : FuncData) (body : List Stmt) : Prop where
  ex : OexC K C
  fn : ∃ (oc : Value) (od : Option Addr) (kV doc pm : Value) (an : Option Addr) (ct : Value) (osl : Array (Option Value)) (cc cda : Addr) (params : Arguments) (scope : Scope) (ccl cl : Value) (cdd cld : Option Addr) (vs : Array Value) (ccs csl : Array (Option Value)) (file : Str) (tf : Tok) (ar : Arg),
    fd = PySem.W.ksFn "__init__" "BadArgument.__init__" params body scope .none kV doc pm an (.ref cda) ct cc ∧ K.lookup fI = some ⟨oc, od, .func fd, osl⟩ ∧ PySem.W.codeIn K (.ref cda) "BadArgument.__init__" = true ∧
    K.lookup cda = some ⟨ccl, cdd, .fields vs, ccs⟩ ∧ vs[2]? = some (.str file tf) ∧ ((prog.main.file : Str) == file) = true ∧ K.lookup cc = some ⟨cl, cld, .cell (some (.ref C)), csl⟩ ∧
    (params.posonlyargs ++ params.args).head? = some ar ∧ ar.arg = "self" ∧ scope.names.lookup ("self" : Str) = some NameKind.local ∧ scope.names.lookup ("name" : Str) = some NameKind.local ∧ scope.names.lookup ("__class__" : Str) = some NameKind.free ∧ scope.names.lookup ("super" : Str) = some NameKind.globalImplicit ∧ (∀ y ∈ scope.names, y.2 ≠ NameKind.cell) ∧ scope.isCoroutine = false ∧ scope.isGenerator = false ∧ scope.kind = .function
  cls : ∃ cd, PySem.W.clsIn K C = some cd
  mro : PySem.W.mroIn K C (.ref C) = some true
  sup : PySem.W.ks_superIn K C C "__init__" = some (some (.builtin "ValueError.__init__"))
  subB : PySem.W.subIn K (.ref C) (.type "ValueError") = some true
  exin : PySem.W.excInitIn K C [.type "ValueError", .type "Exception", .type "BaseException", .type "object"] "ValueError.__new__" = true
  third : PySem.W.nsIn K cStatics "thirdparty.any" = some none
  noName : PySem.W.findIn K (.ref C) "name" = some none
  superG : mg "super" = none
  top : (prog.main.scope.names.lookup ("super" : Str)).isSome = false
/-- the text of __init__ -/
def badBody (p1 p2 p3 p4 p5 p6 p7 p8 p9 p10 p11 p12 p13 : Pos) (j : Nat) : List Stmt :=
  [.Expr (.Call (.Attribute (.Call (.Name "super" p1) [] [] p2) "__init__" p3) [.BinOp (.Constant (.str "bad argument: ") j p4) .Add (.Name "name" p5) p6] [] p7) p8,
   .Assign [.Attribute (.Name "self" p9) "name" p10] (.Name "name" p11) p12]
def spBad (C : Addr) : Sp := fun vs H Q _ => ∃ (a : Addr) (nm : Str), vs = [.ref a, .str nm] ∧ H a = some (exo a C none) ∧ nm.length ≤ 1000 ∧
  ∀ dx, H dx = none → dx ≠ a → Q .non (upd (upd H dx (exd dx [("name", .str nm)])) a (exo a C (some dx)))
section
variable {P : Program} {w : World} {K : PySem.W.Frag} {mg : Str → Option Value} {base : Heap}
theorem ok_bad {CX : CXT} {C fI : Addr} {fd : FuncData} {p1 p2 p3 p4 p5 p6 p7 p8 p9 p10 p11 p12 p13 : Pos} {j : Nat} (T : BadC P K mg C fI fd (badBody p1 p2 p3 p4 p5 p6 p7 p8 p9 p10 p11 p12 p13 j)) (hline : (p3.endLine == p7.line) = true) :
    FnOk P w K mg base CX 2 fI fd ["self", "name"] (spBad C) := by
  refine ⟨fun vs H Q E h => ?_, fun A outer s H args us vs Q E hr e0 hb r hsp => ?_⟩
  · obtain ⟨a, nm, rfl, _⟩ := h
    rfl
  obtain ⟨a, nm, rfl, ea, hnm, hq⟩ := hsp
  obtain ⟨oc, od, kV, doc, pm, an, ct, osl, cc, cda, params, scope, ccl, cl, cdd, cld, vs0, ccs, csl, file, tf, ar, rfl, lk, hcd, lcode, hvs, hfile, lcell, har, hars, lSelf, lName, lCls, lSup, hsc, hco, hgen, hkind⟩ := T.fn
  obtain ⟨cdD, hcls⟩ := T.cls
  obtain ⟨u1, u2, rfl, r1, r2⟩ := Vals.two r
  obtain rfl : u1 = Value.ref a := r1
  obtain ⟨tn, rfl⟩ := r2
  have KX : K.In s.heap := e0.mod.kin.keeps fun b o e => (e0.bs b o e).1
  have lim : s.heap.NoLimit := e0.mod.nolimit.keeps fun b o e => (e0.bs b o e).1
  obtain ⟨t1, hoa⟩ := exo_at e0.hok ea
  refine PySem.ks_codeAny_call_defAt (fd := PySem.W.ksFn "__init__" "BadArgument.__init__" params (badBody p1 p2 p3 p4 p5 p6 p7 p8 p9 p10 p11 p12 p13 j) scope .none kV doc pm an (.ref cda) ct cc) hr.depth (KX _ _ lk) rfl lim (PySem.W.codeRec_of KX hcd) rfl hb
    hsc (fun y hy => ?_) (fun h1 hns hk1 => ?_) hco hgen hkind
  · rcases List.mem_cons.mp hy with rfl | hy
    · exact lSelf
    · rcases List.mem_cons.mp hy with rfl | hy
      · exact lName
      · cases hy
  generalize hL : s.heap.objs.size = L at hns ⊢
  show PySem.wpAt _ _ _ (execs (badBody p1 p2 p3 p4 p5 p6 p7 p8 p9 p10 p11 p12 p13 j) (PySem.W.ksEnv "BadArgument.__init__" scope L fI (.ref cda) cc)) _ _ _
  have hLlt : a < L := by rw [← hL]; exact Heap.lt_size hoa
  -- the ground: all but the exception
  generalize hh0 : PySem.W.hideAll s.heap [a] = h0
  have g0 : ∀ b o, h0.get? b = some o → s.heap.get? b = some o := fun b o e => PySem.W.of_hideAll [a] (by rw [hh0]; exact e)
  have g1 : ∀ b o, b ≠ a → s.heap.get? b = some o → h0.get? b = some o := fun b o hb e => by rw [← hh0]; exact PySem.W.hideAll_get [a] e (by simpa using hb)
  have ga : h0.get? a = none := by rw [← hh0]; exact PySem.W.hideAll_none [a] (by simp)
  have ana : ∀ {b : Addr} {o : Obj}, K.lookup b = some o → b ≠ a := fun {b o} lb e => by
    have hb := e0.mod.kin b o lb
    have := (e0.bs b o hb).2
    rw [e, ea] at this
    cases this
  have X0 : K.In h0 := fun b o lb => g1 b o (ana lb) (KX b o lb)
  have nLa : L ≠ a := Nat.ne_of_gt hLlt
  have hmv : ∀ y : Str, (List.lookup y ([(("self" : Str), Value.ref a), (("name" : Str), Value.str nm tn)] : List (Str × Value)).reverse) = (if y = "name" then some (Value.str nm tn) else if y = "self" then some (Value.ref a) else none) := fun y => by
    by_cases h1 : y = "name"
    · subst h1; rfl
    · by_cases h2 : y = "self"
      · subst h2; rfl
      · have e1 : (y == ("name" : Str)) = false := by simpa using h1
        have e2 : (y == ("self" : Str)) = false := by simpa using h2
        rw [if_neg h1, if_neg h2]
        simp [List.lookup, e1, e2]
  have vSelf : (fun y : Str => List.lookup y ([(("self" : Str), Value.ref a), (("name" : Str), Value.str nm tn)] : List (Str × Value)).reverse) "self" = some (Value.ref a) := by
    show List.lookup ("self" : Str) _ = _
    rw [hmv]; rfl
  have vName : (fun y : Str => List.lookup y ([(("self" : Str), Value.ref a), (("name" : Str), Value.str nm tn)] : List (Str × Value)).reverse) "name" = some (Value.str nm tn) := by
    show List.lookup ("name" : Str) _ = _
    rw [hmv]; rfl
  generalize hm0 : (fun y : Str => List.lookup y ([(("self" : Str), Value.ref a), (("name" : Str), Value.str nm tn)] : List (Str × Value)).reverse) = m at vSelf vName
  have hns1 : h1.Ns L m := by rw [← hm0]; exact hns
  have F1 : Fr h0 L h1 m := ⟨hns1, fun b o e => hk1 b o (g0 b o e), by rw [← hL, ← hh0, PySem.W.hideAll_size]; exact Nat.le_refl _⟩
  have ga1 : h1.get? a = some (PySem.W.excObj C t1 none .none) := hk1 _ _ hoa
  have N1 : News h0 L h1 [(a, PySem.W.excObj C t1 none .none)] := fun p hp => by
    have e : p = (a, PySem.W.excObj C t1 none .none) := by simpa using hp
    subst e
    exact ⟨ga1, fun z => nLa z.symm, ga⟩
  have bs1 : ∀ b o, base.get? b = some o → h1.get? b = some o := fun b o e => hk1 b o (e0.bs b o e).1
  obtain ⟨mb, hmb1, hmb2⟩ := e0.mod.blt
  obtain ⟨oD, hD1, hD2⟩ : ∃ oD, h1.get? C = some oD ∧ oD.data = .cls cdD := by
    have hD := hcls
    unfold PySem.W.clsIn at hD
    split at hD
    · rename_i c d cd' sl ho
      cases hD
      exact ⟨_, hk1 _ _ (KX _ _ ho), rfl⟩
    · cases hD
  have I1 : PySem.W.InstAt h1 a (PySem.W.excObj C t1 none .none) C none := ⟨ga1, rfl, rfl, trivial⟩
  have X1 : K.In h1 := X0.keeps F1.keep
  refine ks_wpAt_execs_cons (ks_wpAt_Expr_any (ks_wpAt_MethodCall (pl := plainOf (.Call (.Name "super" p1) [] [] p2) (PySem.W.ksEnv "BadArgument.__init__" scope L fI (.ref cda) cc)) ?_ ?_) ?_ ?_)
  rotate_left
  · rw [arm_eval_Call]
    have e : (fun ov => methodCall (.Call (.Name "super" p1) [] [] p2) "__init__" p3 p7 (PySem.W.ksEnv "BadArgument.__init__" scope L fI (.ref cda) cc) ov 1 (backTo p7 (starEach [.BinOp (.Constant (.str "bad argument: ") j p4) .Add (.Name "name" p5) p6] (PySem.W.ksEnv "BadArgument.__init__" scope L fI (.ref cda) cc))) (backToKw p7 (keywordEach [] (PySem.W.ksEnv "BadArgument.__init__" scope L fI (.ref cda) cc)))) =
        fun ov => (do
          let (f, first) ← holding [ov] (getMethod ov "__init__" (plainOf (.Call (.Name "super" p1) [] [] p2) (PySem.W.ksEnv "BadArgument.__init__" scope L fI (.ref cda) cc)))
          callWith p7 f first (backTo p7 (starEach [.BinOp (.Constant (.str "bad argument: ") j p4) .Add (.Name "name" p5) p6] (PySem.W.ksEnv "BadArgument.__init__" scope L fI (.ref cda) cc))) []) := funext fun ov => mcall_line rfl hline
    show (do
      let ov ← attributeBase _ _ _ _
      standAt p3.atName
      (fun ov => methodCall (.Call (.Name "super" p1) [] [] p2) "__init__" p3 p7 (PySem.W.ksEnv "BadArgument.__init__" scope L fI (.ref cda) cc) ov 1 (backTo p7 (starEach [.BinOp (.Constant (.str "bad argument: ") j p4) .Add (.Name "name" p5) p6] (PySem.W.ksEnv "BadArgument.__init__" scope L fI (.ref cda) cc))) (backToKw p7 (keywordEach [] (PySem.W.ksEnv "BadArgument.__init__" scope L fI (.ref cda) cc)))) ov) = _
    rw [e]
  · show (scope.kind == .module && _) = false
    rw [hkind]
    rfl
  · rfl
  refine ks_wpAt_super_base (env := PySem.W.ksEnv "BadArgument.__init__" scope L fI (.ref cda) cc) lSup lCls rfl rfl (X1 _ _ lk) rfl har rfl (X1 _ _ lcode) rfl hvs hfile T.top ?_
  refine PySem.W.ks_loadName_global hkind lSup (Calls.loadGlobal_builtin (env := PySem.W.ksEnv "BadArgument.__init__" scope L fI (.ref cda) cc) (e0.mod.glob.keeps bs1) T.superG (hmb1.keeps bs1) ((hmb2 _ (by decide +kernel)).trans (show bootBuiltins "super" = some (.type "super") by decide +kernel)) ⟨rfl, ?_⟩)
  refine wpAny_loadName_free hkind lCls rfl ⟨_, X1 _ _ lcell, rfl⟩ ?_
  refine wpAny_loadName_local hkind (by rw [hars]; exact lSelf) hns1 (by rw [hars]; exact vSelf) ?_
  refine ks_wpAny_isType_cls hD1 hD2 ⟨rfl, ?_⟩
  refine ks_wpAny_call_super hD1 hD2 I1.at_ I1.cls (fun c e => by cases e) (PySem.W.looks_mroIn X1 T.mro) (fun h2 e2 k2 => ?_)
  obtain ⟨F2, N2, l2⟩ := PySem.W.ks_newsPush (s := ⟨h1, s.gens, s.drawn, 0, s.os⟩) F1 N1 rfl e2 k2
  have I2 : PySem.W.InstAt h2 a (PySem.W.excObj C t1 none .none) C none := ⟨k2 _ _ ga1, rfl, rfl, trivial⟩
  refine PySem.W.kxs_method PySem.W.kxs_ValueError F2 X0 N2 (List.mem_cons_self ..) I2 T.third T.sup T.subB rfl (fun q h3 F3 N3 l3 => ?_)
  refine PySem.W.kxs_callWith1 N3 (List.mem_cons_self ..) ?_
  refine Calls.spliced_cons (wpAny_BinOp (Calls.Constant_str (wpAny_Name (wpAny_loadName_local hkind lName F3.ns vName (add_str (fun t' tk => ?_) ?_)) (by decide +kernel))))
  rotate_left
  · show (("bad argument: " : Str)).length + nm.length ≤ sizeLine
    have e : (("bad argument: " : Str)).length = 14 := by decide +kernel
    rw [e, sizeLine_eq]
    omega
  refine Calls.spliced_nil ⟨PySem.W.kxs_at N3 (List.mem_cons_self ..), ?_⟩
  have hqa : q ≠ a := fun z => by
    have h9 := l3 (a, PySem.W.excObj C t1 none .none) (List.mem_cons_of_mem _ (List.mem_cons_self ..))
    rw [z] at h9
    exact Nat.lt_irrefl _ h9
  have hsa : h1.objs.size ≠ a := fun z => by
    have h9 := Heap.lt_size ga1
    rw [z] at h9
    exact Nat.lt_irrefl _ h9
  refine PySem.W.kxs_call F3 X0 N3 F.excBase_ValueError T.exin (List.mem_cons_self ..) (.tail hqa (.tail hsa (.head (fun p hp => nomatch hp)))) (by show 1 ≤ sizeLine; decide) (fun t4 h4 F4 N4 l4 => ?_)
  -- self.name = name
  have ga4 : h4.get? a = some (PySem.W.excObj C t4 none .none) := (N4 (a, _) (List.mem_cons_of_mem _ (List.mem_cons_of_mem _ (List.mem_cons_of_mem _ (List.mem_cons_self ..))))).1
  have X4 : K.In h4 := X0.keeps F4.keep
  refine ks_wpAt_execs_cons (wpAt_of_wpAny (plainObj_wpAny_Assign_Attribute (wpAny_Name (wpAny_loadName_local hkind lName F4.ns vName (wpAny_Name (wpAny_loadName_local hkind lSelf F4.ns vSelf ?_) (by decide +kernel))) (by decide +kernel)) rfl))
  obtain ⟨nmC, qC, NC, bs, bm, sn, sub, ab, col, dd, k0, k1, k2', k3', k5, hC, hbm⟩ := T.ex.cls
  have hcl : PySem.W.clsIn K C = some { name := nmC, bases := bs, mro := .ref C :: bm, ns := NC, qualname := qC, hasDict := true, slotNames := sn, subclasses := sub, abstract := ab, collection := col, hasDel := false } := by unfold PySem.W.clsIn; rw [hC] <;> rfl
  refine PySem.W.set_plain X4 (ox := PySem.W.excObj C t4 none .none) (od := none) ⟨ga4, rfl, rfl, trivial⟩ T.ex.sa ?_
  refine PySem.HandSPX.exc_osa X4 ga4 hcl (show PySem.HandSPX.refsVE (.ref C :: bm) = true from hbm) rfl T.noName (fun h5 tk5 dx k5' dn dne hx hn => ?_)
  refine wpAt_of_wpAny (wpAny_pure ?_)
  have kk : ∀ b o, b ≠ a → s.heap.get? b = some o → h5.get? b = some o := fun b o hb e => k5' b o hb (F4.keep b o (g1 b o hb e))
  have hlt4 : s.heap.objs.size ≤ h4.objs.size := by
    rw [hL]
    exact Nat.le_of_lt F4.ns.lt
  have hnd : H dx = none := e0.hok.fresh (Nat.le_trans hlt4 (show h4.objs.size ≤ dx from dn))
  have nd : ∀ {b : Addr} {o : Obj}, s.heap.get? b = some o → b ≠ dx := fun {b o} q => Nat.ne_of_lt (Nat.lt_of_lt_of_le (Heap.lt_size q) (Nat.le_trans hlt4 (show h4.objs.size ≤ dx from dn)))
  have na : ∀ {b : Addr}, H b = none → b ≠ a := fun {b} n z => by
    rw [z, ea] at n
    cases n
  have rel : ∀ f, RelO (List.lookup f ([(("name" : Str), V.str nm)] : List (Str × V))) (if f = "name" then some (Value.str nm tn) else none) := relO_put (fs := []) (u := Value.str nm tn) ⟨tn, rfl⟩ fun g => True.intro
  have Un1 : Un (frs outer) [] H (upd (upd H dx (exd dx [("name", .str nm)])) a (exo a C (some dx))) s.heap h5 := {
    keep := fun b o q n _ _ => kk b o (na n) q
    slot := fun b o q n _ _ => ⟨o.slots, kk b o (na n) q⟩
    free := fun b o q n _ => by rw [upd_ne (na n), upd_ne (nd q)]; exact n
    there := fun b o q _ => by
      by_cases hb : b = a
      · exact ⟨_, by rw [hb]; exact hx⟩
      · exact ⟨o, kk b o hb q⟩
    tups := fun b xs q => by rw [upd_ne (at_ne ea q exo_tup), upd_ne (ne_of_none q hnd)]; exact q
    frzs := fun b o v q => by rw [upd_ne (at_ne ea q exo_frz), upd_ne (ne_of_none q hnd)]; exact q
    tbls := fun b ps q => ⟨#[], by rw [upd_ne (at_ne ea q exo_tbl), upd_ne (ne_of_none q hnd), q]; simp⟩ }
  refine ⟨.non, _, rfl, e0.bare, Un1, fun b o q => ?_, rfl, hq dx hnd dne⟩
  by_cases hb : b = a
  · subst hb
    rw [upd_same] at q
    cases q
    exact exo_ok hx
  · rw [upd_ne hb] at q
    by_cases hd : b = dx
    · subst hd
      rw [upd_same] at q
      cases q
      exact exd_ok hn rel
    · rw [upd_ne hd] at q
      exact (e0.hok b o q).stay (fun c v hc z => kk c v (by
          rcases hc with hc | hc
          · rw [hc]
            exact hb
          · exact at_ne ea hc exo_own) z)
        (fun c hc => by rw [upd_ne (at_ne ea hc exo_own), upd_ne (ne_of_none hc hnd)]; exact hc) (fun c xs hc => by rw [upd_ne (at_ne ea hc exo_tup), upd_ne (ne_of_none hc hnd)]; exact hc)
end
end CWG

set_option Elab.async false
set_option linter.all false
set_option maxRecDepth 100000
set_option maxHeartbeats 4000000
namespace CWG
open PySem PySem.Spec PyProof.Rows L2 LamX
/-- try: call() / except C as e: return e.name / (behind it) return '' -/
def TRef (K : PySem.W.Frag) (C : Addr) : (XK → Hp → VK → Prop) → Hp → VK → Prop := fun tl H Q =>
  tl (fun cls d H' => PySem.W.exmOne K cls (.ref C) = some true ∧ cls = .ref C ∧ ∃ (dd : Addr) (fs : List (Str × V)) (nm : Str), d = some dd ∧ H' dd = some (.xd fs) ∧ fs.lookup ("name" : Str) = some (.str nm) ∧ Q (.str nm) H') H (fun _ H' => Q (.str "") H')
theorem takes_len {X : Cx} {W : WX} (t : L2.Takes X W) : L2.Takes X (fun c d σ H => σ.length = X.N.length → W c d σ H) := fun u s' ⟨a, B, sI, pins, σ, H, cls, d, e, I, nb, up, sky, na, os, ag, w⟩ =>
  t u s' ⟨a, B, sI, pins, σ, H, cls, d, e, I, nb, up, sky, na, os, ag, w I.len⟩
theorem ref_gives {X : Cx} {x a e q : Str} {sg : Scope} {g C : Addr} {cdg : Value} {j : Nat} {ec : Str} {p1 p2 p3 p4 p5 p6 p7 p8 p9 p10 p11 : Pos} (T : XfC X.K C) (hno : PySem.W.findIn X.K (.ref C) "name" = some none) (hge : sg.names.lookup ec = some .globalImplicit) (hme : X.mg ec = some (.ref C))
    (hde : (ec == ("__debug__" : Str)) = false) (hdn : (e == ("__debug__" : Str)) = false) (hcd : (e == ("__classdict__" : Str)) = false) (hae : a ≠ e) (hle : sg.names.lookup e = some .local) :
    GivesTo X [a, e] x sg g cdg [.Try [.Expr (.Call (.Name a p1) [] [] p2) p3] [.ExceptHandler (some (.Name ec p4)) (some e) [.Return (some (.Attribute (.Name e p5) "name" p6)) p7] p8] [] [] p9, .Return (some (.Constant (.str "") j p11)) p10] a q (TRef X.K C) := by
  intro f c' s H Q tl act hc h
  have hgl : Gl (cxOf C8.CX0 X.prog X.w X.K X.mg X.base [a, e] x sg g cdg X.A X.stack s H C8.E0).nox ec := hge
  have nd : ([a, e] : List Str).Nodup := by simp [hae]
  refine ⟨_, pss_cons (ps_try_as (X := (cxOf C8.CX0 X.prog X.w X.K X.mg X.base [a, e] x sg g cdg X.A X.stack s H C8.E0).nox) (c := .ref C) (i := 1)
      (tb := fun W D σ H => ∃ Ech : XK, (∀ cls d σ' H', Ech cls d H' → σ'.length = 2 → W cls d σ' H') ∧ σ[0]? = some (some (.ref f)) ∧ H c' = some (CodeO c' q) ∧ tl Ech H (fun _ H' => D.nx σ H'))
      (ts := fun a' cls d => tRet (tXf a' cls d C "name" (tVar 1)))
      rfl rfl nd rfl hle ⟨hgl, hde, .inl hme⟩ LamX.takes0 (fun W pn xe tk _ => ?_) (fun a' oe cls d pn hz hf => pss_one (ps_ret (pe_xf T hno hz hf (pe_var (i := 1) rfl (.inl hle) hdn hcd) ?_)))) (pss_one (ps_ret pe_str)), ?_⟩
  · refine ⟨fun pins s' σ H' D I h' => ?_⟩
    obtain ⟨Ech, hW, h1, h2, h3⟩ := h'
    have hp := act _ pn xe Ech p1 p2 (takes_len tk) hW
    have hq := pss_one (ps_expr (pos := p3) hp)
    exact hq.run pins s' σ H' D I ⟨h1, h2, h3⟩
  · rfl
  · refine ⟨fun cls d H' => PySem.W.exmOne X.K cls (.ref C) = some true ∧ cls = .ref C ∧ ∃ (dd : Addr) (fs : List (Str × V)) (nm : Str), d = some dd ∧ H' dd = some (.xd fs) ∧ fs.lookup ("name" : Str) = some (.str nm) ∧ Q (.str nm) H', ?_, rfl, hc, h⟩
    rintro cls d σ' H' ⟨e1, rfl, dd, fs, nm, rfl, e3, e4, e5⟩ hl
    refine ⟨true, e1, fun _ a' ha' => ?_, fun z => nomatch z⟩
    refine ⟨.ref a', ?_, rfl, rfl, dd, fs, .str nm, rfl, e3, e4, e5⟩
    match σ', hl with
    | [_, _], _ => rfl
end CWG

set_option Elab.async false
set_option linter.all false
set_option maxRecDepth 100000
set_option maxHeartbeats 2000000
namespace CD
open PySem PySem.Spec PyProof.Rows L2

/-! ### plain data, as the program's values are read -/
inductive D where
  | non | bl (b : Bool) | int (i : Int) | str (s : Str) | lst (xs : List D) | tup (xs : List D)
  | dic (kvs : List (L2.Key × D)) | dit (kvs : List (List L2.Key × D))
  /-- a list of ints that nobody writes (the script) -/
  | scr (ns : List Int)
  /-- a tuple of the module's own -/
  | ktup (xs : List D)
/-- a value: data, a thing of the store, a list or a tuple of such -/
inductive MV where
  | v (d : D) | obj (j : Nat) | objs (js : List Nat) | mtup (xs : List MV)
/-- a thing of the store -/
inductive O where
  | lst (xs : List D) | dic (kvs : List (L2.Key × D)) | ins (C : Addr) (fs : List (Str × MV))
  /-- a dict that is walked over: read, not written -/
  | dicL (kvs : List (L2.Key × D))
/-- what a slot owns alone: a list, a dict -/
inductive OL where
  | lst (xs : List D) | dK (kvs : List (L2.Key × D)) | dT (kvs : List (List L2.Key × D))
inductive SV where
  | m (x : MV) | own (o : OL)
inductive Ex where
  | arg (nm : Str) | fault (line : Int) (kind : Str)
abbrev Env := List (Option SV)
inductive Out (α : Type) where
  | val (a : α) (st : List O) | exc (e : Ex) (st : List O) | bad
def M (α : Type) := List O → Out α
def M.pure {α : Type} (a : α) : M α := fun st => .val a st
def M.bind {α β : Type} (x : M α) (f : α → M β) : M β := fun st => match x st with
  | .val a st' => f a st'
  | .exc e st' => .exc e st'
  | .bad => .bad
def M.of {α : Type} : Option α → M α
  | some a => M.pure a
  | none => fun _ => .bad

/-- a list of ints that nobody writes: of the caller, of the written part -/
def ScrL (K : PySem.W.Frag) (U : Addr → Prop) (H : Hp) (a : Addr) (ns : List Int) : Prop := (H a = some (.lst (ns.map V.int)) ∧ ¬ U a) ∨ (∃ o, H a = some (.frz o (.lst (ns.map V.int)))) ∨
  ∃ (o : Obj) (its : Array Value) (n : Nat), K.lookup a = some o ∧ o.cls = .type "list" ∧ o.dict = none ∧ o.data = .seq its n ∧ its.size ≤ sizeLine ∧ Vals (ns.map V.int) its.toList
theorem ScrL.sql {K : PySem.W.Frag} {U : Addr → Prop} {H : Hp} {a : Addr} {ns : List Int} : ScrL K U H a ns → SqL K H a (ns.map V.int)
  | .inl e => .inl (.inl e.1)
  | .inr (.inl ⟨o, e⟩) => .inl (.inr ⟨o, e⟩)
  | .inr (.inr e) => .inr e
theorem ScrL.of {K : PySem.W.Frag} {U : Addr → Prop} {H : Hp} {a : Addr} {ns : List Int} (n : ¬ U a) : SqL K H a (ns.map V.int) → ScrL K U H a ns
  | .inl (.inl e) => .inl ⟨e, n⟩
  | .inl (.inr e) => .inr (.inl e)
  | .inr e => .inr (.inr e)
section
variable (K : PySem.W.Frag) (U : Addr → Prop) (H : Hp)
mutual
inductive RD : V → D → Prop
  | non : RD .non .non
  | bl (b : Bool) : RD (.bl b) (.bl b)
  | int (i : Int) : RD (.int i) (.int i)
  | str (x : Str) : RD (.str x) (.str x)
  | lst {a : Addr} {xs : List V} {ds : List D} : H a = some (.lst xs) → ¬ U a → RDs xs ds → RD (.ref a) (.lst ds)
  | scr {a : Addr} {ns : List Int} : ScrL K U H a ns → RD (.ref a) (.scr ns)
  | tup {a : Addr} {xs : List V} {ds : List D} : H a = some (.tup xs) → RDs xs ds → RD (.ref a) (.tup ds)
  | ktup {a : Addr} {xs : List V} {ds : List D} : SqT K H a xs → RDs xs ds → RD (.ref a) (.ktup ds)
  | dic {a : Addr} {xs : List (L2.Key × V)} {ds : List (L2.Key × D)} : H a = some (.dK xs) → ¬ U a → RDk xs ds → RD (.ref a) (.dic ds)
  | dit {a : Addr} {xs : List (List L2.Key × V)} {ds : List (List L2.Key × D)} : H a = some (.dT xs) → ¬ U a → RDt xs ds → RD (.ref a) (.dit ds)
inductive RDs : List V → List D → Prop
  | nil : RDs [] []
  | cons {v : V} {vs : List V} {d : D} {ds : List D} : RD v d → RDs vs ds → RDs (v :: vs) (d :: ds)
inductive RDk : List (L2.Key × V) → List (L2.Key × D) → Prop
  | nil : RDk [] []
  | cons {k : L2.Key} {v : V} {vs : List (L2.Key × V)} {d : D} {ds : List (L2.Key × D)} : RD v d → RDk vs ds → RDk ((k, v) :: vs) ((k, d) :: ds)
inductive RDt : List (List L2.Key × V) → List (List L2.Key × D) → Prop
  | nil : RDt [] []
  | cons {k : List L2.Key} {v : V} {vs : List (List L2.Key × V)} {d : D} {ds : List (List L2.Key × D)} : RD v d → RDt vs ds → RDt ((k, v) :: vs) ((k, d) :: ds)
end
end

/-- no table -/
def NT (o : HO) : Prop := ∀ ps, o ≠ .tbl ps
/-- all is kept but what stands at Mu, and tables -/
structure Kp (Mu : Addr → Prop) (H H' : Hp) : Prop where
  keep : ∀ a o, ¬ Mu a → H a = some o → NT o → H' a = some o
  tup : ∀ a xs, H a = some (.tup xs) → H' a = some (.tup xs)
  frz : ∀ a o u, H a = some (.frz o u) → H' a = some (.frz o u)
  tab : ∀ P, GxR.TabG H P → GxR.TabG H' P
  lam : LamX.Tabs lamT H → LamX.Tabs lamT H'
  al : ∀ a, H a ≠ none → H' a ≠ none
theorem Kp.refl {Mu : Addr → Prop} {H : Hp} : Kp Mu H H := ⟨fun _ _ _ e _ => e, fun _ _ e => e, fun _ _ _ e => e, fun _ e => e, id, fun _ e => e⟩
theorem Kp.mono {Mu Mu' : Addr → Prop} {H H' : Hp} (k : Kp Mu H H') (h : ∀ a, Mu a → Mu' a) : Kp Mu' H H' := ⟨fun a o n e t => k.keep a o (fun x => n (h a x)) e t, k.tup, k.frz, k.tab, k.lam, k.al⟩
theorem Kp.trans {Mu Mu' : Addr → Prop} {H H1 H2 : Hp} (k : Kp Mu H H1) (k' : Kp Mu' H1 H2) (h : ∀ a, Mu' a → Mu a ∨ H a = none) : Kp Mu H H2 :=
  ⟨fun a o n e t => k'.keep a o (fun x => (h a x).elim n fun z => by rw [z] at e; cases e) (k.keep a o n e t) t, fun a xs e => k'.tup a xs (k.tup a xs e), fun a o u e => k'.frz a o u (k.frz a o u e), fun P e => k'.tab P (k.tab P e), fun e => k'.lam (k.lam e), fun a e => k'.al a (k.al a e)⟩
theorem Kp.rd {Mu : Addr → Prop} {H H' : Hp} (k : Kp Mu H H') {a : Addr} {u : HO} (n : ¬ Mu a) (t : NT u) (r : Rd H a u) : Rd H' a u := by
  rcases r with r | ⟨o, r⟩
  · exact .inl (k.keep a u n r t)
  · exact .inr ⟨o, k.frz a o u r⟩
theorem Kp.sqT {Mu : Addr → Prop} {K : PySem.W.Frag} {H H' : Hp} (k : Kp Mu H H') {a : Addr} {xs : List V} (r : SqT K H a xs) : SqT K H' a xs := by
  rcases r with (r | ⟨o, r⟩) | r
  · exact .inl (.inl (k.tup a xs r))
  · exact .inl (.inr ⟨o, k.frz a o _ r⟩)
  · exact .inr r
theorem Kp.new {Mu : Addr → Prop} {H : Hp} {p : Addr} {o : HO} (h : H p = none) : Kp Mu H (upd H p o) :=
  have at_ : ∀ a u, H a = some u → upd H p o a = some u := fun a u e => by rw [upd_ne (ne_of_none e h)]; exact e
  ⟨fun a u _ e _ => at_ a u e, fun a xs e => at_ a _ e, fun a u u' e => at_ a _ e, fun P ⟨ps, e, t⟩ => ⟨ps, at_ P _ e, t⟩, fun t => t.ext at_, fun a n => by
    cases e : H a with
    | none => exact absurd e n
    | some o => rw [at_ a o e]; exact nofun⟩
/-- what stands at p is written anew -/
theorem Kp.put {Mu : Addr → Prop} {H : Hp} {p : Addr} {o u : HO} (m : Mu p) (h : H p = some o) (n1 : ∀ xs, o ≠ .tup xs) (n2 : ∀ x y, o ≠ .frz x y) (n3 : NT o) (n4 : ∀ g, o ≠ .ext g := by exact nofun) : Kp Mu H (upd H p u) :=
  have at_ : ∀ a w, H a = some w → w ≠ o → upd H p u a = some w := fun a w e ne => by
    rw [upd_ne (fun z => by rw [z, h] at e; exact ne (Option.some.inj e).symm)]; exact e
  ⟨fun a w n e _ => by rw [upd_ne (fun z => n (by rw [z]; exact m))]; exact e, fun a xs e => at_ a _ e (fun z => n1 xs z.symm), fun a w w' e => at_ a _ e (fun z => n2 _ _ z.symm), fun P ⟨ps, e, t⟩ => ⟨ps, at_ P _ e (fun z => n3 ps z.symm), t⟩, fun t p' hp' => by
    obtain ⟨ps, h1, h2, h3⟩ := t p' hp'
    refine ⟨ps, at_ _ _ h1 (fun z => n3 ps z.symm), h2, fun pos cv hc => ?_⟩
    obtain ⟨c, e1, e2⟩ := h3 pos cv hc
    exact ⟨c, e1, at_ _ _ e2 (fun z => n4 _ z.symm)⟩, fun a n => by
    by_cases z : a = p
    · rw [z, upd_same]; exact nofun
    · rw [upd_ne z]; exact n⟩
theorem Kp.tabd {Mu : Addr → Prop} {H H' : Hp} {P : Addr} (nl : ∀ p ∈ lamT, p.1 ≠ P) (g : GxR.TabG H P) (h : GxR.Tabbed P H H') : Kp Mu H H' := by
  obtain ⟨ps, hp, _⟩ := g
  have at_ : ∀ a u, H a = some u → NT u → H' a = some u := fun a u e n => by
    have : a ≠ P := fun z => by rw [z, hp] at e; exact n ps (Option.some.inj e).symm
    rw [h.2 a this]; exact e
  refine ⟨fun a u _ e n => at_ a u e n, fun a xs e => at_ a _ e (fun _ z => nomatch z), fun a u u' e => at_ a _ e (fun _ z => nomatch z), fun P' ⟨qs, e, t⟩ => ?_, fun t p' hp' => ?_, fun a n => ?_⟩
  rotate_left
  · obtain ⟨qs, h1, h2, h3⟩ := t p' hp'
    refine ⟨qs, by rw [h.2 _ (nl p' hp')]; exact h1, h2, fun pos cv hc => ?_⟩
    obtain ⟨c, e1, e2⟩ := h3 pos cv hc
    exact ⟨c, e1, at_ _ _ e2 (fun _ z => nomatch z)⟩
  · by_cases hP : a = P
    · obtain ⟨ps', e', _⟩ := h.1
      rw [hP, e']; exact nofun
    · rw [h.2 a hP]; exact n
  by_cases hP : P' = P
  · rw [hP]; exact h.1
  · exact ⟨qs, by rw [h.2 P' hP]; exact e, t⟩

/-- what reading leans on is kept: a dict's lock may be taken or given back -/
structure Kw (Mu : Addr → Prop) (H H' : Hp) : Prop where
  keep : ∀ a o, ¬ Mu a → H a = some o → NT o → H' a = some o
  tup : ∀ a xs, H a = some (.tup xs) → H' a = some (.tup xs)
  frz : ∀ a o u, (∀ kvs, u ≠ .dK kvs) → H a = some (.frz o u) → H' a = some (.frz o u)
theorem Kp.kw {Mu : Addr → Prop} {H H' : Hp} (k : Kp Mu H H') : Kw Mu H H' := ⟨k.keep, k.tup, fun a o u _ e => k.frz a o u e⟩
theorem Kw.sqT {Mu : Addr → Prop} {K : PySem.W.Frag} {H H' : Hp} (k : Kw Mu H H') {a : Addr} {xs : List V} (r : SqT K H a xs) : SqT K H' a xs := by
  rcases r with (r | ⟨o, r⟩) | r
  · exact .inl (.inl (k.tup a xs r))
  · exact .inl (.inr ⟨o, k.frz a o _ (fun _ z => nomatch z) r⟩)
  · exact .inr r
section
variable {K : PySem.W.Frag} {U U' Mu : Addr → Prop} {H H' : Hp}
mutual
theorem RD.monoW (k : Kw Mu H H') (hu : ∀ a, ¬ U a → H a ≠ none → ¬ Mu a ∧ ¬ U' a) : ∀ (d : D) (v : V), RD K U H v d → RD K U' H' v d
  | .non, _, h => by cases h; exact .non
  | .bl b, _, h => by cases h; exact .bl b
  | .int i, _, h => by cases h; exact .int i
  | .str s, _, h => by cases h; exact .str s
  | .lst ds, _, h => by
    cases h with
    | @lst a xs _ r n hs =>
      obtain ⟨n1, n2⟩ := hu a n (by rw [r]; exact nofun)
      exact .lst (k.keep a _ n1 r (fun _ z => nomatch z)) n2 (RDs.monoW k hu ds xs hs)
  | .scr ns, _, h => by
    cases h with
    | scr r =>
      rcases r with ⟨e, n⟩ | ⟨o, e⟩ | e
      · obtain ⟨n1, n2⟩ := hu _ n (by rw [e]; exact nofun)
        exact .scr (.inl ⟨k.keep _ _ n1 e (fun _ z => nomatch z), n2⟩)
      · exact .scr (.inr (.inl ⟨o, k.frz _ _ _ (fun _ z => nomatch z) e⟩))
      · exact .scr (.inr (.inr e))
  | .tup ds, _, h => by
    cases h with
    | @tup a xs _ r hs => exact .tup (k.tup _ _ r) (RDs.monoW k hu ds xs hs)
  | .ktup ds, _, h => by
    cases h with
    | @ktup a xs _ r hs => exact .ktup (k.sqT r) (RDs.monoW k hu ds xs hs)
  | .dic ds, _, h => by
    cases h with
    | @dic a xs _ r n hs =>
      obtain ⟨n1, n2⟩ := hu a n (by rw [r]; exact nofun)
      exact .dic (k.keep a _ n1 r (fun _ z => nomatch z)) n2 (RDk.monoW k hu ds xs hs)
  | .dit ds, _, h => by
    cases h with
    | @dit a xs _ r n hs =>
      obtain ⟨n1, n2⟩ := hu a n (by rw [r]; exact nofun)
      exact .dit (k.keep a _ n1 r (fun _ z => nomatch z)) n2 (RDt.monoW k hu ds xs hs)
theorem RDs.monoW (k : Kw Mu H H') (hu : ∀ a, ¬ U a → H a ≠ none → ¬ Mu a ∧ ¬ U' a) : ∀ (ds : List D) (vs : List V), RDs K U H vs ds → RDs K U' H' vs ds
  | [], _, h => by cases h; exact .nil
  | d :: ds, _, h => by
    cases h with
    | cons h1 h2 => exact .cons (RD.monoW k hu d _ h1) (RDs.monoW k hu ds _ h2)
theorem RDk.monoW (k : Kw Mu H H') (hu : ∀ a, ¬ U a → H a ≠ none → ¬ Mu a ∧ ¬ U' a) : ∀ (ds : List (L2.Key × D)) (vs : List (L2.Key × V)), RDk K U H vs ds → RDk K U' H' vs ds
  | [], _, h => by cases h; exact .nil
  | (_, d) :: ds, _, h => by
    cases h with
    | cons h1 h2 => exact .cons (RD.monoW k hu d _ h1) (RDk.monoW k hu ds _ h2)
theorem RDt.monoW (k : Kw Mu H H') (hu : ∀ a, ¬ U a → H a ≠ none → ¬ Mu a ∧ ¬ U' a) : ∀ (ds : List (List L2.Key × D)) (vs : List (List L2.Key × V)), RDt K U H vs ds → RDt K U' H' vs ds
  | [], _, h => by cases h; exact .nil
  | (_, d) :: ds, _, h => by
    cases h with
    | cons h1 h2 => exact .cons (RD.monoW k hu d _ h1) (RDt.monoW k hu ds _ h2)
end
theorem RD.mono (k : Kp Mu H H') (hu : ∀ a, ¬ U a → H a ≠ none → ¬ Mu a ∧ ¬ U' a) (d : D) (v : V) (h : RD K U H v d) : RD K U' H' v d := RD.monoW k.kw hu d v h
theorem RDs.mono (k : Kp Mu H H') (hu : ∀ a, ¬ U a → H a ≠ none → ¬ Mu a ∧ ¬ U' a) (ds : List D) (vs : List V) (h : RDs K U H vs ds) : RDs K U' H' vs ds := RDs.monoW k.kw hu ds vs h
theorem RDk.mono (k : Kp Mu H H') (hu : ∀ a, ¬ U a → H a ≠ none → ¬ Mu a ∧ ¬ U' a) (ds : List (L2.Key × D)) (vs : List (L2.Key × V)) (h : RDk K U H vs ds) : RDk K U' H' vs ds := RDk.monoW k.kw hu ds vs h
theorem RDt.mono (k : Kp Mu H H') (hu : ∀ a, ¬ U a → H a ≠ none → ¬ Mu a ∧ ¬ U' a) (ds : List (List L2.Key × D)) (vs : List (List L2.Key × V)) (h : RDt K U H vs ds) : RDt K U' H' vs ds := RDt.monoW k.kw hu ds vs h
end

/-! ### values, the store, the state -/
section
variable (K : PySem.W.Frag) (U : Addr → Prop) (m : List Addr) (H : Hp)
inductive RJs : List V → List Nat → Prop
  | nil : RJs [] []
  | cons {a : Addr} {j : Nat} {vs : List V} {js : List Nat} : m[j]? = some a → RJs vs js → RJs (.ref a :: vs) (j :: js)
mutual
inductive RM : V → MV → Prop
  | v {x : V} {d : D} : RD K U H x d → RM x (.v d)
  | obj {a : Addr} {j : Nat} : m[j]? = some a → RM (.ref a) (.obj j)
  | objs {a : Addr} {xs : List V} {js : List Nat} : H a = some (.lst xs) → ¬ U a → RJs m xs js → RM (.ref a) (.objs js)
  | mtup {a : Addr} {xs : List V} {ms : List MV} : H a = some (.tup xs) → RMs xs ms → RM (.ref a) (.mtup ms)
inductive RMs : List V → List MV → Prop
  | nil : RMs [] []
  | cons {x : V} {y : MV} {xs : List V} {ys : List MV} : RM x y → RMs xs ys → RMs (x :: xs) (y :: ys)
end
inductive RMf : List (Str × V) → List (Str × MV) → Prop
  | nil : RMf [] []
  | cons {k : Str} {x : V} {y : MV} {xs : List (Str × V)} {ys : List (Str × MV)} : RM K U m H x y → RMf xs ys → RMf ((k, x) :: xs) ((k, y) :: ys)
def RO (a : Addr) : O → Prop
  | .lst ds => ∃ vs, H a = some (.lst vs) ∧ RDs K U H vs ds
  | .dic ds => ∃ vs, H a = some (.dK vs) ∧ RDk K U H vs ds
  | .dicL ds => ∃ o vs, H a = some (.frz o (.dK vs)) ∧ RDk K U H vs ds
  | .ins C fs => ∃ dx vs, H a = some (.ins C dx vs) ∧ RMf K U m H vs fs
def ROL (a : Addr) : OL → Prop
  | .lst ds => ∃ vs, H a = some (.lst vs) ∧ RDs K U H vs ds
  | .dK ds => ∃ vs, H a = some (.dK vs) ∧ RDk K U H vs ds
  | .dT ds => ∃ vs, H a = some (.dT vs) ∧ RDt K U H vs ds
end
structure DG where
  T : List Addr
  nl : ∀ P ∈ T, ∀ p ∈ lamT, p.1 ≠ P
  cb : Addr
  cf : Addr
structure Wd where
  m : List Addr
  w : Nat → Option Addr
  Z : Addr → Prop
def Wd.mu (q : Wd) (a : Addr) : Prop := a ∈ q.m ∨ ∃ i, q.w i = some a
def Wd.un (q : Wd) (a : Addr) : Prop := a ∈ q.m ∨ (∃ i, q.w i = some a) ∨ q.Z a
def TabsOk (G : DG) (H : Hp) : Prop := (∀ P ∈ G.T, GxR.TabG H P) ∧ LamX.Tabs lamT H
theorem Kp.tabs {Mu : Addr → Prop} {H H' : Hp} {G : DG} (k : Kp Mu H H') (t : TabsOk G H) : TabsOk G H' := ⟨fun P h => k.tab P (t.1 P h), k.lam t.2⟩
structure RW (K : PySem.W.Frag) (G : DG) (q : Wd) (H : Hp) (st : List O) : Prop where
  objs : ∀ (j : Nat) a o, q.m[j]? = some a → st[j]? = some o → RO K q.un q.m H a o
  len : q.m.length = st.length
  nd : q.m.Nodup
  mw : ∀ i a, q.w i = some a → a ∉ q.m ∧ ¬ q.Z a ∧ H a ≠ none
  ww : ∀ i j a, q.w i = some a → q.w j = some a → i = j
  mz : ∀ a ∈ q.m, ¬ q.Z a
  zh : ∀ a, q.Z a → H a ≠ none
  tabs : TabsOk G H
def RSl (K : PySem.W.Frag) (q : Wd) (H : Hp) (i : Nat) (v : V) : SV → Prop
  | .m x => RM K q.un q.m H v x
  | .own o => ∃ a, q.w i = some a ∧ v = .ref a ∧ ROL K q.un H a o
structure RS (K : PySem.W.Frag) (G : DG) (q : Wd) (σ : L2.St) (H : Hp) (ρ : Env) (st : List O) : Prop where
  rw : RW K G q H st
  sl : ρ.length = σ.length
  slot : ∀ (i : Nat) s, ρ[i]? = some (some s) → ∃ v, σ[i]? = some (some v) ∧ RSl K q H i v s
structure Aft (K : PySem.W.Frag) (G : DG) (q : Wd) (H : Hp) (q' : Wd) (H' : Hp) (st' : List O) : Prop where
  w : q'.w = q.w
  Z : q'.Z = q.Z
  pre : ∀ (j : Nat) a, q.m[j]? = some a → q'.m[j]? = some a
  new : ∀ a ∈ q'.m, a ∉ q.m → H a = none
  kp : Kp (· ∈ q.m) H H'
  rw : RW K G q' H' st'
section
variable {K : PySem.W.Frag} {U U' Mu : Addr → Prop} {m m' : List Addr} {H H' H1 H2 : Hp} {G : DG} {q q' q1 q2 : Wd} {σ : L2.St} {ρ : Env} {st st' st1 st2 : List O}
theorem RJs.mono (pm : ∀ (j : Nat) a, m[j]? = some a → m'[j]? = some a) : ∀ {vs : List V} {js : List Nat}, RJs m vs js → RJs m' vs js
  | _, _, .nil => .nil
  | _, _, .cons h t => .cons (pm _ _ h) (RJs.mono pm t)
mutual
theorem RM.monoW (k : Kw Mu H H') (hu : ∀ a, ¬ U a → H a ≠ none → ¬ Mu a ∧ ¬ U' a) (pm : ∀ (j : Nat) a, m[j]? = some a → m'[j]? = some a) : ∀ (x : MV) (v : V), RM K U m H v x → RM K U' m' H' v x
  | .v d, _, h => by
    cases h with
    | v h => exact .v (RD.monoW k hu d _ h)
  | .obj j, _, h => by
    cases h with
    | obj h => exact .obj (pm _ _ h)
  | .objs js, _, h => by
    cases h with
    | @objs a xs _ r n hs =>
      obtain ⟨n1, n2⟩ := hu a n (by rw [r]; exact nofun)
      exact .objs (k.keep a _ n1 r (fun _ z => nomatch z)) n2 (RJs.mono pm hs)
  | .mtup ms, _, h => by
    cases h with
    | mtup r hs => exact .mtup (k.tup _ _ r) (RMs.monoW k hu pm ms _ hs)
theorem RMs.monoW (k : Kw Mu H H') (hu : ∀ a, ¬ U a → H a ≠ none → ¬ Mu a ∧ ¬ U' a) (pm : ∀ (j : Nat) a, m[j]? = some a → m'[j]? = some a) : ∀ (xs : List MV) (vs : List V), RMs K U m H vs xs → RMs K U' m' H' vs xs
  | [], _, h => by cases h; exact .nil
  | x :: xs, _, h => by
    cases h with
    | cons h1 h2 => exact .cons (RM.monoW k hu pm x _ h1) (RMs.monoW k hu pm xs _ h2)
end
theorem RMf.monoW (k : Kw Mu H H') (hu : ∀ a, ¬ U a → H a ≠ none → ¬ Mu a ∧ ¬ U' a) (pm : ∀ (j : Nat) a, m[j]? = some a → m'[j]? = some a) : ∀ {vs : List (Str × V)} {xs : List (Str × MV)}, RMf K U m H vs xs → RMf K U' m' H' vs xs
  | _, _, .nil => .nil
  | _, _, .cons h t => .cons (RM.monoW k hu pm _ _ h) (RMf.monoW k hu pm t)
theorem RM.mono (k : Kp Mu H H') (hu : ∀ a, ¬ U a → H a ≠ none → ¬ Mu a ∧ ¬ U' a) (pm : ∀ (j : Nat) a, m[j]? = some a → m'[j]? = some a) (x : MV) (v : V) (h : RM K U m H v x) : RM K U' m' H' v x := RM.monoW k.kw hu pm x v h
theorem RMs.mono (k : Kp Mu H H') (hu : ∀ a, ¬ U a → H a ≠ none → ¬ Mu a ∧ ¬ U' a) (pm : ∀ (j : Nat) a, m[j]? = some a → m'[j]? = some a) (xs : List MV) (vs : List V) (h : RMs K U m H vs xs) : RMs K U' m' H' vs xs := RMs.monoW k.kw hu pm xs vs h
theorem RMf.mono (k : Kp Mu H H') (hu : ∀ a, ¬ U a → H a ≠ none → ¬ Mu a ∧ ¬ U' a) (pm : ∀ (j : Nat) a, m[j]? = some a → m'[j]? = some a) {vs : List (Str × V)} {xs : List (Str × MV)} (h : RMf K U m H vs xs) : RMf K U' m' H' vs xs := RMf.monoW k.kw hu pm h
/-- the same at a place that is not touched -/
theorem RO.monoW (k : Kw Mu H H') (hu : ∀ a, ¬ U a → H a ≠ none → ¬ Mu a ∧ ¬ U' a) (pm : ∀ (j : Nat) a, m[j]? = some a → m'[j]? = some a) {a : Addr} (he : H' a = H a) : ∀ {o : O}, RO K U m H a o → RO K U' m' H' a o
  | .lst ds, ⟨vs, e, r⟩ => ⟨vs, he.trans e, RDs.monoW k hu ds vs r⟩
  | .dic ds, ⟨vs, e, r⟩ => ⟨vs, he.trans e, RDk.monoW k hu ds vs r⟩
  | .dicL ds, ⟨o, vs, e, r⟩ => ⟨o, vs, he.trans e, RDk.monoW k hu ds vs r⟩
  | .ins C fs, ⟨dx, vs, e, r⟩ => ⟨dx, vs, he.trans e, RMf.monoW k hu pm r⟩
theorem RO.mono (k : Kp Mu H H') (hu : ∀ a, ¬ U a → H a ≠ none → ¬ Mu a ∧ ¬ U' a) (pm : ∀ (j : Nat) a, m[j]? = some a → m'[j]? = some a) {a : Addr} (n : ¬ Mu a) : ∀ {o : O}, RO K U m H a o → RO K U' m' H' a o
  | .lst ds, ⟨vs, e, r⟩ => ⟨vs, k.keep a _ n e (fun _ z => nomatch z), RDs.mono k hu ds vs r⟩
  | .dic ds, ⟨vs, e, r⟩ => ⟨vs, k.keep a _ n e (fun _ z => nomatch z), RDk.mono k hu ds vs r⟩
  | .dicL ds, ⟨o, vs, e, r⟩ => ⟨o, vs, k.frz a _ _ e, RDk.mono k hu ds vs r⟩
  | .ins C fs, ⟨dx, vs, e, r⟩ => ⟨dx, vs, k.keep a _ n e (fun _ z => nomatch z), RMf.mono k hu pm r⟩
theorem ROL.mono (k : Kp Mu H H') (hu : ∀ a, ¬ U a → H a ≠ none → ¬ Mu a ∧ ¬ U' a) {a : Addr} (n : ¬ Mu a) : ∀ {o : OL}, ROL K U H a o → ROL K U' H' a o
  | .lst ds, ⟨vs, e, r⟩ => ⟨vs, k.keep a _ n e (fun _ z => nomatch z), RDs.mono k hu ds vs r⟩
  | .dK ds, ⟨vs, e, r⟩ => ⟨vs, k.keep a _ n e (fun _ z => nomatch z), RDk.mono k hu ds vs r⟩
  | .dT ds, ⟨vs, e, r⟩ => ⟨vs, k.keep a _ n e (fun _ z => nomatch z), RDt.mono k hu ds vs r⟩
theorem RW.kp (r : RW K G q H st) (k : Kp (fun _ => False) H H') : RW K G q H' st :=
  ⟨fun j a o e1 e2 => RO.mono k (fun a n _ => ⟨id, n⟩) (fun _ _ e => e) id (r.objs j a o e1 e2), r.len, r.nd, fun i a e => ⟨(r.mw i a e).1, (r.mw i a e).2.1, k.al a (r.mw i a e).2.2⟩, r.ww, r.mz, fun a z => k.al a (r.zh a z), k.tabs r.tabs⟩
theorem Aft.refl (r : RW K G q H st) : Aft K G q H q H st := ⟨rfl, rfl, fun _ _ e => e, fun a h n => absurd h n, Kp.refl, r⟩
theorem Aft.of_kp (r : RW K G q H st) (k : Kp (fun _ => False) H H') : Aft K G q H q H' st := ⟨rfl, rfl, fun _ _ e => e, fun a h n => absurd h n, k.mono fun _ h => h.elim, r.kp k⟩
theorem Aft.trans (a : Aft K G q H q1 H1 st1) (b : Aft K G q1 H1 q2 H2 st2) : Aft K G q H q2 H2 st2 where
  w := b.w.trans a.w
  Z := b.Z.trans a.Z
  pre := fun j x e => b.pre j x (a.pre j x e)
  new := fun x h n => by
    by_cases h1 : x ∈ q1.m
    · exact a.new x h1 n
    · have e := b.new x h h1
      cases e0 : H x with
      | none => rfl
      | some o => exact absurd e (a.kp.al x (by rw [e0]; exact nofun))
  kp := a.kp.trans b.kp fun x h => by
    by_cases h1 : x ∈ q.m
    · exact .inl h1
    · exact .inr (a.new x h h1)
  rw := b.rw
theorem Aft.hu (a : Aft K G q H q1 H1 st1) : ∀ x, ¬ q.un x → H x ≠ none → ¬ x ∈ q.m ∧ ¬ q1.un x := fun x n ne => by
  refine ⟨fun h => n (.inl h), fun h => ?_⟩
  rcases h with h | h | h
  · exact ne (a.new x h fun z => n (.inl z))
  · rw [a.w] at h
    exact n (.inr (.inl h))
  · rw [a.Z] at h
    exact n (.inr (.inr h))
theorem RM.aft (a : Aft K G q H q1 H1 st1) {x : MV} {v : V} (h : RM K q.un q.m H v x) : RM K q1.un q1.m H1 v x := RM.mono a.kp a.hu a.pre x v h
theorem RMs.aft (a : Aft K G q H q1 H1 st1) {xs : List MV} {vs : List V} (h : RMs K q.un q.m H vs xs) : RMs K q1.un q1.m H1 vs xs := RMs.mono a.kp a.hu a.pre xs vs h
theorem RD.aft (a : Aft K G q H q1 H1 st1) {x : D} {v : V} (h : RD K q.un H v x) : RD K q1.un H1 v x := RD.mono a.kp a.hu x v h
theorem RDs.aft (a : Aft K G q H q1 H1 st1) {xs : List D} {vs : List V} (h : RDs K q.un H vs xs) : RDs K q1.un H1 vs xs := RDs.mono a.kp a.hu xs vs h
theorem RSl.aft (r : RW K G q H st) (a : Aft K G q H q1 H1 st1) {i : Nat} {v : V} : ∀ {s : SV}, RSl K q H i v s → RSl K q1 H1 i v s
  | .m _, h => RM.aft a h
  | .own _, ⟨p, e1, e2, h⟩ => ⟨p, by rw [a.w]; exact e1, e2, ROL.mono a.kp a.hu (r.mw i p e1).1 h⟩
theorem RS.aft (r : RS K G q σ H ρ st) (a : Aft K G q H q1 H1 st1) : RS K G q1 σ H1 ρ st1 :=
  ⟨a.rw, r.sl, fun i s e => let ⟨v, e1, h⟩ := r.slot i s e; ⟨v, e1, RSl.aft r.rw a h⟩⟩
end

/-! ### outcomes -/
/-- an exception as the program's classes make it -/
def RX (G : DG) (H : Hp) (c : Value) (d : Option Addr) : Ex → Prop
  | .arg nm => c = .ref G.cb ∧ ∃ a, d = some a ∧ H a = some (.xd [("name", .str nm)])
  | .fault l k => c = .ref G.cf ∧ ∃ a, d = some a ∧ H a = some (.xd [("line", .int l), ("kind", .str k)])
section
variable (K : PySem.W.Frag) (G : DG) (W : WX)
/-- what is wanted of an outcome -/
def Fin {α : Type} (q : Wd) (σ : L2.St) (H : Hp) (o : Out α) (k : α → List O → Prop) : Prop :=
  match o with
  | .val a st' => k a st'
  | .exc e st' => ∀ c d H' q', Aft K G q H q' H' st' → RX G H' c d e → W c d σ H'
  | .bad => False
/-- all that can stand behind a value -/
def Post {α β : Type} (R : Wd → Hp → β → α → Prop) (Q : β → Hp → Prop) (q : Wd) (H : Hp) (a : α) (st' : List O) : Prop :=
  ∀ b H' q', Aft K G q H q' H' st' → R q' H' b a → Q b H'
def L {α β : Type} (R : Wd → Hp → β → α → Prop) (f : Env → M α) (σ : L2.St) (H : Hp) (Q : β → Hp → Prop) : Prop :=
  ∃ q ρ st, RS K G q σ H ρ st ∧ Fin K G W q σ H (f ρ st) (Post K G R Q q H)
abbrev RE (q : Wd) (H : Hp) (v : V) (x : MV) : Prop := RM K q.un q.m H v x
abbrev REs (q : Wd) (H : Hp) (v : List V) (x : List MV) : Prop := RMs K q.un q.m H v x
abbrev RB (_ : Wd) (_ : Hp) (b c : Bool) : Prop := b = c
abbrev LE (f : Env → M MV) : TE := L K G W (RE K) f
abbrev LT (f : Env → M Bool) : TT := L K G W RB f
abbrev LA (f : Env → M (List MV)) : TA := L K G W (REs K) f
end
section
variable {K : PySem.W.Frag} {G : DG} {W : WX} {q q' q1 q2 : Wd} {σ : L2.St} {H H' H1 H2 : Hp} {ρ : Env} {st st' st1 st2 : List O} {α β γ δ : Type}
theorem Fin.mono {o : Out α} {k k' : α → List O → Prop} (h : Fin K G W q σ H o k) (i : ∀ a st', k a st' → k' a st') : Fin K G W q σ H o k' := by
  cases o with
  | val a st' => exact i a st' h
  | exc e st' => exact h
  | bad => exact h
/-- behind a first part that went well, the rest is asked from there -/
theorem fin_bind {x : M α} {f : α → M γ} {R1 : Wd → Hp → β → α → Prop} {R2 : Wd → Hp → δ → γ → Prop} {Q : δ → Hp → Prop} (rs : RS K G q σ H ρ st) (h : Fin K G W q σ H (M.bind x f st) (Post K G R2 Q q H)) :
    Fin K G W q σ H (x st) (Post K G R1 (fun b H1 => ∃ q1 st1 a, RS K G q1 σ H1 ρ st1 ∧ Aft K G q H q1 H1 st1 ∧ R1 q1 H1 b a ∧ Fin K G W q1 σ H1 (f a st1) (Post K G R2 Q q1 H1)) q H) := by
  unfold M.bind at h
  cases e : x st with
  | bad => rw [e] at h; exact h
  | exc ex st' => rw [e] at h; exact h
  | val a st' =>
    rw [e] at h
    intro b H1 q1 aft r
    refine ⟨q1, st', a, rs.aft aft, aft, r, ?_⟩
    have h : Fin K G W q σ H (f a st') (Post K G R2 Q q H) := h
    cases e2 : f a st' with
    | bad => rw [e2] at h; exact h
    | exc ex st2 =>
      rw [e2] at h
      intro c d H' q' a2 rx
      exact h c d H' q' (aft.trans a2) rx
    | val g st2 =>
      rw [e2] at h
      intro b2 H' q' a2 r2
      exact h b2 H' q' (aft.trans a2) r2
theorem L.bind {f : Env → M α} {k : Env → α → M γ} {R1 : Wd → Hp → β → α → Prop} {R2 : Wd → Hp → δ → γ → Prop} {Q : δ → Hp → Prop} (h : L K G W R2 (fun ρ => M.bind (f ρ) (k ρ)) σ H Q) :
    L K G W R1 f σ H (fun b H1 => ∃ ρ q1 st1 a, RS K G q1 σ H1 ρ st1 ∧ R1 q1 H1 b a ∧ Fin K G W q1 σ H1 (k ρ a st1) (Post K G R2 Q q1 H1)) := by
  obtain ⟨q, ρ, st, rs, h⟩ := h
  refine ⟨q, ρ, st, rs, ?_⟩
  refine (fin_bind (R1 := R1) rs h).mono fun a st' p b H' q' af r => ?_
  obtain ⟨q1, st1, a1, rs1, _, r1, f1⟩ := p b H' q' af r
  exact ⟨ρ, q1, st1, a1, rs1, r1, f1⟩
/-- the same, at a state that is known -/
theorem L.bind_at {x : Env → M α} {k : α → M γ} {R1 : Wd → Hp → β → α → Prop} {R2 : Wd → Hp → δ → γ → Prop} {Q : δ → Hp → Prop} (rs : RS K G q σ H ρ st) (h : Fin K G W q σ H (M.bind (x ρ) k st) (Post K G R2 Q q H)) :
    L K G W R1 x σ H (fun b H1 => ∃ q1 st1 a, RS K G q1 σ H1 ρ st1 ∧ Aft K G q H q1 H1 st1 ∧ R1 q1 H1 b a ∧ Fin K G W q1 σ H1 (k a st1) (Post K G R2 Q q1 H1)) :=
  ⟨q, ρ, st, rs, fin_bind rs h⟩
theorem PE.by {X : Cx} {e : Expr} {t t' : TE} (h : PE X e t) (i : ∀ σ H Q, t' σ H Q → t σ H Q) : PE X e t' := ⟨fun pins s σ H Q I w => h.run pins s σ H Q I (i σ H Q w)⟩
theorem PT.by {X : Cx} {e : Expr} {t t' : TT} (h : PT X e t) (i : ∀ σ H Q, t' σ H Q → t σ H Q) : PT X e t' := ⟨fun pins s σ H Q I w => h.run pins s σ H Q I (i σ H Q w)⟩
theorem PA.by {X : Cx} {es : List Expr} {t t' : TA} (h : PA X es t) (i : ∀ σ H Q, t' σ H Q → t σ H Q) : PA X es t' := ⟨fun pos pins s σ H Q I w => h.run pos pins s σ H Q I (i σ H Q w)⟩
end

/-! ### rules: names, constants, operators -/
def M.rd {α : Type} (f : List O → Option α) : M α := fun st => match f st with
  | some a => .val a st
  | none => .bad
/-- an operator on values that only reads the store -/
def LR2 (K : PySem.W.Frag) (G : DG) (o : List O → MV → MV → Option MV) : R2 := fun x y H Q => ∃ q st mx my mz, RW K G q H st ∧ RE K q H x mx ∧ RE K q H y my ∧ o st mx my = some mz ∧ ∀ v H', Kp (fun _ => False) H H' → RE K q H' v mz → Q v H'
def LR1 (K : PySem.W.Frag) (G : DG) (o : List O → MV → Option MV) : V → Hp → VK → Prop := fun x H Q => ∃ q st mx mz, RW K G q H st ∧ RE K q H x mx ∧ o st mx = some mz ∧ ∀ v H', Kp (fun _ => False) H H' → RE K q H' v mz → Q v H'
def LRs (K : PySem.W.Frag) (G : DG) (o : List O → List MV → Option MV) : List V → Hp → VK → Prop := fun xs H Q => ∃ q st ms mz, RW K G q H st ∧ REs K q H xs ms ∧ o st ms = some mz ∧ ∀ v H', Kp (fun _ => False) H H' → RE K q H' v mz → Q v H'
def fC (x : MV) : Env → M MV := fun _ => M.pure x
def fVar (i : Nat) : Env → M MV := fun ρ => M.rd fun _ => match ρ[i]? with
  | some (some (.m x)) => some x
  | _ => none
def fBin (o : List O → MV → MV → Option MV) (f g : Env → M MV) : Env → M MV := fun ρ => M.bind (f ρ) fun x => M.bind (g ρ) fun y => M.rd fun st => o st x y
def fUn (o : List O → MV → Option MV) (f : Env → M MV) : Env → M MV := fun ρ => M.bind (f ρ) fun x => M.rd fun st => o st x
section
variable {X : Cx} {G : DG} {W : WX} {e a b : Expr} {f g : Env → M MV} {pos : Pos}
theorem fin_rd {K : PySem.W.Frag} {α β : Type} {q : Wd} {σ : L2.St} {H : Hp} {st : List O} {o : List O → Option α} {R : Wd → Hp → β → α → Prop} {Q : β → Hp → Prop} (rw : RW K G q H st) (h : Fin K G W q σ H (M.rd o st) (Post K G R Q q H)) :
    ∃ z, o st = some z ∧ ∀ v H', Kp (fun _ => False) H H' → R q H' v z → Q v H' := by
  unfold M.rd at h
  cases e : o st with
  | none => rw [e] at h; exact h.elim
  | some z =>
    rw [e] at h
    exact ⟨z, rfl, fun v H' k r => h v H' q (Aft.of_kp rw k) r⟩
theorem pd_c {x : V} {d : MV} (h : PE X e (tC x)) (r : ∀ q H, RE X.K q H x d) : PE X e (LE X.K G W (fC d)) :=
  PE.by h fun σ H Q ⟨q, ρ, st, rs, p⟩ => p x H q (Aft.refl rs.rw) (r q H)
theorem pd_int {i : Int} {j} : PE X (.Constant (.int i) j pos) (LE X.K G W (fC (.v (.int i)))) := pd_c pe_int fun _ _ => .v (.int i)
theorem pd_bl {b : Bool} {j} : PE X (.Constant (.bool b) j pos) (LE X.K G W (fC (.v (.bl b)))) := pd_c pe_bl fun _ _ => .v (.bl b)
theorem pd_non {j} : PE X (.Constant .none j pos) (LE X.K G W (fC (.v .non))) := pd_c pe_non fun _ _ => .v .non
theorem pd_str {x : Str} {j} : PE X (.Constant (.str x) j pos) (LE X.K G W (fC (.v (.str x)))) := pd_c pe_str fun _ _ => .v (.str x)
theorem pd_var (i : Nat) {x : Str} (hN : X.N[i]? = some x) (hv : Vis X.env.scope x) (hd : (x == ("__debug__" : Str)) = false := by decide) (hcd : (x == ("__classdict__" : Str)) = false := by decide) : PE X (.Name x pos) (LE X.K G W (fVar i)) :=
  PE.by (pe_var hN hv hd hcd) fun σ H Q ⟨q, ρ, st, rs, p⟩ => by
    obtain ⟨z, hz, p⟩ := fin_rd rs.rw p
    split at hz
    · rename_i x' e'
      cases hz
      obtain ⟨v, e1, r⟩ := rs.slot i _ e'
      exact ⟨v, e1, p v H Kp.refl r⟩
    · cases hz
theorem pd_bin {op : Operator} {o : List O → MV → MV → Option MV} (ho : OpR X (binaryOp op) (LR2 X.K G o)) (ha : PE X a (LE X.K G W f)) (hb : PE X b (LE X.K G W g)) : PE X (.BinOp a op b pos) (LE X.K G W (fBin o f g)) :=
  PE.by (pe_op ho ha hb) fun σ H Q h => by
    refine (show tOp _ _ _ σ H Q from ?_)
    unfold tOp
    obtain ⟨q, ρ, st, rs, h⟩ := h
    refine ⟨q, ρ, st, rs, (fin_bind (R1 := RE X.K) rs h).mono fun a st' p x H1 q1 af r => ?_⟩
    obtain ⟨q1, st1, mx, rs1, _, r1, f1⟩ := p x H1 q1 af r
    refine ⟨q1, ρ, st1, rs1, (fin_bind (R1 := RE X.K) rs1 f1).mono fun a st' p x H1 q1 af r => ?_⟩
    obtain ⟨q2, st2, my, rs2, a2, r2, f2⟩ := p x H1 q1 af r
    obtain ⟨z, hz, p⟩ := fin_rd rs2.rw f2
    exact ⟨q2, st2, mx, my, z, rs2.rw, r1.aft a2, r2, hz, p⟩
end
end CD

set_option Elab.async false
set_option linter.all false
set_option maxRecDepth 100000
set_option maxHeartbeats 4000000
namespace CD
open PySem PySem.Spec PyProof.Rows L2

section
variable {K : PySem.W.Frag} {G : DG} {q : Wd} {H H' : Hp} {st : List O} {U : Addr → Prop} {m : List Addr}
theorem RW.al (r : RW K G q H st) {a : Addr} (u : q.un a) : H a ≠ none := by
  rcases u with h | ⟨i, h⟩ | h
  · obtain ⟨j, hj, e⟩ := List.getElem_of_mem h
    have e1 : q.m[j]? = some a := by rw [List.getElem?_eq_getElem hj, e]
    have hj2 : j < st.length := by rw [← r.len]; exact hj
    have ro := r.objs j a st[j] e1 (List.getElem?_eq_getElem hj2)
    cases hs : st[j] with
    | lst ds => rw [hs] at ro; obtain ⟨vs, e, _⟩ := ro; rw [e]; exact nofun
    | dic ds => rw [hs] at ro; obtain ⟨vs, e, _⟩ := ro; rw [e]; exact nofun
    | dicL ds => rw [hs] at ro; obtain ⟨o, vs, e, _⟩ := ro; rw [e]; exact nofun
    | ins C fs => rw [hs] at ro; obtain ⟨dx, vs, e, _⟩ := ro; rw [e]; exact nofun
  · exact (r.mw i a h).2.2
  · exact r.zh a h
theorem RW.fresh (r : RW K G q H st) {p : Addr} (h : H p = none) : ¬ q.un p := fun u => r.al u h
theorem st_of {a : Addr} {xs : List V} (h : H a = some (.tup xs)) : SqT K H a xs := .inl (.inl h)
theorem RDs.length : ∀ {vs : List V} {ds : List D}, RDs K U H vs ds → vs.length = ds.length
  | _, _, .nil => rfl
  | _, _, .cons _ t => congrArg (· + 1) (RDs.length t)
theorem RDs.get : ∀ {vs : List V} {ds : List D} {i : Nat} {d : D}, RDs K U H vs ds → ds[i]? = some d → ∃ v, vs[i]? = some v ∧ RD K U H v d
  | _, _, _, _, .nil, e => by simp at e
  | _, _, 0, _, .cons h _, e => by cases e; exact ⟨_, rfl, h⟩
  | _, _, i + 1, _, .cons _ t, e => by
    obtain ⟨v, e1, r⟩ := RDs.get t (i := i) (by simpa using e)
    exact ⟨v, by simpa using e1, r⟩
theorem RDs.append : ∀ {vs vs' : List V} {ds ds' : List D}, RDs K U H vs ds → RDs K U H vs' ds' → RDs K U H (vs ++ vs') (ds ++ ds')
  | _, _, _, _, .nil, s => s
  | _, _, _, _, .cons h t, s => .cons h (RDs.append t s)
theorem RDs.take : ∀ {vs : List V} {ds : List D} (n : Nat), RDs K U H vs ds → RDs K U H (vs.take n) (ds.take n)
  | _, _, 0, _ => by rw [List.take_zero, List.take_zero]; exact .nil
  | _, _, _ + 1, .nil => .nil
  | _, _, n + 1, .cons h t => .cons h (RDs.take n t)
theorem RDs.drop : ∀ {vs : List V} {ds : List D} (n : Nat), RDs K U H vs ds → RDs K U H (vs.drop n) (ds.drop n)
  | _, _, 0, r => r
  | _, _, _ + 1, .nil => .nil
  | _, _, n + 1, .cons _ t => RDs.drop n t
theorem RDs.rep {v : V} {d : D} (h : RD K U H v d) : ∀ n : Nat, RDs K U H (List.replicate n v) (List.replicate n d)
  | 0 => .nil
  | n + 1 => .cons h (RDs.rep h n)
theorem RDs.flat {vs : List V} {ds : List D} (h : RDs K U H vs ds) : ∀ n : Nat, RDs K U H (List.replicate n vs).flatten (List.replicate n ds).flatten
  | 0 => .nil
  | n + 1 => by
    rw [List.replicate_succ, List.replicate_succ, List.flatten_cons, List.flatten_cons]
    exact h.append (RDs.flat h n)
theorem RDs.ints : ∀ ns : List Int, RDs K U H (ns.map V.int) (ns.map D.int)
  | [] => .nil
  | n :: ns => .cons (.int n) (RDs.ints ns)
theorem RDs.nilv {vs : List V} {ds : List D} (h : RDs K U H vs ds) : (vs = [] ↔ ds = []) := by
  cases h <;> simp
theorem RJs.length : ∀ {vs : List V} {ds : List Nat}, RJs m vs ds → vs.length = ds.length
  | _, _, .nil => rfl
  | _, _, .cons _ t => congrArg (· + 1) (RJs.length t)
theorem RJs.append : ∀ {vs vs' : List V} {ds ds' : List Nat}, RJs m vs ds → RJs m vs' ds' → RJs m (vs ++ vs') (ds ++ ds')
  | _, _, _, _, .nil, s => s
  | _, _, _, _, .cons h t, s => .cons h (RJs.append t s)
theorem RJs.take : ∀ {vs : List V} {ds : List Nat} (n : Nat), RJs m vs ds → RJs m (vs.take n) (ds.take n)
  | _, _, 0, _ => by rw [List.take_zero, List.take_zero]; exact .nil
  | _, _, _ + 1, .nil => .nil
  | _, _, n + 1, .cons h t => .cons h (RJs.take n t)
theorem RJs.drop : ∀ {vs : List V} {ds : List Nat} (n : Nat), RJs m vs ds → RJs m (vs.drop n) (ds.drop n)
  | _, _, 0, r => r
  | _, _, _ + 1, .nil => .nil
  | _, _, n + 1, .cons _ t => RJs.drop n t
theorem RJs.get : ∀ {vs : List V} {ds : List Nat} {i : Nat} {d : Nat}, RJs m vs ds → ds[i]? = some d → ∃ a, vs[i]? = some (.ref a) ∧ m[d]? = some a
  | _, _, _, _, .nil, e => by simp at e
  | _, _, 0, _, .cons h _, e => by cases e; exact ⟨_, rfl, h⟩
  | _, _, i + 1, _, .cons _ t, e => by
    obtain ⟨v, e1, r⟩ := RJs.get t (i := i) (by simpa using e)
    exact ⟨v, by simpa using e1, r⟩
/-- a new object, and what is read of it -/
theorem new_lst (r : RW K G q H st) {p : Addr} (h : H p = none) {vs : List V} {ds : List D} (hs : RDs K q.un H vs ds) : RD K q.un (upd H p (.lst vs)) (.ref p) (.lst ds) :=
  .lst upd_same (r.fresh h) (RDs.mono (Mu := fun _ => False) (Kp.new h) (fun _ n _ => ⟨id, n⟩) ds vs hs)
theorem new_tup (r : RW K G q H st) {p : Addr} (h : H p = none) {vs : List V} {ds : List D} (hs : RDs K q.un H vs ds) : RD K q.un (upd H p (.tup vs)) (.ref p) (.tup ds) :=
  .tup upd_same (RDs.mono (Mu := fun _ => False) (Kp.new h) (fun _ n _ => ⟨id, n⟩) ds vs hs)
theorem new_objs (r : RW K G q H st) {p : Addr} (h : H p = none) {vs : List V} {js : List Nat} (hs : RJs q.m vs js) : RM K q.un q.m (upd H p (.lst vs)) (.ref p) (.objs js) :=
  .objs upd_same (r.fresh h) hs
end

/-! ### arithmetic -/
def szOk (n : Nat) : Bool := decide (n ≤ 1000000)
theorem szOk_le {n : Nat} (h : szOk n = true) : n ≤ sizeLine := by rw [sizeLine_eq]; have := of_decide_eq_true h; omega
def addM (_ : List O) : MV → MV → Option MV
  | .v (.int i), .v (.int j) => some (.v (.int (i + j)))
  | .v (.str a), .v (.str b) => if szOk (a.length + b.length) = true then some (.v (.str (a ++ b))) else none
  | .v (.tup xs), .v (.tup ys) => if szOk (xs.length + ys.length) = true then some (.v (.tup (xs ++ ys))) else none
  | .v (.lst xs), .v (.lst ys) => if szOk (xs.length + ys.length) = true then some (.v (.lst (xs ++ ys))) else none
  | .objs xs, .objs ys => if szOk (xs.length + ys.length) = true then some (.objs (xs ++ ys)) else none
  | .v (.lst []), .objs ys => if szOk ys.length = true then some (.objs ys) else none
  | .objs xs, .v (.lst []) => if szOk xs.length = true then some (.objs xs) else none
  | _, _ => none
section
variable {X : Cx} {G : DG}
theorem op_addM : OpR X (binaryOp .Add) (LR2 X.K G addM) := by
  intro pins s σ H x y v u Q I rx ry h
  obtain ⟨q, st, mx, my, mz, rw_, r1, r2, e, p⟩ := h
  unfold addM at e
  split at e
  · cases e; cases r1 with | v r1 => cases r2 with | v r2 => cases r1; cases r2; exact op_add pins s σ H _ _ v u Q I rx ry ⟨_, _, rfl, rfl, p _ H Kp.refl (.v (.int _))⟩
  · split at e <;> cases e
    rename_i hz
    cases r1 with | v r1 => cases r2 with | v r2 => cases r1; cases r2; exact op_add_str pins s σ H _ _ v u Q I rx ry ⟨_, _, rfl, rfl, szOk_le hz, p _ H Kp.refl (.v (.str _))⟩
  · split at e <;> cases e
    rename_i hz
    cases r1 with | v r1 => cases r2 with | v r2 =>
    cases r1 with | @tup a xs _ sa ha => cases r2 with | @tup b ys _ sb hb =>
    refine op_catA pins s σ H _ _ v u Q I rx ry ⟨_, _, _, _, rfl, rfl, st_of sa, st_of sb, by rw [ha.length, hb.length]; exact szOk_le hz, fun z => ?_, fun _ z => ?_, fun _ _ p0 hp => ?_⟩
    · cases ha.nilv.mp z
      exact p _ H Kp.refl (.v (.tup sb hb))
    · have := hb.nilv.mp z
      subst this
      rw [List.append_nil] at p
      exact p _ H Kp.refl (.v (.tup sa ha))
    · exact p _ _ (Kp.new hp) (.v (new_tup rw_ hp (ha.append hb)))
  · split at e <;> cases e
    rename_i hz
    cases r1 with | v r1 => cases r2 with | v r2 =>
    cases r1 with | lst ea na ha => cases r2 with | lst eb nb hb =>
    exact op_cat pins s σ H _ _ v u Q I rx ry ⟨_, _, _, _, rfl, rfl, ea, eb, by rw [ha.length, hb.length]; exact szOk_le hz, fun p0 hp => p _ _ (Kp.new hp) (.v (new_lst rw_ hp (ha.append hb)))⟩
  · split at e <;> cases e
    rename_i hz
    cases r1 with | objs ea na ha => cases r2 with | objs eb nb hb =>
    exact op_cat pins s σ H _ _ v u Q I rx ry ⟨_, _, _, _, rfl, rfl, ea, eb, by rw [ha.length, hb.length]; exact szOk_le hz, fun p0 hp => p _ _ (Kp.new hp) (new_objs rw_ hp (ha.append hb))⟩
  · split at e <;> cases e
    rename_i hz
    cases r1 with | v r1 => cases r1 with | lst ea na ha => cases r2 with | objs eb nb hb =>
    cases ha
    exact op_cat pins s σ H _ _ v u Q I rx ry ⟨_, _, _, _, rfl, rfl, ea, eb, by rw [hb.length, List.length_nil, Nat.zero_add]; exact szOk_le hz, fun p0 hp => p _ _ (Kp.new hp) (new_objs rw_ hp hb)⟩
  · split at e <;> cases e
    rename_i hz
    cases r2 with | v r2 => cases r2 with | lst ea na ha => cases r1 with | objs eb nb hb =>
    cases ha
    exact op_cat pins s σ H _ _ v u Q I rx ry ⟨_, _, _, _, rfl, rfl, eb, ea, by rw [hb.length, List.length_nil, Nat.add_zero]; exact szOk_le hz, fun p0 hp => p _ _ (Kp.new hp) (new_objs rw_ hp (by rw [List.append_nil]; exact hb))⟩
  · cases e
end
/-- two ints -/
def i2M (c : Int → Int → Bool) (g : Int → Int → D) (_ : List O) : MV → MV → Option MV
  | .v (.int i), .v (.int j) => if c i j = true then some (.v (g i j)) else none
  | _, _ => none
theorem op_i2 {X : Cx} {G : DG} {f : Value → Value → Sem Value} {C : Int → Int → Prop} {g : Int → Int → V} {c : Int → Int → Bool} {gd : Int → Int → D} (h : OpR X f (rI C g)) (hc : ∀ i j, c i j = true → C i j) (hg : ∀ i j U H, RD X.K U H (g i j) (gd i j)) : OpR X f (LR2 X.K G (i2M c gd)) := by
  intro pins s σ H x y v u Q I rx ry h'
  obtain ⟨q, st, mx, my, mz, rw_, r1, r2, e, p⟩ := h'
  unfold i2M at e
  split at e
  · split at e <;> cases e
    rename_i hz
    cases r1 with | v r1 => cases r2 with | v r2 => cases r1; cases r2; exact h pins s σ H _ _ v u Q I rx ry ⟨_, _, rfl, rfl, hc _ _ hz, p _ H Kp.refl (.v (hg _ _ _ _))⟩
  · cases e
theorem op_i20 {X : Cx} {G : DG} {f : Value → Value → Sem Value} {g : Int → Int → V} {gd : Int → Int → D} (h : OpR X f (rI0 g)) (hg : ∀ i j U H, RD X.K U H (g i j) (gd i j)) : OpR X f (LR2 X.K G (i2M (fun _ _ => true) gd)) := by
  intro pins s σ H x y v u Q I rx ry h'
  obtain ⟨q, st, mx, my, mz, rw_, r1, r2, e, p⟩ := h'
  unfold i2M at e
  split at e
  · simp only [if_true] at e
    cases e
    cases r1 with | v r1 => cases r2 with | v r2 => cases r1; cases r2; exact h pins s σ H _ _ v u Q I rx ry ⟨_, _, rfl, rfl, p _ H Kp.refl (.v (hg _ _ _ _))⟩
  · cases e
abbrev subM := i2M (fun _ _ => true) fun i j => .int (i - j)
def divOk (i j : Int) : Bool := decide (0 < j) && !(Builtin.divisionGoesByPylong i j)
def mulOk (i j : Int) : Bool := decide (i.natAbs.log2 + j.natAbs.log2 < 1000000)
def powOk (i j : Int) : Bool := decide (0 ≤ j) && decide (j ≤ 1000000) && decide (i.natAbs < 2 ^ 64)
abbrev fdivM := i2M divOk fun i j => .int (i / j)
abbrev modM := i2M (fun _ j => decide (0 < j)) fun i j => .int (i % j)
abbrev shlM := i2M powOk fun i j => .int (i * 2 ^ j.toNat)
abbrev powM := i2M powOk fun i j => .int (i ^ j.toNat)
abbrev orM := i2M (fun _ _ => true) fun i j => .int (Builtin.bitOr i j)
abbrev andM := i2M (fun _ _ => true) fun i j => .int (Builtin.bitAnd i j)
abbrev ltM := i2M (fun _ _ => true) fun i j => .bl (decide (i < j))
abbrev leM := i2M (fun _ _ => true) fun i j => .bl (decide (i ≤ j))
abbrev gtM := i2M (fun _ _ => true) fun i j => .bl (decide (j < i))
abbrev geM := i2M (fun _ _ => true) fun i j => .bl (decide (j ≤ i))
theorem powOk_C {i j : Int} (h : powOk i j = true) : CPow i j := by
  unfold powOk at h
  simp only [Bool.and_eq_true, decide_eq_true_eq] at h
  exact ⟨h.1.1, h.1.2, h.2⟩
section
variable {X : Cx} {G : DG}
theorem op_subM : OpR X (binaryOp .Sub) (LR2 X.K G subM) := op_i20 op_sub fun _ _ _ _ => .int _
def CDivP (i j : Int) : Prop := 0 < j ∧ Builtin.divisionGoesByPylong i j = false
theorem op_fdivP : OpR X (binaryOp .FloorDiv) (rI CDivP fun i j => .int (i / j)) := opI fun i j _ _ _ _ _ hc q =>
  floordiv_int (fun z => by have h := hc.1; rw [z] at h; exact absurd h (by decide)) (by rw [Int.fdiv_eq_ediv_of_nonneg i (Int.le_of_lt hc.1)]; exact q) (.inl hc.2)
theorem op_fdivM : OpR X (binaryOp .FloorDiv) (LR2 X.K G fdivM) := op_i2 op_fdivP (fun i j h => by
  unfold divOk at h; simp only [Bool.and_eq_true, decide_eq_true_eq, Bool.not_eq_true'] at h; exact h) fun _ _ _ _ => .int _
theorem op_modM : OpR X (binaryOp .Mod) (LR2 X.K G modM) := op_i2 op_mod (fun i j h => of_decide_eq_true h) fun _ _ _ _ => .int _
theorem op_shlM : OpR X (binaryOp .LShift) (LR2 X.K G shlM) := op_i2 op_shl (fun i j h => powOk_C h) fun _ _ _ _ => .int _
theorem op_powM : OpR X (binaryOp .Pow) (LR2 X.K G powM) := op_i2 op_pow (fun i j h => powOk_C h) fun _ _ _ _ => .int _
theorem op_orM : OpR X (binaryOp .BitOr) (LR2 X.K G orM) := op_i20 op_or fun _ _ _ _ => .int _
theorem op_andM : OpR X (binaryOp .BitAnd) (LR2 X.K G andM) := op_i20 op_and fun _ _ _ _ => .int _
theorem op_ltM : OpR X (compareOp .Lt) (LR2 X.K G ltM) := op_i20 op_lt fun _ _ _ _ => .bl _
theorem op_leM : OpR X (compareOp .LtE) (LR2 X.K G leM) := op_i20 op_le fun _ _ _ _ => .bl _
theorem op_gtM : OpR X (compareOp .Gt) (LR2 X.K G gtM) := op_i20 op_gt fun _ _ _ _ => .bl _
theorem op_geM : OpR X (compareOp .GtE) (LR2 X.K G geM) := op_i20 op_ge fun _ _ _ _ => .bl _
end

/-! ### a tuple once -/
theorem tuple_mul1 (l : Addr) (items : Array Value) (n : Nat) (dd : Option Addr) (sl : Array (Option Value)) (u : Tok) :
    Meets (Builtin.«tuple.__mul__» ⟨[.ref l, .int 1 u], []⟩) (fun _ R s => s.heap.get? l = some { cls := .type "tuple", dict := dd, data := .seq items n, slots := sl } ∧ R (.ok (.ret (Value.ref l))) s) :=
  .of_wp fun prog w A R s h => by
    obtain ⟨hp, g, d, tk, os⟩ := s
    obtain ⟨hl, h⟩ := h
    have f1 := AutoSeq1.idx_int
    wp_walk using wpAny_loadPart' hl
    repeat (first
      | (refine wpAny_ite_false (decide_eq_false (by decide)) ?_; wp_walk using wpAny_loadPart' hl)
      | (refine wpAny_ite_true (decide_eq_true (by simp)) ?_; wp_walk using wpAny_loadPart' hl))
    all_goals first | exact ⟨_, rfl, h⟩ | skip

theorem mulOk_C {i j : Int} (h : mulOk i j = true) : CMulW i j := by
  unfold mulOk at h
  have h' := of_decide_eq_true h
  exact h'
section
variable {X : Cx} {G : DG}
theorem op_rep1 : OpR X (binaryOp .Mult) (fun x y H Q => ∃ l xs, x = .ref l ∧ y = .int 1 ∧ SqT X.K H l xs ∧ Q (.ref l) H) := by
  intro pins s σ H x y v u Q I rx ry h
  obtain ⟨l, xs, rfl, rfl, hT, q⟩ := h
  cases rx
  obtain ⟨t, rfl⟩ := ry
  obtain ⟨its, r, ⟨⟨cls, dd, data, sl⟩, ho, hc, n, hd⟩, hs⟩ := I.tuple hT
  simp only at hc hd
  subst hc hd
  exact wpAny_binaryOp_repeat_ref (T := "tuple") (U := "int") (by decide) ⟨_, ho, rfl⟩ (fun s' => typeIs_int s' 1 t) noFill_tuple_mul F.fills_int_mul F.slot_int_rmul repeat_tuple F.slot_int_index.lookup
    (call_meets F.slot_int_rmul (typeIs_int s 1 t) F.entry_int_rmul (F.args_int_rmul_2 _ _) (int_rmul_tuple 1 t l its.toArray n dd sl)
      ⟨ho, rfl, ⟨_, ho, rfl⟩, call_meets F.slot_tuple_mul ⟨_, ho, rfl⟩ F.entry_tuple_mul (F.args_tuple_mul_2 _ _) (tuple_mul1 l its.toArray n dd sl t) ⟨ho, .ref l, H, I, rfl, q⟩⟩)
def mulM (_ : List O) : MV → MV → Option MV
  | .v (.int i), .v (.int j) => if mulOk i j = true then some (.v (.int (i * j))) else none
  | .v (.tup xs), .v (.int k) => if (decide (1 ≤ k) && decide (k ≤ 1000) && decide (xs.length ≤ 1000) && !xs.isEmpty) = true then some (.v (.tup (List.replicate k.toNat xs).flatten)) else none
  | _, _ => none
theorem op_mulM : OpR X (binaryOp .Mult) (LR2 X.K G mulM) := by
  intro pins s σ H x y v u Q I rx ry h
  obtain ⟨q, st, mx, my, mz, rw_, r1, r2, e, p⟩ := h
  unfold mulM at e
  split at e
  · split at e <;> cases e
    rename_i hz
    cases r1 with | v r1 => cases r2 with | v r2 => cases r1; cases r2; exact op_mulW pins s σ H _ _ v u Q I rx ry ⟨_, _, rfl, rfl, mulOk_C hz, p _ H Kp.refl (.v (.int _))⟩
  · split at e <;> cases e
    rename_i xs k hz
    simp only [Bool.and_eq_true, decide_eq_true_eq, Bool.not_eq_true', List.isEmpty_eq_false_iff] at hz
    obtain ⟨⟨⟨h1, h2⟩, h3⟩, h4⟩ := hz
    cases r1 with | v r1 => cases r2 with | v r2 =>
    cases r1 with | @tup a vs _ sa ha =>
    cases r2
    by_cases hk : k = 1
    · subst hk
      have e1 : (List.replicate (1 : Int).toNat xs).flatten = xs := by simp
      rw [e1] at p
      exact op_rep1 pins s σ H _ _ v u Q I rx ry ⟨_, _, rfl, rfl, st_of sa, p _ H Kp.refl (.v (.tup sa ha))⟩
    · exact op_repT pins s σ H _ _ v u Q I rx ry ⟨_, _, _, rfl, rfl, st_of sa, fun z => h4 (ha.nilv.mp z), by omega, h2, by rw [ha.length]; exact h3, fun p0 hp => p _ _ (Kp.new hp) (.v (new_tup rw_ hp (ha.flat _)))⟩
  · cases e
end

/-! ### == and in, of data of any depth -/
mutual
def D.toPy : D → PyData
  | .non => .none
  | .bl b => .bool b
  | .int i => .int i
  | .str s => .str s
  | .lst xs => .list (D.toPys xs)
  | .tup xs => .tuple (D.toPys xs)
  | .dic _ => .dict []
  | .dit _ => .dict []
  | .scr _ => .dict []
  | .ktup _ => .dict []
def D.toPys : List D → List PyData
  | [] => []
  | x :: xs => D.toPy x :: D.toPys xs
end
mutual
def D.eqb : D → D → Bool
  | .non, .non => true
  | .bl a, .bl b => a == b
  | .bl a, .int j => (if a then 1 else 0) == j
  | .int i, .bl b => i == (if b then 1 else 0)
  | .int i, .int j => i == j
  | .str x, .str y => x == y
  | .lst xs, .lst ys => D.eqbs xs ys
  | .tup xs, .tup ys => D.eqbs xs ys
  | _, _ => false
def D.eqbs : List D → List D → Bool
  | [], [] => true
  | x :: xs, y :: ys => D.eqb x y && D.eqbs xs ys
  | _, _ => false
end
mutual
theorem D.eqv_eqb : ∀ x y : D, PyData.eqv x.toPy y.toPy = D.eqb x y
  | .non, y => by cases y <;> simp [D.toPy, PyData.eqv, D.eqb]
  | .bl a, y => by cases y <;> simp [D.toPy, PyData.eqv, D.eqb]
  | .int i, y => by cases y <;> simp [D.toPy, PyData.eqv, D.eqb]
  | .str s, y => by cases y <;> simp [D.toPy, PyData.eqv, D.eqb]
  | .lst xs, y => by cases y <;> simp [D.toPy, PyData.eqv, D.eqb]; exact D.eqvs_eqbs xs _
  | .tup xs, y => by cases y <;> simp [D.toPy, PyData.eqv, D.eqb]; exact D.eqvs_eqbs xs _
  | .dic ks, y => by cases y <;> simp [D.toPy, PyData.eqv, D.eqb]
  | .dit ks, y => by cases y <;> simp [D.toPy, PyData.eqv, D.eqb]
  | .scr ks, y => by cases y <;> simp [D.toPy, PyData.eqv, D.eqb]
  | .ktup ks, y => by cases y <;> simp [D.toPy, PyData.eqv, D.eqb]
theorem D.eqvs_eqbs : ∀ xs ys : List D, PyData.eqvAll (D.toPys xs) (D.toPys ys) = D.eqbs xs ys
  | [], ys => by cases ys <;> simp [D.toPys, PyData.eqvAll, D.eqbs]
  | x :: xs, ys => by
    cases ys with
    | nil => simp [D.toPys, PyData.eqvAll, D.eqbs]
    | cons y ys => simp only [D.toPys, PyData.eqvAll, D.eqbs, D.eqv_eqb x y, D.eqvs_eqbs xs ys]
end
/-- no dicts, of nesting at most n -/
def D.fits : Nat → D → Bool
  | _, .non => true
  | _, .bl _ => true
  | _, .int _ => true
  | _, .str s => PyData.strOk s
  | n + 1, .lst xs => xs.all (D.fits n)
  | n + 1, .tup xs => xs.all (D.fits n)
  | _, _ => false
theorem D.fits_py : ∀ (n : Nat) (d : D), D.fits n d = true → d.toPy.canLay0 = true ∧ d.toPy.depth ≤ n := by
  intro n
  induction n with
  | zero =>
    intro d h
    cases d <;> simp [D.fits, D.toPy, PyData.canLay0, PyData.depth] at h ⊢
    exact h
  | succ n ih =>
    have all : ∀ xs : List D, xs.all (D.fits n) = true → PyData.canLayAll0 (D.toPys xs) = true ∧ PyData.depthAll (D.toPys xs) ≤ n := by
      intro xs
      induction xs with
      | nil => intro _; simp [D.toPys, PyData.canLayAll0, PyData.depthAll]
      | cons x xs ih2 =>
        intro h
        rw [List.all_cons, Bool.and_eq_true] at h
        obtain ⟨a1, a2⟩ := ih x h.1
        obtain ⟨b1, b2⟩ := ih2 h.2
        simp only [D.toPys, PyData.canLayAll0, PyData.depthAll, a1, b1, Bool.and_true, true_and]
        omega
    intro d h
    cases d with
    | lst xs =>
      obtain ⟨a, b⟩ := all xs (by simpa [D.fits] using h)
      simp only [D.toPy, PyData.canLay0, PyData.depth, a, true_and]
      omega
    | tup xs =>
      obtain ⟨a, b⟩ := all xs (by simpa [D.fits] using h)
      simp only [D.toPy, PyData.canLay0, PyData.depth, a, true_and]
      omega
    | str s =>
      simp [D.fits] at h
      simp [D.toPy, PyData.canLay0, PyData.depth, h]
    | _ => simp [D.fits, D.toPy, PyData.canLay0, PyData.depth] at h ⊢
theorem D.shaped {d : D} (h : D.fits 20 d = true) : SeqAt.shaped d.toPy = true := by
  obtain ⟨a, b⟩ := D.fits_py 20 d h
  unfold SeqAt.shaped
  rw [a, Bool.true_and]
  exact decide_eq_true (by omega)
section
variable {K : PySem.W.Frag} {U : Addr → Prop} {H : Hp}
mutual
theorem RD.dp : ∀ (d : D) (v : V), d.toPy.canLay0 = true → RD K U H v d → Dp K H v d.toPy
  | .non, _, _, h => by cases h; exact .non
  | .bl b, _, _, h => by cases h; exact .bl b
  | .int i, _, _, h => by cases h; exact .int i
  | .str s, _, _, h => by cases h; exact .str s
  | .lst ds, _, c, h => by
    cases h with
    | lst r n hs => exact .lst (.inl (.inl r)) (RDs.dp ds _ c hs)
  | .tup ds, _, c, h => by
    cases h with
    | tup r hs => exact .tup (st_of r) (RDs.dp ds _ c hs)
  | .dic _, _, c, _ => absurd c (by simp [D.toPy, PyData.canLay0])
  | .dit _, _, c, _ => absurd c (by simp [D.toPy, PyData.canLay0])
  | .scr _, _, c, _ => absurd c (by simp [D.toPy, PyData.canLay0])
  | .ktup _, _, c, _ => absurd c (by simp [D.toPy, PyData.canLay0])
theorem RDs.dp : ∀ (ds : List D) (vs : List V), PyData.canLayAll0 (D.toPys ds) = true → RDs K U H vs ds → DpAll K H vs (D.toPys ds)
  | [], _, _, h => by cases h; exact .nil
  | d :: ds, _, c, h => by
    cases h with
    | cons h1 h2 =>
      have c : (d.toPy.canLay0 && PyData.canLayAll0 (D.toPys ds)) = true := c
      rw [Bool.and_eq_true] at c
      exact .cons (RD.dp d _ c.1 h1) (RDs.dp ds _ c.2 h2)
end
end
theorem D.any_eqv (d : D) : ∀ xs : List D, ((D.toPys xs).any fun z => PyData.eqv z d.toPy) = xs.any fun z => D.eqb z d
  | [] => rfl
  | x :: xs => by rw [D.toPys, List.any_cons, List.any_cons, D.eqv_eqb, D.any_eqv d xs]
def eqM (_ : List O) : MV → MV → Option MV
  | .v a, .v b => if (D.fits 20 a && D.fits 20 b) = true then some (.v (.bl (D.eqb a b))) else none
  | _, _ => none
def neM (_ : List O) : MV → MV → Option MV
  | .v a, .v b => if (D.fits 20 a && D.fits 20 b) = true then some (.v (.bl (!D.eqb a b))) else none
  | _, _ => none
section
variable {X : Cx} {G : DG}
theorem op_eqM (hu : X.A.units + 65 < cLine) : OpR X (compareOp .Eq) (LR2 X.K G eqM) := by
  intro pins s σ H x y v u Q I rx ry h
  obtain ⟨q, st, mx, my, mz, rw_, r1, r2, e, p⟩ := h
  unfold eqM at e
  split at e
  · split at e <;> cases e
    rename_i hz
    rw [Bool.and_eq_true] at hz
    cases r1 with | v r1 => cases r2 with | v r2 =>
    exact op_eqD (by omega) pins s σ H _ _ v u Q I rx ry ⟨_, _, RD.dp _ _ (D.fits_py _ _ hz.1).1 r1, RD.dp _ _ (D.fits_py _ _ hz.2).1 r2, D.shaped hz.1, D.shaped hz.2, by rw [D.eqv_eqb]; exact p _ H Kp.refl (.v (.bl _))⟩
  · cases e
theorem op_neM (hu : X.A.units + 65 < cLine) : OpR X (compareOp .NotEq) (LR2 X.K G neM) := by
  intro pins s σ H x y v u Q I rx ry h
  obtain ⟨q, st, mx, my, mz, rw_, r1, r2, e, p⟩ := h
  unfold neM at e
  split at e
  · split at e <;> cases e
    rename_i hz
    rw [Bool.and_eq_true] at hz
    cases r1 with | v r1 => cases r2 with | v r2 =>
    exact op_neD (by omega) pins s σ H _ _ v u Q I rx ry ⟨_, _, RD.dp _ _ (D.fits_py _ _ hz.1).1 r1, RD.dp _ _ (D.fits_py _ _ hz.2).1 r2, D.shaped hz.1, D.shaped hz.2, by rw [D.eqv_eqb]; exact p _ H Kp.refl (.v (.bl _))⟩
  · cases e
/-- is None, is not None -/
def isNM (neg : Bool) (_ : List O) : MV → MV → Option MV
  | .v .non, .v .non => some (.v (.bl (!neg)))
  | .v (.bl _), .v .non | .v (.int _), .v .non | .v (.str _), .v .non | .v (.lst _), .v .non | .v (.tup _), .v .non | .v (.dic _), .v .non | .v (.dit _), .v .non | .v (.scr _), .v .non | .v (.ktup _), .v .non | .obj _, .v .non | .objs _, .v .non | .mtup _, .v .non => some (.v (.bl neg))
  | _, _ => none
theorem op_isNM : OpR X (compareOp .Is) (LR2 X.K G (isNM false)) := by
  intro pins s σ H x y v u Q I rx ry h
  obtain ⟨q, st, mx, my, mz, rw_, r1, r2, e, p⟩ := h
  unfold isNM at e
  split at e <;> cases e <;> cases r2 <;> rename_i r2 <;> cases r2 <;> cases r1 <;>
    first
      | exact op_isN pins s σ H _ _ v u Q I rx ry ⟨rfl, p _ H Kp.refl (.v (.bl _))⟩
      | (rename_i r1; cases r1 <;> exact op_isN pins s σ H _ _ v u Q I rx ry ⟨rfl, p _ H Kp.refl (.v (.bl _))⟩)
theorem op_notNM : OpR X (compareOp .IsNot) (LR2 X.K G (isNM true)) := by
  intro pins s σ H x y v u Q I rx ry h
  obtain ⟨q, st, mx, my, mz, rw_, r1, r2, e, p⟩ := h
  unfold isNM at e
  split at e <;> cases e <;> cases r2 <;> rename_i r2 <;> cases r2 <;> cases r1 <;>
    first
      | exact op_notN pins s σ H _ _ v u Q I rx ry ⟨rfl, p _ H Kp.refl (.v (.bl _))⟩
      | (rename_i r1; cases r1 <;> exact op_notN pins s σ H _ _ v u Q I rx ry ⟨rfl, p _ H Kp.refl (.v (.bl _))⟩)
end

/-! ### dicts -/
def dKey : D → Option L2.Key
  | .int i => some (.inl i)
  | .str x => some (.inr x)
  | _ => none
def dKeys : List D → Option (List L2.Key)
  | [] => some []
  | d :: ds => match dKey d, dKeys ds with
    | some k, some ks => some (k :: ks)
    | _, _ => none
def getK {κ : Type} [DecidableEq κ] : List (κ × D) → κ → Option D
  | [], _ => none
  | (k, d) :: r, x => if k = x then some d else getK r x
def hasK {κ : Type} [DecidableEq κ] (l : List (κ × D)) (x : κ) : Bool := (getK l x).isSome
section
variable {K : PySem.W.Frag} {U : Addr → Prop} {H : Hp}
theorem dKey_v {d : D} {k : L2.Key} {v : V} (h : dKey d = some k) (r : RD K U H v d) : v = kV k := by
  cases d <;> simp [dKey] at h <;> cases h <;> cases r <;> rfl
theorem dKeys_v : ∀ {ds : List D} {ks : List L2.Key} {vs : List V}, dKeys ds = some ks → RDs K U H vs ds → vs = ks.map kV
  | [], ks, _, h, r => by cases h; cases r; rfl
  | d :: ds, ks, _, h, r => by
    cases r with
    | cons r1 r2 =>
      unfold dKeys at h
      split at h
      · rename_i k ks' e1 e2
        cases h
        rw [List.map_cons, ← dKey_v e1 r1, ← dKeys_v e2 r2]
      · cases h
theorem RDk.get : ∀ {vs : List (L2.Key × V)} {ds : List (L2.Key × D)} (k : L2.Key), RDk K U H vs ds → (match getK ds k with
    | some d => ∃ v, valV vs k = some v ∧ RD K U H v d
    | none => valV vs k = none)
  | _, _, _, .nil => rfl
  | _, _, x, .cons (k := k) h t => by
    by_cases e : k = x
    · rw [getK, if_pos e]
      exact ⟨_, valV_pos e, h⟩
    · rw [getK, if_neg e, valV_neg e]
      exact RDk.get x t
theorem RDt.get : ∀ {vs : List (List L2.Key × V)} {ds : List (List L2.Key × D)} (k : List L2.Key), RDt K U H vs ds → (match getK ds k with
    | some d => ∃ v, valV vs k = some v ∧ RD K U H v d
    | none => valV vs k = none)
  | _, _, _, .nil => rfl
  | _, _, x, .cons (k := k) h t => by
    by_cases e : k = x
    · rw [getK, if_pos e]
      exact ⟨_, valV_pos e, h⟩
    · rw [getK, if_neg e, valV_neg e]
      exact RDt.get x t
theorem RDk.has {vs : List (L2.Key × V)} {ds : List (L2.Key × D)} (k : L2.Key) (r : RDk K U H vs ds) : (valV vs k).isSome = hasK ds k := by
  have h := r.get k
  unfold hasK
  cases e : getK ds k with
  | none => rw [e] at h; rw [h]; rfl
  | some d => rw [e] at h; obtain ⟨v, h, _⟩ := h; rw [h]; rfl
theorem RDt.has {vs : List (List L2.Key × V)} {ds : List (List L2.Key × D)} (k : List L2.Key) (r : RDt K U H vs ds) : (valV vs k).isSome = hasK ds k := by
  have h := r.get k
  unfold hasK
  cases e : getK ds k with
  | none => rw [e] at h; rw [h]; rfl
  | some d => rw [e] at h; obtain ⟨v, h, _⟩ := h; rw [h]; rfl
end
/-- is it in: of a list, a tuple, a dict, a text -/
def isIn (st : List O) : MV → MV → Option Bool
  | .v d, .v (.tup ds) => if (D.fits 20 d && D.fits 20 (.tup ds)) = true then some (ds.any fun z => D.eqb z d) else none
  | .v d, .v (.lst ds) => if (D.fits 20 d && D.fits 20 (.lst ds)) = true then some (ds.any fun z => D.eqb z d) else none
  | .v d, .v (.dic kvs) => match dKey d with
    | some k => some (hasK kvs k)
    | none => none
  | .v (.tup ds), .v (.dit kvs) => match dKeys ds with
    | some k => some (hasK kvs k)
    | none => none
  | .v d, .obj j => match st[j]? with
    | some (.dic kvs) => match dKey d with
      | some k => some (hasK kvs k)
      | none => none
    | some (.dicL kvs) => match dKey d with
      | some k => some (hasK kvs k)
      | none => none
    | _ => none
  | .v (.str a), .v (.str b) => some (!(Builtin.Str.occurrences b a 0 b.length 1).isEmpty)
  | _, _ => none
def inM (st : List O) (x y : MV) : Option MV := (isIn st x y).map fun b => .v (.bl b)
def notInM (st : List O) (x y : MV) : Option MV := (isIn st x y).map fun b => .v (.bl (!b))
section
variable {X : Cx} {G : DG}
/-- both at once -/
theorem in_both (hu : X.A.units + 65 < cLine) {pins : List (Addr × Obj)} {s : Shared} {σ : L2.St} {H : Hp} {x y : V} {v u : Value} (I : Inv X pins σ H s) (rx : RelV x v) (ry : RelV y u) {q : Wd} {st : List O} {mx my : MV} {b : Bool}
    (rw_ : RW X.K G q H st) (r1 : RE X.K q H x mx) (r2 : RE X.K q H y my) (e : isIn st mx my = some b) :
    (∀ Q : VK, Q (.bl b) H → wpAny (model X.prog X.w) X.A (compareOp .In v u) (EP X pins σ Q) X.xe s) ∧ ∀ Q : VK, Q (.bl (!b)) H → wpAny (model X.prog X.w) X.A (compareOp .NotIn v u) (EP X pins σ Q) X.xe s := by
  unfold isIn at e
  split at e
  · split at e <;> cases e
    rename_i d ds hz
    rw [Bool.and_eq_true] at hz
    cases r1 with | v r1 => cases r2 with | v r2 =>
    obtain ⟨as, a1⟩ := Dp.reads I _ x v (RD.dp _ _ (D.fits_py _ _ hz.1).1 r1) rx
    obtain ⟨bs, a2⟩ := Dp.reads I _ y u (RD.dp _ _ (D.fits_py _ _ hz.2).1 r2) ry
    have e := D.any_eqv d ds
    exact ⟨fun Q q => SeqAt.in_tuple_reads a2 a1 (SeqAt.canLay_of_shaped (D.shaped hz.2)) (SeqAt.canLay_of_shaped (D.shaped hz.1)) (room_in_shaped (D.shaped hz.1) hu) ⟨.bl _, H, I, rfl, by rw [e]; exact q⟩,
      fun Q q => SeqAt.notIn_tuple_reads a2 a1 (SeqAt.canLay_of_shaped (D.shaped hz.2)) (SeqAt.canLay_of_shaped (D.shaped hz.1)) (room_in_shaped (D.shaped hz.1) hu) ⟨.bl _, H, I, rfl, by rw [e]; exact q⟩⟩
  · split at e <;> cases e
    rename_i d ds hz
    rw [Bool.and_eq_true] at hz
    cases r1 with | v r1 => cases r2 with | v r2 =>
    obtain ⟨as, a1⟩ := Dp.reads I _ x v (RD.dp _ _ (D.fits_py _ _ hz.1).1 r1) rx
    obtain ⟨bs, a2⟩ := Dp.reads I _ y u (RD.dp _ _ (D.fits_py _ _ hz.2).1 r2) ry
    have e := D.any_eqv d ds
    exact ⟨fun Q q => SeqAt.in_list_reads a2 a1 (SeqAt.canLay_of_shaped (D.shaped hz.2)) (SeqAt.canLay_of_shaped (D.shaped hz.1)) (room_in_shaped (D.shaped hz.1) hu) ⟨.bl _, H, I, rfl, by rw [e]; exact q⟩,
      fun Q q => SeqAt.notIn_list_reads a2 a1 (SeqAt.canLay_of_shaped (D.shaped hz.2)) (SeqAt.canLay_of_shaped (D.shaped hz.1)) (room_in_shaped (D.shaped hz.1) hu) ⟨.bl _, H, I, rfl, by rw [e]; exact q⟩⟩
  · split at e <;> cases e
    rename_i d kvs k hk
    cases r1 with | v r1 => cases r2 with | v r2 =>
    cases r2 with | @dic a vs _ ea na ha =>
    have e1 := dKey_v hk r1
    subst e1
    cases ry
    rw [← ha.has k]
    exact ⟨fun Q q => d_in (by omega) I (DGet.k ea) rx fun s' I' => ⟨.bl _, H, I', rfl, q⟩, fun Q q => d_notIn (by omega) I (DGet.k ea) rx fun s' I' => ⟨.bl _, H, I', rfl, q⟩⟩
  · split at e <;> cases e
    rename_i ds kvs k hk
    cases r1 with | v r1 => cases r2 with | v r2 =>
    cases r2 with | @dit a vs _ ea na ha =>
    cases r1 with | tup et ht =>
    have e1 := dKeys_v hk ht
    subst e1
    cases ry
    rw [← ha.has k]
    exact ⟨fun Q q => d_in (by omega) I (DGet.t ea et) rx fun s' I' => ⟨.bl _, H, I', rfl, q⟩, fun Q q => d_notIn (by omega) I (DGet.t ea et) rx fun s' I' => ⟨.bl _, H, I', rfl, q⟩⟩
  · split at e
    · rename_i d j _ kvs hj
      split at e <;> cases e
      rename_i k hk
      cases r1 with | v r1 => cases r2 with | obj em =>
      obtain ⟨vs, ea, ha⟩ := rw_.objs j _ _ em hj
      have e1 := dKey_v hk r1
      subst e1
      cases ry
      rw [← ha.has k]
      exact ⟨fun Q q => d_in (by omega) I (DGet.k ea) rx fun s' I' => ⟨.bl _, H, I', rfl, q⟩, fun Q q => d_notIn (by omega) I (DGet.k ea) rx fun s' I' => ⟨.bl _, H, I', rfl, q⟩⟩
    · rename_i d j _ kvs hj
      split at e <;> cases e
      rename_i k hk
      cases r1 with | v r1 => cases r2 with | obj em =>
      obtain ⟨o, vs, ea, ha⟩ := rw_.objs j _ _ em hj
      have e1 := dKey_v hk r1
      subst e1
      cases ry
      rw [← ha.has k]
      exact ⟨fun Q q => d_in (by omega) I (.inl ⟨vs, k, .inr ⟨o, ea⟩, rfl, rfl⟩) rx fun s' I' => ⟨.bl _, H, I', rfl, q⟩, fun Q q => d_notIn (by omega) I (.inl ⟨vs, k, .inr ⟨o, ea⟩, rfl, rfl⟩) rx fun s' I' => ⟨.bl _, H, I', rfl, q⟩⟩
    · cases e
  · cases e
    cases r1 with | v r1 => cases r2 with | v r2 =>
    cases r1
    cases r2
    exact ⟨fun Q q => op_in_str pins s σ H _ _ v u Q I rx ry ⟨_, _, rfl, rfl, q⟩, fun Q q => op_notin_str pins s σ H _ _ v u Q I rx ry ⟨_, _, rfl, rfl, q⟩⟩
  · cases e
theorem op_inM (hu : X.A.units + 65 < cLine) : OpR X (compareOp .In) (LR2 X.K G inM) := by
  intro pins s σ H x y v u Q I rx ry h
  obtain ⟨q, st, mx, my, mz, rw_, r1, r2, e, p⟩ := h
  unfold inM at e
  obtain ⟨b, eb, rfl⟩ := Option.map_eq_some_iff.mp e
  exact (in_both hu I rx ry rw_ r1 r2 eb).1 Q (p _ H Kp.refl (.v (.bl _)))
theorem op_notInM (hu : X.A.units + 65 < cLine) : OpR X (compareOp .NotIn) (LR2 X.K G notInM) := by
  intro pins s σ H x y v u Q I rx ry h
  obtain ⟨q, st, mx, my, mz, rw_, r1, r2, e, p⟩ := h
  unfold notInM at e
  obtain ⟨b, eb, rfl⟩ := Option.map_eq_some_iff.mp e
  exact (in_both hu I rx ry rw_ r1 r2 eb).2 Q (p _ H Kp.refl (.v (.bl _)))
end

/-! ### subscripts and slices -/
def atD {α : Type} (xs : List α) (i : Int) : Option α := atI xs i
def cutD {α : Type} (xs : List α) (lo hi : Option Int) : List α := (xs.drop (HT.sIx xs.length 0 lo)).take (HT.sIx xs.length xs.length hi - HT.sIx xs.length 0 lo)
def ixM (st : List O) : MV → MV → Option MV
  | .v (.tup ds), .v (.int i) => (atD ds i).map .v
  | .v (.lst ds), .v (.int i) => (atD ds i).map .v
  | .v (.scr ns), .v (.int i) => (atD ns i).map fun n => .v (.int n)
  | .v (.ktup ds), .v (.int i) => (atD ds i).map .v
  | .v (.str z), .v (.int i) => if szOk z.length = true then (atD z.cps.toList i).map fun c => .v (.str ⟨#[c]⟩) else none
  | .objs js, .v (.int i) => (atD js i).map .obj
  | .mtup ms, .v (.int i) => atD ms i
  | .v (.dic kvs), .v d => match dKey d with
    | some k => (getK kvs k).map .v
    | none => none
  | .v (.dit kvs), .v (.tup ds) => match dKeys ds with
    | some k => (getK kvs k).map .v
    | none => none
  | .obj j, .v d => match st[j]? with
    | some (.lst ds) => match d with
      | .int i => (atD ds i).map .v
      | _ => none
    | some (.dic kvs) => match dKey d with
      | some k => (getK kvs k).map .v
      | none => none
    | some (.dicL kvs) => match dKey d with
      | some k => (getK kvs k).map .v
      | none => none
    | _ => none
  | _, _ => none
section
variable {K : PySem.W.Frag} {U : Addr → Prop} {m : List Addr} {H : Hp}
theorem RDs.at {vs : List V} {ds : List D} {i : Int} {d : D} (r : RDs K U H vs ds) (e : atD ds i = some d) : ∃ v, atI vs i = some v ∧ RD K U H v d := by
  unfold atD atI at e
  obtain ⟨j, h1, h2⟩ := Option.bind_eq_some_iff.mp e
  obtain ⟨v, hv, rv⟩ := r.get h2
  exact ⟨v, by unfold atI; rw [r.length, h1]; exact hv, rv⟩
theorem RJs.at {vs : List V} {ds : List Nat} {i : Int} {d : Nat} (r : RJs m vs ds) (e : atD ds i = some d) : ∃ a, atI vs i = some (.ref a) ∧ m[d]? = some a := by
  unfold atD atI at e
  obtain ⟨j, h1, h2⟩ := Option.bind_eq_some_iff.mp e
  obtain ⟨v, hv, rv⟩ := r.get h2
  exact ⟨v, by unfold atI; rw [r.length, h1]; exact hv, rv⟩
theorem RMs.length : ∀ {vs : List V} {ds : List MV}, RMs K U m H vs ds → vs.length = ds.length
  | _, _, .nil => rfl
  | _, _, .cons _ t => congrArg (· + 1) (RMs.length t)
theorem RMs.get : ∀ {vs : List V} {ds : List MV} {i : Nat} {d : MV}, RMs K U m H vs ds → ds[i]? = some d → ∃ v, vs[i]? = some v ∧ RM K U m H v d
  | _, _, _, _, .nil, e => by simp at e
  | _, _, 0, _, .cons h _, e => by cases e; exact ⟨_, rfl, h⟩
  | _, _, i + 1, _, .cons _ t, e => by
    obtain ⟨v, e1, r⟩ := RMs.get t (i := i) (by simpa using e)
    exact ⟨v, by simpa using e1, r⟩
theorem RMs.at {vs : List V} {ds : List MV} {i : Int} {d : MV} (r : RMs K U m H vs ds) (e : atD ds i = some d) : ∃ v, atI vs i = some v ∧ RM K U m H v d := by
  unfold atD atI at e
  obtain ⟨j, h1, h2⟩ := Option.bind_eq_some_iff.mp e
  obtain ⟨v, hv, rv⟩ := r.get h2
  exact ⟨v, by unfold atI; rw [r.length, h1]; exact hv, rv⟩
end

section
variable {X : Cx} {G : DG}
theorem dict_typeIsK {pins : List (Addr × Obj)} {σ : L2.St} {H : Hp} {s : Shared} {a : Addr} {y : V} {o : Option V} (I : Inv X pins σ H s) (g : DGet H a y o) : s.TypeIs (.ref a) "dict" := dict_typeIs I g
theorem ix_dict (hu : X.A.units + 65 < cLine) : IxR X (fun x y H Q => ∃ a v, x = .ref a ∧ DGet H a y (some v) ∧ Q v H) := by
  intro value slice pins s σ H x y v u Q I rx ry h hs
  obtain ⟨a, r, rfl, g, q⟩ := h
  obtain rfl : v = Value.ref a := rx
  exact tail_any (dict_typeIs I g) PySem.F.slot_dict_getitem.lookup (d_getItem (by omega) I g ry fun w' s3 I3 rw' => ⟨r, H, I3, rw', q⟩) hs
theorem ix_M (hu : X.A.units + 65 < cLine) : IxR X (LR2 X.K G ixM) := by
  intro value slice pins s σ H x y v u Q I rx ry h hs
  obtain ⟨q, st, mx, my, mz, rw_, r1, r2, e, p⟩ := h
  unfold ixM at e
  split at e
  · obtain ⟨d, ed, rfl⟩ := Option.map_eq_some_iff.mp e
    cases r1 with | v r1 => cases r2 with | v r2 =>
    cases r1 with | tup ea ha =>
    cases r2
    obtain ⟨w, ew, rv⟩ := ha.at ed
    exact ix_tup value slice pins s σ H _ _ v u Q I rx ry ⟨_, _, _, _, rfl, rfl, st_of ea, ew, p _ H Kp.refl (.v rv)⟩ hs
  · obtain ⟨d, ed, rfl⟩ := Option.map_eq_some_iff.mp e
    cases r1 with | v r1 => cases r2 with | v r2 =>
    cases r1 with | lst ea na ha =>
    cases r2
    obtain ⟨w, ew, rv⟩ := ha.at ed
    exact ix_list value slice pins s σ H _ _ v u Q I rx ry ⟨_, _, _, _, rfl, rfl, .inl (.inl ea), ew, p _ H Kp.refl (.v rv)⟩ hs
  · obtain ⟨d, ed, rfl⟩ := Option.map_eq_some_iff.mp e
    cases r1 with | v r1 => cases r2 with | v r2 =>
    cases r1 with | @scr a _ ea =>
    rename_i ns i0
    cases r2
    have e2 : atI (ns.map V.int) i0 = some (V.int d) := by
      unfold atD atI at ed
      obtain ⟨j, h1, h2⟩ := Option.bind_eq_some_iff.mp ed
      unfold atI
      rw [List.length_map, h1]
      simp [h2]
    exact ix_list value slice pins s σ H _ _ v u Q I rx ry ⟨_, _, _, _, rfl, rfl, ea.sql, e2, p _ H Kp.refl (.v (.int d))⟩ hs
  · obtain ⟨d, ed, rfl⟩ := Option.map_eq_some_iff.mp e
    cases r1 with | v r1 => cases r2 with | v r2 =>
    cases r1 with | ktup ea ha =>
    cases r2
    obtain ⟨w, ew, rv⟩ := ha.at ed
    exact ix_tup value slice pins s σ H _ _ v u Q I rx ry ⟨_, _, _, _, rfl, rfl, ea, ew, p _ H Kp.refl (.v rv)⟩ hs
  · split at e
    rotate_left
    · cases e
    rename_i hz
    obtain ⟨d, ed, rfl⟩ := Option.map_eq_some_iff.mp e
    cases r1 with | v r1 => cases r2 with | v r2 =>
    cases r1
    cases r2
    exact ix_str value slice pins s σ H _ _ v u Q I rx ry ⟨_, _, _, rfl, rfl, szOk_le hz, ed, p _ H Kp.refl (.v (.str _))⟩ hs
  · obtain ⟨d, ed, rfl⟩ := Option.map_eq_some_iff.mp e
    cases r1 with | objs ea na ha => cases r2 with | v r2 =>
    cases r2
    obtain ⟨w, ew, rv⟩ := ha.at ed
    exact ix_list value slice pins s σ H _ _ v u Q I rx ry ⟨_, _, _, _, rfl, rfl, .inl (.inl ea), ew, p _ H Kp.refl (.obj rv)⟩ hs
  · cases r1 with | mtup ea ha => cases r2 with | v r2 =>
    cases r2
    obtain ⟨w, ew, rv⟩ := ha.at e
    exact ix_tup value slice pins s σ H _ _ v u Q I rx ry ⟨_, _, _, _, rfl, rfl, st_of ea, ew, p _ H Kp.refl rv⟩ hs
  · split at e
    rotate_left
    · cases e
    rename_i k hk
    obtain ⟨d, ed, rfl⟩ := Option.map_eq_some_iff.mp e
    cases r1 with | v r1 => cases r2 with | v r2 =>
    cases r1 with | dic ea na ha =>
    have e1 := dKey_v hk r2
    subst e1
    have h1 := ha.get k
    rw [ed] at h1
    obtain ⟨w, ew, rv⟩ := h1
    exact ix_dict hu value slice pins s σ H _ _ v u Q I rx ry ⟨_, w, rfl, by rw [← ew]; exact DGet.k ea, p _ H Kp.refl (.v rv)⟩ hs
  · split at e
    rotate_left
    · cases e
    rename_i k hk
    obtain ⟨d, ed, rfl⟩ := Option.map_eq_some_iff.mp e
    cases r1 with | v r1 => cases r2 with | v r2 =>
    cases r1 with | dit ea na ha =>
    cases r2 with | tup et ht =>
    have e1 := dKeys_v hk ht
    subst e1
    have h1 := ha.get k
    rw [ed] at h1
    obtain ⟨w, ew, rv⟩ := h1
    exact ix_dict hu value slice pins s σ H _ _ v u Q I rx ry ⟨_, w, rfl, by rw [← ew]; exact DGet.t ea et, p _ H Kp.refl (.v rv)⟩ hs
  · cases r1 with | obj em => cases r2 with | v r2 =>
    split at e
    · rename_i hj
      obtain ⟨vs, ea, ha⟩ := rw_.objs _ _ _ em hj
      split at e
      · obtain ⟨d, ed, rfl⟩ := Option.map_eq_some_iff.mp e
        cases r2
        obtain ⟨w, ew, rv⟩ := ha.at ed
        exact ix_list value slice pins s σ H _ _ v u Q I rx ry ⟨_, _, _, _, rfl, rfl, .inl (.inl ea), ew, p _ H Kp.refl (.v rv)⟩ hs
      · cases e
    · rename_i hj
      obtain ⟨vs, ea, ha⟩ := rw_.objs _ _ _ em hj
      split at e
      rotate_left
      · cases e
      rename_i k hk
      obtain ⟨d, ed, rfl⟩ := Option.map_eq_some_iff.mp e
      have e1 := dKey_v hk r2
      subst e1
      have h1 := ha.get k
      rw [ed] at h1
      obtain ⟨w, ew, rv⟩ := h1
      exact ix_dict hu value slice pins s σ H _ _ v u Q I rx ry ⟨_, w, rfl, by rw [← ew]; exact DGet.k ea, p _ H Kp.refl (.v rv)⟩ hs
    · rename_i hj
      obtain ⟨o, vs, ea, ha⟩ := rw_.objs _ _ _ em hj
      split at e
      rotate_left
      · cases e
      rename_i k hk
      obtain ⟨d, ed, rfl⟩ := Option.map_eq_some_iff.mp e
      have e1 := dKey_v hk r2
      subst e1
      have h1 := ha.get k
      rw [ed] at h1
      obtain ⟨w, ew, rv⟩ := h1
      exact ix_dict hu value slice pins s σ H _ _ v u Q I rx ry ⟨_, w, rfl, .inl ⟨vs, k, .inr ⟨o, ea⟩, rfl, ew.symm⟩, p _ H Kp.refl (.v rv)⟩ hs
    · cases e
  · cases e
/-- a slice by two parts -/
def partM : Option MV → Option (Option Int)
  | none => some none
  | some (.v (.int i)) => some (some i)
  | _ => none
def slM (x : MV) (lo hi : Option Int) : Option MV := match x with
  | .v (.tup ds) => some (.v (.tup (cutD ds lo hi)))
  | .v (.lst ds) => some (.v (.lst (cutD ds lo hi)))
  | .v (.scr ns) => some (.v (.lst ((cutD ns lo hi).map D.int)))
  | .v (.str z) => if szOk z.length = true then some (.v (.str (cutS z lo hi))) else none
  | .objs js => some (.objs (cutD js lo hi))
  | _ => none
def LRsl (K : PySem.W.Frag) (G : DG) : V → Option Int → Option Int → Hp → VK → Prop := fun x lo hi H Q => ∃ q st mx mz, RW K G q H st ∧ RE K q H x mx ∧ slM mx lo hi = some mz ∧ ∀ v H', Kp (fun _ => False) H H' → RE K q H' v mz → Q v H'
theorem RDs.cut {K : PySem.W.Frag} {U : Addr → Prop} {H : Hp} {vs : List V} {ds : List D} (r : RDs K U H vs ds) (lo hi : Option Int) : RDs K U H (cutV vs lo hi) (cutD ds lo hi) := by
  unfold cutV cutD
  rw [r.length]
  exact (r.drop _).take _
theorem RJs.cut {m : List Addr} {vs : List V} {ds : List Nat} (r : RJs m vs ds) (lo hi : Option Int) : RJs m (cutV vs lo hi) (cutD ds lo hi) := by
  unfold cutV cutD
  rw [r.length]
  exact (r.drop _).take _
theorem sl_M : SlR X (LRsl X.K G) := by
  intro pins s σ H x v vl vu lo hi sl Q I rx hs pl pu h
  obtain ⟨q, st, mx, mz, rw_, r1, e, p⟩ := h
  unfold slM at e
  split at e
  · cases e
    cases r1 with | v r1 => cases r1 with | tup ea ha =>
    have hc := ha.cut lo hi
    refine sl_tupA pins s σ H _ v vl vu lo hi sl Q I rx hs pl pu ⟨_, _, rfl, st_of ea, fun hw => ?_, fun _ p0 hp => p _ _ (Kp.new hp) (.v (new_tup rw_ hp hc))⟩
    refine p _ H Kp.refl (.v (.tup ea ?_))
    have : cutV _ lo hi = _ := (by unfold cutV; rw [hw.1, hw.2, List.drop_zero, Nat.sub_zero, List.take_length] : cutV _ lo hi = _)
    rw [this] at hc
    exact hc
  · cases e
    cases r1 with | v r1 => cases r1 with | lst ea na ha =>
    exact sl_list pins s σ H _ v vl vu lo hi sl Q I rx hs pl pu ⟨_, _, rfl, .inl (.inl ea), fun p0 hp => p _ _ (Kp.new hp) (.v (new_lst rw_ hp (ha.cut lo hi)))⟩
  · cases e
    rename_i ns
    cases r1 with | v r1 => cases r1 with | @scr a _ ea =>
    have hc : cutV (ns.map V.int) lo hi = (cutD ns lo hi).map V.int := by
      unfold cutV cutD
      rw [List.length_map, List.map_take, List.map_drop]
    exact sl_list pins s σ H _ v vl vu lo hi sl Q I rx hs pl pu ⟨_, _, rfl, ea.sql, fun p0 hp => p _ _ (Kp.new hp) (.v (new_lst rw_ hp (by rw [hc]; exact RDs.ints _)))⟩
  · split at e <;> cases e
    rename_i hz
    cases r1 with | v r1 =>
    cases r1
    exact sl_str pins s σ H _ v vl vu lo hi sl Q I rx hs pl pu ⟨_, rfl, szOk_le hz, p _ H Kp.refl (.v (.str _))⟩
  · cases e
    cases r1 with | objs ea na ha =>
    exact sl_list pins s σ H _ v vl vu lo hi sl Q I rx hs pl pu ⟨_, _, rfl, .inl (.inl ea), fun p0 hp => p _ _ (Kp.new hp) (new_objs rw_ hp (ha.cut lo hi))⟩
  · cases e
end
end CD

set_option Elab.async false
set_option linter.all false
set_option maxRecDepth 100000
set_option maxHeartbeats 4000000
namespace CD
open PySem PySem.Spec PyProof.Rows L2

section
variable {K : PySem.W.Frag} {G : DG} {W : WX} {q q' q1 q2 : Wd} {σ : L2.St} {H H' H1 H2 : Hp} {ρ : Env} {st st' st1 st2 : List O} {α β γ δ : Type}
/-- a first part, then the rest -/
theorem seq {f : Env → M α} {k : α → M γ} {R1 : Wd → Hp → β → α → Prop} {R2 : Wd → Hp → δ → γ → Prop} {Q : δ → Hp → Prop} {Q' : β → Hp → Prop} (rs : RS K G q σ H ρ st) (h : Fin K G W q σ H (M.bind (f ρ) k st) (Post K G R2 Q q H))
    (c : ∀ b H1 q1 st1 a, RS K G q1 σ H1 ρ st1 → Aft K G q H q1 H1 st1 → R1 q1 H1 b a → Fin K G W q1 σ H1 (k a st1) (Post K G R2 Q q1 H1) → Q' b H1) : L K G W R1 f σ H Q' := by
  refine ⟨q, ρ, st, rs, (fin_bind (R1 := R1) rs h).mono fun a st' p b H1 q1 af r => ?_⟩
  obtain ⟨q1, st1, a1, rs1, af1, r1, f1⟩ := p b H1 q1 af r
  exact c b H1 q1 st1 a1 rs1 af1 r1 f1
/-- the last part -/
theorem L.last {f : Env → M α} {R : Wd → Hp → β → α → Prop} {Q : β → Hp → Prop} (rs : RS K G q σ H ρ st) (h : Fin K G W q σ H (f ρ st) (Post K G R Q q H)) : L K G W R f σ H Q := ⟨q, ρ, st, rs, h⟩
theorem fin_pure {a : α} {R : Wd → Hp → β → α → Prop} {Q : β → Hp → Prop} {b : β} (rw : RW K G q H st) (h : Fin K G W q σ H (M.pure a st) (Post K G R Q q H)) (r : R q H b a) : Q b H := h b H q (Aft.refl rw) r
theorem fin_of {o : Option α} {R : Wd → Hp → β → α → Prop} {Q : β → Hp → Prop} (rw : RW K G q H st) (h : Fin K G W q σ H (M.of o st) (Post K G R Q q H)) : ∃ a, o = some a ∧ ∀ b H', Kp (fun _ => False) H H' → R q H' b a → Q b H' := by
  cases o with
  | none => exact h.elim
  | some a => exact ⟨a, rfl, fun b H' k r => h b H' q (Aft.of_kp rw k) r⟩
theorem bind_val {x : M α} {f : α → M β} {a : α} (e : x st = .val a st') : M.bind x f st = f a st' := by
  unfold M.bind
  rw [e]
theorem rd_some {o : List O → Option α} {a : α} (e : o st = some a) : M.rd o st = .val a st := by
  unfold M.rd
  rw [e]
theorem fin_aft {o : Out α} {R : Wd → Hp → β → α → Prop} {Q : β → Hp → Prop} (h : Fin K G W q σ H o (Post K G R Q q H)) (af : Aft K G q H q1 H1 st1) : Fin K G W q1 σ H1 o (Post K G R Q q1 H1) := by
  cases o with
  | bad => exact h
  | exc e st' => exact fun c d H' q' a' rx => h c d H' q' (af.trans a') rx
  | val g st' => exact fun b H' q' a' r => h b H' q' (af.trans a') r
/-- a part that only reads the store -/
theorem fin_rdk {o : List O → Option α} {k : α → M γ} {R2 : Wd → Hp → δ → γ → Prop} {Q : δ → Hp → Prop} (h : Fin K G W q σ H (M.bind (M.rd o) k st) (Post K G R2 Q q H)) : ∃ a, o st = some a ∧ Fin K G W q σ H (k a st) (Post K G R2 Q q H) := by
  cases e : o st with
  | none =>
    have : M.bind (M.rd o) k st = .bad := by
      unfold M.bind M.rd
      simp only [e]
    rw [this] at h
    exact h.elim
  | some a =>
    rw [bind_val (rd_some e)] at h
    exact ⟨a, rfl, h⟩
theorem fin_ofk {o : Option α} {k : α → M γ} {R2 : Wd → Hp → δ → γ → Prop} {Q : δ → Hp → Prop} (h : Fin K G W q σ H (M.bind (M.of o) k st) (Post K G R2 Q q H)) : ∃ a, o = some a ∧ Fin K G W q σ H (k a st) (Post K G R2 Q q H) := by
  cases o with
  | none => exact h.elim
  | some a => exact ⟨a, rfl, h⟩
end
def asB : MV → Option Bool
  | .v (.bl b) => some b
  | _ => none
def fTest (f : Env → M MV) : Env → M Bool := fun ρ => M.bind (f ρ) fun x => M.of (asB x)
def fCmpT (o : List O → MV → MV → Option MV) (f g : Env → M MV) : Env → M Bool := fun ρ => M.bind (f ρ) fun x => M.bind (g ρ) fun y => M.rd fun st => (o st x y).bind asB
def fChT (o o' : List O → MV → MV → Option MV) (f g h : Env → M MV) : Env → M Bool := fun ρ => M.bind (f ρ) fun x => M.bind (g ρ) fun y => M.bind (M.rd fun st => (o st x y).bind asB) fun k => if k = true then M.bind (h ρ) fun z => M.rd fun st => (o' st y z).bind asB else M.pure false
def fBl (t : Env → M Bool) : Env → M MV := fun ρ => M.bind (t ρ) fun k => M.pure (.v (.bl k))
def fAndV (f g : Env → M MV) : Env → M MV := fun ρ => M.bind (f ρ) fun x => M.bind (M.of (asB x)) fun k => if k = true then g ρ else M.pure (.v (.bl false))
def fOrV (f g : Env → M MV) : Env → M MV := fun ρ => M.bind (f ρ) fun x => M.bind (M.of (asB x)) fun k => if k = true then M.pure (.v (.bl true)) else g ρ
def fNotV (f : Env → M MV) : Env → M MV := fun ρ => M.bind (f ρ) fun x => M.bind (M.of (asB x)) fun k => M.pure (.v (.bl !k))
def fAnd (f g : Env → M Bool) : Env → M Bool := fun ρ => M.bind (f ρ) fun k => if k = true then g ρ else M.pure false
def fOr (f g : Env → M Bool) : Env → M Bool := fun ρ => M.bind (f ρ) fun k => if k = true then M.pure true else g ρ
def fNot (f : Env → M Bool) : Env → M Bool := fun ρ => M.bind (f ρ) fun k => M.pure !k
def fIf (c : Env → M Bool) (f g : Env → M MV) : Env → M MV := fun ρ => M.bind (c ρ) fun k => if k = true then f ρ else g ρ
def fNil : Env → M (List MV) := fun _ => M.pure []
def fCons (f : Env → M MV) (fs : Env → M (List MV)) : Env → M (List MV) := fun ρ => M.bind (f ρ) fun x => M.bind (fs ρ) fun xs => M.pure (x :: xs)
def asD : MV → Option D
  | .v d => some d
  | _ => none
def toDs : List MV → Option (List D)
  | [] => some []
  | .v d :: xs => (toDs xs).map (d :: ·)
  | _ :: _ => none
def toJs : List MV → Option (List Nat)
  | [] => some []
  | .obj j :: xs => (toJs xs).map (j :: ·)
  | _ :: _ => none
def tupM (xs : List MV) : Option MV := if szOk xs.length = true then (match toDs xs with
  | some ds => some (.v (.tup ds))
  | none => some (.mtup xs)) else none
def lstM (xs : List MV) : Option MV := if szOk xs.length = true then (match toDs xs with
  | some ds => some (.v (.lst ds))
  | none => (toJs xs).map .objs) else none
def fTup (fs : Env → M (List MV)) : Env → M MV := fun ρ => M.bind (fs ρ) fun xs => M.of (tupM xs)
def fLst (fs : Env → M (List MV)) : Env → M MV := fun ρ => M.bind (fs ρ) fun xs => M.of (lstM xs)
def fNoPart : Env → M (Option Int) := fun _ => M.pure none
def asI : MV → Option Int
  | .v (.int i) => some i
  | _ => none
def fPart (f : Env → M MV) : Env → M (Option Int) := fun ρ => M.bind (f ρ) fun x => M.of ((asI x).map some)
def fSl (f : Env → M MV) (lo hi : Env → M (Option Int)) : Env → M MV := fun ρ => M.bind (f ρ) fun x => M.bind (lo ρ) fun l => M.bind (hi ρ) fun h => M.of (slM x l h)
def fB (o : List O → List MV → Option MV) (fs : Env → M (List MV)) : Env → M MV := fun ρ => M.bind (fs ρ) fun xs => M.rd fun st => o st xs
section
variable {K : PySem.W.Frag} {U : Addr → Prop} {m : List Addr} {H : Hp}
theorem asB_v {v : V} {x : MV} {b : Bool} (r : RM K U m H v x) (e : asB x = some b) : v = .bl b := by
  unfold asB at e
  split at e <;> cases e
  cases r with | v r => cases r; rfl
theorem asI_v {v : V} {x : MV} {b : Int} (r : RM K U m H v x) (e : asI x = some b) : v = .int b := by
  unfold asI at e
  split at e <;> cases e
  cases r with | v r => cases r; rfl
theorem toDs_v : ∀ {xs : List MV} {ds : List D} {vs : List V}, toDs xs = some ds → RMs K U m H vs xs → RDs K U H vs ds
  | [], _, _, e, r => by cases e; cases r; exact .nil
  | .v d :: xs, ds, _, e, r => by
    unfold toDs at e
    obtain ⟨ds', e', rfl⟩ := Option.map_eq_some_iff.mp e
    cases r with | cons r1 r2 => cases r1 with | v r1 => exact .cons r1 (toDs_v e' r2)
  | .obj _ :: _, _, _, e, _ => by simp [toDs] at e
  | .objs _ :: _, _, _, e, _ => by simp [toDs] at e
  | .mtup _ :: _, _, _, e, _ => by simp [toDs] at e
theorem toJs_v : ∀ {xs : List MV} {js : List Nat} {vs : List V}, toJs xs = some js → RMs K U m H vs xs → RJs m vs js
  | [], _, _, e, r => by cases e; cases r; exact .nil
  | .obj j :: xs, js, _, e, r => by
    unfold toJs at e
    obtain ⟨ds', e', rfl⟩ := Option.map_eq_some_iff.mp e
    cases r with | cons r1 r2 => cases r1 with | obj r1 => exact .cons r1 (toJs_v e' r2)
  | .v _ :: _, _, _, e, _ => by simp [toJs] at e
  | .objs _ :: _, _, _, e, _ => by simp [toJs] at e
  | .mtup _ :: _, _, _, e, _ => by simp [toJs] at e
end
section
variable {X : Cx} {G : DG} {W : WX} {e a b c : Expr} {rest : List Expr} {es : List Expr} {f g h : Env → M MV} {t u : Env → M Bool} {fs : Env → M (List MV)} {lo hi : Env → M (Option Int)} {pos : Pos}
theorem pd_cmp {op : CmpOp} {o : List O → MV → MV → Option MV} (ho : OpR X (compareOp op) (LR2 X.K G o)) (ha : PE X a (LE X.K G W f)) (hb : PE X b (LE X.K G W g)) (hm : behindInMarks op b = false := by first | exact nobehind _ (by decide) (by decide) | rfl) : PE X (.Compare a [op] [b] pos) (LE X.K G W (fBin o f g)) :=
  PE.by (pe_cmpR ho ha hb hm) fun σ H Q ⟨q, ρ, st, rs, h⟩ => seq rs h fun x H1 q1 st1 mx rs1 _ r1 h1 => seq rs1 h1 fun y H2 q2 st2 my rs2 a2 r2 h2 =>
    let ⟨z, hz, p⟩ := fin_rd rs2.rw h2
    ⟨q2, st2, mx, my, z, rs2.rw, r1.aft a2, r2, hz, p⟩
theorem pdt_cmp {op : CmpOp} {o : List O → MV → MV → Option MV} (ho : OpR X (compareOp op) (LR2 X.K G o)) (ha : PE X a (LE X.K G W f)) (hb : PE X b (LE X.K G W g)) (hm : behindInMarks op b = false := by first | exact nobehind _ (by decide) (by decide) | rfl) : PT X (.Compare a [op] [b] pos) (LT X.K G W (fCmpT o f g)) :=
  PT.by (pt_cmpR ho ha hb hm) fun σ H Q ⟨q, ρ, st, rs, h⟩ => seq rs h fun x H1 q1 st1 mx rs1 _ r1 h1 => seq rs1 h1 fun y H2 q2 st2 my rs2 a2 r2 h2 =>
    let ⟨k, hz, p⟩ := fin_rd rs2.rw h2
    let ⟨z, e, hk⟩ := Option.bind_eq_some_iff.mp hz
    ⟨q2, st2, mx, my, z, rs2.rw, r1.aft a2, r2, e, fun v H' kp r => ⟨k, asB_v r hk, p k H' kp rfl⟩⟩
theorem chain_core {o o' : List O → MV → MV → Option MV} {σ : L2.St} {H : Hp} {Q : Bool → Hp → Prop} {T : VK} (hT : ∀ k H', Q k H' → T (.bl k) H') (hL : LT X.K G W (fChT o o' f g h) σ H Q) : tChain (LR2 X.K G o) (LR2 X.K G o') (LE X.K G W f) (LE X.K G W g) (LE X.K G W h) σ H T := by
  obtain ⟨q, ρ, st, rs, hh⟩ := hL
  refine seq rs hh fun x H1 q1 st1 mx rs1 _ r1 h1 => seq rs1 h1 fun y H2 q2 st2 my rs2 a2 r2 h2 => ?_
  obtain ⟨k, hz, h3⟩ := fin_rdk h2
  obtain ⟨z, e, hk⟩ := Option.bind_eq_some_iff.mp hz
  refine ⟨q2, st2, mx, my, z, rs2.rw, r1.aft a2, r2, e, fun v H3 kp r => ⟨k, asB_v r hk, ?_⟩⟩
  have af : Aft X.K G q2 H2 q2 H3 st2 := Aft.of_kp rs2.rw kp
  have h4 := fin_aft h3 af
  cases k with
  | false =>
    simp only [Bool.false_eq_true, if_false] at h4 ⊢
    exact hT _ _ (fin_pure (b := false) af.rw h4 rfl)
  | true =>
    simp only [if_true] at h4 ⊢
    exact seq (rs2.aft af) h4 fun w H4 q4 st4 mw rs4 a4 r4 h5 =>
      let ⟨k2, hz2, p⟩ := fin_rd rs4.rw h5
      let ⟨z2, e2, hk2⟩ := Option.bind_eq_some_iff.mp hz2
      ⟨q4, st4, my, mw, z2, rs4.rw, (r2.aft af).aft a4, r4, e2, fun v H' kp r => by rw [asB_v r hk2]; exact hT _ _ (p k2 H' kp rfl)⟩
theorem pdt_chain {op op' : CmpOp} {o o' : List O → MV → MV → Option MV} (ho : OpR X (compareOp op) (LR2 X.K G o)) (ho' : OpR X (compareOp op') (LR2 X.K G o')) (ha : PE X a (LE X.K G W f)) (hb : PE X b (LE X.K G W g)) (hc : PE X c (LE X.K G W h))
    (hm : lastMarks [op, op'] [b, c] = false := by with_unfolding_all rfl) : PT X (.Compare a [op, op'] [b, c] pos) (LT X.K G W (fChT o o' f g h)) :=
  PT.by (pt_chain ho ho' ha hb hc hm) fun σ H Q hL => chain_core (T := fun x H' => ∃ k, x = .bl k ∧ Q k H') (fun k H' q => ⟨k, rfl, q⟩) hL
theorem bl_core {σ : L2.St} {H : Hp} {Q : VK} (hL : LE X.K G W (fBl t) σ H Q) : LT X.K G W t σ H (fun k H' => Q (.bl k) H') := by
  obtain ⟨q, ρ, st, rs, hh⟩ := hL
  exact seq rs hh fun k H1 q1 st1 mk rs1 _ r1 h1 => by
    cases (show k = mk from r1)
    exact fin_pure rs1.rw h1 (.v (.bl k))
theorem pd_chain {op op' : CmpOp} {o o' : List O → MV → MV → Option MV} (ho : OpR X (compareOp op) (LR2 X.K G o)) (ho' : OpR X (compareOp op') (LR2 X.K G o')) (ha : PE X a (LE X.K G W f)) (hb : PE X b (LE X.K G W g)) (hc : PE X c (LE X.K G W h))
    (hm : lastMarks [op, op'] [b, c] = false := by with_unfolding_all rfl) : PE X (.Compare a [op, op'] [b, c] pos) (LE X.K G W (fBl (fChT o o' f g h))) :=
  PE.by (pe_chain ho ho' ha hb hc hm) fun σ H Q hL => chain_core (T := Q) (fun k H' q => q) (bl_core hL)
/-- a test by a value -/
theorem pdt_val (he : PE X e (LE X.K G W f)) (hi : ∀ whole, isTrue e X.env whole = (do let v ← whole; standAt e.pos; holding [v] (truthy v)) := by intro _; rfl) : PT X e (LT X.K G W (fTest f)) :=
  PT.by (pt_val he hi) fun σ H Q ⟨q, ρ, st, rs, h⟩ => seq rs h fun x H1 q1 st1 mx rs1 _ r1 h1 =>
    let ⟨k, hk, p⟩ := fin_of rs1.rw h1
    ⟨k, asB_v r1 hk, p k H1 Kp.refl rfl⟩
theorem pdt_not (ha : PT X a (LT X.K G W t)) : PT X (.UnaryOp .Not a pos) (LT X.K G W (fNot t)) :=
  PT.by (pt_not ha) fun σ H Q ⟨q, ρ, st, rs, h⟩ => seq rs h fun k H1 q1 st1 mk rs1 _ r1 h1 => by
    cases (show k = mk from r1)
    exact fin_pure (b := !k) rs1.rw h1 rfl
theorem pdw_and1 (ha : PT X a (LT X.K G W t)) : PW X (.BoolOp .And [a] pos) (LT X.K G W t) := pw_and1 ha
theorem pdw_or1 (ha : PT X a (LT X.K G W t)) : PW X (.BoolOp .Or [a] pos) (LT X.K G W t) := pw_or1 ha
theorem PW.by {X : Cx} {e : Expr} {t t' : TT} (h : PW X e t) (i : ∀ σ H Q, t' σ H Q → t σ H Q) : PW X e t' := ⟨fun whole pins s σ H Q I w => h.run whole pins s σ H Q I (i σ H Q w)⟩
theorem pdw_and (ha : PT X a (LT X.K G W t)) (hb : PW X (.BoolOp .And (b :: rest) pos) (LT X.K G W u)) : PW X (.BoolOp .And (a :: b :: rest) pos) (LT X.K G W (fAnd t u)) :=
  PW.by (pw_and ha hb) fun σ H Q ⟨q, ρ, st, rs, h⟩ => seq rs h fun k H1 q1 st1 mk rs1 _ r1 h1 => by
    cases (show k = mk from r1)
    cases k with
    | false => simp only [Bool.false_eq_true, if_false] at h1 ⊢; exact fin_pure (b := false) rs1.rw h1 rfl
    | true => simp only [if_true] at h1 ⊢; exact L.last rs1 h1
theorem pdw_or (ha : PT X a (LT X.K G W t)) (hb : PW X (.BoolOp .Or (b :: rest) pos) (LT X.K G W u)) : PW X (.BoolOp .Or (a :: b :: rest) pos) (LT X.K G W (fOr t u)) :=
  PW.by (pw_or ha hb) fun σ H Q ⟨q, ρ, st, rs, h⟩ => seq rs h fun k H1 q1 st1 mk rs1 _ r1 h1 => by
    cases (show k = mk from r1)
    cases k with
    | false => simp only [Bool.false_eq_true, if_false] at h1 ⊢; exact L.last rs1 h1
    | true => simp only [if_true] at h1 ⊢; exact fin_pure (b := true) rs1.rw h1 rfl
theorem pd_not (ha : PE X a (LE X.K G W f)) : PE X (.UnaryOp .Not a pos) (LE X.K G W (fNotV f)) :=
  PE.by (pe_not ha) fun σ H Q ⟨q, ρ, st, rs, h⟩ => seq rs h fun x H1 q1 st1 mx rs1 _ r1 h1 => by
    obtain ⟨k, hk, h2⟩ := fin_ofk h1
    exact ⟨k, asB_v r1 hk, fin_pure rs1.rw h2 (.v (.bl _))⟩
theorem pd_and (ha : PE X a (LE X.K G W f)) (hb : PE X (.BoolOp .And (b :: rest) pos) (LE X.K G W g)) : PE X (.BoolOp .And (a :: b :: rest) pos) (LE X.K G W (fAndV f g)) :=
  PE.by (pe_and ha hb) fun σ H Q ⟨q, ρ, st, rs, h⟩ => seq rs h fun x H1 q1 st1 mx rs1 _ r1 h1 => by
    obtain ⟨k, hk, h2⟩ := fin_ofk h1
    refine ⟨k, asB_v r1 hk, ?_⟩
    cases k with
    | false => simp only [Bool.false_eq_true, if_false] at h2 ⊢; exact fin_pure rs1.rw h2 (.v (.bl _))
    | true => simp only [if_true] at h2 ⊢; exact L.last rs1 h2
theorem pd_or (ha : PE X a (LE X.K G W f)) (hb : PE X (.BoolOp .Or (b :: rest) pos) (LE X.K G W g)) : PE X (.BoolOp .Or (a :: b :: rest) pos) (LE X.K G W (fOrV f g)) :=
  PE.by (pe_or ha hb) fun σ H Q ⟨q, ρ, st, rs, h⟩ => seq rs h fun x H1 q1 st1 mx rs1 _ r1 h1 => by
    obtain ⟨k, hk, h2⟩ := fin_ofk h1
    refine ⟨k, asB_v r1 hk, ?_⟩
    cases k with
    | false => simp only [Bool.false_eq_true, if_false] at h2 ⊢; exact L.last rs1 h2
    | true => simp only [if_true] at h2 ⊢; exact fin_pure rs1.rw h2 (.v (.bl _))
theorem pd_if (hc : PT X c (LT X.K G W t)) (ha : PE X a (LE X.K G W f)) (hb : PE X b (LE X.K G W g)) : PE X (.IfExp c a b pos) (LE X.K G W (fIf t f g)) :=
  PE.by (pe_ifExp hc ha hb) fun σ H Q ⟨q, ρ, st, rs, h⟩ => seq rs h fun k H1 q1 st1 mk rs1 _ r1 h1 => by
    cases (show k = mk from r1)
    cases k with
    | false => simp only [Bool.false_eq_true, if_false] at h1 ⊢; exact L.last rs1 h1
    | true => simp only [if_true] at h1 ⊢; exact L.last rs1 h1
theorem pda_nil : PA X [] (LA X.K G W fNil) := PA.by pa_nil fun σ H Q ⟨q, ρ, st, rs, h⟩ => fin_pure rs.rw h .nil
theorem pda_cons (ha : PE X e (LE X.K G W f)) (hr : PA X es (LA X.K G W fs)) (hs : starEach (e :: es) X.env = (false, eval e X.env) :: starEach es X.env := by rfl) : PA X (e :: es) (LA X.K G W (fCons f fs)) :=
  PA.by (pa_cons ha hr hs) fun σ H Q ⟨q, ρ, st, rs, h⟩ => seq rs h fun x H1 q1 st1 mx rs1 _ r1 h1 => seq rs1 h1 fun xs H2 q2 st2 ms rs2 a2 r2 h2 =>
    fin_pure rs2.rw h2 (.cons (r1.aft a2) r2)
theorem new_mtup {K : PySem.W.Frag} {q : Wd} {H : Hp} {p : Addr} {vs : List V} {ms : List MV} (h : H p = none) (hs : RMs K q.un q.m H vs ms) : RM K q.un q.m (upd H p (.tup vs)) (.ref p) (.mtup ms) :=
  .mtup upd_same (RMs.mono (Mu := fun _ => False) (Kp.new h) (fun _ n _ => ⟨id, n⟩) (fun _ _ e => e) ms vs hs)
theorem pd_tup {k : Nat} (h : PA X es (LA X.K G W fs)) : PE X (.Tuple es k pos) (LE X.K G W (fTup fs)) :=
  PE.by (pe_tup h) fun σ H Q ⟨q, ρ, st, rs, h⟩ => seq rs h fun xs H1 q1 st1 ms rs1 _ r1 h1 => by
    obtain ⟨z, hz, p⟩ := fin_of rs1.rw h1
    unfold tupM at hz
    split at hz
    rotate_left
    · cases hz
    rename_i hsz
    refine ⟨by rw [r1.length]; exact szOk_le hsz, fun p0 hp => p _ _ (Kp.new hp) ?_⟩
    split at hz
    · rename_i ds e
      cases hz
      exact .v (new_tup rs1.rw hp (toDs_v e r1))
    · cases hz
      exact new_mtup hp r1
theorem pd_lst (h : PA X es (LA X.K G W fs)) : PE X (.List es pos) (LE X.K G W (fLst fs)) :=
  PE.by (pe_lst h) fun σ H Q ⟨q, ρ, st, rs, h⟩ => seq rs h fun xs H1 q1 st1 ms rs1 _ r1 h1 => by
    obtain ⟨z, hz, p⟩ := fin_of rs1.rw h1
    unfold lstM at hz
    split at hz
    rotate_left
    · cases hz
    rename_i hsz
    refine ⟨by rw [r1.length]; exact szOk_le hsz, fun p0 hp => p _ _ (Kp.new hp) ?_⟩
    split at hz
    · rename_i ds e
      cases hz
      exact .v (new_lst rs1.rw hp (toDs_v e r1))
    · obtain ⟨js, e, rfl⟩ := Option.map_eq_some_iff.mp hz
      exact new_objs rs1.rw hp (toJs_v e r1)
theorem pd_ix (hu : X.A.units + 65 < cLine) (ha : PE X a (LE X.K G W f)) (hb : PE X b (LE X.K G W g)) (hs : PlainIx b := by intro _ _; rfl) : PE X (.Subscript a b pos) (LE X.K G W (fBin ixM f g)) :=
  PE.by (pe_ix (ix_M (G := G) hu) ha hb hs) fun σ H Q ⟨q, ρ, st, rs, h⟩ => seq rs h fun x H1 q1 st1 mx rs1 _ r1 h1 => seq rs1 h1 fun y H2 q2 st2 my rs2 a2 r2 h2 =>
    let ⟨z, hz, p⟩ := fin_rd rs2.rw h2
    ⟨q2, st2, mx, my, z, rs2.rw, r1.aft a2, r2, hz, p⟩
abbrev LO (K : PySem.W.Frag) (G : DG) (W : WX) (f : Env → M (Option Int)) : TO := L K G W (fun _ _ (b c : Option Int) => b = c) f
theorem PO.by {X : Cx} {e : Option Expr} {t t' : TO} (h : PO X e t) (i : ∀ σ H Q, t' σ H Q → t σ H Q) : PO X e t' := ⟨fun pins s σ H Q I w => h.run pins s σ H Q I (i σ H Q w)⟩
theorem pdo_none : PO X none (LO X.K G W fNoPart) := PO.by po_none fun σ H Q ⟨q, ρ, st, rs, h⟩ => fin_pure (b := (none : Option Int)) rs.rw h rfl
theorem pdo_some (h : PE X e (LE X.K G W f)) : PO X (some e) (LO X.K G W (fPart f)) := PO.by (po_some h) fun σ H Q ⟨q, ρ, st, rs, h⟩ => seq rs h fun x H1 q1 st1 mx rs1 _ r1 h1 => by
  obtain ⟨z, hz, p⟩ := fin_of rs1.rw h1
  obtain ⟨i, hi, rfl⟩ := Option.map_eq_some_iff.mp hz
  exact ⟨i, asI_v r1 hi, p (some i) H1 Kp.refl rfl⟩
theorem pd_sl {el eh : Option Expr} {p2 : Pos} (ha : PE X a (LE X.K G W f)) (hl : PO X el (LO X.K G W lo)) (hh : PO X eh (LO X.K G W hi)) : PE X (.Subscript a (.Slice el eh none p2) pos) (LE X.K G W (fSl f lo hi)) :=
  PE.by (pe_slice (sl_M (G := G)) ha hl hh) fun σ H Q ⟨q, ρ, st, rs, h⟩ => seq rs h fun x H1 q1 st1 mx rs1 _ r1 h1 => seq rs1 h1 fun l H2 q2 st2 ml rs2 a2 r2 h2 => seq rs2 h2 fun l3 H3 q3 st3 m3 rs3 a3 r3 h3 => by
    cases (show l = ml from r2)
    cases (show l3 = m3 from r3)
    obtain ⟨z, hz, p⟩ := fin_of rs3.rw h3
    exact ⟨q3, st3, mx, z, rs3.rw, (r1.aft a2).aft a3, hz, p⟩
theorem pd_callB {id : String} {o : List O → List MV → Option MV} {x : Str} {p : Pos} (hc : CallR X (.builtin id) (LRs X.K G o)) (hg : Gl X x) (hm : X.mg x = none) (hv : bootBuiltins x = some (.builtin id)) (ha : PA X (e :: es) (LA X.K G W fs))
    (hn : x ≠ "__name__" := by decide) (hdb : (x == ("__debug__" : Str)) = false := by decide)
    (he : starEach (e :: es) X.env = (false, eval e X.env) :: starEach es X.env := by rfl) (hpl : (backTo pos (starEach es X.env)).any (·.1) = false := by rfl) : PE X (.Call (.Name x p) (e :: es) [] pos) (LE X.K G W (fB o fs)) :=
  PE.by (pe_callB hc hg hm hv ha hn hdb he hpl) fun σ H Q ⟨q, ρ, st, rs, h⟩ => seq rs h fun xs H1 q1 st1 ms rs1 _ r1 h1 =>
    let ⟨z, hz, p⟩ := fin_rd rs1.rw h1
    ⟨q1, st1, ms, z, rs1.rw, r1, hz, p⟩
theorem pd_callTy {T : String} {o : List O → List MV → Option MV} {x : Str} {p : Pos} (hc : CallR X (.type T) (LRs X.K G o)) (hg : Gl X x) (hm : X.mg x = none) (hv : bootBuiltins x = some (.type T)) (ha : PA X (e :: es) (LA X.K G W fs))
    (hn : x ≠ "__name__" := by decide) (hdb : (x == ("__debug__" : Str)) = false := by decide)
    (he : starEach (e :: es) X.env = (false, eval e X.env) :: starEach es X.env := by rfl) (hpl : (backTo pos (starEach es X.env)).any (·.1) = false := by rfl) : PE X (.Call (.Name x p) (e :: es) [] pos) (LE X.K G W (fB o fs)) :=
  PE.by (pe_callTy hc hg hm hv ha hn hdb he hpl) fun σ H Q ⟨q, ρ, st, rs, h⟩ => seq rs h fun xs H1 q1 st1 ms rs1 _ r1 h1 =>
    let ⟨z, hz, p⟩ := fin_rd rs1.rw h1
    ⟨q1, st1, ms, z, rs1.rw, r1, hz, p⟩
end
/-! ### a new thing of the store -/
section
variable {K : PySem.W.Frag} {G : DG} {W : WX} {q : Wd} {H H' : Hp} {st : List O}
/-- p, new, stands for the store's next thing -/
def Wd.add (q : Wd) (p : Addr) : Wd := { q with m := q.m ++ [p] }
theorem Aft.alloc (r : RW K G q H st) {p : Addr} {o : O} (hp : H p = none) (k : Kp (fun _ => False) H H') (hn : H' p ≠ none) (ro : RO K (q.add p).un (q.add p).m H' p o) : Aft K G q H (q.add p) H' (st ++ [o]) := by
  have np : p ∉ q.m := fun h => r.al (.inl h) hp
  have pre : ∀ (j : Nat) a, q.m[j]? = some a → (q.add p).m[j]? = some a := fun j a e => by
    show (q.m ++ [p])[j]? = some a
    obtain ⟨h, _⟩ := List.getElem?_eq_some_iff.mp e
    rw [List.getElem?_append_left h]
    exact e
  have hu : ∀ a, ¬ q.un a → H a ≠ none → ¬ False ∧ ¬ (q.add p).un a := fun a n ne => ⟨id, fun h => by
    rcases h with h | h | h
    · rcases List.mem_append.mp h with h | h
      · exact n (.inl h)
      · rw [List.mem_singleton] at h
        rw [h] at ne
        exact ne hp
    · exact n (.inr (.inl h))
    · exact n (.inr (.inr h))⟩
  refine ⟨rfl, rfl, pre, fun a h n => ?_, k.mono fun _ h => h.elim, ?_⟩
  · rcases List.mem_append.mp h with h | h
    · exact absurd h n
    · rw [List.mem_singleton] at h
      rw [h]
      exact hp
  · refine ⟨fun j a o' e1 e2 => ?_, ?_, ?_, fun i a e => ⟨fun h => ?_, (r.mw i a e).2.1, k.al a (r.mw i a e).2.2⟩, r.ww, fun a h z => ?_, fun a z => k.al a (r.zh a z), k.tabs r.tabs⟩
    · have hl := r.len
      by_cases hj : j < q.m.length
      · have e1' : q.m[j]? = some a := by
          have e1 : (q.m ++ [p])[j]? = some a := e1
          rw [List.getElem?_append_left hj] at e1
          exact e1
        have e2' : st[j]? = some o' := by
          rw [List.getElem?_append_left (by rw [← hl]; exact hj)] at e2
          exact e2
        exact RO.mono k hu pre id (r.objs j a o' e1' e2')
      · have e1 : (q.m ++ [p])[j]? = some a := e1
        rw [List.getElem?_append_right (by omega)] at e1
        rw [List.getElem?_append_right (by omega)] at e2
        have hj0 : j - q.m.length = 0 := by
          obtain ⟨h, _⟩ := List.getElem?_eq_some_iff.mp e1
          simp at h
          omega
        rw [hj0] at e1
        rw [← hl, hj0] at e2
        cases e1
        cases e2
        exact ro
    · show (q.m ++ [p]).length = (st ++ [o]).length
      rw [List.length_append, List.length_append, r.len]
      rfl
    · show (q.m ++ [p]).Nodup
      rw [List.nodup_append]
      refine ⟨r.nd, by simp, fun a ha b hb => ?_⟩
      rw [List.mem_singleton] at hb
      rw [hb]
      exact fun z => np (z ▸ ha)
    · rcases List.mem_append.mp h with h | h
      · exact (r.mw i a e).1 h
      · rw [List.mem_singleton] at h
        have := (r.mw i a e).2.2
        rw [h] at this
        exact this hp
    · rcases List.mem_append.mp h with h | h
      · exact r.mz a h z
      · rw [List.mem_singleton] at h
        rw [h] at z
        exact r.zh p z hp
theorem add_at (r : RW K G q H st) {p : Addr} : (q.add p).m[st.length]? = some p := by
  show (q.m ++ [p])[st.length]? = some p
  rw [← r.len, List.getElem?_append_right (Nat.le_refl _)]
  simp
theorem add_hu (r : RW K G q H st) {p : Addr} (hp : H p = none) : ∀ a, ¬ q.un a → H a ≠ none → ¬ (fun _ : Addr => False) a ∧ ¬ (q.add p).un a := fun a n ne => ⟨id, fun h => by
    rcases h with h | h | h
    · rcases List.mem_append.mp h with h | h
      · exact n (.inl h)
      · rw [List.mem_singleton] at h
        rw [h] at ne
        exact ne hp
    · exact n (.inr (.inl h))
    · exact n (.inr (.inr h))⟩
end
end CD

set_option Elab.async false
set_option linter.all false
set_option maxRecDepth 100000
set_option maxHeartbeats 4000000
namespace CD
open PySem PySem.Spec PyProof.Rows L2

/-! ### builtins -/
def lenM (st : List O) : List MV → Option MV
  | [.v (.tup ds)] => some (.v (.int ds.length))
  | [.v (.lst ds)] => some (.v (.int ds.length))
  | [.v (.ktup ds)] => some (.v (.int ds.length))
  | [.v (.scr ns)] => some (.v (.int ns.length))
  | [.objs js] => some (.v (.int js.length))
  | [.mtup ms] => some (.v (.int ms.length))
  | [.v (.str z)] => if szOk z.length = true then some (.v (.int z.length)) else none
  | [.v (.dic kvs)] => some (.v (.int kvs.length))
  | [.obj j] => match st[j]? with
    | some (.lst ds) => some (.v (.int ds.length))
    | some (.dic kvs) => some (.v (.int kvs.length))
    | _ => none
  | _ => none
def tupleM (st : List O) : List MV → Option MV
  | [.v (.tup ds)] => some (.v (.tup ds))
  | [.v (.ktup ds)] => some (.v (.ktup ds))
  | [.v (.lst ds)] => some (.v (.tup ds))
  | [.obj j] => match st[j]? with
    | some (.lst ds) => some (.v (.tup ds))
    | _ => none
  | _ => none
def listM (st : List O) : List MV → Option MV
  | [.v (.tup ds)] => some (.v (.lst ds))
  | [.v (.ktup ds)] => some (.v (.lst ds))
  | [.v (.lst ds)] => some (.v (.lst ds))
  | [.v (.scr ns)] => some (.v (.lst (ns.map D.int)))
  | [.obj j] => match st[j]? with
    | some (.lst ds) => some (.v (.lst ds))
    | _ => none
  | _ => none
def absM (_ : List O) : List MV → Option MV
  | [.v (.int i)] => some (.v (.int (if i < 0 then -i else i)))
  | _ => none
def maxM (_ : List O) : List MV → Option MV
  | [.v (.int i), .v (.int j)] => some (.v (.int (if j > i then j else i)))
  | _ => none
def minM (_ : List O) : List MV → Option MV
  | [.v (.int i), .v (.int j)] => some (.v (.int (if j < i then j else i)))
  | _ => none
def intM (_ : List O) : List MV → Option MV
  | [.v (.int i)] => some (.v (.int i))
  | _ => none
def toIs : List D → Option (List Int)
  | [] => some []
  | .int i :: ds => (toIs ds).map (i :: ·)
  | _ :: _ => none
def toBs : List D → Option (List Bool)
  | [] => some []
  | .bl i :: ds => (toBs ds).map (i :: ·)
  | _ :: _ => none
def sumM (_ : List O) : List MV → Option MV
  | [.v (.lst ds)] => (toIs ds).map fun ns => .v (.int ns.sum)
  | _ => none
def anyM (_ : List O) : List MV → Option MV
  | [.v (.lst ds)] => (toBs ds).map fun ns => .v (.bl (ns.any id))
  | _ => none
def allM (_ : List O) : List MV → Option MV
  | [.v (.lst ds)] => (toBs ds).map fun ns => .v (.bl (ns.all id))
  | _ => none
section
variable {K : PySem.W.Frag} {U : Addr → Prop} {m : List Addr} {H : Hp}
theorem toIs_v : ∀ {ds : List D} {ns : List Int} {vs : List V}, toIs ds = some ns → RDs K U H vs ds → vs = ns.map V.int
  | [], _, _, e, r => by cases e; cases r; rfl
  | .int i :: ds, _, _, e, r => by
    unfold toIs at e
    obtain ⟨ns, e', rfl⟩ := Option.map_eq_some_iff.mp e
    cases r with | cons r1 r2 => cases r1; rw [List.map_cons, toIs_v e' r2]
  | .non :: _, _, _, e, _ => by simp [toIs] at e
  | .bl _ :: _, _, _, e, _ => by simp [toIs] at e
  | .str _ :: _, _, _, e, _ => by simp [toIs] at e
  | .lst _ :: _, _, _, e, _ => by simp [toIs] at e
  | .tup _ :: _, _, _, e, _ => by simp [toIs] at e
  | .ktup _ :: _, _, _, e, _ => by simp [toIs] at e
  | .scr _ :: _, _, _, e, _ => by simp [toIs] at e
  | .dic _ :: _, _, _, e, _ => by simp [toIs] at e
  | .dit _ :: _, _, _, e, _ => by simp [toIs] at e
theorem toBs_v : ∀ {ds : List D} {ns : List Bool} {vs : List V}, toBs ds = some ns → RDs K U H vs ds → vs = ns.map V.bl
  | [], _, _, e, r => by cases e; cases r; rfl
  | .bl i :: ds, _, _, e, r => by
    unfold toBs at e
    obtain ⟨ns, e', rfl⟩ := Option.map_eq_some_iff.mp e
    cases r with | cons r1 r2 => cases r1; rw [List.map_cons, toBs_v e' r2]
  | .non :: _, _, _, e, _ => by simp [toBs] at e
  | .int _ :: _, _, _, e, _ => by simp [toBs] at e
  | .str _ :: _, _, _, e, _ => by simp [toBs] at e
  | .lst _ :: _, _, _, e, _ => by simp [toBs] at e
  | .tup _ :: _, _, _, e, _ => by simp [toBs] at e
  | .ktup _ :: _, _, _, e, _ => by simp [toBs] at e
  | .scr _ :: _, _, _, e, _ => by simp [toBs] at e
  | .dic _ :: _, _, _, e, _ => by simp [toBs] at e
  | .dit _ :: _, _, _, e, _ => by simp [toBs] at e
theorem RDk.length : ∀ {vs : List (L2.Key × V)} {ds : List (L2.Key × D)}, RDk K U H vs ds → vs.length = ds.length
  | _, _, .nil => rfl
  | _, _, .cons _ t => congrArg (· + 1) (RDk.length t)
theorem RDt.length : ∀ {vs : List (List L2.Key × V)} {ds : List (List L2.Key × D)}, RDt K U H vs ds → vs.length = ds.length
  | _, _, .nil => rfl
  | _, _, .cons _ t => congrArg (· + 1) (RDt.length t)
theorem sql_of {a : Addr} {xs : List V} (h : H a = some (.lst xs)) : SqL K H a xs := .inl (.inl h)
theorem one_of {vs : List V} {x : MV} (r : RMs K U m H vs [x]) : ∃ v, vs = [v] ∧ RM K U m H v x := by
  cases r with | cons r1 r2 => cases r2; exact ⟨_, rfl, r1⟩
theorem two_of {vs : List V} {x y : MV} (r : RMs K U m H vs [x, y]) : ∃ v w, vs = [v, w] ∧ RM K U m H v x ∧ RM K U m H w y := by
  cases r with | cons r1 r2 => cases r2 with | cons r2 r3 => cases r3; exact ⟨_, _, rfl, r1, r2⟩
end
section
variable {X : Cx} {G : DG}
theorem cr_len : CallR X (.builtin "len") (LRs X.K G lenM) := by
  intro pins s σ H xs us Q I r h
  obtain ⟨q, st, ms, mz, rw_, rm, e, p⟩ := h
  unfold lenM at e
  split at e
  · cases e
    obtain ⟨v, rfl, r1⟩ := one_of rm
    cases r1 with | v r1 => cases r1 with | tup ea ha =>
    exact call_len_seq pins s σ H _ us Q I r ⟨_, _, rfl, .inr (st_of ea), by rw [ha.length]; exact p _ H Kp.refl (.v (.int _))⟩
  · cases e
    obtain ⟨v, rfl, r1⟩ := one_of rm
    cases r1 with | v r1 => cases r1 with | lst ea na ha =>
    exact call_len_seq pins s σ H _ us Q I r ⟨_, _, rfl, .inl (sql_of ea), by rw [ha.length]; exact p _ H Kp.refl (.v (.int _))⟩
  · cases e
    obtain ⟨v, rfl, r1⟩ := one_of rm
    cases r1 with | v r1 => cases r1 with | ktup ea ha =>
    exact call_len_seq pins s σ H _ us Q I r ⟨_, _, rfl, .inr ea, by rw [ha.length]; exact p _ H Kp.refl (.v (.int _))⟩
  · cases e
    obtain ⟨v, rfl, r1⟩ := one_of rm
    cases r1 with | v r1 => cases r1 with | @scr a ns ea =>
    exact call_len_seq pins s σ H _ us Q I r ⟨_, _, rfl, .inl ea.sql, by rw [List.length_map]; exact p _ H Kp.refl (.v (.int _))⟩
  · cases e
    obtain ⟨v, rfl, r1⟩ := one_of rm
    cases r1 with | objs ea na ha =>
    exact call_len_seq pins s σ H _ us Q I r ⟨_, _, rfl, .inl (sql_of ea), by rw [ha.length]; exact p _ H Kp.refl (.v (.int _))⟩
  · cases e
    obtain ⟨v, rfl, r1⟩ := one_of rm
    cases r1 with | mtup ea ha =>
    exact call_len_seq pins s σ H _ us Q I r ⟨_, _, rfl, .inr (st_of ea), by rw [ha.length]; exact p _ H Kp.refl (.v (.int _))⟩
  · split at e <;> cases e
    rename_i hz
    obtain ⟨v, rfl, r1⟩ := one_of rm
    cases r1 with | v r1 =>
    cases r1
    exact call_len_str pins s σ H _ us Q I r ⟨_, rfl, szOk_le hz, p _ H Kp.refl (.v (.int _))⟩
  · cases e
    obtain ⟨v, rfl, r1⟩ := one_of rm
    cases r1 with | v r1 => cases r1 with | dic ea na ha =>
    exact call_lenD pins s σ H _ us Q I r ⟨_, _, rfl, ea, by rw [ha.length]; exact p _ H Kp.refl (.v (.int _))⟩
  · obtain ⟨v, rfl, r1⟩ := one_of rm
    cases r1 with | obj em =>
    split at e
    · rename_i hj
      cases e
      obtain ⟨vs, ea, ha⟩ := rw_.objs _ _ _ em hj
      exact call_len_seq pins s σ H _ us Q I r ⟨_, _, rfl, .inl (sql_of ea), by rw [ha.length]; exact p _ H Kp.refl (.v (.int _))⟩
    · rename_i hj
      cases e
      obtain ⟨vs, ea, ha⟩ := rw_.objs _ _ _ em hj
      exact call_lenD pins s σ H _ us Q I r ⟨_, _, rfl, ea, by rw [ha.length]; exact p _ H Kp.refl (.v (.int _))⟩
    · cases e
  · cases e
theorem cr_tuple : CallR X (.type "tuple") (LRs X.K G tupleM) := by
  intro pins s σ H xs us Q I r h
  obtain ⟨q, st, ms, mz, rw_, rm, e, p⟩ := h
  unfold tupleM at e
  split at e
  · cases e
    obtain ⟨v, rfl, r1⟩ := one_of rm
    cases r1 with | v r1 => cases r1 with | tup ea ha =>
    exact call_tuple_of pins s σ H _ us Q I r ⟨_, _, rfl, .inr ⟨st_of ea, p _ H Kp.refl (.v (.tup ea ha))⟩⟩
  · cases e
    obtain ⟨v, rfl, r1⟩ := one_of rm
    cases r1 with | v r1 => cases r1 with | ktup ea ha =>
    exact call_tuple_of pins s σ H _ us Q I r ⟨_, _, rfl, .inr ⟨ea, p _ H Kp.refl (.v (.ktup ea ha))⟩⟩
  · cases e
    obtain ⟨v, rfl, r1⟩ := one_of rm
    cases r1 with | v r1 => cases r1 with | lst ea na ha =>
    exact call_tuple_of pins s σ H _ us Q I r ⟨_, _, rfl, .inl ⟨sql_of ea, fun l hl => p _ _ (Kp.new hl) (.v (new_tup rw_ hl ha))⟩⟩
  · obtain ⟨v, rfl, r1⟩ := one_of rm
    cases r1 with | obj em =>
    split at e
    · rename_i hj
      cases e
      obtain ⟨vs, ea, ha⟩ := rw_.objs _ _ _ em hj
      exact call_tuple_of pins s σ H _ us Q I r ⟨_, _, rfl, .inl ⟨sql_of ea, fun l hl => p _ _ (Kp.new hl) (.v (new_tup rw_ hl ha))⟩⟩
    · cases e
  · cases e
theorem cr_list : CallR X (.type "list") (LRs X.K G listM) := by
  intro pins s σ H xs us Q I r h
  obtain ⟨q, st, ms, mz, rw_, rm, e, p⟩ := h
  unfold listM at e
  split at e
  · cases e
    obtain ⟨v, rfl, r1⟩ := one_of rm
    cases r1 with | v r1 => cases r1 with | tup ea ha =>
    exact call_list_of pins s σ H _ us Q I r ⟨_, _, rfl, .inr (st_of ea), fun l hl => p _ _ (Kp.new hl) (.v (new_lst rw_ hl ha))⟩
  · cases e
    obtain ⟨v, rfl, r1⟩ := one_of rm
    cases r1 with | v r1 => cases r1 with | ktup ea ha =>
    exact call_list_of pins s σ H _ us Q I r ⟨_, _, rfl, .inr ea, fun l hl => p _ _ (Kp.new hl) (.v (new_lst rw_ hl ha))⟩
  · cases e
    obtain ⟨v, rfl, r1⟩ := one_of rm
    cases r1 with | v r1 => cases r1 with | lst ea na ha =>
    exact call_list_of pins s σ H _ us Q I r ⟨_, _, rfl, .inl (sql_of ea), fun l hl => p _ _ (Kp.new hl) (.v (new_lst rw_ hl ha))⟩
  · cases e
    obtain ⟨v, rfl, r1⟩ := one_of rm
    cases r1 with | v r1 => cases r1 with | @scr a ns ea =>
    exact call_list_of pins s σ H _ us Q I r ⟨_, _, rfl, .inl ea.sql, fun l hl => p _ _ (Kp.new hl) (.v (new_lst rw_ hl (RDs.ints _)))⟩
  · obtain ⟨v, rfl, r1⟩ := one_of rm
    cases r1 with | obj em =>
    split at e
    · rename_i hj
      cases e
      obtain ⟨vs, ea, ha⟩ := rw_.objs _ _ _ em hj
      exact call_list_of pins s σ H _ us Q I r ⟨_, _, rfl, .inl (sql_of ea), fun l hl => p _ _ (Kp.new hl) (.v (new_lst rw_ hl ha))⟩
    · cases e
  · cases e
theorem cr_abs : CallR X (.builtin "abs") (LRs X.K G absM) := by
  intro pins s σ H xs us Q I r h
  obtain ⟨q, st, ms, mz, rw_, rm, e, p⟩ := h
  unfold absM at e
  split at e <;> cases e
  obtain ⟨v, rfl, r1⟩ := one_of rm
  cases r1 with | v r1 =>
  cases r1
  exact call_abs pins s σ H _ us Q I r ⟨_, rfl, p _ H Kp.refl (.v (.int _))⟩
theorem cr_max2 (hc : X.calm = true) : CallR X (.builtin "max") (LRs X.K G maxM) := by
  intro pins s σ H xs us Q I r h
  obtain ⟨q, st, ms, mz, rw_, rm, e, p⟩ := h
  unfold maxM at e
  split at e <;> cases e
  obtain ⟨v, w, rfl, r1, r2⟩ := two_of rm
  cases r1 with | v r1 =>
  cases r2 with | v r2 =>
  cases r1
  cases r2
  exact call_max2 hc pins s σ H _ us Q I r ⟨_, _, rfl, p _ H Kp.refl (.v (.int _))⟩
theorem cr_min2 (hc : X.calm = true) : CallR X (.builtin "min") (LRs X.K G minM) := by
  intro pins s σ H xs us Q I r h
  obtain ⟨q, st, ms, mz, rw_, rm, e, p⟩ := h
  unfold minM at e
  split at e <;> cases e
  obtain ⟨v, w, rfl, r1, r2⟩ := two_of rm
  cases r1 with | v r1 =>
  cases r2 with | v r2 =>
  cases r1
  cases r2
  exact call_min2 hc pins s σ H _ us Q I r ⟨_, _, rfl, p _ H Kp.refl (.v (.int _))⟩
theorem cr_int : CallR X (.type "int") (LRs X.K G intM) := by
  intro pins s σ H xs us Q I r h
  obtain ⟨q, st, ms, mz, rw_, rm, e, p⟩ := h
  unfold intM at e
  split at e <;> cases e
  obtain ⟨v, rfl, r1⟩ := one_of rm
  cases r1 with | v r1 =>
  cases r1
  exact call_int1 pins s σ H _ us Q I r (.inl ⟨_, rfl, p _ H Kp.refl (.v (.int _))⟩)
theorem crd_sum (hc : X.calm = true) : CallR X (.builtin "sum") (LRs X.K G sumM) := by
  intro pins s σ H xs us Q I r h
  obtain ⟨q, st, ms, mz, rw_, rm, e, p⟩ := h
  unfold sumM at e
  split at e
  rotate_left
  · cases e
  obtain ⟨ns, en, rfl⟩ := Option.map_eq_some_iff.mp e
  obtain ⟨v, rfl, r1⟩ := one_of rm
  cases r1 with | v r1 => cases r1 with | lst ea na ha =>
  have e1 := toIs_v en ha
  subst e1
  exact cr_sum hc pins s σ H _ us Q I r ⟨_, _, rfl, sql_of ea, p _ H Kp.refl (.v (.int _))⟩
theorem crd_any (hc : X.calm = true) : CallR X (.builtin "any") (LRs X.K G anyM) := by
  intro pins s σ H xs us Q I r h
  obtain ⟨q, st, ms, mz, rw_, rm, e, p⟩ := h
  unfold anyM at e
  split at e
  rotate_left
  · cases e
  obtain ⟨ns, en, rfl⟩ := Option.map_eq_some_iff.mp e
  obtain ⟨v, rfl, r1⟩ := one_of rm
  cases r1 with | v r1 => cases r1 with | lst ea na ha =>
  have e1 := toBs_v en ha
  subst e1
  exact cr_any hc pins s σ H _ us Q I r ⟨_, _, rfl, sql_of ea, p _ H Kp.refl (.v (.bl _))⟩
theorem crd_all (hc : X.calm = true) : CallR X (.builtin "all") (LRs X.K G allM) := by
  intro pins s σ H xs us Q I r h
  obtain ⟨q, st, ms, mz, rw_, rm, e, p⟩ := h
  unfold allM at e
  split at e
  rotate_left
  · cases e
  obtain ⟨ns, en, rfl⟩ := Option.map_eq_some_iff.mp e
  obtain ⟨v, rfl, r1⟩ := one_of rm
  cases r1 with | v r1 => cases r1 with | lst ea na ha =>
  have e1 := toBs_v en ha
  subst e1
  exact cr_all hc pins s σ H _ us Q I r ⟨_, _, rfl, sql_of ea, p _ H Kp.refl (.v (.bl _))⟩
/-! isinstance -/
def tyN : D → String
  | .non => "NoneType"
  | .bl _ => "bool"
  | .int _ => "int"
  | .str _ => "str"
  | .lst _ => "list"
  | .scr _ => "list"
  | .tup _ => "tuple"
  | .ktup _ => "tuple"
  | .dic _ => "dict"
  | .dit _ => "dict"
/-- a type's instances, of those that the program asks for -/
def isTy (T : String) (d : D) : Bool := match T, d with
  | "int", .int _ => true
  | "int", .bl _ => true
  | "bool", .bl _ => true
  | "str", .str _ => true
  | "list", .lst _ => true
  | "list", .scr _ => true
  | "tuple", .tup _ => true
  | "tuple", .ktup _ => true
  | "dict", .dic _ => true
  | "dict", .dit _ => true
  | _, _ => false
def isTyO (T : String) : O → Option Bool
  | .lst _ => some (decide (T = "list"))
  | .dic _ => some (decide (T = "dict"))
  | .dicL _ => none
  | .ins _ _ => none
def isiM (T : String) (st : List O) : List MV → Option MV
  | [.v d] => some (.v (.bl (isTy T d)))
  | [.objs _] => some (.v (.bl (decide (T = "list"))))
  | [.mtup _] => some (.v (.bl (decide (T = "tuple"))))
  | [.obj j] => (st[j]?.bind (isTyO T)).map fun b => .v (.bl b)
  | _ => none
theorem kit_isTy {T : String} (hT : T = "int" ∨ T = "bool" ∨ T = "str" ∨ T = "list" ∨ T = "tuple" ∨ T = "dict") (d : D) : kitB (tyN d) T = some (isTy T d) := by
  rcases hT with rfl | rfl | rfl | rfl | rfl | rfl <;> cases d <;> first | rfl | decide +kernel | kernel_rfl
theorem tyX_D {K : PySem.W.Frag} {U : Addr → Prop} {H : Hp} {v : V} {d : D} (r : RD K U H v d) : TyX K H v (.type (tyN d)) := by
  cases r with
  | non => exact .base .non
  | bl b => exact .base (.bl b)
  | int i => exact .base (.int i)
  | str x => exact .base (.str x)
  | lst e _ _ => exact .base (.lst e)
  | scr e =>
    rcases e with ⟨e, _⟩ | ⟨o, e⟩ | ⟨o, its, n, e, c, _⟩
    · exact .base (.lst e)
    · exact .base (.frz e)
    · exact .kList e c
  | tup e _ => exact .base (.tup e)
  | ktup e _ =>
    rcases e with (e | ⟨o, e⟩) | ⟨o, its, n, e, c, _⟩
    · exact .base (.tup e)
    · exact .fTuple e
    · exact .kTuple e c
  | dic e _ _ => exact .base (.dK e)
  | dit e _ _ => exact .base (.dT e)
def fIsi (T : String) (f : Env → M MV) : Env → M MV := fun ρ => M.bind (f ρ) fun x => M.rd fun st => isiM T st [x]
theorem pd_isi {W : WX} {e : Expr} {f : Env → M MV} {T : Str} {Tn : String} {p p2 pos : Pos} (hT : Tn = "int" ∨ Tn = "bool" ∨ Tn = "str" ∨ Tn = "list" ∨ Tn = "tuple" ∨ Tn = "dict") (hg : Gl X "isinstance") (hm : X.mg "isinstance" = none) (hgT : Gl X T) (hmT : X.mg T = none) (hvT : bootBuiltins T = some (.type Tn))
    (he : PE X e (LE X.K G W f)) (hnT : T ≠ "__name__" := by decide) (hdT : (T == ("__debug__" : Str)) = false := by decide)
    (hst : starEach [e, .Name T p2] X.env = (false, eval e X.env) :: starEach [.Name T p2] X.env := by rfl) (hst2 : starEach [.Name T p2] X.env = (false, eval (.Name T p2) X.env) :: starEach [] X.env := by rfl) (hpl : (backTo pos (starEach [.Name T p2] X.env)).any (·.1) = false := by rfl) :
    PE X (.Call (.Name "isinstance" p) [e, .Name T p2] [] pos) (LE X.K G W (fIsi Tn f)) :=
  PE.by (pe_callB call_isi hg hm (by decide +kernel) (pa_cons he (pa_cons (pe_bltn hgT hmT hvT (v := .ty Tn) rfl hnT hdT) pa_nil hst2) hst) (he := hst) (hpl := hpl)) fun σ H Q ⟨q, ρ, st, rs, h⟩ => seq rs h fun x H1 q1 st1 mx rs1 _ r1 h1 => by
    obtain ⟨z, hz, p⟩ := fin_rd rs1.rw h1
    unfold isiM at hz
    split at hz
    · rename_i d hm
      cases hm
      cases hz
      cases r1 with | v r1 =>
      exact ⟨_, _, _, _, _, rfl, .ty Tn, tyX_D r1, kit_ty (kit_isTy hT _), p _ H1 Kp.refl (.v (.bl _))⟩
    · rename_i js hm
      cases hm
      cases hz
      cases r1 with | objs ea na ha =>
      refine ⟨_, _, _, _, _, rfl, .ty Tn, .base (.lst ea), kit_ty (r := decide (Tn = "list")) ?_, p _ H1 Kp.refl (.v (.bl _))⟩
      have := kit_isTy hT (.lst [])
      rcases hT with rfl | rfl | rfl | rfl | rfl | rfl <;> exact this
    · rename_i js hm
      cases hm
      cases hz
      cases r1 with | mtup ea ha =>
      refine ⟨_, _, _, _, _, rfl, .ty Tn, .base (.tup ea), kit_ty (r := decide (Tn = "tuple")) ?_, p _ H1 Kp.refl (.v (.bl _))⟩
      have := kit_isTy hT (.tup [])
      rcases hT with rfl | rfl | rfl | rfl | rfl | rfl <;> exact this
    · rename_i j hm
      cases hm
      obtain ⟨b, hb, rfl⟩ := Option.map_eq_some_iff.mp hz
      obtain ⟨o, ho, hb⟩ := Option.bind_eq_some_iff.mp hb
      cases r1 with | obj em =>
      have ro := rs1.rw.objs _ _ _ em ho
      cases o with
      | lst ds =>
        cases hb
        obtain ⟨vs, ea, ha⟩ := ro
        refine ⟨_, _, _, _, _, rfl, .ty Tn, .base (.lst ea), kit_ty (r := decide (Tn = "list")) ?_, p _ H1 Kp.refl (.v (.bl _))⟩
        have := kit_isTy hT (.lst [])
        rcases hT with rfl | rfl | rfl | rfl | rfl | rfl <;> exact this
      | dic ds =>
        cases hb
        obtain ⟨vs, ea, ha⟩ := ro
        refine ⟨_, _, _, _, _, rfl, .ty Tn, .base (.dK ea), kit_ty (r := decide (Tn = "dict")) ?_, p _ H1 Kp.refl (.v (.bl _))⟩
        have := kit_isTy hT (.dic [])
        rcases hT with rfl | rfl | rfl | rfl | rfl | rfl <;> exact this
      | dicL ds => cases hb
      | ins C fs => cases hb
    · cases hz
/-- isinstance(e, C), C a class of the module -/
def isiC (C : Addr) (st : List O) : MV → Option MV
  | .v _ => some (.v (.bl false))
  | .obj j => match st[j]? with
    | some (.ins C' _) => if C' = C then some (.v (.bl true)) else none
    | _ => none
  | _ => none
def fIsC (C : Addr) (f : Env → M MV) : Env → M MV := fun ρ => M.bind (f ρ) fun x => M.rd fun st => isiC C st x
/-- what the class must be: no built-in type is one of it, no other instance class either -/
structure IsiC (K : PySem.W.Frag) (C : Addr) : Prop where
  no : ∀ T, T ∈ ["NoneType", "bool", "int", "str", "list", "tuple", "dict"] → PySem.W.kitOne K (.type T) (.ref C) = some false
  own : C8.InsC K C
theorem tyN_mem (d : D) : tyN d ∈ ["NoneType", "bool", "int", "str", "list", "tuple", "dict"] := by cases d <;> simp [tyN]
theorem pd_isC {W : WX} {e : Expr} {f : Env → M MV} {T : Str} {C : Addr} {p p2 pos : Pos} (c : IsiC X.K C) (hg : Gl X "isinstance") (hm : X.mg "isinstance" = none) (hgT : Gl X T) (hmT : X.mg T = some (.ref C))
    (he : PE X e (LE X.K G W f)) (hdT : (T == ("__debug__" : Str)) = false := by decide)
    (hst : starEach [e, .Name T p2] X.env = (false, eval e X.env) :: starEach [.Name T p2] X.env := by rfl) (hst2 : starEach [.Name T p2] X.env = (false, eval (.Name T p2) X.env) :: starEach [] X.env := by rfl) (hpl : (backTo pos (starEach [.Name T p2] X.env)).any (·.1) = false := by rfl) :
    PE X (.Call (.Name "isinstance" p) [e, .Name T p2] [] pos) (LE X.K G W (fIsC C f)) :=
  PE.by (pe_callB call_isi hg hm (by decide +kernel) (pa_cons he (pa_cons (pe_glob (v := .ref C) hgT hmT rfl hdT) pa_nil hst2) hst) (he := hst) (hpl := hpl)) fun σ H Q ⟨q, ρ, st, rs, h⟩ => seq rs h fun x H1 q1 st1 mx rs1 _ r1 h1 => by
    obtain ⟨z, hz, p⟩ := fin_rd rs1.rw h1
    unfold isiC at hz
    split at hz
    · cases hz
      cases r1 with | v r1 =>
      exact ⟨_, _, _, _, _, rfl, .own C, tyX_D r1, c.no _ (tyN_mem _), p _ H1 Kp.refl (.v (.bl _))⟩
    · split at hz
      · rename_i hj
        split at hz <;> cases hz
        rename_i hC
        cases r1 with | obj em =>
        obtain ⟨dx, vs, ea, ha⟩ := rs1.rw.objs _ _ _ em hj
        rw [hC] at ea
        exact ⟨_, _, _, _, _, rfl, .own C, .base (.ins ea c.own.cl c.own.ha c.own.hn c.own.htk c.own.hm), c.own.me, p _ H1 Kp.refl (.v (.bl _))⟩
      · cases hz
    · cases hz
end
end CD

set_option Elab.async false
set_option linter.all false
set_option maxRecDepth 100000
set_option maxHeartbeats 4000000
namespace CD
open PySem PySem.Spec PyProof.Rows L2

/-! ### statements -/
inductive Fl where
  | nx (ρ : Env) | rt (x : MV) | bk (ρ : Env)
structure Stp (K : PySem.W.Frag) (G : DG) (q : Wd) (H : Hp) (q' : Wd) (H' : Hp) (st' : List O) : Prop where
  Z : q'.Z = q.Z
  pre : ∀ (j : Nat) a, q.m[j]? = some a → q'.m[j]? = some a
  new : ∀ a, q'.mu a → ¬ q.mu a → H a = none
  kp : Kp q.mu H H'
  rw : RW K G q' H' st'
section
variable {K : PySem.W.Frag} {G : DG} {W : WX} {q q' q1 q2 : Wd} {σ σ' : L2.St} {H H' H1 H2 : Hp} {ρ ρ' : Env} {st st' st1 st2 : List O} {α β γ δ : Type}
theorem Stp.refl (r : RW K G q H st) : Stp K G q H q H st := ⟨rfl, fun _ _ e => e, fun a h n => absurd h n, Kp.refl, r⟩
theorem Stp.of_aft (a : Aft K G q H q' H' st') : Stp K G q H q' H' st' := ⟨a.Z, a.pre, fun x h n => by
  rcases h with h | h
  · exact a.new x h fun z => n (.inl z)
  · rw [a.w] at h
    exact absurd (.inr h) n, a.kp.mono fun _ h => .inl h, a.rw⟩
theorem Stp.trans (a : Stp K G q H q1 H1 st1) (b : Stp K G q1 H1 q2 H2 st2) : Stp K G q H q2 H2 st2 where
  Z := b.Z.trans a.Z
  pre := fun j x e => b.pre j x (a.pre j x e)
  new := fun x h n => by
    by_cases h1 : q1.mu x
    · exact a.new x h1 n
    · have e := b.new x h h1
      cases e0 : H x with
      | none => rfl
      | some o => exact absurd e (a.kp.al x (by rw [e0]; exact nofun))
  kp := a.kp.trans b.kp fun x h => by
    by_cases h1 : q.mu x
    · exact .inl h1
    · exact .inr (a.new x h h1)
  rw := b.rw
theorem Stp.hu (a : Stp K G q H q1 H1 st1) : ∀ x, ¬ q.un x → H x ≠ none → ¬ q.mu x ∧ ¬ q1.un x := fun x n ne => by
  have nm : ¬ q.mu x := fun h => n (h.elim .inl fun z => .inr (.inl z))
  refine ⟨nm, fun h => ?_⟩
  rcases h with h | h | h
  · exact ne (a.new x (.inl h) nm)
  · exact ne (a.new x (.inr h) nm)
  · rw [a.Z] at h
    exact n (.inr (.inr h))
theorem RM.stp (a : Stp K G q H q1 H1 st1) {x : MV} {v : V} (h : RM K q.un q.m H v x) : RM K q1.un q1.m H1 v x := RM.mono a.kp a.hu a.pre x v h
theorem RD.stp (a : Stp K G q H q1 H1 st1) {x : D} {v : V} (h : RD K q.un H v x) : RD K q1.un H1 v x := RD.mono a.kp a.hu x v h
end
section
variable (K : PySem.W.Frag) (G : DG) (W : WX)
def FinS (D : Ends) (q : Wd) (H : Hp) (o : Out Fl) : Prop :=
  match o with
  | .val (.nx ρ') st' => ∀ σ' H' q', Stp K G q H q' H' st' → RS K G q' σ' H' ρ' st' → D.nx σ' H'
  | .val (.rt x) st' => ∀ v H' q', Stp K G q H q' H' st' → RE K q' H' v x → D.rt v H'
  | .val (.bk ρ') st' => ∀ σ' H' q', Stp K G q H q' H' st' → RS K G q' σ' H' ρ' st' → D.bk σ' H'
  | .exc e st' => ∀ c d σ' H' q', Stp K G q H q' H' st' → RX G H' c d e → W c d σ' H'
  | .bad => False
def LS (f : Env → M Fl) : TS := fun D σ H => ∃ q ρ st, RS K G q σ H ρ st ∧ FinS K G W D q H (f ρ st)
end
def sSeq (f g : Env → M Fl) : Env → M Fl := fun ρ => M.bind (f ρ) fun fl => match fl with
  | .nx ρ' => g ρ'
  | .rt x => M.pure (.rt x)
  | .bk ρ' => M.pure (.bk ρ')
def sNil : Env → M Fl := fun ρ => M.pure (.nx ρ)
def sRet (f : Env → M MV) : Env → M Fl := fun ρ => M.bind (f ρ) fun x => M.pure (.rt x)
def sDrop (f : Env → M MV) : Env → M Fl := fun ρ => M.bind (f ρ) fun _ => M.pure (.nx ρ)
def sIf (t : Env → M Bool) (f g : Env → M Fl) : Env → M Fl := fun ρ => M.bind (t ρ) fun k => if k = true then f ρ else g ρ
def sBreak : Env → M Fl := fun ρ => M.pure (.bk ρ)
def setE (ρ : Env) (i : Nat) (x : MV) : Env := ρ.set i (some (.m x))
def setN (i : Nat) : MV → Env → Option Env := fun x ρ => some (setE ρ i x)
def sAsg (f : Env → M MV) (g : MV → Env → Option Env) : Env → M Fl := fun ρ => M.bind (f ρ) fun x => M.bind (M.of (g x ρ)) fun ρ' => M.pure (.nx ρ')
section
variable {X : Cx} {G : DG} {W : WX} {e a b c : Expr} {rest : List Stmt} {es : List Expr} {f g h : Env → M MV} {t u : Env → M Bool} {sf sg : Env → M Fl} {fs : Env → M (List MV)} {pos : Pos}
theorem PS.by {X : Cx} {s : Stmt} {t t' : TS} (h : PS X s t) (i : ∀ D σ H, t' D σ H → t D σ H) : PS X s t' := ⟨fun pins s σ H D I w => h.run pins s σ H D I (i D σ H w)⟩
theorem PSs.by {X : Cx} {s : List Stmt} {t t' : TS} (h : PSs X s t) (i : ∀ D σ H, t' D σ H → t D σ H) : PSs X s t' := ⟨fun pins s σ H D I w => h.run pins s σ H D I (i D σ H w)⟩
theorem FinS.stp {K : PySem.W.Frag} {D : Ends} {q q1 : Wd} {H H1 : Hp} {st1 : List O} {o : Out Fl} (h : FinS K G W D q H o) (s : Stp K G q H q1 H1 st1) : FinS K G W D q1 H1 o := by
  cases o with
  | bad => exact h
  | exc e st' => exact fun c d σ' H' q' s' rx => h c d σ' H' q' (s.trans s') rx
  | val fl st' =>
    cases fl with
    | nx ρ' => exact fun σ' H' q' s' r => h σ' H' q' (s.trans s') r
    | rt x => exact fun v H' q' s' r => h v H' q' (s.trans s') r
    | bk ρ' => exact fun σ' H' q' s' r => h σ' H' q' (s.trans s') r
theorem FinS.nx_mono {K : PySem.W.Frag} {D : Ends} {q : Wd} {H : Hp} {o : Out Fl} {N : L2.St → Hp → Prop} (h : FinS K G W D q H o) (hn : ∀ ρ' st', o = .val (.nx ρ') st' → ∀ σ' H' q', Stp K G q H q' H' st' → RS K G q' σ' H' ρ' st' → N σ' H') : FinS K G W { D with nx := N } q H o := by
  cases o with
  | bad => exact h
  | exc e st' => exact h
  | val fl st' =>
    cases fl with
    | nx ρ' => exact hn ρ' st' rfl
    | rt x => exact h
    | bk ρ' => exact h
/-- the statement's first part is an expression -/
theorem seqS {K : PySem.W.Frag} {α β : Type} {q : Wd} {σ : L2.St} {H : Hp} {ρ : Env} {st : List O} {D : Ends} {f : Env → M α} {k : α → M Fl} {R1 : Wd → Hp → β → α → Prop} {Q' : β → Hp → Prop} (rs : RS K G q σ H ρ st) (h : FinS K G W D q H (M.bind (f ρ) k st))
    (c : ∀ b H1 q1 st1 a, RS K G q1 σ H1 ρ st1 → Aft K G q H q1 H1 st1 → R1 q1 H1 b a → FinS K G W D q1 H1 (k a st1) → Q' b H1) : L K G W R1 f σ H Q' := by
  refine ⟨q, ρ, st, rs, ?_⟩
  unfold M.bind at h
  cases e : f ρ st with
  | bad => rw [e] at h; exact h
  | exc ex st' =>
    rw [e] at h
    exact fun c d H' q' a' rx => h c d σ H' q' (Stp.of_aft a') rx
  | val a st' =>
    rw [e] at h
    have h : FinS K G W D q H (k a st') := h
    exact fun b H1 q1 af r => c b H1 q1 st' a (rs.aft af) af r (h.stp (Stp.of_aft af))
theorem pss_seq {s : Stmt} (h1 : PS X s (LS X.K G W sf)) (h2 : PSs X rest (LS X.K G W sg)) : PSs X (s :: rest) (LS X.K G W (sSeq sf sg)) :=
  PSs.by (pss_cons h1 h2) fun D σ H ⟨q, ρ, st, rs, h⟩ => by
    refine ⟨q, ρ, st, rs, ?_⟩
    have h : FinS X.K G W D q H (M.bind (sf ρ) _ st) := h
    unfold M.bind at h
    cases e : sf ρ st with
    | bad => rw [e] at h; exact h
    | exc ex st' => rw [e] at h; exact h
    | val fl st' =>
      rw [e] at h
      cases fl with
      | nx ρ' => exact fun σ' H' q' s' r => ⟨q', ρ', st', r, FinS.stp (show FinS X.K G W D q H (sg ρ' st') from h) s'⟩
      | rt x => exact h
      | bk ρ' => exact h
theorem pssd_nil : PSs X [] (LS X.K G W sNil) := PSs.by pss_nil fun D σ H ⟨q, ρ, st, rs, h⟩ => h σ H q (Stp.refl rs.rw) rs
theorem pss_of {s : Stmt} (h1 : PS X s (LS X.K G W sf)) : PSs X [s] (LS X.K G W sf) := PSs.by (pss_one h1) fun D σ H w => w
theorem psd_ret (he : PE X e (LE X.K G W f)) : PS X (.Return (some e) pos) (LS X.K G W (sRet f)) :=
  PS.by (ps_ret he) fun D σ H ⟨q, ρ, st, rs, h⟩ => seqS rs h fun x H1 q1 st1 mx rs1 _ r1 h1 => h1 x H1 q1 (Stp.refl rs1.rw) r1
theorem psd_retN : PS X (.Return none pos) (LS X.K G W (sRet (fC (.v .non)))) :=
  PS.by ps_retN fun D σ H ⟨q, ρ, st, rs, h⟩ => h .non H q (Stp.refl rs.rw) (.v .non)
theorem psd_drop (he : PE X e (LE X.K G W f)) (hs : swapsWith e none pos.line X.env = pure false := by rfl) : PS X (.Expr e pos) (LS X.K G W (sDrop f)) :=
  PS.by (ps_expr he hs) fun D σ H ⟨q, ρ, st, rs, h⟩ => seqS rs h fun x H1 q1 st1 mx rs1 _ r1 h1 => h1 σ H1 q1 (Stp.refl rs1.rw) rs1
theorem psd_doc {x : Str} {j p p2} : PS X (.Expr (.Constant (.str x) j p) p2) (LS X.K G W sNil) := PS.by ps_doc fun D σ H ⟨q, ρ, st, rs, h⟩ => h σ H q (Stp.refl rs.rw) rs
theorem psd_pass : PS X (.Pass pos) (LS X.K G W sNil) := PS.by ps_pass fun D σ H ⟨q, ρ, st, rs, h⟩ => h σ H q (Stp.refl rs.rw) rs
theorem psd_break : PS X (.Break pos) (LS X.K G W sBreak) := PS.by ps_break fun D σ H ⟨q, ρ, st, rs, h⟩ => h σ H q (Stp.refl rs.rw) rs
theorem psd_if {a b : List Stmt} (hc : PT X c (LT X.K G W t)) (ha : PSs X a (LS X.K G W sf)) (hb : PSs X b (LS X.K G W sg)) : PS X (.If c a b pos) (LS X.K G W (sIf t sf sg)) :=
  PS.by (ps_if hc ha hb) fun D σ H ⟨q, ρ, st, rs, h⟩ => seqS rs h fun k H1 q1 st1 mk rs1 _ r1 h1 => by
    cases (show k = mk from r1)
    cases k with
    | false => simp only [Bool.false_eq_true, if_false] at h1 ⊢; exact ⟨q1, ρ, st1, rs1, h1⟩
    | true => simp only [if_true] at h1 ⊢; exact ⟨q1, ρ, st1, rs1, h1⟩
/-! targets -/
/-- what is written lies in the slots vs -/
def LG (K : PySem.W.Frag) (G : DG) (vs : List Nat) (gt : MV → Env → Option Env) : TG := fun v σ H Q => ∃ q ρ st x ρ', RS K G q σ H ρ st ∧ RE K q H v x ∧ gt x ρ = some ρ' ∧ ∀ σ', RS K G q σ' H ρ' st → σ'.length = σ.length → (∀ j : Nat, j ∉ vs → σ'[j]? = σ[j]?) → Q σ' H
def LGs (K : PySem.W.Frag) (G : DG) (vs : List Nat) (gt : List MV → Env → Option Env) : TGs := fun us σ H Q => ∃ q ρ st xs ρ', RS K G q σ H ρ st ∧ REs K q H us xs ∧ gt xs ρ = some ρ' ∧ ∀ σ', RS K G q σ' H ρ' st → σ'.length = σ.length → (∀ j : Nat, j ∉ vs → σ'[j]? = σ[j]?) → Q σ' H
theorem PG.by {X : Cx} {e : Expr} {t t' : TG} (h : PG X e t) (i : ∀ v σ H Q, t' v σ H Q → t v σ H Q) : PG X e t' := ⟨fun pins s σ H v u Q I r w => h.run pins s σ H v u Q I r (i v σ H Q w)⟩
theorem PGs.by {X : Cx} {es : List Expr} {t t' : TGs} (h : PGs X es t) (i : ∀ v σ H Q, t' v σ H Q → t v σ H Q) : PGs X es t' := ⟨fun pins s σ H v u Q I r w => h.run pins s σ H v u Q I r (i v σ H Q w)⟩
theorem RS.set {K : PySem.W.Frag} {q : Wd} {σ : L2.St} {H : Hp} {ρ : Env} {st : List O} (rs : RS K G q σ H ρ st) {i : Nat} {v : V} {s : SV} (r : RSl K q H i v s) : RS K G q (σ.set i (some v)) H (ρ.set i (some s)) st := by
  refine ⟨rs.rw, by rw [List.length_set, List.length_set]; exact rs.sl, fun j s' e => ?_⟩
  by_cases hj : i = j
  · subst hj
    have hl : i < ρ.length := by
      obtain ⟨h, _⟩ := List.getElem?_eq_some_iff.mp e
      rw [List.length_set] at h
      exact h
    rw [List.getElem?_set_self hl] at e
    cases e
    exact ⟨v, List.getElem?_set_self (by rw [← rs.sl]; exact hl), r⟩
  · rw [List.getElem?_set_ne hj] at e
    obtain ⟨v', e1, r'⟩ := rs.slot j s' e
    exact ⟨v', by rw [List.getElem?_set_ne hj]; exact e1, r'⟩
theorem pgd_name (i : Nat) {vs : List Nat} {x : Str} {pos : Pos} (hN : X.N.Nodup) (hi : X.N[i]? = some x) (hx : Loc X.env.scope x) (hf : X.fn x = true ∨ X.env.scope.names.lookup x = some .local := by first | exact .inl rfl | exact .inr rfl | assumption) (hv : i ∈ vs := by decide) : PG X (.Name x pos) (LG X.K G vs (setN i)) :=
  PG.by (pg_name hN hi hx hf) fun v σ H Q ⟨q, ρ, st, x, ρ', rs, r, e, p⟩ => by
    cases e
    exact p _ (rs.set r) (by rw [List.length_set]) fun j hj => List.getElem?_set_ne fun z => hj (by rw [← z]; exact hv)
def setNil : List MV → Env → Option Env := fun xs ρ => match xs with
  | [] => some ρ
  | _ => none
def setCons (g : MV → Env → Option Env) (gs : List MV → Env → Option Env) : List MV → Env → Option Env := fun xs ρ => match xs with
  | x :: xs => (g x ρ).bind (gs xs)
  | _ => none
/-- a tuple taken apart -/
def setTup (n : Nat) (gs : List MV → Env → Option Env) : MV → Env → Option Env := fun x ρ => match x with
  | .v (.tup ds) => if ds.length = n then gs (ds.map .v) ρ else none
  | .mtup ms => if ms.length = n then gs ms ρ else none
  | _ => none
theorem pgsd_nil {vs : List Nat} : PGs X [] (LGs X.K G vs setNil) := PGs.by pgs_nil fun us σ H Q ⟨q, ρ, st, xs, ρ', rs, r, e, p⟩ => by
  unfold setNil at e
  split at e <;> cases e
  cases r
  exact ⟨rfl, p _ rs rfl fun _ _ => rfl⟩
theorem pgsd_cons {vs : List Nat} {g : MV → Env → Option Env} {gs : List MV → Env → Option Env} (h1 : PG X e (LG X.K G vs g)) (h2 : PGs X es (LGs X.K G vs gs)) (hs : (assignEach (e :: es) X.env).map (·.2) = assign e X.env :: (assignEach es X.env).map (·.2) := by rfl) : PGs X (e :: es) (LGs X.K G vs (setCons g gs)) :=
  PGs.by (pgs_cons h1 h2 hs) fun vs σ H Q ⟨q, ρ, st, xs, ρ', rs, r, e, p⟩ => by
    unfold setCons at e
    split at e
    rotate_left
    · cases e
    obtain ⟨ρ1, e1, e2⟩ := Option.bind_eq_some_iff.mp e
    cases r with | cons r1 r2 =>
    exact ⟨_, _, rfl, q, ρ, st, _, ρ1, rs, r1, e1, fun σ1 rs1 l1 o1 => ⟨q, ρ1, st, _, ρ', rs1, r2, e2, fun σ2 rs2 l2 o2 => p σ2 rs2 (l2.trans l1) fun j hj => (o2 j hj).trans (o1 j hj)⟩⟩
theorem RDs.ms {K : PySem.W.Frag} {U : Addr → Prop} {m : List Addr} {H : Hp} : ∀ {vs : List V} {ds : List D}, RDs K U H vs ds → RMs K U m H vs (ds.map .v)
  | _, _, .nil => .nil
  | _, _, .cons h t => .cons (.v h) (RDs.ms t)
theorem pgd_tup {vs : List Nat} {gs : List MV → Env → Option Env} {k : Nat} {n : Nat} (hc : X.calm = true) (h : PGs X es (LGs X.K G vs gs)) (hn : (assignEach es X.env).length = n := by rfl) (hs : (assignEach es X.env).findIdx? (·.1) = none := by rfl) : PG X (.Tuple es k pos) (LG X.K G vs (setTup n gs)) :=
  PG.by (pg_tup hc h hn hs) fun v σ H Q ⟨q, ρ, st, x, ρ', rs, r, e, p⟩ => by
    unfold setTup at e
    split at e
    · split at e
      · rename_i hl
        cases r with | v r => cases r with | tup ea ha =>
        exact ⟨_, _, rfl, st_of ea, by rw [ha.length]; exact hl, q, ρ, st, _, ρ', rs, ha.ms, e, p⟩
      · cases e
    · split at e
      · rename_i hl
        cases r with | mtup ea ha =>
        exact ⟨_, _, rfl, st_of ea, by rw [ha.length]; exact hl, q, ρ, st, _, ρ', rs, ha, e, p⟩
      · cases e
    · cases e
theorem psd_asg (vs : List Nat) {tg : Expr} {g : MV → Env → Option Env} (he : PE X e (LE X.K G W f)) (hg : PG X tg (LG X.K G vs g)) (hs : swapsWithSole [tg] e pos.line X.env = pure false := by rfl) (hw : swappedStores [tg] e X.env = pure none := by rfl) (h1 : (assignEach [tg] X.env).map (·.2) = [assign tg X.env] := by rfl) : PS X (.Assign [tg] e pos) (LS X.K G W (sAsg f g)) :=
  PS.by (ps_asg he hg hs hw h1) fun D σ H ⟨q, ρ, st, rs, h⟩ => seqS rs h fun x H1 q1 st1 mx rs1 _ r1 h1 => by
    cases e : g mx ρ with
    | none => rw [e] at h1; exact h1.elim
    | some ρ' =>
      rw [e] at h1
      have h1 : FinS X.K G W D q1 H1 (.val (.nx ρ') st1) := h1
      exact ⟨q1, ρ, st1, mx, ρ', rs1, r1, e, fun σ' rs' _ _ => h1 σ' H1 q1 (Stp.refl rs1.rw) rs'⟩
end

/-! ### what is walked over -/
/-- J walks over items, as long as what is not of the store is kept -/
def ItOk (K : PySem.W.Frag) (q : Wd) (J : It) (H : Hp) (items : List D) : Prop :=
  ∀ (q2 : Wd) (H2 : Hp), Kp q.mu H H2 → (∀ a, ¬ q.un a → H a ≠ none → ¬ q2.un a) →
    (∀ (i : Nat) d, items[i]? = some d → J.go i H2 ∧ ∀ x H3, J.yld i H2 x H3 → Kp (fun _ => False) H2 H3 ∧ RD K q2.un H3 x d) ∧ J.stop items.length H2
def LI (K : PySem.W.Frag) (G : DG) (W : WX) (f : Env → M (List D)) : TI := fun σ H R => ∃ q ρ st, RS K G q σ H ρ st ∧ Fin K G W q σ H (f ρ st) (fun items st' => ∀ J H1 q1, Aft K G q H q1 H1 st' → ItOk K q1 J H1 items → R J H1)
theorem PI.by {X : Cx} {tg e : Expr} {t t' : TI} (h : PI X tg e t) (i : ∀ σ H Q, t' σ H Q → t σ H Q) : PI X tg e t' := ⟨fun pins s σ H R I w => h.run pins s σ H R I (i σ H R w)⟩
section
variable {K : PySem.W.Frag} {G : DG} {W : WX} {q q' q1 q2 : Wd} {σ σ' : L2.St} {H H' H1 H2 : Hp} {ρ ρ' : Env} {st st' st1 st2 : List O} {α β γ δ : Type}
/-- a first part, then the things -/
theorem seqI {f : Env → M α} {k : α → M (List D)} {R1 : Wd → Hp → β → α → Prop} {R : It → Hp → Prop} {Q' : β → Hp → Prop} (rs : RS K G q σ H ρ st) (h : Fin K G W q σ H (M.bind (f ρ) k st) (fun items st' => ∀ J H1 q1, Aft K G q H q1 H1 st' → ItOk K q1 J H1 items → R J H1))
    (c : ∀ b H1 q1 st1 a, RS K G q1 σ H1 ρ st1 → Aft K G q H q1 H1 st1 → R1 q1 H1 b a → Fin K G W q1 σ H1 (k a st1) (fun items st' => ∀ J H2 q2, Aft K G q1 H1 q2 H2 st' → ItOk K q2 J H2 items → R J H2) → Q' b H1) : L K G W R1 f σ H Q' := by
  refine ⟨q, ρ, st, rs, ?_⟩
  unfold M.bind at h
  cases e : f ρ st with
  | bad => rw [e] at h; exact h
  | exc ex st' =>
    rw [e] at h
    exact fun c d H' q' a' rx => h c d H' q' a' rx
  | val a st' =>
    rw [e] at h
    intro b H1 q1 af r
    refine c b H1 q1 st' a (rs.aft af) af r ?_
    have h : Fin K G W q σ H (k a st') _ := h
    cases e2 : k a st' with
    | bad => rw [e2] at h; exact h
    | exc ex st2 => rw [e2] at h; exact fun c d H' q' a' rx => h c d H' q' (af.trans a') rx
    | val items st2 => rw [e2] at h; exact fun J H2 q2 a2 io => h J H2 q2 (af.trans a2) io
theorem Kp.sq {Mu : Addr → Prop} (k : Kp Mu H H') {a : Addr} {xs : List V} (n : ¬ Mu a) (e : H a = some (.lst xs)) : H' a = some (.lst xs) := k.keep a _ n e (fun _ z => nomatch z)
theorem un_mu {a : Addr} (n : ¬ q.un a) : ¬ q.mu a := fun h => n (h.elim .inl fun z => .inr (.inl z))
theorem itOk_list {a : Addr} {xs : List V} {ds : List D} (e : H a = some (.lst xs)) (n : ¬ q.un a) (r : RDs K q.un H xs ds) : ItOk K q (Itl K a) H ds := by
  intro q2 H2 kp hu
  have e2 : SqL K H2 a xs := sql_of (kp.sq (un_mu n) e)
  have r2 : RDs K q2.un H2 xs ds := RDs.mono kp (fun b nb ne => ⟨un_mu nb, hu b nb ne⟩) ds xs r
  refine ⟨fun i d hd => ?_, ⟨xs, e2, by rw [r.length]; exact Nat.le_refl _⟩⟩
  obtain ⟨v, hv, rv⟩ := r2.get hd
  refine ⟨⟨xs, v, e2, hv⟩, fun x H3 ⟨h1, h2⟩ => ?_⟩
  subst h1
  have := h2 xs e2
  rw [hv] at this
  cases this
  exact ⟨Kp.refl, rv⟩
theorem itOk_tup {a : Addr} {xs : List V} {ds : List D} (e : SqT K H a xs) (r : RDs K q.un H xs ds) : ItOk K q (Itt K a) H ds := by
  intro q2 H2 kp hu
  have e2 : SqT K H2 a xs := kp.sqT e
  have r2 : RDs K q2.un H2 xs ds := RDs.mono kp (fun b nb ne => ⟨un_mu nb, hu b nb ne⟩) ds xs r
  refine ⟨fun i d hd => ?_, ⟨xs, e2, by rw [r.length]; exact Nat.le_refl _⟩⟩
  obtain ⟨v, hv, rv⟩ := r2.get hd
  refine ⟨⟨xs, v, e2, hv⟩, fun x H3 ⟨h1, h2⟩ => ?_⟩
  subst h1
  have := h2 xs e2
  rw [hv] at this
  cases this
  exact ⟨Kp.refl, rv⟩
theorem itOk_rng {lo : Int} {n : Nat} : ItOk K q (Itr lo n) H ((List.range n).map fun i : Nat => D.int (lo + (i : Nat))) := by
  intro q2 H2 kp hu
  refine ⟨fun i d hd => ?_, ?_⟩
  · rw [List.getElem?_map] at hd
    obtain ⟨j, hj, rfl⟩ := Option.map_eq_some_iff.mp hd
    obtain ⟨hl, e⟩ := List.getElem?_eq_some_iff.mp hj
    rw [List.length_range] at hl
    rw [List.getElem_range] at e
    subst e
    refine ⟨hl, fun x H3 ⟨h1, h2⟩ => ?_⟩
    subst h1 h2
    exact ⟨Kp.refl, .int _⟩
  · show n ≤ _
    rw [List.length_map, List.length_range]
    exact Nat.le_refl _
end
def seqD (st : List O) : MV → Option (List D)
  | .v (.lst ds) => some ds
  | .v (.tup ds) => some ds
  | .v (.ktup ds) => some ds
  | _ => none
/-- over a list that nobody writes -/
def iSeqL (f : Env → M MV) : Env → M (List D) := fun ρ => M.bind (f ρ) fun x => M.of (match x with
  | .v (.lst ds) => some ds
  | _ => none)
def iSeqT (f : Env → M MV) : Env → M (List D) := fun ρ => M.bind (f ρ) fun x => M.of (match x with
  | .v (.tup ds) => some ds
  | .v (.ktup ds) => some ds
  | _ => none)
def rngOk (i j : Int) : Bool := decide (-1000000 ≤ i) && decide (i ≤ 1000000) && decide (-1000000 ≤ j) && decide (j ≤ 1000000)
def rngD (i j : Int) : List D := (List.range (j - i).toNat).map fun k : Nat => D.int (i + (k : Nat))
def iRange1 (f : Env → M MV) : Env → M (List D) := fun ρ => M.bind (f ρ) fun x => M.of ((asI x).bind fun j => if rngOk 0 j = true then some (rngD 0 j) else none)
def iRange2 (f g : Env → M MV) : Env → M (List D) := fun ρ => M.bind (f ρ) fun x => M.bind (g ρ) fun y => M.of (match asI x, asI y with
  | some i, some j => if rngOk i j = true then some (rngD i j) else none
  | _, _ => none)
section
variable {X : Cx} {G : DG} {W : WX} {tg e a b : Expr} {f g : Env → M MV} {p pos : Pos}
theorem fin_ofI {K : PySem.W.Frag} {q : Wd} {σ : L2.St} {H : Hp} {st : List O} {o : Option (List D)} {R : It → Hp → Prop} (rw : RW K G q H st) (h : Fin K G W q σ H (M.of o st) (fun items st' => ∀ J H1 q1, Aft K G q H q1 H1 st' → ItOk K q1 J H1 items → R J H1)) :
    ∃ items, o = some items ∧ ∀ J, ItOk K q J H items → R J H := by
  cases o with
  | none => exact h.elim
  | some items => exact ⟨items, rfl, fun J io => h J H q (Aft.refl rw) io⟩
theorem pid_list (he : PE X e (LE X.K G W f)) : PI X tg e (LI X.K G W (iSeqL f)) :=
  PI.by (pi_list he) fun σ H R ⟨q, ρ, st, rs, h⟩ => seqI rs h fun x H1 q1 st1 mx rs1 _ r1 h1 => by
    obtain ⟨items, e, p⟩ := fin_ofI rs1.rw h1
    split at e <;> cases e
    cases r1 with | v r1 => cases r1 with | lst ea na ha =>
    exact ⟨_, rfl, ⟨_, sql_of ea⟩, p _ (itOk_list ea na ha)⟩
theorem pid_tup (he : PE X e (LE X.K G W f)) : PI X tg e (LI X.K G W (iSeqT f)) :=
  PI.by (pi_tup he) fun σ H R ⟨q, ρ, st, rs, h⟩ => seqI rs h fun x H1 q1 st1 mx rs1 _ r1 h1 => by
    obtain ⟨items, e, p⟩ := fin_ofI rs1.rw h1
    split at e <;> cases e
    · cases r1 with | v r1 => cases r1 with | tup ea ha =>
      exact ⟨_, rfl, ⟨_, st_of ea⟩, p _ (itOk_tup (st_of ea) ha)⟩
    · cases r1 with | v r1 => cases r1 with | ktup ea ha =>
      exact ⟨_, rfl, ⟨_, ea⟩, p _ (itOk_tup ea ha)⟩
theorem pid_range1 (hg : Gl X "range") (hm : X.mg "range" = none) (ha : PE X a (LE X.K G W f)) (hs : starEach [a] X.env = (false, eval a X.env) :: starEach [] X.env := by rfl) (hs2 : starEach [a] X.env = [(false, eval a X.env)] := by rfl) : PI X tg (.Call (.Name "range" p) [a] [] pos) (LI X.K G W (iRange1 f)) :=
  PI.by (pi_range1 hg hm (pa_cons ha pa_nil hs) hs2) fun σ H R ⟨q, ρ, st, rs, h⟩ => seqI rs h fun x H1 q1 st1 mx rs1 _ r1 h1 => by
    obtain ⟨items, e, p⟩ := fin_ofI rs1.rw h1
    obtain ⟨j, hj, e⟩ := Option.bind_eq_some_iff.mp e
    split at e <;> cases e
    rename_i hr
    unfold rngOk at hr
    simp only [Bool.and_eq_true, decide_eq_true_eq] at hr
    have := asI_v r1 hj
    subst this
    refine ⟨j, rfl, by omega, by omega, p _ ?_⟩
    have e0 : (j - 0).toNat = j.toNat := by omega
    unfold rngD
    rw [e0]
    exact itOk_rng
theorem pid_range2 (hg : Gl X "range") (hm : X.mg "range" = none) (ha : PE X a (LE X.K G W f)) (hb : PE X b (LE X.K G W g)) (hs : starEach [a, b] X.env = (false, eval a X.env) :: starEach [b] X.env := by rfl) (hs1 : starEach [b] X.env = (false, eval b X.env) :: starEach [] X.env := by rfl)
    (hs2 : starEach [a, b] X.env = [(false, eval a X.env), (false, eval b X.env)] := by rfl) (hs3 : starEach [b] X.env = [(false, eval b X.env)] := by rfl) : PI X tg (.Call (.Name "range" p) [a, b] [] pos) (LI X.K G W (iRange2 f g)) :=
  PI.by (pi_range2 hg hm (pa_cons ha (pa_cons hb pa_nil hs1) hs) hs2 hs3) fun σ H R ⟨q, ρ, st, rs, h⟩ => seqI rs h fun x H1 q1 st1 mx rs1 _ r1 h1 => seqI rs1 h1 fun y H2 q2 st2 my rs2 a2 r2 h2 => by
    obtain ⟨items, e, p⟩ := fin_ofI rs2.rw h2
    split at e
    rotate_left
    · cases e
    rename_i i j hi hj
    split at e <;> cases e
    rename_i hr
    unfold rngOk at hr
    simp only [Bool.and_eq_true, decide_eq_true_eq] at hr
    have := asI_v r1 hi
    subst this
    have := asI_v r2 hj
    subst this
    exact ⟨i, j, rfl, ⟨by omega, by omega, by omega, by omega⟩, p _ itOk_rng⟩
end
/-! ### for -/
def loopS (g : MV → Env → Option Env) (body : Env → M Fl) : List D → Env → M Fl
  | [], ρ => M.pure (.nx ρ)
  | d :: ds, ρ => M.bind (M.of (g (.v d) ρ)) fun ρ1 => M.bind (body ρ1) fun fl => match fl with
    | .nx ρ2 => loopS g body ds ρ2
    | .bk ρ2 => M.pure (.nx ρ2)
    | .rt x => M.pure (.rt x)
def sFor (fi : Env → M (List D)) (g : MV → Env → Option Env) (body : Env → M Fl) : Env → M Fl := fun ρ => M.bind (fi ρ) fun items => loopS g body items ρ
section
variable {X : Cx} {G : DG} {W : WX} {tg iter : Expr} {fi : Env → M (List D)} {g : MV → Env → Option Env} {body : List Stmt} {fb : Env → M Fl} {pos : Pos}
theorem psd_for (vs : List Nat) (hp : PassesOwn (model X.prog X.w) X.A X.env X.xe) (hc : X.calm = true) (hi : PI X tg iter (LI X.K G W fi)) (hg : PG X tg (LG X.K G vs g)) (hb : PSs X body (LS X.K G W fb)) (hs : ∀ x, foldedSetIterable iter X.env x = pure x := by intro _; rfl) :
    PS X (.For tg iter body [] pos) (LS X.K G W (sFor fi g fb)) :=
  PS.by (ps_for hp hc hi hg hb hs) fun D σ H ⟨q, ρ, st, rs, h⟩ => by
    refine ⟨q, ρ, st, rs, ?_⟩
    have h : FinS X.K G W D q H (M.bind (fi ρ) (fun items => loopS g fb items ρ) st) := h
    unfold M.bind at h
    cases e : fi ρ st with
    | bad => rw [e] at h; exact h
    | exc ex st' => rw [e] at h; exact fun c d H' q' a' rx => h c d σ H' q' (Stp.of_aft a') rx
    | val items st' =>
      rw [e] at h
      have h : FinS X.K G W D q H (loopS g fb items ρ st') := h
      intro J H1 q1 af io
      have rs1 := rs.aft af
      have h1 := h.stp (Stp.of_aft af)
      refine ⟨fun i n σ' H' => n = items.length - i ∧ i ≤ items.length ∧ ∃ q' ρ' st2, Stp X.K G q1 H1 q' H' st2 ∧ RS X.K G q' σ' H' ρ' st2 ∧ FinS X.K G W D q' H' (loopS g fb (items.drop i) ρ' st2), ⟨_, rfl, Nat.zero_le _, q1, ρ, st', Stp.refl rs1.rw, rs1, h1⟩, fun i n σ' H' ⟨hn, hi, q', ρ', st2, stp, rs', h'⟩ => ?_⟩
      obtain ⟨iok, istop⟩ := io q' H' stp.kp fun a na ne => (stp.hu a na ne).2
      by_cases hlt : i < items.length
      · right
        have hd : items[i]? = some items[i] := List.getElem?_eq_getElem hlt
        obtain ⟨go, yl⟩ := iok i _ hd
        rw [List.drop_eq_getElem_cons hlt] at h'
        refine ⟨go, fun σ2 H2 => ∃ q2 ρ2 st3, Stp X.K G q1 H1 q2 H2 st3 ∧ RS X.K G q2 σ2 H2 ρ2 st3 ∧ FinS X.K G W D q2 H2 (loopS g fb (items.drop (i + 1)) ρ2 st3), fun σ2 H2 ⟨q2, ρ2, st3, s2, r2, f2⟩ => ⟨items.length - (i + 1), by omega, rfl, by omega, q2, ρ2, st3, s2, r2, f2⟩, fun x H3 hy => ?_⟩
        obtain ⟨kp3, r3⟩ := yl x H3 hy
        have af3 : Aft X.K G q' H' q' H3 st2 := Aft.of_kp rs'.rw kp3
        have rs3 := rs'.aft af3
        have h3 := h'.stp (Stp.of_aft af3)
        unfold loopS at h3
        cases eg : g (.v items[i]) ρ' with
        | none => rw [eg] at h3; exact h3.elim
        | some ρ1 =>
          rw [eg] at h3
          refine ⟨q', ρ', st2, _, ρ1, rs3, .v r3, eg, fun σ4 rs4 _ _ => ⟨q', ρ1, st2, rs4, ?_⟩⟩
          have h3 : FinS X.K G W D q' H3 (M.bind (fb ρ1) _ st2) := h3
          unfold M.bind at h3
          cases eb : fb ρ1 st2 with
          | bad => rw [eb] at h3; exact h3
          | exc ex st' => rw [eb] at h3; exact h3
          | val fl st5 =>
            rw [eb] at h3
            cases fl with
            | nx ρ2 => exact fun σ5 H5 q5 s5 r5 => ⟨q5, ρ2, st5, (stp.trans (Stp.of_aft af3)).trans s5, r5, FinS.stp (show FinS X.K G W D q' H3 (loopS g fb (items.drop (i + 1)) ρ2 st5) from h3) s5⟩
            | rt x => exact h3
            | bk ρ2 => exact h3
      · left
        have hi' : i = items.length := by omega
        subst hi'
        rw [List.drop_length] at h'
        exact ⟨istop, h' σ' H' q' (Stp.refl rs'.rw) rs'⟩
end
end CD

set_option Elab.async false
set_option linter.all false
set_option maxRecDepth 100000
set_option maxHeartbeats 4000000
namespace CD
open PySem PySem.Spec PyProof.Rows L2

/-! ### zip -/
def zipD (xs ys : List D) : List D := List.zipWith (fun x y => .tup [x, y]) xs ys
def iZip (f g : Env → M MV) : Env → M (List D) := fun ρ => M.bind (f ρ) fun x => M.bind (g ρ) fun y => M.of (match x, y with
  | .v (.lst xs), .v (.lst ys) => some (zipD xs ys)
  | .v (.tup xs), .v (.tup ys) => some (zipD xs ys)
  | .v (.ktup xs), .v (.tup ys) => some (zipD xs ys)
  | _, _ => none)
section
variable {K : PySem.W.Frag} {G : DG} {W : WX} {q : Wd} {H : Hp} {st : List O}
theorem zipD_get {xs ys : List D} {i : Nat} {d : D} (h : (zipD xs ys)[i]? = some d) : ∃ x y, xs[i]? = some x ∧ ys[i]? = some y ∧ d = .tup [x, y] := by
  unfold zipD at h
  rw [List.getElem?_zipWith] at h
  split at h
  · rename_i x y hx hy
    cases h
    exact ⟨x, y, hx, hy, rfl⟩
  · cases h
theorem zipD_len (xs ys : List D) : xs.length ≤ (zipD xs ys).length ∨ ys.length ≤ (zipD xs ys).length := by
  unfold zipD
  rw [List.length_zipWith]
  omega
theorem pair_rd {U : Addr → Prop} {T : Addr} {x y : V} {dx dy : D} (hT : H T = none) (r1 : RD K U H x dx) (r2 : RD K U H y dy) : RD K U (upd H T (.tup [x, y])) (.ref T) (.tup [dx, dy]) :=
  .tup upd_same (RDs.mono (Mu := fun _ => False) (Kp.new hT) (fun _ n _ => ⟨id, n⟩) _ _ (.cons r1 (.cons r2 .nil)))
theorem itOk_zipL {a b : Addr} {xs ys : List V} {ds es : List D} (ea : H a = some (.lst xs)) (na : ¬ q.un a) (ra : RDs K q.un H xs ds) (eb : H b = some (.lst ys)) (nb : ¬ q.un b) (rb : RDs K q.un H ys es) : ItOk K q (Itz K a b) H (zipD ds es) := by
  intro q2 H2 kp hu
  have ea2 : SqL K H2 a xs := sql_of (kp.sq (un_mu na) ea)
  have eb2 : SqL K H2 b ys := sql_of (kp.sq (un_mu nb) eb)
  have ra2 : RDs K q2.un H2 xs ds := RDs.mono kp (fun b nb ne => ⟨un_mu nb, hu b nb ne⟩) ds xs ra
  have rb2 : RDs K q2.un H2 ys es := RDs.mono kp (fun b nb ne => ⟨un_mu nb, hu b nb ne⟩) es ys rb
  refine ⟨fun i d hd => ?_, ⟨xs, ys, ea2, eb2, by rw [ra.length, rb.length]; exact zipD_len ds es⟩⟩
  obtain ⟨x, y, hx, hy, rfl⟩ := zipD_get hd
  obtain ⟨v, hv, rv⟩ := ra2.get hx
  obtain ⟨w, hw, rw_⟩ := rb2.get hy
  refine ⟨⟨xs, ys, v, w, ea2, eb2, hv, hw⟩, fun z H3 ⟨T, x', y', h1, hT, h3, h4, h5⟩ => ?_⟩
  have e1 := h4 xs ea2
  rw [hv] at e1
  cases e1
  have e2 := h5 ys eb2
  rw [hw] at e2
  cases e2
  subst h1 h3
  exact ⟨Kp.new hT, pair_rd hT rv rw_⟩
theorem itOk_zipT {a b : Addr} {xs ys : List V} {ds es : List D} (ea : SqT K H a xs) (ra : RDs K q.un H xs ds) (eb : SqT K H b ys) (rb : RDs K q.un H ys es) : ItOk K q (RZ.ItzT K a b) H (zipD ds es) := by
  intro q2 H2 kp hu
  have ea2 : SqT K H2 a xs := kp.sqT ea
  have eb2 : SqT K H2 b ys := kp.sqT eb
  have ra2 : RDs K q2.un H2 xs ds := RDs.mono kp (fun b nb ne => ⟨un_mu nb, hu b nb ne⟩) ds xs ra
  have rb2 : RDs K q2.un H2 ys es := RDs.mono kp (fun b nb ne => ⟨un_mu nb, hu b nb ne⟩) es ys rb
  refine ⟨fun i d hd => ?_, ⟨xs, ys, ea2, eb2, by rw [ra.length, rb.length]; exact zipD_len ds es⟩⟩
  obtain ⟨x, y, hx, hy, rfl⟩ := zipD_get hd
  obtain ⟨v, hv, rv⟩ := ra2.get hx
  obtain ⟨w, hw, rw_⟩ := rb2.get hy
  refine ⟨⟨xs, ys, v, w, ea2, eb2, hv, hw⟩, fun z H3 ⟨T, x', y', h1, hT, h3, h4, h5⟩ => ?_⟩
  have e1 := h4 xs ea2
  rw [hv] at e1
  cases e1
  have e2 := h5 ys eb2
  rw [hw] at e2
  cases e2
  subst h1 h3
  exact ⟨Kp.new hT, pair_rd hT rv rw_⟩
end
section
variable {X : Cx} {G : DG} {W : WX} {a b : Expr} {f g : Env → M MV} {p pos tpos : Pos} {elts : List Expr} {kk : Nat}
theorem pid_zip (hg : Gl X "zip") (hm : X.mg "zip" = none) (ha : PE X a (LE X.K G W f)) (hb : PE X b (LE X.K G W g))
    (hs : starEach [a, b] X.env = (false, eval a X.env) :: starEach [b] X.env := by rfl) (hs1 : starEach [b] X.env = (false, eval b X.env) :: starEach [] X.env := by rfl) (hpl : (backTo pos (starEach [b] X.env)).any (·.1) = false := by rfl) :
    PI X (.Tuple elts kk tpos) (.Call (.Name "zip" p) [a, b] [] pos) (LI X.K G W (iZip f g)) :=
  PI.by (RZ.pi_zipA hg hm (pa_cons ha (pa_cons hb pa_nil hs1) hs) hs hpl) fun σ H R ⟨q, ρ, st, rs, h⟩ => seqI rs h fun x H1 q1 st1 mx rs1 _ r1 h1 => seqI rs1 h1 fun y H2 q2 st2 my rs2 a2 r2 h2 => by
    obtain ⟨items, e, p⟩ := fin_ofI rs2.rw h2
    have r1 := r1.aft a2
    split at e <;> cases e
    · cases r1 with | v r1 => cases r2 with | v r2 => cases r1 with | lst ea na ha => cases r2 with | lst eb nb hb =>
      exact ⟨_, _, _, _, rfl, .inl ⟨sql_of ea, sql_of eb, p _ (itOk_zipL ea na ha eb nb hb)⟩⟩
    · cases r1 with | v r1 => cases r2 with | v r2 => cases r1 with | tup ea ha => cases r2 with | tup eb hb =>
      exact ⟨_, _, _, _, rfl, .inr ⟨st_of ea, st_of eb, p _ (itOk_zipT (st_of ea) ha (st_of eb) hb)⟩⟩
    · cases r1 with | v r1 => cases r2 with | v r2 => cases r1 with | ktup ea ha => cases r2 with | tup eb hb =>
      exact ⟨_, _, _, _, rfl, .inr ⟨ea, st_of eb, p _ (itOk_zipT ea ha (st_of eb) hb)⟩⟩
end

/-! ### list comprehensions -/
def wipeE (ρ : Env) : List Nat → Env
  | [] => ρ
  | v :: vs => (wipeE ρ vs).set v none
def M.noex {α : Type} (x : M α) : M α := fun st => match x st with
  | .val a st' => .val a st'
  | _ => .bad
def lcLoop (vs : List Nat) (g : MV → Env → Option Env) (ft : Env → M Bool) (fe : Env → M MV) (ρ : Env) : List D → M (List D)
  | [] => M.pure []
  | d :: ds => M.bind (M.of (g (.v d) (wipeE ρ vs))) fun ρ1 => M.bind (M.noex (ft ρ1)) fun k =>
    if k = true then M.bind (M.noex (fe ρ1)) fun y => M.bind (M.of (asD y)) fun y => M.bind (lcLoop vs g ft fe ρ ds) fun r => M.pure (y :: r)
    else lcLoop vs g ft fe ρ ds
def fLc (vs : List Nat) (fi : Env → M (List D)) (g : MV → Env → Option Env) (ft : Env → M Bool) (fe : Env → M MV) : Env → M MV := fun ρ => M.bind (fi ρ) fun items =>
  if szOk items.length = true then M.bind (lcLoop vs g ft fe ρ items) fun ds => M.pure (.v (.lst ds)) else M.of none
def fYes : Env → M Bool := fun _ => M.pure true
section
variable {α β γ : Type}
theorem M.assoc (x : M α) (f : α → M β) (g : β → M γ) : M.bind (M.bind x f) g = M.bind x fun a => M.bind (f a) g := by
  funext st
  unfold M.bind
  cases x st <;> rfl
theorem M.pure_bind (a : α) (f : α → M β) : M.bind (M.pure a) f = f a := rfl
theorem lc_step {vs : List Nat} {g : MV → Env → Option Env} {ft : Env → M Bool} {fe : Env → M MV} {ρ : Env} {d : D} {ds : List D} {k : List D → M γ} :
    M.bind (lcLoop vs g ft fe ρ (d :: ds)) k = M.bind (M.of (g (.v d) (wipeE ρ vs))) fun ρ1 => M.bind (M.noex (ft ρ1)) fun b =>
      if b = true then M.bind (M.noex (fe ρ1)) fun y => M.bind (M.of (asD y)) fun y => M.bind (lcLoop vs g ft fe ρ ds) fun r => k (y :: r) else M.bind (lcLoop vs g ft fe ρ ds) k := by
  rw [lcLoop, M.assoc]
  congr 1
  funext ρ1
  rw [M.assoc]
  congr 1
  funext b
  cases b with
  | false => simp only [Bool.false_eq_true, if_false]
  | true =>
    simp only [if_true]
    rw [M.assoc]
    congr 1
    funext y
    rw [M.assoc]
    congr 1
    funext y
    rw [M.assoc]
    rfl
end
section
variable {K : PySem.W.Frag} {G : DG} {W : WX} {q q' q1 q2 : Wd} {σ σ' : L2.St} {H H' H1 H2 : Hp} {ρ ρ' : Env} {st st' st1 st2 : List O} {α β γ δ : Type}
theorem wipeE_length (ρ : Env) : ∀ vs : List Nat, (wipeE ρ vs).length = ρ.length
  | [] => rfl
  | v :: vs => by unfold wipeE; rw [List.length_set, wipeE_length ρ vs]
theorem wipeE_some {ρ : Env} {i : Nat} {s : SV} : ∀ {vs : List Nat}, (wipeE ρ vs)[i]? = some (some s) → ρ[i]? = some (some s) ∧ i ∉ vs
  | [], h => ⟨h, by simp⟩
  | v :: vs, h => by
    unfold wipeE at h
    by_cases e : v = i
    · subst e
      by_cases hl : v < (wipeE ρ vs).length
      · rw [List.getElem?_set_self hl] at h
        cases h
      · rw [List.getElem?_eq_none (by rw [List.length_set]; omega)] at h
        cases h
    · rw [List.getElem?_set_ne e] at h
      obtain ⟨h1, h2⟩ := wipeE_some h
      exact ⟨h1, by simp only [List.mem_cons, not_or]; exact ⟨fun z => e z.symm, h2⟩⟩
theorem wipe_ext : ∀ {vs : List Nat}, (∀ j : Nat, j ∉ vs → σ'[j]? = σ[j]?) → σ'.length = σ.length → wipe σ' vs = wipe σ vs := by
  intro vs h hl
  have key : ∀ (τ : L2.St) (vs : List Nat) (j : Nat), (wipe τ vs)[j]? = if j < τ.length then (if j ∈ vs then some none else τ[j]?) else none := by
    intro τ vs
    induction vs with
    | nil => intro j; show τ[j]? = _; split <;> simp_all
    | cons v vs ih =>
      intro j
      show ((wipe τ vs).set v none)[j]? = _
      rw [List.getElem?_set]
      rw [wipe_length, ih j]
      by_cases h1 : v = j
      · subst h1
        simp
      · simp only [h1, if_false, List.mem_cons, show j ≠ v from fun z => h1 z.symm, false_or]
  refine List.ext_getElem? fun j => ?_
  rw [key, key, hl]
  by_cases h1 : j < σ.length
  · rw [if_pos h1, if_pos h1]
    by_cases h2 : j ∈ vs
    · rw [if_pos h2, if_pos h2]
    · rw [if_neg h2, if_neg h2, h j h2]
  · rw [if_neg h1, if_neg h1]
theorem RS.wipe (rs : RS K G q σ H ρ st) (vs : List Nat) : RS K G q (wipe σ vs) H (wipeE ρ vs) st :=
  ⟨rs.rw, by rw [wipeE_length, wipe_length]; exact rs.sl, fun i s e => by
    obtain ⟨h1, h2⟩ := wipeE_some e
    obtain ⟨v, e1, r⟩ := rs.slot i s h1
    exact ⟨v, by rw [wipe_out h2]; exact e1, r⟩⟩
/-- a place that is hidden while something is built there -/
def Wd.hid (q : Wd) (p : Addr) : Wd := { q with Z := fun a => q.Z a ∨ a = p }
theorem hid_un {p a : Addr} (n : ¬ (q.hid p).un a) : ¬ q.un a ∧ a ≠ p := ⟨fun h => n (h.elim .inl fun z => .inr (z.elim .inl fun y => .inr (.inl y))), fun h => n (.inr (.inr (.inr h)))⟩
theorem un_hid {p a : Addr} (n : ¬ q.un a) (h : a ≠ p) : ¬ (q.hid p).un a := fun z => by
  rcases z with z | z | z | z
  · exact n (.inl z)
  · exact n (.inr (.inl z))
  · exact n (.inr (.inr z))
  · exact h z
theorem RW.hide (r : RW K G q H st) {p : Addr} {o : HO} (hp : H p = none) : RW K G (q.hid p) (upd H p o) st := by
  have hu : ∀ a, ¬ q.un a → H a ≠ none → ¬ (fun _ : Addr => False) a ∧ ¬ (q.hid p).un a := fun a n ne => ⟨id, un_hid n fun z => ne (z ▸ hp)⟩
  have k : Kp (fun _ => False) H (upd H p o) := Kp.new hp
  refine ⟨fun j a o e1 e2 => RO.mono k hu (fun _ _ e => e) id (r.objs j a o e1 e2), r.len, r.nd, fun i a e => ⟨(r.mw i a e).1, fun z => ?_, k.al a (r.mw i a e).2.2⟩, r.ww, fun a h z => ?_, fun a z => ?_, k.tabs r.tabs⟩
  · rcases z with z | z
    · exact (r.mw i a e).2.1 z
    · exact (r.mw i a e).2.2 (z ▸ hp)
  · rcases z with z | z
    · exact r.mz a h z
    · exact r.al (.inl h) (z ▸ hp)
  · rcases z with z | z
    · exact k.al a (r.zh a z)
    · rw [z, upd_same]; exact nofun
theorem RS.hide (rs : RS K G q σ H ρ st) {p : Addr} {o : HO} (hp : H p = none) : RS K G (q.hid p) σ (upd H p o) ρ st := by
  have hu : ∀ a, ¬ q.un a → H a ≠ none → ¬ (fun _ : Addr => False) a ∧ ¬ (q.hid p).un a := fun a n ne => ⟨id, un_hid n fun z => ne (z ▸ hp)⟩
  have k : Kp (fun _ => False) H (upd H p o) := Kp.new hp
  refine ⟨rs.rw.hide hp, rs.sl, fun i s e => ?_⟩
  obtain ⟨v, e1, r⟩ := rs.slot i s e
  refine ⟨v, e1, ?_⟩
  cases s with
  | m x => exact RM.mono k hu (fun _ _ e => e) x v r
  | own o' =>
    obtain ⟨a, h1, h2, h3⟩ := r
    exact ⟨a, h1, h2, ROL.mono k hu id h3⟩
theorem RW.unhide {p : Addr} (r : RW K G (q.hid p) H st) : RW K G q H st :=
  ⟨fun j a o e1 e2 => RO.mono (U := (q.hid p).un) (m := q.m) (Mu := fun _ => False) Kp.refl (fun b n _ => ⟨id, (hid_un n).1⟩) (fun _ _ e => e) id (r.objs j a o e1 e2), r.len, r.nd, fun i a e => ⟨(r.mw i a e).1, fun z => (r.mw i a e).2.1 (.inl z), (r.mw i a e).2.2⟩, r.ww, fun a h z => r.mz a h (.inl z), fun a z => r.zh a (.inl z), r.tabs⟩
/-- the hidden place is written -/
theorem RS.put {p : Addr} {xs : List V} {o : HO} (rs : RS K G q σ H ρ st) (z : q.Z p) (e : H p = some (.lst xs)) : RS K G q σ (upd H p o) ρ st := by
  have k : Kp (· = p) H (upd H p o) := Kp.put rfl e (fun _ z => nomatch z) (fun _ _ z => nomatch z) (fun _ z => nomatch z)
  have hu : ∀ a, ¬ q.un a → H a ≠ none → ¬ a = p ∧ ¬ q.un a := fun a n _ => ⟨fun y => n (y ▸ .inr (.inr z)), n⟩
  refine ⟨⟨fun j a o e1 e2 => RO.mono k hu (fun _ _ e => e) (fun y => ?_) (rs.rw.objs j a o e1 e2), rs.rw.len, rs.rw.nd, fun i a e => ⟨(rs.rw.mw i a e).1, (rs.rw.mw i a e).2.1, k.al a (rs.rw.mw i a e).2.2⟩, rs.rw.ww, rs.rw.mz, fun a z => k.al a (rs.rw.zh a z), k.tabs rs.rw.tabs⟩, rs.sl, fun i s e => ?_⟩
  · have ha : a ∈ q.m := List.mem_of_getElem? e1
    exact rs.rw.mz a ha (by rw [y]; exact z)
  · obtain ⟨v, e1, r⟩ := rs.slot i s e
    refine ⟨v, e1, ?_⟩
    cases s with
    | m x => exact RM.mono k hu (fun _ _ e => e) x v r
    | own o' =>
      obtain ⟨a, h1, h2, h3⟩ := r
      exact ⟨a, h1, h2, ROL.mono k hu (fun y => (rs.rw.mw i a h1).2.1 (by rw [y]; exact z)) h3⟩
/-- what was done while the place was hidden, seen from without -/
theorem Aft.unhide {p : Addr} (a : Aft K G (q.hid p) H q1 H1 st1) : Aft K G q H { q1 with Z := q.Z } H1 st1 ∧ q1 = Wd.hid { q1 with Z := q.Z } p := by
  have hq : q1 = Wd.hid { q1 with Z := q.Z } p := by
    have hz := a.Z
    cases q1
    simp only [Wd.hid] at hz ⊢
    rw [hz]
  have rw1 := a.rw
  rw [hq] at rw1
  exact ⟨⟨a.w, rfl, a.pre, a.new, a.kp, rw1.unhide⟩, hq⟩
/-- a part whose exceptions are none -/
theorem seqN {qz : Wd} {σz : L2.St} {Hz : Hp} {ρz : Env} {f : Env → M α} {k : α → M γ} {R1 : Wd → Hp → β → α → Prop} {P : γ → List O → Prop} {Q' : β → Hp → Prop} (rs : RS K G qz σz Hz ρz st) (h : Fin K G W q σ H (M.bind (M.noex (f ρz)) k st) P)
    (c : ∀ b H1 q1 st1 a, RS K G q1 σz H1 ρz st1 → Aft K G qz Hz q1 H1 st1 → R1 q1 H1 b a → Fin K G W q σ H (k a st1) P → Q' b H1) : L K G (fun _ _ _ _ => False) R1 f σz Hz Q' := by
  refine ⟨qz, ρz, st, rs, ?_⟩
  unfold M.bind M.noex at h
  cases e : f ρz st with
  | bad => rw [e] at h; exact h.elim
  | exc ex st' => rw [e] at h; exact h.elim
  | val a st' =>
    rw [e] at h
    exact fun b H1 q1 af r => c b H1 q1 st' a (rs.aft af) af r h
/-- a first part that says what is walked over -/
theorem seqJ {f : Env → M (List D)} {k : List D → M γ} {R2 : Wd → Hp → δ → γ → Prop} {Q : δ → Hp → Prop} {R : It → Hp → Prop} (rs : RS K G q σ H ρ st) (h : Fin K G W q σ H (M.bind (f ρ) k st) (Post K G R2 Q q H))
    (c : ∀ J H1 q1 st1 items, RS K G q1 σ H1 ρ st1 → Aft K G q H q1 H1 st1 → ItOk K q1 J H1 items → Fin K G W q1 σ H1 (k items st1) (Post K G R2 Q q1 H1) → R J H1) : LI K G W f σ H R := by
  refine ⟨q, ρ, st, rs, ?_⟩
  unfold M.bind at h
  cases e : f ρ st with
  | bad => rw [e] at h; exact h.elim
  | exc ex st' => rw [e] at h; exact h
  | val items st' =>
    rw [e] at h
    exact fun J H1 q1 af io => c J H1 q1 st' items (rs.aft af) af io (fin_aft h af)
end
section
variable {X : Cx} {G : DG} {W : WX} {elt tg iter : Expr} {ifs : List Expr} {scope : Scope} {own : List (Str × Nat)} {pos : Pos} {fi : Env → M (List D)} {g : MV → Env → Option Env} {ft : Env → M Bool} {fe : Env → M MV}
theorem ptsd_nil {X : Cx} {G : DG} {W : WX} : PTs X [] (LT X.K G W fYes) := ⟨fun pins s σ H Q I ⟨q, ρ, st, rs, h⟩ => pts_nil.run pins s σ H Q I (fin_pure (b := true) rs.rw h rfl)⟩
theorem ptsd_one {X : Cx} {G : DG} {W : WX} {c : Expr} {t : Env → M Bool} (h : PT X c (LT X.K G W t)) : PTs X [c] (LT X.K G W t) := pts_one h
/-- the reading of a comprehension, whatever becomes of the list -/
theorem lc_core {T : VK} {σ : L2.St} {H : Hp} {Q : VK} (hT : ∀ v H', Q v H' → T v H') (vs : List Nat) (hL : LE X.K G W (fLc vs fi g ft fe) σ H Q) :
    tLc (LI X.K G W fi) (LG X.K G vs g) (LT X.K G (fun _ _ _ _ => False) ft) (LE X.K G (fun _ _ _ _ => False) fe) vs σ H T := by
  obtain ⟨q, ρ, st, rs, h⟩ := hL
  refine seqJ rs h fun J H1 q1 st1 items rs1 af1 io h1 => ?_
  intro Dp hD
  by_cases hz : szOk items.length = true
  rotate_left
  · rw [if_neg hz] at h1; exact h1.elim
  rw [if_pos hz] at h1
  have hz' : items.length ≤ 1000000 := of_decide_eq_true hz
  have afD : Kp (· ∈ q1.m) H1 (upd H1 Dp (.lst [])) := Kp.new hD
  have rsD : RS X.K G (q1.hid Dp) (wipe σ vs) (upd H1 Dp (.lst [])) (wipeE ρ vs) st1 := (rs1.wipe vs).hide hD
  have a0 : Aft X.K G q1 H1 q1 (upd H1 Dp (.lst [])) st1 := Aft.of_kp rs1.rw (Kp.new hD)
  refine ⟨fun i n H' => n = items.length - i ∧ i ≤ items.length ∧ ∃ q' st' acc ds0, Aft X.K G q1 H1 q' H' st' ∧ RS X.K G (q'.hid Dp) (wipe σ vs) H' (wipeE ρ vs) st' ∧ H' Dp = some (.lst acc) ∧ RDs X.K (q'.hid Dp).un H' acc ds0 ∧ acc.length ≤ i ∧
      Fin X.K G W q1 σ H1 (M.bind (lcLoop vs g ft fe ρ (items.drop i)) (fun ds => M.pure (.v (.lst (ds0 ++ ds)))) st') (Post X.K G (RE X.K) Q q1 H1),
    ⟨_, rfl, Nat.zero_le _, q1, st1, [], [], a0, rsD, upd_same, .nil, Nat.zero_le _, by simpa using h1⟩, fun i n H' ⟨hn, hi, q', st', acc, ds0, af, rs', hacc, racc, hal, h'⟩ => ?_⟩
  have nD : ¬ q1.un Dp := rs1.rw.fresh hD
  have nD' : ¬ q'.un Dp := fun z => by
    rcases z with z | z | z
    · exact rs'.rw.mz Dp z (.inr rfl)
    · obtain ⟨i, z⟩ := z
      exact (rs'.rw.mw i Dp z).2.1 (.inr rfl)
    · rw [af.Z] at z
      exact nD (.inr (.inr z))
  obtain ⟨iok, istop⟩ := io (q'.hid Dp) H' (af.kp.mono fun _ h => .inl h) fun a na ne => un_hid (af.hu a na ne).2 fun z => ne (z ▸ hD)
  by_cases hlt : i < items.length
  · right
    have hd : items[i]? = some items[i] := List.getElem?_eq_getElem hlt
    obtain ⟨go, yl⟩ := iok i _ hd
    rw [List.drop_eq_getElem_cons hlt, lc_step] at h'
    refine ⟨go, fun H2 => ∃ q2 st2 acc2 ds2, Aft X.K G q1 H1 q2 H2 st2 ∧ RS X.K G (q2.hid Dp) (wipe σ vs) H2 (wipeE ρ vs) st2 ∧ H2 Dp = some (.lst acc2) ∧ RDs X.K (q2.hid Dp).un H2 acc2 ds2 ∧ acc2.length ≤ i + 1 ∧
      Fin X.K G W q1 σ H1 (M.bind (lcLoop vs g ft fe ρ (items.drop (i + 1))) (fun ds => M.pure (.v (.lst (ds2 ++ ds)))) st2) (Post X.K G (RE X.K) Q q1 H1),
      fun H2 ⟨q2, st2, acc2, ds2, w⟩ => ⟨items.length - (i + 1), by omega, rfl, by omega, q2, st2, acc2, ds2, w⟩, fun x H3 hy => ?_⟩
    obtain ⟨kp3, r3⟩ := yl x H3 hy
    have af3 : Aft X.K G (q'.hid Dp) H' (q'.hid Dp) H3 st' := Aft.of_kp rs'.rw kp3
    have rs3 := rs'.aft af3
    have hacc3 : H3 Dp = some (.lst acc) := kp3.keep Dp _ id hacc (fun _ z => nomatch z)
    have racc3 := racc.aft af3
    obtain ⟨ρ1, eg, h4⟩ := fin_ofk h'
    have rw' : RW X.K G q' H' st' := af.rw
    refine ⟨q'.hid Dp, wipeE ρ vs, st', _, ρ1, rs3, .v r3, eg, fun σ4 rs4 l4 o4 => ⟨?_, ?_⟩⟩
    · rw [wipe_ext o4 l4]
      exact wipe_ext (fun j hj => by rw [wipe_out hj]) (wipe_length σ vs)
    refine seqN rs4 h4 fun b H5 q5 st5 k rs5 af5 hb h5 => ?_
    cases (show b = k from hb)
    obtain ⟨u5, e5⟩ := (af3.trans af5).unhide
    rw [e5] at rs5 af5
    have back : ∀ {H6 : Hp} {q6 : Wd} {st6 : List O} {σ6 : L2.St} {ρ6 : Env}, Aft X.K G (q'.hid Dp) H' q6 H6 st6 → Aft X.K G q' H' { q6 with Z := q'.Z } H6 st6 ∧ RS X.K G (Wd.hid { q6 with Z := q'.Z } Dp) (wipe σ vs) H6 (wipeE ρ vs) st6 := fun a6 => by
      obtain ⟨u6, e6⟩ := a6.unhide
      refine ⟨u6, ?_⟩
      rw [← e6]
      exact rs'.aft a6
    cases b with
    | false =>
      simp only [Bool.false_eq_true, if_false] at h5 ⊢
      have a35 : Aft X.K G (q'.hid Dp) H' q5 H5 st5 := by
        have := af3.trans af5
        rw [← e5] at this
        exact this
      obtain ⟨u6, r6⟩ := back (σ6 := σ) (ρ6 := ρ) a35
      have kpA := a35.kp
      have hacc5 : H5 Dp = some (.lst acc) := a35.kp.keep Dp _ (fun z => rs'.rw.mz Dp z (.inr rfl)) hacc (fun _ z => nomatch z)
      have racc5 := racc.aft a35
      rw [e5] at racc5
      exact ⟨_, st5, acc, ds0, af.trans u6, r6, hacc5, racc5, by omega, h5⟩
    | true =>
      simp only [if_true] at h5 ⊢
      refine seqN rs5 h5 fun y H6 q6 st6 my rs6 af6 ry h6 => ?_
      obtain ⟨dy, ey, h7⟩ := fin_ofk h6
      have a36 : Aft X.K G (q'.hid Dp) H' q6 H6 st6 := af3.trans (af5.trans af6)
      obtain ⟨u6, r6⟩ := back (σ6 := σ) (ρ6 := ρ) a36
      obtain ⟨_, e6⟩ := a36.unhide
      have hacc6 : H6 Dp = some (.lst acc) := a36.kp.keep Dp _ (fun z => rs'.rw.mz Dp z (.inr rfl)) hacc (fun _ z => nomatch z)
      have racc6 := racc.aft a36
      rw [e6] at racc6 ry
      have rd : RD X.K (Wd.hid { q6 with Z := q'.Z } Dp).un H6 y dy := by
        unfold asD at ey
        split at ey <;> cases ey
        cases ry with | v ry => exact ry
      refine ⟨acc, hacc6, by rw [sizeLine_eq]; omega, { q6 with Z := q'.Z }, st6, acc ++ [y], ds0 ++ [dy], ?_, r6.put (.inr rfl) hacc6, upd_same, ?_, by simp; omega, ?_⟩
      · have kpp : Kp (fun a => a = Dp) H6 (upd H6 Dp (.lst (acc ++ [y]))) := Kp.put rfl hacc6 (fun _ z => nomatch z) (fun _ _ z => nomatch z) (fun _ z => nomatch z)
        have t := af.trans u6
        exact ⟨t.w, t.Z, t.pre, t.new, t.kp.trans kpp fun a z => .inr (z ▸ hD), ((r6.put (.inr rfl) hacc6).rw).unhide⟩
      · refine RDs.mono (Mu := (· = Dp)) (Kp.put rfl hacc6 (fun _ z => nomatch z) (fun _ _ z => nomatch z) (fun _ z => nomatch z)) (fun a n _ => ⟨(hid_un n).2, n⟩) _ _ (racc6.append (.cons rd .nil))
      · simpa using h7
  · left
    have hi' : i = items.length := by omega
    subst hi'
    rw [List.drop_length] at h'
    refine ⟨istop, hT _ _ ?_⟩
    have h' : Fin X.K G W q1 σ H1 (.val (.v (.lst (ds0 ++ []))) st') (Post X.K G (RE X.K) Q q1 H1) := h'
    rw [List.append_nil] at h'
    exact h' _ H' q' af (.v (.lst hacc nD' (RDs.mono (Mu := fun _ => False) Kp.refl (fun a n _ => ⟨id, (hid_un n).1⟩) _ _ racc)))
theorem pd_lc (hc : X.calm = true) (hN : X.N.Nodup) (hi : PI X tg iter (LI X.K G W fi)) (ok : BlkOk X.N X.env.scope scope own)
    (hg : ∀ (s : Shared) (H : Hp) (C : Addr) (cl : List (Str × Addr)) (fp : List Addr), PG (X.blk s H scope (compEnvC scope cl C X.env) fp) tg (LG X.K G (own.map (·.2)) g))
    (ht : ∀ (s : Shared) (H : Hp) (C : Addr) (cl : List (Str × Addr)) (fp : List Addr), PTs (X.blk s H scope (compEnvC scope cl C X.env) fp) ifs (LT X.K G (fun _ _ _ _ => False) ft))
    (he : ∀ (s : Shared) (H : Hp) (C : Addr) (cl : List (Str × Addr)) (fp : List Addr), PE (X.blk s H scope (compEnvC scope cl C X.env) fp) elt (LE X.K G (fun _ _ _ _ => False) fe)) (hs : ∀ x, foldedSetIterable iter X.env x = pure x := by intro _; rfl) :
    PE X (.ListComp elt [⟨tg, iter, ifs, 0⟩] scope pos) (LE X.K G W (fLc (own.map (·.2)) fi g ft fe)) :=
  PE.by (pe_lc hc hN hi ok hg ht he hs) fun σ H Q h => lc_core (T := Q) (fun _ _ q => q) _ h
/-- name = [..] on one line -/
theorem psd_setLc (i : Nat) {y : Str} {py spos : Pos} (hc : X.calm = true) (hN : X.N.Nodup) (hy : X.N[i]? = some y) (hyl : X.env.scope.names.lookup y = some .local)
    (hsw : swapsWith (.ListComp elt [⟨tg, iter, ifs, 0⟩] scope pos) (some (.Name y py)) spos.line X.env = pure true) (hi : PI X tg iter (LI X.K G W fi)) (ok : BlkOk X.N X.env.scope scope own)
    (hg : ∀ (s : Shared) (H : Hp) (C : Addr) (cl : List (Str × Addr)) (fp : List Addr), PG (X.blk s H scope (compEnvC scope cl C X.env) fp) tg (LG X.K G (own.map (·.2)) g))
    (ht : ∀ (s : Shared) (H : Hp) (C : Addr) (cl : List (Str × Addr)) (fp : List Addr), PTs (X.blk s H scope (compEnvC scope cl C X.env) fp) ifs (LT X.K G (fun _ _ _ _ => False) ft))
    (he : ∀ (s : Shared) (H : Hp) (C : Addr) (cl : List (Str × Addr)) (fp : List Addr), PE (X.blk s H scope (compEnvC scope cl C X.env) fp) elt (LE X.K G (fun _ _ _ _ => False) fe)) (hs : ∀ x, foldedSetIterable iter X.env x = pure x := by intro _; rfl) :
    PS X (.Assign [.Name y py] (.ListComp elt [⟨tg, iter, ifs, 0⟩] scope pos) spos) (LS X.K G W (sAsg (fLc (own.map (·.2)) fi g ft fe) (setN i))) :=
  PS.by (ps_setLc hc hN hy hyl hsw hi ok hg ht he hs) fun D σ H ⟨q, ρ, st, rs, h⟩ => by
    refine lc_core (Q := fun x H1 => gName i x σ H1 D.nx) (fun _ _ q => q) (own.map (·.2)) ?_
    exact seqS rs h fun x H1 q1 st1 mx rs1 _ r1 h1 => h1 _ H1 q1 (Stp.refl rs1.rw) (rs1.set r1)
end
/-! ### all(.. for ..), lazily -/
def allLoop (vs : List Nat) (g : MV → Env → Option Env) (fe : Env → M MV) (ρ : Env) : List D → M Bool
  | [] => M.pure true
  | d :: ds => M.bind (M.of (g (.v d) (wipeE ρ vs))) fun ρ1 => M.bind (M.noex (fe ρ1)) fun y => M.bind (M.of (asB y)) fun b => if b = true then allLoop vs g fe ρ ds else M.pure false
def fAllG (vs : List Nat) (fi : Env → M (List D)) (g : MV → Env → Option Env) (fe : Env → M MV) : Env → M MV := fun ρ => M.bind (fi ρ) fun items => M.bind (allLoop vs g fe ρ items) fun b => M.pure (.v (.bl b))
section
variable {X : Cx} {G : DG} {W : WX} {elt tg iter : Expr} {scope : Scope} {own : List (Str × Nat)} {p pos gpos : Pos} {fi : Env → M (List D)} {g : MV → Env → Option Env} {fe : Env → M MV} {c P : Addr} {k : Nat}
theorem pd_allG (hr : Room (k + 1) X.A) (hcalm : X.calm = true) (hN : X.N.Nodup) (hg : Gl X "all") (hm : X.mg "all" = none) (TB : GxR.TabB X.base X.mg c P) (hP : P ∈ G.T) (hcode : X.env.code = .ref c) (ok : BlkOk X.N X.env.scope scope own)
    (hcell : ∀ y ∈ scope.names, y.2 ≠ .cell) (hdotN : (".0" : Str) ∉ X.N) (hdot : scope.names.lookup (".0" : Str) = some NameKind.local) (hco : scope.isCoroutine = false) (hi : PI X tg iter (LI X.K G W fi))
    (hgt : ∀ (A : Around) (s : Shared) (H : Hp) (C : Addr) (cl : List (Str × Addr)) (code : Value) (fp : List Addr), PG (CWG.gcx X A s H (genEnv scope cl C code builtinsNs X.env) fp) tg (LG X.K G (own.map (·.2)) g))
    (he : ∀ (A : Around) (s : Shared) (H : Hp) (C : Addr) (cl : List (Str × Addr)) (code : Value) (fp : List Addr), Room k A → PE (CWG.gcx X A s H (genEnv scope cl C code builtinsNs X.env) fp) elt (LE X.K G (fun _ _ _ _ => False) fe))
    (hs : ∀ v, genFold iter X.env v = pure v := by intro _; rfl)
    (hst : starEach [.GeneratorExp elt [⟨tg, iter, [], 0⟩] scope gpos] X.env = (false, eval (.GeneratorExp elt [⟨tg, iter, [], 0⟩] scope gpos) X.env) :: starEach [] X.env := by rfl) :
    PE X (.Call (.Name "all" p) [.GeneratorExp elt [⟨tg, iter, [], 0⟩] scope gpos] [] pos) (LE X.K G W (fAllG (own.map (·.2)) fi g fe)) :=
  PE.by (CWG.pe_allG hr hcalm hN hg hm TB hcode ok hcell hdotN hdot hco hi hgt he (hs := hs) (hst := hst)) fun σ H Q ⟨q, ρ, st, rs, h⟩ => seqJ rs h fun J H1 q1 st1 items rs1 af1 io h1 => by
    refine ⟨rs1.rw.tabs.1 P hP, fun H2 ht => ?_⟩
    have a0 : Aft X.K G q1 H1 q1 H2 st1 := Aft.of_kp rs1.rw (Kp.tabd (G.nl P hP) (rs1.rw.tabs.1 P hP) ht)
    refine ⟨items.length, fun i H' => ∃ q' st', Aft X.K G q1 H1 q' H' st' ∧ RS X.K G q' (wipe σ (own.map (·.2))) H' (wipeE ρ (own.map (·.2))) st' ∧
      Fin X.K G W q1 σ H1 (M.bind (allLoop (own.map (·.2)) g fe ρ (items.drop i)) (fun b => M.pure (.v (.bl b))) st') (Post X.K G (RE X.K) Q q1 H1),
      ⟨q1, st1, a0, (rs1.wipe _).aft a0, h1⟩, fun H' ⟨q', st', af, rs', h'⟩ => ?_, fun i H' ⟨q', st', af, rs', h'⟩ hlt => ?_⟩
    · rw [List.drop_length] at h'
      obtain ⟨_, istop⟩ := io q' H' (af.kp.mono fun _ h => .inl h) fun a na ne => (af.hu a na ne).2
      have h' : Fin X.K G W q1 σ H1 (.val (.v (.bl true)) st') (Post X.K G (RE X.K) Q q1 H1) := h'
      exact ⟨istop, h' _ H' q' af (.v (.bl true))⟩
    · obtain ⟨iok, _⟩ := io q' H' (af.kp.mono fun _ h => .inl h) fun a na ne => (af.hu a na ne).2
      have hd : items[i]? = some items[i] := List.getElem?_eq_getElem hlt
      obtain ⟨go, yl⟩ := iok i _ hd
      refine ⟨go, fun x H3 hy => ?_⟩
      obtain ⟨kp3, r3⟩ := yl x H3 hy
      have af3 : Aft X.K G q' H' q' H3 st' := Aft.of_kp rs'.rw kp3
      have rs3 := rs'.aft af3
      rw [List.drop_eq_getElem_cons hlt, allLoop, M.assoc] at h'
      obtain ⟨ρ1, eg, h4⟩ := fin_ofk h'
      rw [M.assoc] at h4
      refine ⟨q', _, st', _, ρ1, rs3, .v r3, eg, fun σ4 rs4 l4 o4 => ⟨?_, ?_⟩⟩
      · rw [wipe_ext o4 l4]
        exact wipe_ext (fun j hj => by rw [wipe_out hj]) (wipe_length σ _)
      refine seqN rs4 h4 fun y H5 q5 st5 my rs5 af5 hy5 h5 => ?_
      rw [M.assoc] at h5
      obtain ⟨b, hb, h6⟩ := fin_ofk h5
      refine ⟨b, asB_v hy5 hb, fun hbt => ?_, fun hbf => ?_⟩
      · subst hbt
        simp only [if_true] at h6
        exact ⟨q5, st5, af.trans (af3.trans af5), rs3.aft af5, h6⟩
      · subst hbf
        simp only [Bool.false_eq_true, if_false] at h6
        have h6 : Fin X.K G W q1 σ H1 (.val (.v (.bl false)) st5) (Post X.K G (RE X.K) Q q1 H1) := h6
        exact h6 _ H5 q5 (af.trans (af3.trans af5)) (.v (.bl false))
end
end CD

set_option Elab.async false
set_option linter.all false
set_option maxRecDepth 100000
set_option maxHeartbeats 4000000
namespace CD
open PySem PySem.Spec PyProof.Rows L2

/-! ### functions -/
abbrev WE (E : XK) : WX := fun c d _ H => E c d H
inductive Res where
  | ok (d : D) | exc (e : Ex) | bad
/-- of data alone, with a store of its own -/
def pureF (F : List MV → M MV) (ds : List D) : Res := match F (ds.map .v) [] with
  | .val (.v d) _ => .ok d
  | .exc e _ => .exc e
  | _ => .bad
def M.res : Res → M MV
  | .ok d => M.pure (.v d)
  | .exc e => fun st => .exc e st
  | .bad => fun _ => .bad
/-- the promise of a def: what it makes of values and the store -/
def spS (K : PySem.W.Frag) (G : DG) (n : Nat) (F : List MV → M MV) : Sp := fun vs H Q E => vs.length = n ∧ ∃ q st ms, RW K G q H st ∧ REs K q H vs ms ∧ (∀ i, q.w i = none) ∧ Fin K G (WE E) q [] H (F ms st) (Post K G (RE K) Q q H)
def startE (n : Nat) (ms : List MV) : Env := ms.map (fun x => some (.m x)) ++ List.replicate (n - ms.length) none
def runB (fb : Env → M Fl) (n : Nat) : List MV → M MV := fun ms => M.bind (fb (startE n ms)) fun fl => match fl with
  | .rt x => M.pure x
  | .nx _ => M.pure (.v .non)
  | .bk _ => M.of none
/-- what stands under a global name: a def with its promise, at level k; kb: the ways in which it is called with keywords -/
structure HasF (P : Program) (w : World) (K : PySem.W.Frag) (mg : Str → Option Value) (base : Heap) (G : DG) (k : Nat) (x : Str) (ps : List Str) (kb : List (Nat × List Str)) (F : List MV → M MV) : Prop where
  ex : ∃ f fd, mg x = some (.ref f) ∧ PySem.W.keepIn K (.ref f) = true ∧ Binds K fd ps [] ∧ (∀ p ∈ kb, KBn K fd ps p.1 p.2 (fun us ws => us ++ ws) (fun us ws => us ++ ws)) ∧ FnOk P w K mg base (L2.CX P w) k f fd ps (spS K G ps.length F)
theorem HasF.mono {P : Program} {w : World} {K : PySem.W.Frag} {mg : Str → Option Value} {base : Heap} {G : DG} {j k : Nat} {x : Str} {ps : List Str} {kb : List (Nat × List Str)} {F : List MV → M MV} (h : HasF P w K mg base G j x ps kb F) (hk : j ≤ k) : HasF P w K mg base G k x ps kb F := by
  obtain ⟨f, fd, h1, h2, h3, h4, h5⟩ := h.ex
  exact ⟨f, fd, h1, h2, h3, h4, h5.mono hk⟩
section
variable {K : PySem.W.Frag} {G : DG} {W : WX} {q q' q1 q2 : Wd} {σ σ' : L2.St} {H H' H1 H2 : Hp} {ρ ρ' : Env} {st st' st1 st2 : List O} {α β γ δ : Type}
theorem RMs.get' : ∀ {vs : List V} {ds : List MV} {i : Nat} {d : MV}, RMs K q.un q.m H vs ds → ds[i]? = some d → ∃ v, vs[i]? = some v ∧ RM K q.un q.m H v d := fun r e => r.get e
theorem start_rs {N : List Str} {vs : List V} {ms : List MV} (rw : RW K G q H st) (r : REs K q H vs ms) (hl : vs.length ≤ N.length) : RS K G q (L2.start N vs) H (startE N.length ms) st := by
  have hlen := RMs.length r
  refine ⟨rw, ?_, fun i s e => ?_⟩
  · unfold L2.start startE
    rw [List.length_append, List.length_append, List.length_map, List.length_map, List.length_replicate, List.length_replicate, hlen]
  · unfold startE at e
    by_cases hi : i < ms.length
    · rw [List.getElem?_append_left (by rw [List.length_map]; exact hi), List.getElem?_map] at e
      obtain ⟨x, hx, hs⟩ := Option.map_eq_some_iff.mp e
      cases hs
      obtain ⟨v, hv, rv⟩ := r.get hx
      refine ⟨v, ?_, rv⟩
      unfold L2.start
      rw [List.getElem?_append_left (by rw [List.length_map, hlen]; exact hi), List.getElem?_map, hv]
      rfl
    · rw [List.getElem?_append_right (by rw [List.length_map]; omega)] at e
      obtain ⟨_, e2⟩ := List.getElem?_eq_some_iff.mp e
      rw [List.getElem_replicate] at e2
      cases e2
/-- what was done by statements, seen by the caller -/
theorem Stp.aft (s : Stp K G q H q1 H1 st1) (hw : ∀ i, q.w i = none) : Aft K G q H ⟨q1.m, q.w, q.Z⟩ H1 st1 ∧ ∀ a, ¬ q1.un a → ¬ (Wd.un ⟨q1.m, q.w, q.Z⟩ a) := by
  have hu : ∀ a, ¬ q1.un a → ¬ (Wd.un ⟨q1.m, q.w, q.Z⟩ a) := fun a n h => by
    rcases h with h | ⟨i, h⟩ | h
    · exact n (.inl h)
    · rw [hw i] at h
      cases h
    · exact n (.inr (.inr (by rw [s.Z]; exact h)))
  have nm : ∀ a, q.mu a → a ∈ q.m := fun a h => h.elim id fun ⟨i, z⟩ => by rw [hw i] at z; cases z
  refine ⟨⟨rfl, rfl, s.pre, fun a h n => s.new a (.inl h) fun z => n (nm a z), s.kp.mono nm, ?_⟩, hu⟩
  exact ⟨fun j a o e1 e2 => RO.mono (U := q1.un) (m := q1.m) (Mu := fun _ => False) Kp.refl (fun b n _ => ⟨id, hu b n⟩) (fun _ _ e => e) id (s.rw.objs j a o e1 e2), s.rw.len, s.rw.nd, fun i a e => (by rw [hw i] at e; cases e), fun i j a e => (by rw [hw i] at e; cases e), fun a h z => s.rw.mz a h (by rw [s.Z]; exact z), fun a z => s.rw.zh a (by rw [s.Z]; exact z), s.rw.tabs⟩
end
abbrev cxF (P : Program) (w : World) (K : PySem.W.Frag) (mg : Str → Option Value) (base : Heap) (N : List Str) (qual : Str) (scope : Scope) (f : Addr) (cd : Value) (A : Around) (outer : List PySem.Env) (s : Shared) (H : Hp) (E : XK) : Cx := cxOf (L2.CX P w) P w K mg base N qual scope f cd A outer s H E
section
variable {P : Program} {w : World} {K : PySem.W.Frag} {mg : Str → Option Value} {base : Heap} {G : DG} {N ps : List Str} {x qual : Str} {scope : Scope} {params : Arguments} {body : List Stmt} {f : Addr} {fd : FuncData} {cd : Value} {A : Around} {outer : List PySem.Env} {s : Shared} {H : Hp} {E : XK} {fb : Env → M Fl} {k : Nat}
theorem cx_takes : Takes (cxF P w K mg base N qual scope f cd A outer s H E) (WE E) := takes_of rfl rfl rfl rfl
theorem cx_passes : Passes (L2.CX P w) (cxF P w K mg base N qual scope f cd A outer s H E) E := passes_call (W := WE E) cx_takes fun _ _ _ _ e => e
theorem cx_own : PassesOwn (model P w) (cxF P w K mg base N qual scope f cd A outer s H E).A (cxF P w K mg base N qual scope f cd A outer s H E).env (cxF P w K mg base N qual scope f cd A outer s H E).xe := passes_of rfl
/-- THE RULE: a def's body, read over data, is its promise -/
theorem HasF.of {kb : List (Nat × List Str)} (F : FunD K x qual params body scope [] [] f fd) (hm : mg x = some (.ref f)) (S : FnScope N ps scope) (hps : ps.length ≤ N.length)
    (hb : ∀ (kV doc pm : Value) (an : Option Addr) (cdv ct : Value) (us : List Value), us.length = ps.length → bindArgs (PySem.W.fnOf x qual params body scope .none kV doc pm an cdv ct) ⟨us, []⟩ = pure (ps.zip us))
    (hkb : ∀ p ∈ kb, ∀ (kV doc pm : Value) (an : Option Addr) (cdv ct : Value) (us ws : List Value), us.length = p.1 → ws.length = p.2.length → bindArgs (PySem.W.fnOf x qual params body scope .none kV doc pm an cdv ct) ⟨us, p.2.zip ws⟩ = pure (ps.zip (us ++ ws)))
    (hbody : ∀ (cd : Value) (A : Around) (outer : List PySem.Env) (s : Shared) (H : Hp) (E : XK), Room k (cxF P w K mg base N qual scope f cd A outer s H E).A → PSs (cxF P w K mg base N qual scope f cd A outer s H E) body (LS K G (WE E) fb)) :
    HasF P w K mg base G (k + 1) x ps kb (runB fb N.length) := by
  refine ⟨f, fd, hm, F.kp, F.bindsN hb, fun p hp => CWG.kbn_of F (hkb p hp), F.ok S (fun vs H Q E h => h.1) fun cdv A outer s H vs Q E hr ⟨hl, q, st, ms, rw_, r, hw, fin⟩ => ⟨_, hbody cdv A outer s H E hr, q, startE N.length ms, st, start_rs rw_ r (by omega), ?_⟩⟩
  unfold runB M.bind at fin
  cases e : fb (startE N.length ms) st with
  | bad => rw [e] at fin; exact fin.elim
  | exc ex st' =>
    rw [e] at fin
    exact fun c d σ' H' q' stp rx => fin c d H' _ (stp.aft hw).1 rx
  | val fl st' =>
    rw [e] at fin
    cases fl with
    | nx ρ' => exact fun σ' H' q' stp rs => fin .non H' _ (stp.aft hw).1 (.v .non)
    | rt y => exact fun v H' q' stp r => fin v H' _ (stp.aft hw).1 (RM.mono (Mu := fun _ => False) (U := q'.un) (m := q'.m) Kp.refl (fun a n _ => ⟨id, (stp.aft hw).2 a n⟩) (fun _ _ e => e) y v r)
    | bk ρ' => exact fin.elim
end
def fCallP (n : Nat) (F : List MV → M MV) (fs : Env → M (List MV)) : Env → M MV := fun ρ => M.bind (fs ρ) fun ms => M.bind (M.of (if ms.length = n then toDs ms else none)) fun ds => M.res (pureF F ds)
def fCallS (n : Nat) (F : List MV → M MV) (fs : Env → M (List MV)) : Env → M MV := fun ρ => M.bind (fs ρ) fun ms => M.bind (M.of (if ms.length = n then some () else none)) fun _ => F ms
def fApp (fs gs : Env → M (List MV)) : Env → M (List MV) := fun ρ => M.bind (fs ρ) fun xs => M.bind (gs ρ) fun ys => M.pure (xs ++ ys)
section
variable {K : PySem.W.Frag} {G : DG} {q q' q1 q2 : Wd} {σ σ' : L2.St} {H H' H1 H2 : Hp} {ρ ρ' : Env} {st st' st1 st2 : List O} {n : Nat} {F : List MV → M MV} {vs : List V} {ms : List MV} {E : XK} {Q : VK}
theorem RDs.conv {U U' : Addr → Prop} (h : ∀ a, ¬ U a → ¬ U' a) {ds : List D} {vs : List V} (r : RDs K U H vs ds) : RDs K U' H vs ds := RDs.mono (Mu := fun _ => False) Kp.refl (fun a n _ => ⟨id, h a n⟩) ds vs r
theorem RD.conv {U U' : Addr → Prop} (h : ∀ a, ¬ U a → ¬ U' a) {d : D} {v : V} (r : RD K U H v d) : RD K U' H v d := RD.mono (Mu := fun _ => False) Kp.refl (fun a n _ => ⟨id, h a n⟩) d v r
/-- the call's last step: of data alone -/
theorem sp_pure (rw : RW K G q H st) (r : REs K q H vs ms) (h : Fin K G (WE E) q σ H (M.bind (M.of (if ms.length = n then toDs ms else none)) (fun ds => M.res (pureF F ds)) st) (Post K G (RE K) Q q H)) : spS K G n F vs H Q E := by
  obtain ⟨ds, e, h⟩ := fin_ofk h
  split at e
  rotate_left
  · cases e
  rename_i hn
  have rd := toDs_v e r
  refine ⟨(RMs.length r).trans hn, ⟨[], fun _ => none, q.un⟩, [], ds.map .v, ?_, ?_, fun _ => rfl, ?_⟩
  · exact ⟨fun j a o e => by simp at e, rfl, List.nodup_nil, fun i a e => (nomatch e), fun i j a e => (nomatch e), fun a h => (nomatch h), fun a z => rw.al z, rw.tabs⟩
  · refine RDs.ms (rd.conv fun a n h => ?_)
    rcases h with h | ⟨i, h⟩ | h
    · cases h
    · cases h
    · exact n h
  · unfold pureF at h
    cases e2 : F (ds.map .v) [] with
    | bad => rw [e2] at h; exact h.elim
    | exc ex st' =>
      rw [e2] at h
      exact fun c d H' q' a rx => h c d H' q (Aft.of_kp rw (a.kp.mono fun _ z => nomatch z)) rx
    | val x st' =>
      rw [e2] at h
      cases x with
      | v d =>
        intro v H' q' a rv
        refine h v H' q (Aft.of_kp rw (a.kp.mono fun _ z => nomatch z)) ?_
        cases rv with | v rv =>
        exact .v (rv.conv fun b nb hb => nb (.inr (.inr (by rw [a.Z]; exact hb))))
      | obj j => exact h.elim
      | objs js => exact h.elim
      | mtup js => exact h.elim
/-- the call's last step: of values and the store -/
theorem sp_store (rw : RW K G q H st) (r : REs K q H vs ms) (h : Fin K G (WE E) q σ H (M.bind (M.of (if ms.length = n then some () else none)) (fun _ => F ms) st) (Post K G (RE K) Q q H)) : spS K G n F vs H Q E := by
  obtain ⟨ds, e, h⟩ := fin_ofk h
  split at e
  rotate_left
  · cases e
  rename_i hn
  have hu : ∀ a, q.un a ↔ Wd.un ⟨q.m, fun _ => none, fun a => q.Z a ∨ ∃ i, q.w i = some a⟩ a := fun a => by
    unfold Wd.un
    constructor
    · rintro (h | h | h)
      · exact .inl h
      · exact .inr (.inr (.inr h))
      · exact .inr (.inr (.inl h))
    · rintro (h | ⟨i, h⟩ | h | h)
      · exact .inl h
      · cases h
      · exact .inr (.inr h)
      · exact .inr (.inl h)
  refine ⟨(RMs.length r).trans hn, ⟨q.m, fun _ => none, fun a => q.Z a ∨ ∃ i, q.w i = some a⟩, st, ms, ?_, ?_, fun _ => rfl, ?_⟩
  · refine ⟨fun j a o e1 e2 => RO.mono (U := q.un) (m := q.m) (Mu := fun _ => False) Kp.refl (fun b n _ => ⟨id, fun z => n ((hu b).mpr z)⟩) (fun _ _ e => e) id (rw.objs j a o e1 e2), rw.len, rw.nd, fun i a e => (nomatch e), fun i j a e => (nomatch e), fun a h z => ?_, fun a z => rw.al ((hu a).mpr (.inr (.inr z))), rw.tabs⟩
    rcases z with z | ⟨i, z⟩
    · exact rw.mz a h z
    · exact (rw.mw i a z).1 h
  · exact RMs.mono (Mu := fun _ => False) Kp.refl (fun b n _ => ⟨id, fun z => n ((hu b).mpr z)⟩) (fun _ _ e => e) _ _ r
  · have back : ∀ {q' : Wd} {H' : Hp} {st' : List O}, Aft K G ⟨q.m, fun _ => none, fun a => q.Z a ∨ ∃ i, q.w i = some a⟩ H q' H' st' → Aft K G q H ⟨q'.m, q.w, q.Z⟩ H' st' ∧ ∀ a, ¬ q'.un a → ¬ Wd.un ⟨q'.m, q.w, q.Z⟩ a := fun {q' H' st'} a => by
      have hu2 : ∀ b, ¬ q'.un b → ¬ Wd.un ⟨q'.m, q.w, q.Z⟩ b := fun b nb z => by
        rcases z with z | z | z
        · exact nb (.inl z)
        · exact nb (.inr (.inr (by rw [a.Z]; exact .inr z)))
        · exact nb (.inr (.inr (by rw [a.Z]; exact .inl z)))
      refine ⟨⟨rfl, rfl, a.pre, a.new, a.kp, fun j b o e1 e2 => RO.mono (U := q'.un) (m := q'.m) (Mu := fun _ => False) Kp.refl (fun b n _ => ⟨id, hu2 b n⟩) (fun _ _ e => e) id (a.rw.objs j b o e1 e2), a.rw.len, a.rw.nd, fun i b e => ⟨fun z => ?_, (rw.mw i b e).2.1, a.kp.al b (rw.mw i b e).2.2⟩, rw.ww, fun b h z => a.rw.mz b h (by rw [a.Z]; exact .inl z), fun b z => a.kp.al b (rw.zh b z), a.rw.tabs⟩, hu2⟩
      exact a.rw.mz b z (by rw [a.Z]; exact .inr ⟨i, e⟩)
    cases e2 : F ms st with
    | bad => rw [e2] at h; exact h.elim
    | exc ex st' =>
      rw [e2] at h
      exact fun c d H' q' a rx => h c d H' _ (back a).1 rx
    | val x st' =>
      rw [e2] at h
      exact fun v H' q' a rv => h v H' _ (back a).1 (RM.mono (Mu := fun _ => False) (U := q'.un) (m := q'.m) Kp.refl (fun b n _ => ⟨id, (back a).2 b n⟩) (fun _ _ e => e) x v rv)
end
section
variable {X : Cx} {G : DG} {E : XK} {e : Expr} {es : List Expr} {fs gs : Env → M (List MV)} {kws : List Keyword} {x : Str} {ps ks : List Str} {kb : List (Nat × List Str)} {F : List MV → M MV} {k n : Nat} {p pos : Pos}
theorem pd_callP (h : HasF X.prog X.w X.K X.mg X.base G k x ps kb F) (hr : Room k X.A) (hg : Gl X x) (hx : Passes (L2.CX X.prog X.w) X E) (ha : PA X (e :: es) (LA X.K G (WE E) fs)) (hdb : (x == ("__debug__" : Str)) = false := by decide)
    (he : starEach (e :: es) X.env = (false, eval e X.env) :: starEach es X.env := by rfl) (hpl : (backTo pos (starEach es X.env)).any (·.1) = false := by rfl) : PE X (.Call (.Name x p) (e :: es) [] pos) (LE X.K G (WE E) (fCallP ps.length F fs)) := by
  obtain ⟨f, fd, hm, hk, hb, _, F⟩ := h.ex
  refine PE.by (pe_call F hr hg hm hk hb .nil hx ha hdb he hpl) fun σ H Q ⟨q, ρ, st, rs, h⟩ => seq rs h fun vs H1 q1 st1 ms rs1 _ r1 h1 => ?_
  rw [List.append_nil]
  exact sp_pure rs1.rw r1 h1
theorem pd_callS (h : HasF X.prog X.w X.K X.mg X.base G k x ps kb F) (hr : Room k X.A) (hg : Gl X x) (hx : Passes (L2.CX X.prog X.w) X E) (ha : PA X (e :: es) (LA X.K G (WE E) fs)) (hdb : (x == ("__debug__" : Str)) = false := by decide)
    (he : starEach (e :: es) X.env = (false, eval e X.env) :: starEach es X.env := by rfl) (hpl : (backTo pos (starEach es X.env)).any (·.1) = false := by rfl) : PE X (.Call (.Name x p) (e :: es) [] pos) (LE X.K G (WE E) (fCallS ps.length F fs)) := by
  obtain ⟨f, fd, hm, hk, hb, _, F⟩ := h.ex
  refine PE.by (pe_call F hr hg hm hk hb .nil hx ha hdb he hpl) fun σ H Q ⟨q, ρ, st, rs, h⟩ => seq rs h fun vs H1 q1 st1 ms rs1 _ r1 h1 => ?_
  rw [List.append_nil]
  exact sp_store rs1.rw r1 h1
/-! with keywords -/
theorem PK.by {X : Cx} {es : List Keyword} {t t' : TA} (h : PK X es t) (i : ∀ σ H Q, t' σ H Q → t σ H Q) : PK X es t' := ⟨fun pos pins s σ H Q I w => h.run pos pins s σ H Q I (i σ H Q w)⟩
variable {W : WX} {f : Env → M MV} {nm : Option Str} {kpos : Pos}
theorem pkd_nil : PK X [] (LA X.K G W fNil) := PK.by pk_nil fun σ H Q ⟨q, ρ, st, rs, h⟩ => fin_pure rs.rw h .nil
theorem pkd_cons (ha : PE X e (LE X.K G W f)) (hr : PK X kws (LA X.K G W fs)) : PK X (⟨nm, e, kpos⟩ :: kws) (LA X.K G W (fCons f fs)) :=
  PK.by (pk_cons ha hr) fun σ H Q ⟨q, ρ, st, rs, h⟩ => seq rs h fun x H1 q1 st1 mx rs1 _ r1 h1 => seq rs1 h1 fun xs H2 q2 st2 ms rs2 a2 r2 h2 =>
    fin_pure rs2.rw h2 (.cons (r1.aft a2) r2)
theorem RMs.append {K : PySem.W.Frag} {U : Addr → Prop} {m : List Addr} {H : Hp} : ∀ {vs vs' : List V} {ds ds' : List MV}, RMs K U m H vs ds → RMs K U m H vs' ds' → RMs K U m H (vs ++ vs') (ds ++ ds')
  | _, _, _, _, .nil, s => s
  | _, _, _, _, .cons h t, s => .cons h (RMs.append t s)
/-- the arguments' reading with keywords -/
theorem app_core {K : PySem.W.Frag} {α : Type} {q : Wd} {σ : L2.St} {H : Hp} {ρ : Env} {st : List O} {W : WX} {Q : VK} {k : List MV → M MV} {Q' : List V → List V → Hp → Prop} (rs : RS K G q σ H ρ st) (h : Fin K G W q σ H (M.bind (fApp fs gs ρ) k st) (Post K G (RE K) Q q H))
    (c : ∀ vs zs H1 q1 st1 ms, RS K G q1 σ H1 ρ st1 → REs K q1 H1 (vs ++ zs) ms → Fin K G W q1 σ H1 (k ms st1) (Post K G (RE K) Q q1 H1) → Q' vs zs H1) : LA K G W fs σ H (fun vs H1 => LA K G W gs σ H1 (fun zs H2 => Q' vs zs H2)) := by
  unfold fApp at h
  rw [M.assoc] at h
  refine seq rs h fun vs H1 q1 st1 ms rs1 _ r1 h1 => ?_
  rw [M.assoc] at h1
  exact seq rs1 h1 fun zs H2 q2 st2 ns rs2 a2 r2 h2 => c vs zs H2 q2 st2 (ms ++ ns) rs2 ((r1.aft a2).append r2) h2
end
end CD

set_option Elab.async false
set_option linter.all false
set_option maxRecDepth 100000
set_option maxHeartbeats 4000000
namespace CD
open PySem PySem.Spec PyProof.Rows L2

/-! ### the module's names; small operators -/
def negM (_ : List O) : MV → Option MV
  | .v (.int i) => some (.v (.int (-i)))
  | _ => none
section
variable {X : Cx} {G : DG} {W : WX} {e a b : Expr} {f g : Env → M MV} {x : Str} {pos : Pos}
theorem pd_gint {i : Int} (hg : Gl X x) (h : ∃ t, X.mg x = some (.int i t)) (hd : (x == ("__debug__" : Str)) = false := by decide) : PE X (.Name x pos) (LE X.K G W (fC (.v (.int i)))) := by
  obtain ⟨t, hm⟩ := h
  exact pd_c (pe_glob (v := .int i) hg hm ⟨t, rfl⟩ hd) fun _ _ => .v (.int i)
theorem pd_gstr {z : Str} (hg : Gl X x) (h : ∃ t, X.mg x = some (.str z t)) (hd : (x == ("__debug__" : Str)) = false := by decide) : PE X (.Name x pos) (LE X.K G W (fC (.v (.str z)))) := by
  obtain ⟨t, hm⟩ := h
  exact pd_c (pe_glob (v := .str z) hg hm ⟨t, rfl⟩ hd) fun _ _ => .v (.str z)
theorem pd_neg (ha : PE X a (LE X.K G W f)) : PE X (.UnaryOp .USub a pos) (LE X.K G W (fUn negM f)) :=
  PE.by (pe_un un_neg ha) fun σ H Q ⟨q, ρ, st, rs, h⟩ => seq rs h fun y H1 q1 st1 my rs1 _ r1 h1 => by
    obtain ⟨z, hz, p⟩ := fin_rd rs1.rw h1
    unfold negM at hz
    split at hz <;> cases hz
    cases r1 with | v r1 =>
    cases r1
    exact ⟨_, rfl, p _ H1 Kp.refl (.v (.int _))⟩
theorem pd_and1 (h : PE X b (LE X.K G W f)) : PE X (.BoolOp .And [b] pos) (LE X.K G W f) := ⟨fun pins s σ H Q I w => by
  show wpAny _ _ (eval b X.env) _ _ _
  exact h.run pins s σ H Q I w⟩
theorem pd_or1 (h : PE X b (LE X.K G W f)) : PE X (.BoolOp .Or [b] pos) (LE X.K G W f) := ⟨fun pins s σ H Q I w => by
  show wpAny _ _ (eval b X.env) _ _ _
  exact h.run pins s σ H Q I w⟩
theorem passF {X : Cx} : Passes (L2.CX X.prog X.w) X (fun _ _ _ => False) := fun _ _ _ _ _ _ _ h => by
  obtain ⟨_, _, _, _, _, _, _, _, _, _, _, _, z⟩ := h
  exact z.elim
end
/-! ### while -/
def whileS (t : Env → M Bool) (body : Env → M Fl) : Nat → Env → M Fl
  | 0, _ => M.of none
  | n + 1, ρ => M.bind (t ρ) fun b => if b = true then M.bind (body ρ) fun fl => match fl with
      | .nx ρ' => whileS t body n ρ'
      | .bk ρ' => M.pure (.nx ρ')
      | .rt x => M.pure (.rt x)
    else M.pure (.nx ρ)
def sWhile (fuel : Env → Nat) (t : Env → M Bool) (body : Env → M Fl) : Env → M Fl := fun ρ => whileS t body (fuel ρ) ρ
def sAug (i : Nat) (o : List O → MV → MV → Option MV) (f : Env → M MV) : Env → M Fl := fun ρ => M.bind (fVar i ρ) fun x => M.bind (f ρ) fun y => M.bind (M.rd fun st => o st x y) fun z => M.pure (.nx (setE ρ i z))
section
variable {X : Cx} {G : DG} {W : WX} {e c : Expr} {body : List Stmt} {t : Env → M Bool} {fb : Env → M Fl} {f : Env → M MV} {x : Str} {pos pos' : Pos}
theorem psd_while (fuel : Env → Nat) (hp : PassesOwn (model X.prog X.w) X.A X.env X.xe) (hc : PT X c (LT X.K G W t)) (hb : PSs X body (LS X.K G W fb)) : PS X (.While c body [] pos) (LS X.K G W (sWhile fuel t fb)) :=
  PS.by (ps_while hp hc hb) fun D σ H ⟨q, ρ, st, rs, h⟩ => by
    refine ⟨fun m σ' H' => ∃ q' ρ' st', RS X.K G q' σ' H' ρ' st' ∧ FinS X.K G W D q' H' (whileS t fb m ρ' st'), ⟨_, q, ρ, st, rs, h⟩, fun m σ' H' ⟨q', ρ', st', rs', h'⟩ => ?_⟩
    cases m with
    | zero => exact h'.elim
    | succ m =>
      refine seqS rs' h' fun b H1 q1 st1 mb rs1 _ r1 h1 => ?_
      cases (show b = mb from r1)
      cases b with
      | false =>
        simp only [Bool.false_eq_true, if_false] at h1 ⊢
        exact h1 σ' H1 q1 (Stp.refl rs1.rw) rs1
      | true =>
        simp only [if_true] at h1 ⊢
        refine ⟨fun σ2 H2 => ∃ q2 ρ2 st2, RS X.K G q2 σ2 H2 ρ2 st2 ∧ FinS X.K G W D q2 H2 (whileS t fb m ρ2 st2), fun σ2 H2 w => ⟨m, Nat.lt_succ_self m, w⟩, q1, ρ', st1, rs1, ?_⟩
        unfold M.bind at h1
        cases eb : fb ρ' st1 with
        | bad => rw [eb] at h1; exact h1
        | exc ex st' => rw [eb] at h1; exact h1
        | val fl st5 =>
          rw [eb] at h1
          cases fl with
          | nx ρ2 => exact fun σ5 H5 q5 s5 r5 => ⟨q5, ρ2, st5, r5, FinS.stp (show FinS X.K G W D q1 H1 (whileS t fb m ρ2 st5) from h1) s5⟩
          | rt x => exact h1
          | bk ρ2 => exact h1
/-- x += e -/
theorem psd_aug (i : Nat) (hN : X.N.Nodup) (hi : X.N[i]? = some x) (hx : Loc X.env.scope x) (he : PE X e (LE X.K G W f)) (hf : X.fn x = true ∨ X.env.scope.names.lookup x = some .local := by first | exact .inl rfl | exact .inr rfl | assumption) :
    PS X (.AugAssign (.Name x pos') .Add e pos) (LS X.K G W (sAug i (i2M (fun _ _ => true) fun i j => .int (i + j)) f)) :=
  PS.by (ps_aug hN hi hx he ip_add hf) fun D σ H ⟨q, ρ, st, rs, h⟩ => by
    have h : FinS X.K G W D q H (M.bind (fVar i ρ) _ st) := h
    unfold fVar M.bind M.rd at h
    cases e1 : ρ[i]? with
    | none => rw [e1] at h; exact h.elim
    | some s =>
      rw [e1] at h
      cases s with
      | none => exact h.elim
      | some s =>
        cases s with
        | own o => exact h.elim
        | m y =>
          obtain ⟨v, ev, rv⟩ := rs.slot i _ e1
          refine ⟨v, ev, ?_⟩
          refine seqS rs (show FinS X.K G W D q H (M.bind (f ρ) _ st) from h) fun z H1 q1 st1 mz rs1 a1 r1 h1 => ?_
          unfold i2M at h1
          cases y with
          | v d =>
            cases mz with
            | v d2 =>
              cases d with
              | int n =>
                cases d2 with
                | int n2 =>
                  cases rv with | v rv =>
                  cases rv
                  cases r1 with | v r1 =>
                  cases r1
                  refine ⟨n, n2, rfl, rfl, ?_⟩
                  exact h1 _ H1 q1 (Stp.refl rs1.rw) (rs1.set (s := .m (.v (.int (n + n2)))) (.v (.int _)))
                | _ => exact h1.elim
              | _ => exact h1.elim
            | _ => cases d <;> exact h1.elim
          | _ => exact h1.elim
end
def sPar (i j : Nat) (fs : Env → M (List MV)) : Env → M Fl := fun ρ => M.bind (fs ρ) fun ms => M.bind (M.of (match ms with
  | [x, y] => some (setE (setE ρ i x) j y)
  | _ => none)) fun ρ' => M.pure (.nx ρ')
theorem psd_par {X : Cx} {G : DG} {W : WX} (i j : Nat) {x y : Str} {a b : Expr} {fs : Env → M (List MV)} {pos px py pt : Pos} {kt k2 pt2} (hc : X.calm = true) (hN : X.N.Nodup) (hi : X.N[i]? = some x) (hj : X.N[j]? = some y) (hij : i ≠ j)
    (hx : X.env.scope.names.lookup x = some .local) (hy : X.env.scope.names.lookup y = some .local) (ha : PA X [a, b] (LA X.K G W fs))
    (hw : swappedStores [.Tuple [.Name x px, .Name y py] kt pt] (.Tuple [a, b] k2 pt2) X.env = pure (some [x, y]))
    (hs : swapsWithSole [.Tuple [.Name x px, .Name y py] kt pt] (.Tuple [a, b] k2 pt2) pos.line X.env = pure false := by rfl) :
    PS X (.Assign [.Tuple [.Name x px, .Name y py] kt pt] (.Tuple [a, b] k2 pt2) pos) (LS X.K G W (sPar i j fs)) :=
  PS.by (ps_par hc hN hi hj hij hx hy ha hw hs) fun D σ H ⟨q, ρ, st, rs, h⟩ => seqS rs h fun vs H1 q1 st1 ms rs1 _ r1 h1 => by
    match ms, r1, h1 with
    | [u, v], r1, h1 =>
      obtain ⟨a, b, rfl, ra, rb⟩ := two_of r1
      exact ⟨a, b, rfl, h1 _ H1 q1 (Stp.refl rs1.rw) ((rs1.set (s := .m u) ra).set (s := .m v) rb)⟩
    | [], _, h1 => exact h1.elim
    | [_], _, h1 => exact h1.elim
    | _ :: _ :: _ :: _, _, h1 => exact h1.elim
/-! ### lists that one slot owns -/
def sOwn (i : Nat) (fs : Env → M (List MV)) : Env → M Fl := fun ρ => M.bind (fs ρ) fun ms => M.bind (M.of (if szOk ms.length = true then toDs ms else none)) fun ds => M.pure (.nx (ρ.set i (some (.own (.lst ds)))))
def ownL (ρ : Env) (i : Nat) : Option (List D) := match ρ[i]? with
  | some (some (.own (.lst ds))) => some ds
  | _ => none
def sApp (i : Nat) (f : Env → M MV) : Env → M Fl := fun ρ => M.bind (M.of (ownL ρ i)) fun ds => M.bind (f ρ) fun y => M.bind (M.of (asD y)) fun d => if szOk (ds.length + 1) = true then M.pure (.nx (ρ.set i (some (.own (.lst (ds ++ [d])))))) else M.of none
def sExt (i : Nat) (f : Env → M MV) : Env → M Fl := fun ρ => M.bind (M.of (ownL ρ i)) fun ds => M.bind (f ρ) fun y => M.bind (M.of (match y with
  | .v (.lst es) => some es
  | _ => none)) fun es => if szOk (ds.length + es.length) = true then M.pure (.nx (ρ.set i (some (.own (.lst (ds ++ es)))))) else M.of none
/-- from here on nobody writes it -/
def frz (i : Nat) (ρ : Env) : Env := match ρ[i]? with
  | some (some (.own (.lst ds))) => ρ.set i (some (.m (.v (.lst ds))))
  | some (some (.own (.dK ds))) => ρ.set i (some (.m (.v (.dic ds))))
  | some (some (.own (.dT ds))) => ρ.set i (some (.m (.v (.dit ds))))
  | _ => ρ
section
variable {K : PySem.W.Frag} {G : DG} {W : WX} {q q' q1 q2 : Wd} {σ σ' : L2.St} {H H' H1 H2 : Hp} {ρ ρ' : Env} {st st' st1 st2 : List O}
def Wd.own (q : Wd) (i : Nat) (p : Addr) : Wd := { q with w := fun j => if j = i then some p else q.w j }
/-- a new list that the slot i owns -/
theorem RS.own (rs : RS K G q σ H ρ st) {i : Nat} {p : Addr} {vs : List V} {ds : List D} (hp : H p = none) (r : RDs K q.un H vs ds) :
    Stp K G q H (q.own i p) (upd H p (.lst vs)) st ∧ RS K G (q.own i p) (σ.set i (some (.ref p))) (upd H p (.lst vs)) (ρ.set i (some (.own (.lst ds)))) st := by
  have k : Kp (fun _ => False) H (upd H p (.lst vs)) := Kp.new hp
  have hu : ∀ a, ¬ q.un a → H a ≠ none → ¬ (fun _ : Addr => False) a ∧ ¬ (q.own i p).un a := fun a n ne => ⟨id, fun z => by
    rcases z with z | ⟨j, z⟩ | z
    · exact n (.inl z)
    · by_cases hj : j = i
      · have z : (if j = i then some p else q.w j) = some a := z
        rw [if_pos hj] at z
        cases z
        exact ne hp
      · have z : (if j = i then some p else q.w j) = some a := z
        rw [if_neg hj] at z
        exact n (.inr (.inl ⟨j, z⟩))
    · exact n (.inr (.inr z))⟩
  have np := rs.rw.fresh hp
  have rw' : RW K G (q.own i p) (upd H p (.lst vs)) st := by
    refine ⟨fun j a o e1 e2 => RO.mono k hu (fun _ _ e => e) id (rs.rw.objs j a o e1 e2), rs.rw.len, rs.rw.nd, fun j a e => ?_, fun j j2 a e e2 => ?_, rs.rw.mz, fun a z => k.al a (rs.rw.zh a z), k.tabs rs.rw.tabs⟩
    · have e : (if j = i then some p else q.w j) = some a := e
      by_cases hj : j = i
      · rw [if_pos hj] at e
        cases e
        exact ⟨fun z => np (.inl z), fun z => np (.inr (.inr z)), by rw [upd_same]; exact nofun⟩
      · rw [if_neg hj] at e
        exact ⟨(rs.rw.mw j a e).1, (rs.rw.mw j a e).2.1, k.al a (rs.rw.mw j a e).2.2⟩
    · have e : (if j = i then some p else q.w j) = some a := e
      have e2 : (if j2 = i then some p else q.w j2) = some a := e2
      by_cases hj : j = i
      · by_cases hj2 : j2 = i
        · rw [hj, hj2]
        · rw [if_pos hj] at e
          rw [if_neg hj2] at e2
          cases e
          exact absurd (Or.inr (Or.inl ⟨j2, e2⟩)) np
      · by_cases hj2 : j2 = i
        · rw [if_neg hj] at e
          rw [if_pos hj2] at e2
          cases e2
          exact absurd (Or.inr (Or.inl ⟨j, e⟩)) np
        · rw [if_neg hj] at e
          rw [if_neg hj2] at e2
          exact rs.rw.ww j j2 a e e2
  refine ⟨⟨rfl, fun _ _ e => e, fun a h n => ?_, k.mono fun _ h => h.elim, rw'⟩, rw', by rw [List.length_set, List.length_set]; exact rs.sl, fun j s e => ?_⟩
  · rcases h with h | ⟨j, h⟩
    · exact absurd (Or.inl h) n
    · have h : (if j = i then some p else q.w j) = some a := h
      by_cases hj : j = i
      · rw [if_pos hj] at h
        cases h
        exact hp
      · rw [if_neg hj] at h
        exact absurd (Or.inr ⟨j, h⟩) n
  · by_cases hj : i = j
    · subst hj
      have hl : i < ρ.length := by
        obtain ⟨h, _⟩ := List.getElem?_eq_some_iff.mp e
        rw [List.length_set] at h
        exact h
      rw [List.getElem?_set_self hl] at e
      cases e
      exact ⟨.ref p, List.getElem?_set_self (by rw [← rs.sl]; exact hl), p, by show (if i = i then some p else q.w i) = some p; rw [if_pos rfl], rfl, vs, upd_same, RDs.mono k hu ds vs r⟩
    · rw [List.getElem?_set_ne hj] at e
      obtain ⟨v', e1, r'⟩ := rs.slot j s e
      refine ⟨v', by rw [List.getElem?_set_ne hj]; exact e1, ?_⟩
      cases s with
      | m x => exact RM.mono k hu (fun _ _ e => e) x v' r'
      | own o' =>
        obtain ⟨a, h1, h2, h3⟩ := r'
        refine ⟨a, ?_, h2, ROL.mono k hu id h3⟩
        show (if j = i then some p else q.w j) = some a
        rw [if_neg (fun z => hj z.symm)]
        exact h1
/-- the owned list is written -/
theorem RS.ownPut (rs : RS K G q σ H ρ st) {i : Nat} {p : Addr} {xs vs : List V} {ds ds0 : List D} (hw : q.w i = some p) (e0 : ρ[i]? = some (some (.own (.lst ds0)))) (hp : H p = some (.lst xs)) (r : RDs K q.un H vs ds) :
    Stp K G q H q (upd H p (.lst vs)) st ∧ RS K G q σ (upd H p (.lst vs)) (ρ.set i (some (.own (.lst ds)))) st := by
  have k : Kp (· = p) H (upd H p (.lst vs)) := Kp.put rfl hp (fun _ z => nomatch z) (fun _ _ z => nomatch z) (fun _ z => nomatch z)
  have hu : ∀ a, ¬ q.un a → H a ≠ none → ¬ a = p ∧ ¬ q.un a := fun a n _ => ⟨fun y => n (y ▸ .inr (.inl ⟨i, hw⟩)), n⟩
  have rw' : RW K G q (upd H p (.lst vs)) st := ⟨fun j a o e1 e2 => RO.mono k hu (fun _ _ e => e) (fun y => (rs.rw.mw i p hw).1 (by rw [← y]; exact List.mem_of_getElem? e1)) (rs.rw.objs j a o e1 e2), rs.rw.len, rs.rw.nd, fun i a e => ⟨(rs.rw.mw i a e).1, (rs.rw.mw i a e).2.1, k.al a (rs.rw.mw i a e).2.2⟩, rs.rw.ww, rs.rw.mz, fun a z => k.al a (rs.rw.zh a z), k.tabs rs.rw.tabs⟩
  refine ⟨⟨rfl, fun _ _ e => e, fun a h n => absurd h n, k.mono fun a h => .inr ⟨i, by rw [h]; exact hw⟩, rw'⟩, rw', by rw [List.length_set]; exact rs.sl, fun j s e => ?_⟩
  by_cases hj : i = j
  · subst hj
    have hl : i < ρ.length := by
      obtain ⟨h, _⟩ := List.getElem?_eq_some_iff.mp e
      rw [List.length_set] at h
      exact h
    rw [List.getElem?_set_self hl] at e
    cases e
    obtain ⟨v, e1, a, h1, h2, h3⟩ := rs.slot i _ e0
    rw [hw] at h1
    cases h1
    exact ⟨v, e1, p, hw, h2, vs, upd_same, RDs.mono k hu ds vs r⟩
  · rw [List.getElem?_set_ne hj] at e
    obtain ⟨v', e1, r'⟩ := rs.slot j s e
    refine ⟨v', e1, ?_⟩
    cases s with
    | m x => exact RM.mono k hu (fun _ _ e => e) x v' r'
    | own o' =>
      obtain ⟨a, h1, h2, h3⟩ := r'
      exact ⟨a, h1, h2, ROL.mono k hu (fun y => hj (rs.rw.ww i j p hw (by rw [← y]; exact h1))) h3⟩
/-- nobody writes it any more -/
theorem RS.frz (rs : RS K G q σ H ρ st) (i : Nat) : RS K G { q with w := fun j => if j = i then none else q.w j } σ H (frz i ρ) st ∧ Stp K G q H { q with w := fun j => if j = i then none else q.w j } H st ∨ frz i ρ = ρ := by
  by_cases ho : ∃ o, ρ[i]? = some (some (.own o))
  · left
    obtain ⟨o, ho⟩ := ho
    obtain ⟨v0, ev0, p, hw, rfl, ro⟩ := rs.slot i _ ho
    have hu : ∀ a, ¬ q.un a → ¬ Wd.un { q with w := fun j => if j = i then none else q.w j } a := fun a n z => by
      rcases z with z | ⟨j, z⟩ | z
      · exact n (.inl z)
      · have z : (if j = i then none else q.w j) = some a := z
        by_cases hj : j = i
        · rw [if_pos hj] at z
          cases z
        · rw [if_neg hj] at z
          exact n (.inr (.inl ⟨j, z⟩))
      · exact n (.inr (.inr z))
    have hu' : ∀ a, ¬ q.un a → H a ≠ none → ¬ (fun _ : Addr => False) a ∧ ¬ Wd.un { q with w := fun j => if j = i then none else q.w j } a := fun a n _ => ⟨id, hu a n⟩
    have np : ¬ Wd.un { q with w := fun j => if j = i then none else q.w j } p := fun z => by
      rcases z with z | ⟨j, z⟩ | z
      · exact (rs.rw.mw i p hw).1 z
      · have z : (if j = i then none else q.w j) = some p := z
        by_cases hj : j = i
        · rw [if_pos hj] at z
          cases z
        · rw [if_neg hj] at z
          exact hj (rs.rw.ww j i p z hw)
      · exact (rs.rw.mw i p hw).2.1 z
    have rw' : RW K G { q with w := fun j => if j = i then none else q.w j } H st := by
      refine ⟨fun j a o e1 e2 => RO.mono (Mu := fun _ => False) Kp.refl hu' (fun _ _ e => e) id (rs.rw.objs j a o e1 e2), rs.rw.len, rs.rw.nd, fun j a e => ?_, fun j j2 a e e2 => ?_, rs.rw.mz, rs.rw.zh, rs.rw.tabs⟩
      · have e : (if j = i then none else q.w j) = some a := e
        by_cases hj : j = i
        · rw [if_pos hj] at e
          cases e
        · rw [if_neg hj] at e
          exact rs.rw.mw j a e
      · have e : (if j = i then none else q.w j) = some a := e
        have e2 : (if j2 = i then none else q.w j2) = some a := e2
        by_cases hj : j = i
        · rw [if_pos hj] at e
          cases e
        · by_cases hj2 : j2 = i
          · rw [if_pos hj2] at e2
            cases e2
          · rw [if_neg hj] at e
            rw [if_neg hj2] at e2
            exact rs.rw.ww j j2 a e e2
    have stp : Stp K G q H { q with w := fun j => if j = i then none else q.w j } H st := by
      refine ⟨rfl, fun _ _ e => e, fun a h n => ?_, Kp.refl, rw'⟩
      rcases h with h | ⟨j, h⟩
      · exact absurd (Or.inl h) n
      · have h : (if j = i then none else q.w j) = some a := h
        by_cases hj : j = i
        · rw [if_pos hj] at h
          cases h
        · rw [if_neg hj] at h
          exact absurd (Or.inr ⟨j, h⟩) n
    have rest : ∀ {x : MV}, RM K (Wd.un { q with w := fun j => if j = i then none else q.w j }) q.m H (.ref p) x → RS K G { q with w := fun j => if j = i then none else q.w j } σ H (ρ.set i (some (.m x))) st := fun {x} rx => by
      refine ⟨rw', by rw [List.length_set]; exact rs.sl, fun j s e => ?_⟩
      by_cases hj : i = j
      · subst hj
        have hl : i < ρ.length := by
          obtain ⟨h, _⟩ := List.getElem?_eq_some_iff.mp e
          rw [List.length_set] at h
          exact h
        rw [List.getElem?_set_self hl] at e
        cases e
        exact ⟨_, ev0, rx⟩
      · rw [List.getElem?_set_ne hj] at e
        obtain ⟨v', e1, r'⟩ := rs.slot j s e
        refine ⟨v', e1, ?_⟩
        cases s with
        | m y => exact RM.mono (Mu := fun _ => False) Kp.refl hu' (fun _ _ e => e) y v' r'
        | own o' =>
          obtain ⟨a, h1, h2, h3⟩ := r'
          refine ⟨a, ?_, h2, ROL.mono (Mu := fun _ => False) Kp.refl hu' id h3⟩
          show (if j = i then none else q.w j) = some a
          rw [if_neg (fun z => hj z.symm)]
          exact h1
    refine ⟨?_, stp⟩
    unfold CD.frz
    rw [ho]
    cases o with
    | lst ds =>
      obtain ⟨vs, e, r⟩ := ro
      exact rest (.v (.lst e np (r.conv hu)))
    | dK ds =>
      obtain ⟨vs, e, r⟩ := ro
      exact rest (.v (.dic e np (RDk.mono (Mu := fun _ => False) Kp.refl (fun a n _ => ⟨id, hu a n⟩) ds vs r)))
    | dT ds =>
      obtain ⟨vs, e, r⟩ := ro
      exact rest (.v (.dit e np (RDt.mono (Mu := fun _ => False) Kp.refl (fun a n _ => ⟨id, hu a n⟩) ds vs r)))
  · right
    unfold CD.frz
    split
    · rename_i h
      exact absurd ⟨_, h⟩ ho
    · rename_i h
      exact absurd ⟨_, h⟩ ho
    · rename_i h
      exact absurd ⟨_, h⟩ ho
    · rfl
end
section
variable {X : Cx} {G : DG} {W : WX} {e : Expr} {es : List Expr} {rest : List Stmt} {fs : Env → M (List MV)} {f : Env → M MV} {sg : Env → M Fl} {x : Str} {i : Nat} {pos pos' lpos apos npos cpos : Pos}
/-- a list is closed ahead of the rest -/
theorem pssd_frz (i : Nat) (h : PSs X rest (LS X.K G W sg)) : PSs X rest (LS X.K G W (fun ρ => sg (frz i ρ))) :=
  PSs.by h fun D σ H ⟨q, ρ, st, rs, h⟩ => by
    rcases rs.frz i with ⟨r, s⟩ | e
    · exact ⟨_, _, st, r, h.stp s⟩
    · have h : FinS X.K G W D q H (sg (frz i ρ) st) := h
      rw [e] at h
      exact ⟨q, ρ, st, rs, h⟩
/-- x = [..], x the list's owner -/
theorem psd_own (i : Nat) (hN : X.N.Nodup) (hi : X.N[i]? = some x) (hx : Loc X.env.scope x) (h : PA X es (LA X.K G W fs)) (hs : swapsWith (.List es lpos) (some (.Name x pos')) pos.line X.env = pure false := by rfl)
    (hf : X.fn x = true ∨ X.env.scope.names.lookup x = some .local := by first | exact .inl rfl | exact .inr rfl | assumption) : PS X (.Assign [.Name x pos'] (.List es lpos) pos) (LS X.K G W (sOwn i fs)) :=
  PS.by (ps_set hN hi hx (pe_lst h) hs hf) fun D σ H ⟨q, ρ, st, rs, h⟩ => seqS rs h fun vs H1 q1 st1 ms rs1 _ r1 h1 => by
    by_cases hz : szOk ms.length = true
    rotate_left
    · rw [if_neg hz] at h1; exact h1.elim
    rw [if_pos hz] at h1
    cases e : toDs ms with
    | none => rw [e] at h1; exact h1.elim
    | some ds =>
      rw [e] at h1
      refine ⟨by rw [RMs.length r1]; exact szOk_le hz, fun p hp => ?_⟩
      obtain ⟨s, r⟩ := rs1.own (i := i) hp (toDs_v e r1)
      exact h1 _ _ _ s r
theorem ownL_some {ρ : Env} {ds : List D} (h : ownL ρ i = some ds) : ρ[i]? = some (some (.own (.lst ds))) := by
  unfold ownL at h
  split at h
  · rename_i ds' e
    cases h
    exact e
  · cases h
theorem fin_ofS {α : Type} {K : PySem.W.Frag} {D : Ends} {q : Wd} {H : Hp} {st : List O} {o : Option α} {k : α → M Fl} (h : FinS K G W D q H (M.bind (M.of o) k st)) : ∃ a, o = some a ∧ FinS K G W D q H (k a st) := by
  cases o with
  | none => exact h.elim
  | some a => exact ⟨a, rfl, h⟩
/-- x.append(e), x the list's owner -/
theorem psd_app (i : Nat) (hi : X.N[i]? = some x) (hv : Vis X.env.scope x) (he : PE X e (LE X.K G W f)) (hd : (x == ("__debug__" : Str)) = false := by decide) (hcd : (x == ("__classdict__" : Str)) = false := by decide)
    (hbase : attributeBase (.Name x npos) "append" X.env (eval (.Name x npos) X.env) = eval (.Name x npos) X.env := by rfl)
    (hst : starEach [e] X.env = (false, eval e X.env) :: starEach [] X.env := by rfl)
    (hfew : ((backTo cpos (starEach [e] X.env)).all (fun x => !x.1) && (backToKw cpos (keywordEach [] X.env)).all (fun x => x.1.isSome)
      && decide ([e].length + ([] : List Keyword).length + (if ([] : List Keyword).isEmpty then 0 else 1) < 30)) = true := by rfl)
    (hline : (apos.endLine == cpos.line) = true := by rfl) (hsw : swapsWith (.Call (.Attribute (.Name x npos) "append" apos) [e] [] cpos) none pos.line X.env = pure false := by rfl) :
    PS X (.Expr (.Call (.Attribute (.Name x npos) "append" apos) [e] [] cpos) pos) (LS X.K G W (sApp i f)) :=
  PS.by (ps_expr (pe_bm F.plainAttrs_list F.slot_list_append F.type_list_append mt_append (pe_var hi hv hd hcd) (pa_cons he pa_nil hst) hbase hfew hline hst) hsw) fun D σ H ⟨q, ρ, st, rs, h⟩ => by
    have h : FinS X.K G W D q H (M.bind (M.of (ownL ρ i)) _ st) := h
    obtain ⟨ds, hds, h⟩ := fin_ofS h
    have e0 := ownL_some hds
    obtain ⟨v0, ev0, p, hw, rfl, vs, ep, rv⟩ := rs.slot i _ e0
    refine ⟨.ref p, ev0, .inl ⟨rfl, vs, sql_of ep⟩, ?_⟩
    refine seqS rs h fun y H1 q1 st1 my rs1 a1 r1 h1 => ?_
    obtain ⟨d, hd, h2⟩ := fin_ofS h1
    by_cases hz : szOk (ds.length + 1) = true
    rotate_left
    · rw [if_neg hz] at h2; exact h2.elim
    rw [if_pos hz] at h2
    have ep1 : H1 p = some (.lst vs) := a1.kp.keep p _ (rs.rw.mw i p hw).1 ep (fun _ z => nomatch z)
    have hzl := szOk_le hz
    have hl := rv.length
    refine ⟨p, vs, y, rfl, rfl, ep1, by omega, ?_⟩
    have rd : RD X.K q1.un H1 y d := by
      unfold asD at hd
      split at hd <;> cases hd
      cases r1 with | v r1 => exact r1
    obtain ⟨s, r⟩ := rs1.ownPut (i := i) (by rw [a1.w]; exact hw) e0 ep1 ((rv.aft a1).append (.cons rd .nil))
    exact h2 _ _ _ s r
/-- x.extend(e), e a list -/
theorem psd_ext (i : Nat) (hi : X.N[i]? = some x) (hv : Vis X.env.scope x) (he : PE X e (LE X.K G W f)) (hd : (x == ("__debug__" : Str)) = false := by decide) (hcd : (x == ("__classdict__" : Str)) = false := by decide)
    (hbase : attributeBase (.Name x npos) "extend" X.env (eval (.Name x npos) X.env) = eval (.Name x npos) X.env := by rfl)
    (hst : starEach [e] X.env = (false, eval e X.env) :: starEach [] X.env := by rfl)
    (hfew : ((backTo cpos (starEach [e] X.env)).all (fun x => !x.1) && (backToKw cpos (keywordEach [] X.env)).all (fun x => x.1.isSome)
      && decide ([e].length + ([] : List Keyword).length + (if ([] : List Keyword).isEmpty then 0 else 1) < 30)) = true := by rfl)
    (hline : (apos.endLine == cpos.line) = true := by rfl) (hsw : swapsWith (.Call (.Attribute (.Name x npos) "extend" apos) [e] [] cpos) none pos.line X.env = pure false := by rfl) :
    PS X (.Expr (.Call (.Attribute (.Name x npos) "extend" apos) [e] [] cpos) pos) (LS X.K G W (sExt i f)) :=
  PS.by (ps_expr (pe_bm F.plainAttrs_list F.slot_list_extend F.type_list_extend mt_extend (pe_var hi hv hd hcd) (pa_cons he pa_nil hst) hbase hfew hline hst) hsw) fun D σ H ⟨q, ρ, st, rs, h⟩ => by
    have h : FinS X.K G W D q H (M.bind (M.of (ownL ρ i)) _ st) := h
    obtain ⟨ds, hds, h⟩ := fin_ofS h
    have e0 := ownL_some hds
    obtain ⟨v0, ev0, p, hw, rfl, vs, ep, rv⟩ := rs.slot i _ e0
    refine ⟨.ref p, ev0, .inl ⟨rfl, vs, sql_of ep⟩, ?_⟩
    refine seqS rs h fun y H1 q1 st1 my rs1 a1 r1 h1 => ?_
    obtain ⟨es', hes, h2⟩ := fin_ofS h1
    split at hes <;> cases hes
    cases r1 with | v r1 => cases r1 with | lst eb nb rb =>
    split at h2
    rotate_left
    · exact h2.elim
    rename_i hz
    have ep1 : H1 p = some (.lst vs) := a1.kp.keep p _ (rs.rw.mw i p hw).1 ep (fun _ z => nomatch z)
    have hzl := szOk_le hz
    have hl := rv.length
    have hl2 := rb.length
    refine ⟨p, _, vs, _, rfl, rfl, ep1, eb, by omega, ?_⟩
    obtain ⟨s, r⟩ := rs1.ownPut (i := i) (by rw [a1.w]; exact hw) e0 ep1 ((rv.aft a1).append rb)
    exact h2 _ _ _ s r
end
end CD

set_option Elab.async false
set_option linter.all false
set_option maxRecDepth 100000
set_option maxHeartbeats 4000000
namespace CD
open PySem PySem.Spec PyProof.Rows L2

/-! ### raise BadArgument(..) -/
structure HasX (P : Program) (w : World) (K : PySem.W.Frag) (mg : Str → Option Value) (base : Heap) (G : DG) : Prop where
  ex : ∃ fI fd, OexC K G.cb ∧ PySem.W.findIn K (.ref G.cb) "__init__" = some (some (.ref fI)) ∧ PySem.W.typeIn K (.ref fI) = some (.type "function") ∧ FnOk P w K mg base (L2.CX P w) 2 fI fd ["self", "name"] (CWG.spBad G.cb) ∧ Binds K fd ["self", "name"] [] ∧ mg "BadArgument" = some (.ref G.cb)
def M.thr {α : Type} (e : Ex) : M α := fun st => .exc e st
def sRaise (f : Env → M MV) : Env → M Fl := fun ρ => M.bind (f ρ) fun x => match x with
  | .v (.str nm) => M.bind (M.of (if nm.length ≤ 1000 then some () else none)) fun _ => M.thr (.arg nm)
  | _ => M.of none
section
variable {X : Cx} {G : DG} {E : XK} {e : Expr} {f : Env → M MV} {p pos rpos : Pos}
theorem psd_raise (h : HasX X.prog X.w X.K X.mg X.base G) (hr : Room 3 X.A) (hc : X.calm = true) (tk : Takes X (WE E)) (hg : Gl X "BadArgument") (he : PE X e (LE X.K G (WE E) f))
    (hst : starEach [e] X.env = (false, eval e X.env) :: starEach [] X.env := by rfl) (hpl : (backTo pos (starEach [] X.env)).any (·.1) = false := by rfl) :
    PS X (.Raise (some (.Call (.Name "BadArgument" p) [e] [] pos)) none rpos) (LS X.K G (WE E) (sRaise f)) := by
  obtain ⟨fI, fd, T, iC, tI, F1, hb, hm⟩ := h.ex
  refine PS.by (ps_raise hc tk (pmk_oex T iC tI F1 hr hb .nil passF hg hm (pa_cons he pa_nil hst) (by decide) hst hpl)) fun D σ H ⟨q, ρ, st, rs, h⟩ => ?_
  refine seqS rs h fun x H1 q1 st1 mx rs1 _ r1 h1 => ?_
  split at h1
  rotate_left
  · exact h1.elim
  rename_i nm
  obtain ⟨_, hn, h1⟩ := fin_ofS h1
  split at hn <;> cases hn
  rename_i hn
  cases r1 with | v r1 =>
  cases r1
  refine ⟨by simp, fun a ha => ⟨a, nm, rfl, upd_same, hn, fun dx hdx hne => ?_⟩⟩
  have hdx1 : H1 dx = none := by rw [upd_ne hne] at hdx; exact hdx
  refine ⟨rfl, dx, [("name", .str nm)], upd_same, by rw [upd_ne hne, upd_same], hdx1, ?_⟩
  have eH : upd (del (upd (upd (upd H1 a (exo a G.cb none)) dx (exd dx [("name", .str nm)])) a (exo a G.cb (some dx))) a) dx (.xd [("name", .str nm)]) = upd H1 dx (.xd [("name", .str nm)]) := by
    funext b
    by_cases h1 : b = dx
    · rw [h1, upd_same, upd_same]
    · rw [upd_ne h1, upd_ne h1]
      unfold del
      by_cases h2 : b = a
      · rw [if_pos h2, h2, ha]
      · rw [if_neg h2, upd_ne h2, upd_ne h1, upd_ne h2]
  rw [eH]
  exact h1 (.ref G.cb) (some dx) σ _ q1 (Stp.of_aft (Aft.of_kp rs1.rw (Kp.new hdx1))) ⟨rfl, dx, rfl, upd_same⟩
end
/-! ### instances -/
theorem nodup_at {α : Type} : ∀ {l : List α} {i j : Nat} {a : α}, l.Nodup → l[i]? = some a → l[j]? = some a → i = j
  | [], _, _, _, _, e, _ => by simp at e
  | x :: l, 0, 0, _, _, _, _ => rfl
  | x :: l, 0, j + 1, a, h, e1, e2 => by
    rw [List.nodup_cons] at h
    have : x = a := by simpa using e1
    subst this
    exact absurd (List.mem_of_getElem? (by simpa using e2)) h.1
  | x :: l, i + 1, 0, a, h, e1, e2 => by
    rw [List.nodup_cons] at h
    have : x = a := by simpa using e2
    subst this
    exact absurd (List.mem_of_getElem? (by simpa using e1)) h.1
  | x :: l, i + 1, j + 1, a, h, e1, e2 => by
    rw [List.nodup_cons] at h
    exact congrArg (· + 1) (nodup_at h.2 (by simpa using e1) (by simpa using e2))
def insAt (C : Addr) (st : List O) : MV → Option (Nat × List (Str × MV))
  | .obj j => match st[j]? with
    | some (.ins C' fs) => if C' = C then some (j, fs) else none
    | _ => none
  | _ => none
def putA (f : Str) (v : MV) : List (Str × MV) → List (Str × MV)
  | [] => [(f, v)]
  | (g, x) :: r => if g = f then (g, v) :: r else (g, x) :: putA f v r
def fAttr (C : Addr) (nm : Str) (f : Env → M MV) : Env → M MV := fun ρ => M.bind (f ρ) fun x => M.rd fun st => (insAt C st x).bind fun p => p.2.lookup nm
/-- the store's thing j is now o -/
def M.put (j : Nat) (o : O) : M Unit := fun st => .val () (st.set j o)
def sAttr (C : Addr) (nm : Str) (fo fv : Env → M MV) : Env → M Fl := fun ρ => M.bind (fv ρ) fun y => M.bind (fo ρ) fun x => M.bind (M.rd fun st => insAt C st x) fun p =>
  M.bind (M.of (if p.2.length < 900 then some () else none)) fun _ => M.bind (M.put p.1 (.ins C (putA nm y p.2))) fun _ => M.pure (.nx ρ)
def sAttrAug (C : Addr) (nm : Str) (fo fv : Env → M MV) : Env → M Fl := fun ρ => M.bind (fo ρ) fun x => M.bind (M.rd fun st => (insAt C st x).bind fun p => p.2.lookup nm) fun y0 => M.bind (fv ρ) fun y =>
  M.bind (M.rd fun st => i2M (fun _ _ => true) (fun i j => .int (i + j)) st y0 y) fun z => M.bind (M.rd fun st => insAt C st x) fun p => M.bind (M.of (if p.2.length < 900 then some () else none)) fun _ => M.bind (M.put p.1 (.ins C (putA nm z p.2))) fun _ => M.pure (.nx ρ)
section
variable {K : PySem.W.Frag} {G : DG} {W : WX} {q q' q1 q2 : Wd} {σ σ' : L2.St} {H H' H1 H2 : Hp} {ρ ρ' : Env} {st st' st1 st2 : List O} {U : Addr → Prop} {m : List Addr}
theorem RMf.lookup : ∀ {vs : List (Str × V)} {xs : List (Str × MV)} {f : Str} {y : MV}, RMf K U m H vs xs → xs.lookup f = some y → ∃ v, vs.lookup f = some v ∧ RM K U m H v y
  | _, _, _, _, .nil, e => by cases e
  | _, _, f, y, .cons (k := k) (x := x) (y := z) h t, e => by
    rw [List.lookup_cons] at e ⊢
    split at e
    · cases e
      exact ⟨x, rfl, h⟩
    · exact RMf.lookup t e
theorem RMf.none : ∀ {vs : List (Str × V)} {xs : List (Str × MV)} {f : Str}, RMf K U m H vs xs → xs.lookup f = none → vs.lookup f = none
  | _, _, _, .nil, e => rfl
  | _, _, f, .cons (k := k) h t, e => by
    rw [List.lookup_cons] at e ⊢
    split at e
    · cases e
    · exact RMf.none t e
theorem RMf.put {f : Str} {v : V} {y : MV} (r : RM K U m H v y) : ∀ {vs : List (Str × V)} {xs : List (Str × MV)}, RMf K U m H vs xs → RMf K U m H (putF f v vs) (putA f y xs)
  | _, _, .nil => .cons r .nil
  | _, _, .cons (k := k) h t => by
    unfold putF putA
    by_cases e : k = f
    · rw [if_pos e, if_pos e]; exact .cons r t
    · rw [if_neg e, if_neg e]; exact .cons h (RMf.put r t)
theorem RMf.length : ∀ {vs : List (Str × V)} {xs : List (Str × MV)}, RMf K U m H vs xs → vs.length = xs.length
  | _, _, .nil => rfl
  | _, _, .cons _ t => congrArg (· + 1) (RMf.length t)
theorem insAt_v {C : Addr} {x : MV} {p : Nat × List (Str × MV)} {v : V} (rw_ : RW K G q H st) (r : RE K q H v x) (e : insAt C st x = some p) :
    ∃ a dx vs, v = .ref a ∧ q.m[p.1]? = some a ∧ st[p.1]? = some (.ins C p.2) ∧ H a = some (.ins C dx vs) ∧ RMf K q.un q.m H vs p.2 := by
  unfold insAt at e
  split at e
  · rename_i j
    split at e
    · rename_i C' fs hj
      split at e <;> cases e
      rename_i hC
      subst hC
      cases r with | obj em =>
      obtain ⟨dx, vs, ea, ha⟩ := rw_.objs j _ _ em hj
      exact ⟨_, dx, vs, rfl, em, hj, ea, ha⟩
    · cases e
  · cases e
/-- a thing of the store is written -/
theorem RS.objPut (rs : RS K G q σ H ρ st) {j : Nat} {a : Addr} {ho ho' : HO} {o : O} (em : q.m[j]? = some a) (ea : H a = some ho) (n1 : ∀ xs, ho ≠ .tup xs) (n2 : ∀ x y, ho ≠ .frz x y) (n3 : NT ho) (ro : RO K q.un q.m (upd H a ho') a o) (n4 : ∀ g, ho ≠ .ext g := by exact nofun) :
    Stp K G q H q (upd H a ho') (st.set j o) ∧ RS K G q σ (upd H a ho') ρ (st.set j o) := by
  have hm : a ∈ q.m := List.mem_of_getElem? em
  have k : Kp (· = a) H (upd H a ho') := Kp.put rfl ea n1 n2 n3 n4
  have hu : ∀ b, ¬ q.un b → H b ≠ none → ¬ b = a ∧ ¬ q.un b := fun b n _ => ⟨fun y => n (y ▸ .inl hm), n⟩
  have rw' : RW K G q (upd H a ho') (st.set j o) := by
    refine ⟨fun i b o' e1 e2 => ?_, by rw [List.length_set]; exact rs.rw.len, rs.rw.nd, fun i b e => ⟨(rs.rw.mw i b e).1, (rs.rw.mw i b e).2.1, k.al b (rs.rw.mw i b e).2.2⟩, rs.rw.ww, rs.rw.mz, fun b z => k.al b (rs.rw.zh b z), k.tabs rs.rw.tabs⟩
    by_cases hij : j = i
    · subst hij
      have hl : j < st.length := by
        obtain ⟨h, _⟩ := List.getElem?_eq_some_iff.mp e2
        rw [List.length_set] at h
        exact h
      rw [List.getElem?_set_self hl] at e2
      cases e2
      rw [em] at e1
      cases e1
      exact ro
    · rw [List.getElem?_set_ne hij] at e2
      have hba : b ≠ a := fun z => by
        subst z
        exact hij (nodup_at rs.rw.nd em e1)
      exact RO.mono k hu (fun _ _ e => e) hba (rs.rw.objs i b o' e1 e2)
  refine ⟨⟨rfl, fun _ _ e => e, fun b h n => absurd h n, k.mono fun b h => .inl (by rw [h]; exact hm), rw'⟩, rw', rs.sl, fun i s e => ?_⟩
  obtain ⟨v, e1, r⟩ := rs.slot i s e
  refine ⟨v, e1, ?_⟩
  cases s with
  | m x => exact RM.mono k hu (fun _ _ e => e) x v r
  | own o' =>
    obtain ⟨b, h1, h2, h3⟩ := r
    exact ⟨b, h1, h2, ROL.mono k hu (fun y => (rs.rw.mw i b h1).1 (by rw [y]; exact hm)) h3⟩
theorem fin_rdS {α : Type} {D : Ends} {o : List O → Option α} {k : α → M Fl} (h : FinS K G W D q H (M.bind (M.rd o) k st)) : ∃ a, o st = some a ∧ FinS K G W D q H (k a st) := by
  cases e : o st with
  | none =>
    have : M.bind (M.rd o) k st = .bad := by
      unfold M.bind M.rd
      simp only [e]
    rw [this] at h
    exact h.elim
  | some a =>
    rw [bind_val (rd_some e)] at h
    exact ⟨a, rfl, h⟩
end
section
variable {X : Cx} {G : DG} {W : WX} {o e value : Expr} {f g : Env → M MV} {nm : Str} {C : Addr} {pos pos' tpos : Pos}
theorem pd_attr (c : Cls X.K C) (n : NoAttr X.K C nm) (he : PE X e (LE X.K G W f)) (hb : attributeBase e nm X.env (eval e X.env) = eval e X.env := by rfl) : PE X (.Attribute e nm pos) (LE X.K G W (fAttr C nm f)) :=
  PE.by (pe_fld he hb) fun σ H Q ⟨q, ρ, st, rs, h⟩ => seq rs h fun x H1 q1 st1 mx rs1 _ r1 h1 => by
    obtain ⟨z, hz, p⟩ := fin_rd rs1.rw h1
    obtain ⟨pr, e1, e2⟩ := Option.bind_eq_some_iff.mp hz
    obtain ⟨a, dx, vs, rfl, em, es, ea, ha⟩ := insAt_v rs1.rw r1 e1
    obtain ⟨v, ev, rv⟩ := ha.lookup e2
    exact ⟨a, C, dx, vs, v, rfl, ea, c, n, ev, p v H1 Kp.refl rv⟩
theorem psd_attr (c : Cls X.K C) (n : NoAttr X.K C nm) (ho : PE X o (LE X.K G W f)) (hv : PE X value (LE X.K G W g)) (hs : swapsWith value (some (.Attribute o nm pos')) pos.line X.env = pure false := by rfl) : PS X (.Assign [.Attribute o nm pos'] value pos) (LS X.K G W (sAttr C nm f g)) :=
  PS.by (ps_fld ho hv hs) fun D σ H ⟨q, ρ, st, rs, h⟩ => seqS rs h fun y H1 q1 st1 my rs1 a1 r1 h1 => seqS rs1 h1 fun x H2 q2 st2 mx rs2 a2 r2 h2 => by
    obtain ⟨p, hp, h3⟩ := fin_rdS h2
    obtain ⟨a, dx, vs, rfl, em, es, ea, ha⟩ := insAt_v rs2.rw r2 hp
    obtain ⟨_, hl, h4⟩ := fin_ofS h3
    split at hl <;> cases hl
    rename_i hl
    refine ⟨a, C, dx, vs, rfl, ea, c, n, by rw [ha.length]; omega, ?_⟩
    have k : Kp (· = a) H2 (upd H2 a (.ins C dx (putF nm y vs))) := Kp.put rfl ea (fun _ z => nomatch z) (fun _ _ z => nomatch z) (fun _ z => nomatch z)
    obtain ⟨s, r⟩ := rs2.objPut (ho' := .ins C dx (putF nm y vs)) (o := .ins C (putA nm my p.2)) em ea (fun _ z => nomatch z) (fun _ _ z => nomatch z) (fun _ z => nomatch z)
      ⟨dx, putF nm y vs, upd_same, RMf.mono k (fun b n _ => ⟨fun z => n (z ▸ .inl (List.mem_of_getElem? em)), n⟩) (fun _ _ e => e) (ha.put (r1.aft a2))⟩
    exact (show FinS X.K G W D q2 H2 (.val (.nx ρ) (st2.set p.1 (.ins C (putA nm my p.2)))) from h4) σ _ _ s r
theorem psd_attrAug (c : Cls X.K C) (n : NoAttr X.K C nm) (ho : PE X o (LE X.K G W f)) (hv : PE X value (LE X.K G W g)) : PS X (.AugAssign (.Attribute o nm tpos) .Add value pos) (LS X.K G W (sAttrAug C nm f g)) :=
  PS.by (ps_fldaug ho hv in_add) fun D σ H ⟨q, ρ, st, rs, h⟩ => seqS rs h fun x H1 q1 st1 mx rs1 a1 r1 h1 => by
    obtain ⟨y0, hy0, h2⟩ := fin_rdS h1
    obtain ⟨pr, e1, e2⟩ := Option.bind_eq_some_iff.mp hy0
    obtain ⟨a, dx, vs, rfl, em, es, ea, ha⟩ := insAt_v rs1.rw r1 e1
    obtain ⟨v, ev, rv⟩ := ha.lookup e2
    refine ⟨a, C, dx, vs, v, rfl, ea, c, n, ev, ?_⟩
    refine seqS rs1 h2 fun y H2 q2 st2 my rs2 a2 r2 h3 => ?_
    obtain ⟨z, hz, h4⟩ := fin_rdS h3
    obtain ⟨p, hp, h5⟩ := fin_rdS h4
    obtain ⟨a', dx', vs', ea', em', es', eb, hb⟩ := insAt_v rs2.rw (r1.aft a2) hp
    cases ea'
    obtain ⟨_, hl, h6⟩ := fin_ofS h5
    split at hl <;> cases hl
    rename_i hl
    have rv2 := rv.aft a2
    unfold i2M at hz
    split at hz
    rotate_left
    · cases hz
    simp only [if_true] at hz
    cases hz
    rename_i i j
    cases rv2 with | v rv2 =>
    cases rv2
    cases r2 with | v r2 =>
    cases r2
    refine ⟨i, j, rfl, rfl, dx', vs', eb, by rw [hb.length]; omega, ?_⟩
    have k : Kp (· = a) H2 (upd H2 a (.ins C dx' (putF nm (.int (i + j)) vs'))) := Kp.put rfl eb (fun _ z => nomatch z) (fun _ _ z => nomatch z) (fun _ z => nomatch z)
    obtain ⟨s, r⟩ := rs2.objPut (ho' := .ins C dx' (putF nm (.int (i + j)) vs')) (o := .ins C (putA nm (.v (.int (i + j))) p.2)) em' eb (fun _ z => nomatch z) (fun _ _ z => nomatch z) (fun _ z => nomatch z)
      ⟨dx', _, upd_same, RMf.mono k (fun b n _ => ⟨fun z => n (z ▸ .inl (List.mem_of_getElem? em')), n⟩) (fun _ _ e => e) (hb.put (.v (.int (i + j))))⟩
    exact (show FinS X.K G W D q2 H2 (.val (.nx ρ) (st2.set p.1 (.ins C (putA nm (.v (.int (i + j))) p.2)))) from h6) σ _ _ s r
end
/-! ### methods -/
structure HasM (P : Program) (w : World) (K : PySem.W.Frag) (mg : Str → Option Value) (base : Heap) (G : DG) (C : Addr) (k : Nat) (m : Str) (ps : List Str) (kb : List (Nat × List Str)) (F : List MV → M MV) : Prop where
  ex : ∃ f fd, Cls K C ∧ Meth K C m f ∧ Binds K fd ps [] ∧ (∀ p ∈ kb, KBn K fd ps p.1 p.2 (fun us ws => us ++ ws) (fun us ws => us ++ ws)) ∧ FnOk P w K mg base (L2.CX P w) k f fd ps (spS K G ps.length F)
def fMeth (C : Addr) (m : Str) (n : Nat) (F : List MV → M MV) (fo : Env → M MV) (fs : Env → M (List MV)) : Env → M MV := fun ρ => M.bind (fo ρ) fun x => M.bind (M.rd fun st => (insAt C st x).bind fun p => if (p.2.lookup m).isNone = true then some () else none) fun _ =>
  M.bind (fs ρ) fun ms => M.bind (M.of (if (x :: ms).length = n then some () else none)) fun _ => F (x :: ms)
section
variable {X : Cx} {G : DG} {E : XK} {o e : Expr} {es : List Expr} {fo : Env → M MV} {fs : Env → M (List MV)} {m : Str} {C : Addr} {ps : List Str} {kb : List (Nat × List Str)} {F : List MV → M MV} {k : Nat} {pos apos : Pos}
theorem meth_core {σ : L2.St} {H : Hp} {Q : VK} (hL : LE X.K G (WE E) (fMeth C m ps.length F fo fs) σ H Q) : tMeth C m (spS X.K G ps.length F) [] E (LE X.K G (WE E) fo) (LA X.K G (WE E) fs) σ H Q := by
  obtain ⟨q, ρ, st, rs, h⟩ := hL
  refine seq rs h fun x H1 q1 st1 mx rs1 _ r1 h1 => ?_
  obtain ⟨_, hz, h2⟩ := fin_rdk h1
  obtain ⟨p, hp, e2⟩ := Option.bind_eq_some_iff.mp hz
  obtain ⟨a, dx, vs, rfl, em, es, ea, ha⟩ := insAt_v rs1.rw r1 hp
  split at e2 <;> cases e2
  rename_i hl
  refine ⟨a, dx, vs, rfl, ea, ha.none (Option.isNone_iff_eq_none.mp hl), ?_⟩
  refine seq rs1 h2 fun us H2 q2 st2 ms rs2 a2 r2 h3 => ?_
  rw [List.append_nil]
  exact sp_store rs2.rw (.cons (r1.aft a2) r2) h3
theorem pd_meth {pl : Sem Bool} (h : HasM X.prog X.w X.K X.mg X.base G C k m ps kb F) (hr : Room k X.A) (hx : Passes (L2.CX X.prog X.w) X E) (ho : PE X o (LE X.K G (WE E) fo)) (ha : PA X (e :: es) (LA X.K G (WE E) fs))
    (hst : starEach (e :: es) X.env = (false, eval e X.env) :: starEach es X.env := by rfl) (hpl : (backTo pos (starEach es X.env)).any (·.1) = false := by rfl)
    (ht : eval (.Call (.Attribute o m apos) (e :: es) [] pos) X.env = (do
      let ov ← eval o X.env
      standAt apos.atName
      let (f, first) ← holding [ov] (getMethod ov m pl)
      callWith pos f first (backTo pos (starEach (e :: es) X.env)) (backToKw pos (keywordEach [] X.env))) := by rfl) :
    PE X (.Call (.Attribute o m apos) (e :: es) [] pos) (LE X.K G (WE E) (fMeth C m ps.length F fo fs)) := by
  obtain ⟨f, fd, hC, hm, hb, _, F⟩ := h.ex
  exact PE.by (pe_meth ho hC hm F hr hb .nil hx ha hst hpl ht) fun σ H Q hL => meth_core hL
theorem pd_meth0 {pl : Sem Bool} (h : HasM X.prog X.w X.K X.mg X.base G C k m ps kb F) (hr : Room k X.A) (hx : Passes (L2.CX X.prog X.w) X E) (ho : PE X o (LE X.K G (WE E) fo))
    (ht : eval (.Call (.Attribute o m apos) [] [] pos) X.env = (do
      let ov ← eval o X.env
      standAt apos.atName
      let (f, first) ← holding [ov] (getMethod ov m pl)
      callWith pos f first (backTo pos (starEach [] X.env)) (backToKw pos (keywordEach [] X.env))) := by rfl) :
    PE X (.Call (.Attribute o m apos) [] [] pos) (LE X.K G (WE E) (fMeth C m ps.length F fo fNil)) := by
  obtain ⟨f, fd, hC, hm, hb, _, F⟩ := h.ex
  refine PE.by (pe_meth0 ho hC hm F hr hb .nil hx ht) fun σ H Q hL => ?_
  obtain ⟨q, ρ, st, rs, h⟩ := hL
  refine seq rs h fun x H1 q1 st1 mx rs1 _ r1 h1 => ?_
  obtain ⟨_, hz, h2⟩ := fin_rdk h1
  obtain ⟨p, hp, e2⟩ := Option.bind_eq_some_iff.mp hz
  obtain ⟨a, dx, vs, rfl, em, es, ea, ha⟩ := insAt_v rs1.rw r1 hp
  split at e2 <;> cases e2
  rename_i hl
  exact ⟨a, dx, vs, rfl, ea, ha.none (Option.isNone_iff_eq_none.mp hl), sp_store rs1.rw (.cons r1 .nil) h2⟩
end
end CD

set_option Elab.async false
set_option linter.all false
set_option maxRecDepth 100000
set_option maxHeartbeats 4000000
namespace CD
open PySem PySem.Spec PyProof.Rows L2

section
variable {P : Program} {w : World} {K : PySem.W.Frag} {mg : Str → Option Value} {base : Heap} {G : DG} {N ps : List Str} {x qual : Str} {scope : Scope} {params : Arguments} {body : List Stmt} {f C : Addr} {fd : FuncData} {fb : Env → M Fl} {k : Nat} {kb : List (Nat × List Str)}
/-- a def's body keeps the def's promise -/
theorem body_ok (F : FunD K x qual params body scope [] [] f fd) (S : FnScope N ps scope) (hps : ps.length ≤ N.length)
    (hbody : ∀ (cd : Value) (A : Around) (outer : List PySem.Env) (s : Shared) (H : Hp) (E : XK), fd.code = cd → Room k (cxF P w K mg base N qual scope f cd A outer s H E).A → PSs (cxF P w K mg base N qual scope f cd A outer s H E) body (LS K G (WE E) fb)) :
    FnOk P w K mg base (L2.CX P w) (k + 1) f fd ps (spS K G ps.length (runB fb N.length)) := by
  obtain ⟨oc, od, dV, kV, doc, pm, an, cdv, ct, osl, rfl, lk, hcd, _, _⟩ := F.ex
  refine fn_of lk hcd S (fun vs H Q E h => h.1) fun A outer s H vs Q E hr ⟨hl, q, st, ms, rw_, r, hw, fin⟩ => ⟨_, hbody cdv A outer s H E rfl hr, q, startE N.length ms, st, start_rs rw_ r (by omega), ?_⟩
  unfold runB M.bind at fin
  cases e : fb (startE N.length ms) st with
  | bad => rw [e] at fin; exact fin.elim
  | exc ex st' =>
    rw [e] at fin
    exact fun c d σ' H' q' stp rx => fin c d H' _ (stp.aft hw).1 rx
  | val fl st' =>
    rw [e] at fin
    cases fl with
    | nx ρ' => exact fun σ' H' q' stp rs => fin .non H' _ (stp.aft hw).1 (.v .non)
    | rt y => exact fun v H' q' stp r => fin v H' _ (stp.aft hw).1 (RM.mono (Mu := fun _ => False) (U := q'.un) (m := q'.m) Kp.refl (fun a n _ => ⟨id, (stp.aft hw).2 a n⟩) (fun _ _ e => e) y v r)
    | bk ρ' => exact fin.elim
theorem HasF.of2 (F : FunD K x qual params body scope [] [] f fd) (hm : mg x = some (.ref f)) (S : FnScope N ps scope) (hps : ps.length ≤ N.length)
    (hb : ∀ (kV doc pm : Value) (an : Option Addr) (cdv ct : Value) (us : List Value), us.length = ps.length → bindArgs (PySem.W.fnOf x qual params body scope .none kV doc pm an cdv ct) ⟨us, []⟩ = pure (ps.zip us))
    (hkb : ∀ p ∈ kb, ∀ (kV doc pm : Value) (an : Option Addr) (cdv ct : Value) (us ws : List Value), us.length = p.1 → ws.length = p.2.length → bindArgs (PySem.W.fnOf x qual params body scope .none kV doc pm an cdv ct) ⟨us, p.2.zip ws⟩ = pure (ps.zip (us ++ ws)))
    (hbody : ∀ (cd : Value) (A : Around) (outer : List PySem.Env) (s : Shared) (H : Hp) (E : XK), fd.code = cd → Room k (cxF P w K mg base N qual scope f cd A outer s H E).A → PSs (cxF P w K mg base N qual scope f cd A outer s H E) body (LS K G (WE E) fb)) :
    HasF P w K mg base G (k + 1) x ps kb (runB fb N.length) :=
  ⟨f, fd, hm, F.kp, F.bindsN hb, fun p hp => CWG.kbn_of F (hkb p hp), body_ok F S hps hbody⟩
theorem HasM.of (F : FunD K x qual params body scope [] [] f fd) (hC : Cls K C) (hm : Meth K C x f) (S : FnScope N ps scope) (hps : ps.length ≤ N.length)
    (hb : ∀ (kV doc pm : Value) (an : Option Addr) (cdv ct : Value) (us : List Value), us.length = ps.length → bindArgs (PySem.W.fnOf x qual params body scope .none kV doc pm an cdv ct) ⟨us, []⟩ = pure (ps.zip us))
    (hkb : ∀ p ∈ kb, ∀ (kV doc pm : Value) (an : Option Addr) (cdv ct : Value) (us ws : List Value), us.length = p.1 → ws.length = p.2.length → bindArgs (PySem.W.fnOf x qual params body scope .none kV doc pm an cdv ct) ⟨us, p.2.zip ws⟩ = pure (ps.zip (us ++ ws)))
    (hbody : ∀ (cd : Value) (A : Around) (outer : List PySem.Env) (s : Shared) (H : Hp) (E : XK), fd.code = cd → Room k (cxF P w K mg base N qual scope f cd A outer s H E).A → PSs (cxF P w K mg base N qual scope f cd A outer s H E) body (LS K G (WE E) fb)) :
    HasM P w K mg base G C (k + 1) x ps kb (runB fb N.length) :=
  ⟨f, fd, hC, hm, F.bindsN hb, fun p hp => CWG.kbn_of F (hkb p hp), body_ok F S hps hbody⟩
end
/-- a class of the module, by its __init__ -/
structure HasK (P : Program) (w : World) (K : PySem.W.Frag) (mg : Str → Option Value) (base : Heap) (G : DG) (C : Addr) (k : Nat) (x : Str) (ps : List Str) (kb : List (Nat × List Str)) (F : List MV → M MV) : Prop where
  ex : ∃ f fd, Mk K C f ∧ mg x = some (.ref C) ∧ Binds K fd ps [] ∧ (∀ p ∈ kb, KBn K fd ps p.1 p.2 (fun us ws => us ++ ws) (fun us ws => us ++ ws)) ∧ FnOk P w K mg base (L2.CX P w) k f fd ps (spS K G ps.length F)
theorem HasK.of {C : Addr} {P : Program} {w : World} {K : PySem.W.Frag} {mg : Str → Option Value} {base : Heap} {G : DG} {N ps : List Str} {x qual : Str} {scope : Scope} {params : Arguments} {body : List Stmt} {f : Addr} {fd : FuncData} {fb : Env → M Fl} {k : Nat} {kb : List (Nat × List Str)} (F : FunD K "__init__" qual params body scope [] [] f fd) (hC : Mk K C f) (hm : mg x = some (.ref C)) (S : FnScope N ps scope) (hps : ps.length ≤ N.length)
    (hb : ∀ (kV doc pm : Value) (an : Option Addr) (cdv ct : Value) (us : List Value), us.length = ps.length → bindArgs (PySem.W.fnOf "__init__" qual params body scope .none kV doc pm an cdv ct) ⟨us, []⟩ = pure (ps.zip us))
    (hkb : ∀ p ∈ kb, ∀ (kV doc pm : Value) (an : Option Addr) (cdv ct : Value) (us ws : List Value), us.length = p.1 → ws.length = p.2.length → bindArgs (PySem.W.fnOf "__init__" qual params body scope .none kV doc pm an cdv ct) ⟨us, p.2.zip ws⟩ = pure (ps.zip (us ++ ws)))
    (hbody : ∀ (cd : Value) (A : Around) (outer : List PySem.Env) (s : Shared) (H : Hp) (E : XK), fd.code = cd → Room k (cxF P w K mg base N qual scope f cd A outer s H E).A → PSs (cxF P w K mg base N qual scope f cd A outer s H E) body (LS K G (WE E) fb)) :
    HasK P w K mg base G C (k + 1) x ps kb (runB fb N.length) :=
  ⟨f, fd, hC, hm, F.bindsN hb, fun p hp => CWG.kbn_of F (hkb p hp), body_ok F S hps hbody⟩
/-- a new thing of the store -/
def M.new (C : Addr) (F : List MV → M MV) (ms : List MV) : M MV := fun st => match F (.obj st.length :: ms) (st ++ [.ins C []]) with
  | .val (.v .non) st' => .val (.obj st.length) st'
  | .exc e st' => .exc e st'
  | _ => .bad
def fMake (C : Addr) (n : Nat) (F : List MV → M MV) (fs : Env → M (List MV)) : Env → M MV := fun ρ => M.bind (fs ρ) fun ms => M.bind (M.of (if ms.length + 1 = n then some () else none)) fun _ => M.new C F ms
section
variable {K : PySem.W.Frag} {G : DG} {q q' q1 q2 : Wd} {σ σ' : L2.St} {H H' H1 H2 : Hp} {ρ ρ' : Env} {st st' st1 st2 : List O} {n : Nat} {F : List MV → M MV} {vs : List V} {ms : List MV} {E : XK} {Q : VK}
/-- the world as the callee sees it: what the caller's slots own lies beyond its reach -/
def Wd.cal (q : Wd) : Wd := ⟨q.m, fun _ => none, fun a => q.Z a ∨ ∃ i, q.w i = some a⟩
theorem cal_un (a : Addr) : q.un a ↔ q.cal.un a := by
  unfold Wd.un Wd.cal
  constructor
  · rintro (h | h | h)
    · exact .inl h
    · exact .inr (.inr (.inr h))
    · exact .inr (.inr (.inl h))
  · rintro (h | ⟨i, h⟩ | h | h)
    · exact .inl h
    · cases h
    · exact .inr (.inr h)
    · exact .inr (.inl h)
theorem cal_rw (rw : RW K G q H st) : RW K G q.cal H st := by
  refine ⟨fun j a o e1 e2 => RO.mono (U := q.un) (m := q.m) (Mu := fun _ => False) Kp.refl (fun b n _ => ⟨id, fun z => n ((cal_un b).mpr z)⟩) (fun _ _ e => e) id (rw.objs j a o e1 e2), rw.len, rw.nd, fun i a e => (nomatch e), fun i j a e => (nomatch e), fun a h z => ?_, fun a z => rw.al ((cal_un a).mpr (.inr (.inr z))), rw.tabs⟩
  rcases z with z | ⟨i, z⟩
  · exact rw.mz a h z
  · exact (rw.mw i a z).1 h
theorem cal_back (rw : RW K G q H st) (a : Aft K G q.cal H q' H' st') : Aft K G q H ⟨q'.m, q.w, q.Z⟩ H' st' ∧ ∀ a, ¬ q'.un a → ¬ Wd.un ⟨q'.m, q.w, q.Z⟩ a := by
  have hu2 : ∀ b, ¬ q'.un b → ¬ Wd.un ⟨q'.m, q.w, q.Z⟩ b := fun b nb z => by
    rcases z with z | z | z
    · exact nb (.inl z)
    · exact nb (.inr (.inr (by rw [a.Z]; exact .inr z)))
    · exact nb (.inr (.inr (by rw [a.Z]; exact .inl z)))
  refine ⟨⟨rfl, rfl, a.pre, a.new, a.kp, fun j b o e1 e2 => RO.mono (U := q'.un) (m := q'.m) (Mu := fun _ => False) Kp.refl (fun b n _ => ⟨id, hu2 b n⟩) (fun _ _ e => e) id (a.rw.objs j b o e1 e2), a.rw.len, a.rw.nd, fun i b e => ⟨fun z => ?_, (rw.mw i b e).2.1, a.kp.al b (rw.mw i b e).2.2⟩, rw.ww, fun b h z => a.rw.mz b h (by rw [a.Z]; exact .inl z), fun b z => a.kp.al b (rw.zh b z), a.rw.tabs⟩, hu2⟩
  exact a.rw.mz b z (by rw [a.Z]; exact .inr ⟨i, e⟩)
/-- a new instance's __init__, called -/
theorem sp_new {C x dx : Addr} (rw : RW K G q H st) (r : REs K q H vs ms) (hx : H x = none) (hdx : H dx = none) (hne : dx ≠ x) (hn : ms.length + 1 = n) (h : Fin K G (WE E) q σ H (M.new C F ms st) (Post K G (RE K) Q q H)) :
    spS K G n F (.ref x :: vs) (upd (upd H dx (.own x)) x (.ins C dx [])) (fun v H2 => v = .non ∧ Q (.ref x) H2) E := by
  have hx1 : upd H dx (.own x) x = none := by rw [upd_ne (fun z => hne z.symm)]; exact hx
  have kp : Kp (fun _ => False) H (upd (upd H dx (.own x)) x (.ins C dx [])) := (Kp.new hdx).trans (Kp.new hx1) fun a z => .inl z
  have af : Aft K G q H (q.add x) (upd (upd H dx (.own x)) x (.ins C dx [])) (st ++ [.ins C []]) := Aft.alloc rw hx kp (by rw [upd_same]; exact nofun) ⟨dx, [], upd_same, .nil⟩
  refine ⟨by rw [List.length_cons, RMs.length r]; exact hn, (q.add x).cal, st ++ [.ins C []], .obj st.length :: ms, cal_rw af.rw, ?_, fun _ => rfl, ?_⟩
  · refine .cons (.obj (add_at rw)) ?_
    have r1 := r.aft af
    exact RMs.mono (Mu := fun _ => False) Kp.refl (fun b n _ => ⟨id, fun z => n ((cal_un b).mpr z)⟩) (fun _ _ e => e) _ _ r1
  · unfold M.new at h
    cases e2 : F (.obj st.length :: ms) (st ++ [.ins C []]) with
    | bad => rw [e2] at h; exact h.elim
    | exc ex st' =>
      rw [e2] at h
      exact fun c d H' q' a rx => h c d H' _ (af.trans (cal_back af.rw a).1) rx
    | val y st' =>
      rw [e2] at h
      intro v H' q' a rv
      obtain ⟨b1, b2⟩ := cal_back af.rw a
      cases y with
      | v d =>
        cases d with
        | non =>
          cases rv with | v rv =>
          cases rv
          refine ⟨rfl, h (.ref x) H' _ (af.trans b1) (.obj ?_)⟩
          exact a.pre _ _ (add_at rw)
        | _ => exact h.elim
      | _ => exact h.elim
end
section
variable {X : Cx} {G : DG} {E : XK} {e : Expr} {es : List Expr} {fs : Env → M (List MV)} {x : Str} {C : Addr} {ps : List Str} {kb : List (Nat × List Str)} {F : List MV → M MV} {k : Nat} {p pos : Pos}
theorem pd_make (h : HasK X.prog X.w X.K X.mg X.base G C k x ps kb F) (hr : Room (k + 1) X.A) (hg : Gl X x) (hx : Passes (L2.CX X.prog X.w) X E) (ha : PA X (e :: es) (LA X.K G (WE E) fs)) (hdb : (x == ("__debug__" : Str)) = false := by decide)
    (he : starEach (e :: es) X.env = (false, eval e X.env) :: starEach es X.env := by rfl) (hpl : (backTo pos (starEach es X.env)).any (·.1) = false := by rfl) : PE X (.Call (.Name x p) (e :: es) [] pos) (LE X.K G (WE E) (fMake C ps.length F fs)) := by
  obtain ⟨f, fd, hM, hm, hb, _, F⟩ := h.ex
  refine PE.by (pe_make hM F hr hg hm hb .nil hx ha hdb he hpl) fun σ H Q ⟨q, ρ, st, rs, h⟩ => seq rs h fun vs H1 q1 st1 ms rs1 _ r1 h1 => ?_
  obtain ⟨_, hz, h2⟩ := fin_ofk h1
  split at hz <;> cases hz
  rename_i hn
  intro x dx hx hdx hne
  rw [List.append_nil]
  exact sp_new rs1.rw r1 hx hdx hne hn h2
end
/-! ### list(range(..)) -/
def fListR2 (f g : Env → M MV) : Env → M MV := fun ρ => M.bind (f ρ) fun x => M.bind (g ρ) fun y => M.of (match asI x, asI y with
  | some i, some j => if rngOk i j = true then some (.v (.lst (rngD i j))) else none
  | _, _ => none)
theorem rng_rd {K : PySem.W.Frag} {U : Addr → Prop} {H : Hp} (a b : Int) : RDs K U H (rgV a b) (rngD a b) := by
  unfold rgV rngD
  have : ∀ l : List Nat, RDs K U H (l.map fun i => V.int (a + (i : Nat))) (l.map fun k : Nat => D.int (a + (k : Nat))) := by
    intro l
    induction l with
    | nil => exact .nil
    | cons x l ih => exact .cons (.int _) ih
  exact this _
section
variable {X : Cx} {G : DG} {W : WX} {a b : Expr} {f g : Env → M MV} {p pos p2 pos2 : Pos}
theorem pd_listR2 (hc : X.calm = true) (hgl : Gl X "list") (hml : X.mg "list" = none) (hg : Gl X "range") (hm : X.mg "range" = none) (ha : PE X a (LE X.K G W f)) (hb : PE X b (LE X.K G W g))
    (na : starEach [.Call (.Name "range" p2) [a, b] [] pos2] X.env = (false, eval (.Call (.Name "range" p2) [a, b] [] pos2) X.env) :: starEach [] X.env := by rfl)
    (nb : starEach [a, b] X.env = (false, eval a X.env) :: starEach [b] X.env := by rfl) (nc : starEach [b] X.env = (false, eval b X.env) :: starEach [] X.env := by rfl) (np : (backTo pos2 (starEach [b] X.env)).any (·.1) = false := by rfl) :
    PE X (.Call (.Name "list" p) [.Call (.Name "range" p2) [a, b] [] pos2] [] pos) (LE X.K G W (fListR2 f g)) :=
  PE.by (pe_listRg hc hgl hml (prg_2 hg hm ha hb nb nc np) na) fun σ H Q ⟨q, ρ, st, rs, h⟩ => seq rs h fun x H1 q1 st1 mx rs1 _ r1 h1 => seq rs1 h1 fun y H2 q2 st2 my rs2 a2 r2 h2 => by
    obtain ⟨z, hz, pp⟩ := fin_of rs2.rw h2
    split at hz
    rotate_left
    · cases hz
    rename_i i j hi hj
    split at hz <;> cases hz
    rename_i hr
    unfold rngOk at hr
    simp only [Bool.and_eq_true, decide_eq_true_eq] at hr
    have := asI_v r1 hi
    subst this
    have := asI_v r2 hj
    subst this
    exact ⟨i, j, rfl, rfl, ⟨by omega, by omega, by omega, by omega, by omega⟩, fun q0 hq => pp _ _ (Kp.new hq) (.v (new_lst rs2.rw hq (rng_rd i j)))⟩
end
end CD

set_option Elab.async false
set_option linter.all false
set_option maxRecDepth 100000
set_option maxHeartbeats 4000000
namespace CD
open PySem PySem.Spec PyProof.Rows PyProof.Rows.G L2 PySem.W

/-! ### sorted(d), the keys of d tuples of ints -/
/-- a row is not behind another one -/
def leK (a b : List Int) : Bool := !lexLt itemOrd (b.map Sum.inl) (a.map Sum.inl)
def sortK (l : List (List Int)) : List (List Int) := l.mergeSort leK
theorem map_inl_inj {a b : List Int} (h : a.map (Sum.inl : Int → Int ⊕ List Nat) = b.map Sum.inl) : a = b := by
  induction a generalizing b with
  | nil => cases b with
    | nil => rfl
    | cons _ _ => cases h
  | cons x a ih => cases b with
    | nil => cases h
    | cons y b =>
      rw [List.map_cons, List.map_cons] at h
      injection h with h1 h2
      injection h1 with h1
      rw [h1, ih h2]
theorem leK_anti {a b : List Int} (h1 : leK a b = true) (h2 : leK b a = true) : a = b := by
  unfold leK at h1 h2
  rw [Bool.not_eq_true'] at h1 h2
  exact map_inl_inj (lex_total (O := itemOrd) _ _ h2 h1)
theorem leK_trans {a b c : List Int} (h1 : leK a b = true) (h2 : leK b c = true) : leK a c = true := by
  unfold leK at *
  rw [Bool.not_eq_true'] at *
  exact KeyOrd.kle_trans (O := listOrd itemOrd) (a := a.map Sum.inl) (b := b.map Sum.inl) (c := c.map Sum.inl) h1 h2
theorem leK_total (a b : List Int) : (leK a b || leK b a) = true := by
  unfold leK
  cases h : lexLt itemOrd (b.map Sum.inl) (a.map Sum.inl) with
  | false => rfl
  | true =>
    have : (listOrd itemOrd).kle (b.map Sum.inl) (a.map Sum.inl) := KeyOrd.klt_asymm h
    rw [show lexLt itemOrd (a.map Sum.inl) (b.map Sum.inl) = false from this]
    rfl
theorem sortK_perm (l : List (List Int)) : (sortK l).Perm l := List.mergeSort_perm l leK
theorem sortK_sorted (l : List (List Int)) : (sortK l).Pairwise (fun a b => leK a b = true) := List.pairwise_mergeSort (le := leK) (fun a b c h1 h2 => leK_trans h1 h2) leK_total l
theorem sortK_eq {l m : List (List Int)} (h : m.Perm l) (s : m.Pairwise (fun a b => leK a b = true)) : m = sortK l :=
  List.Perm.eq_of_pairwise (fun _ _ _ _ => leK_anti) s (sortK_sorted l) (h.trans (sortK_perm l).symm)
def keyIs? : L2.Key → Option Int
  | .inl i => some i
  | .inr _ => none
def keyInts : List L2.Key → Option (List Int)
  | [] => some []
  | .inl i :: ks => (keyInts ks).map (i :: ·)
  | .inr _ :: _ => none
def keysInts {α : Type} : List (List L2.Key × α) → Option (List (List Int))
  | [] => some []
  | (k, _) :: r => match keyInts k, keysInts r with
    | some ns, some l => some (ns :: l)
    | _, _ => none
def sortDM (_ : List O) : List MV → Option MV
  | [.v (.dit kvs)] => match keysInts kvs with
    | some l => if (l.all fun ns => !ns.isEmpty) = true then some (.v (.lst ((sortK l).map fun ns => .tup (ns.map .int)))) else none
    | none => none
  | _ => none
theorem keyInts_v : ∀ {k : List L2.Key} {ns : List Int}, keyInts k = some ns → k.map kV = ns.map V.int
  | [], _, e => by cases e; rfl
  | .inl i :: ks, _, e => by
    unfold keyInts at e
    obtain ⟨ns, e', rfl⟩ := Option.map_eq_some_iff.mp e
    rw [List.map_cons, List.map_cons, keyInts_v e']
    rfl
  | .inr _ :: _, _, e => by cases e
/-- the rows that the addresses are -/
def RowsAt (H : Hp) (bs : List Addr) (nss : List (List Int)) : Prop := Paired (fun b ns => H b = some (.tup (List.map V.int ns))) bs nss
theorem rows_rd {K : PySem.W.Frag} {U : Addr → Prop} {H : Hp} : ∀ {bs : List Addr} {nss : List (List Int)}, RowsAt H bs nss → RDs K U H (bs.map V.ref) (nss.map fun ns => .tup (ns.map .int))
  | _, _, .nil => .nil
  | _, _, .cons h t => .cons (.tup h (RDs.ints _)) (rows_rd t)
def intsAt (H : Hp) (b : Addr) : List Int := match H b with
  | some (.tup xs) => xs.filterMap fun v => match v with
    | .int i => some i
    | _ => none
  | _ => []
theorem intsAt_of {H : Hp} {b : Addr} {ns : List Int} (h : H b = some (.tup (ns.map V.int))) : intsAt H b = ns := by
  unfold intsAt
  rw [h]
  simp only [List.filterMap_map]
  exact List.filterMap_some
theorem items_key {shape : Nat → Bool} (hs : ∀ i, shape i = false) : ∀ {ns : List Int} {its : List Value} (i : Nat), Vals (ns.map V.int) its → tupItems shape i its = some (ns.map Sum.inl)
  | [], _, _, .nil => rfl
  | n :: ns, _, i, .cons r t => by
    obtain ⟨tk, rfl⟩ := r
    unfold tupItems
    rw [if_neg (by rw [hs i]; exact Bool.false_ne_true), items_key hs (i + 1) t]
    rfl
/-- the rows of a heap -/
def RowIn (h : Heap) (b : Addr) (ns : List Int) : Prop := ∃ its : List Value, Vals (ns.map V.int) its ∧ IsTup h b its.toArray
theorem RowIn.key {h : Heap} {b : Addr} {ns : List Int} (r : RowIn h b ns) : tupKeyC h (fun _ => false) (.ref b) = some (ns.map Sum.inl) := by
  obtain ⟨its, rv, o, ho, hc, n, hd⟩ := r
  have h1 : isTupObj h (.ref b) = true := by
    show (match h.get? b with
      | some o => (match o.cls with | .type n => n == "tuple" | _ => false)
      | none => false) = true
    rw [ho]
    show (match o.cls with | .type n => n == "tuple" | _ => false) = true
    rw [hc]
    rfl
  unfold tupKeyC
  rw [if_pos h1]
  show (match h.get? b with
    | some o => match o.data with
      | .seq xs _ => tupItems (fun _ => false) 0 xs.toList
      | _ => none
    | none => none) = _
  rw [ho]
  show (match o.data with
      | .seq xs _ => tupItems (fun _ => false) 0 xs.toList
      | _ => none) = _
  rw [hd]
  exact items_key (fun _ => rfl) 0 rv
theorem RowIn.first {h : Heap} {b : Addr} {ns : List Int} (r : RowIn h b ns) (hn : ns ≠ []) : ∃ f, TupOf h (fun _ => false) (.ref b) f := by
  obtain ⟨its, rv, o, ho, hc, n, hd⟩ := r
  cases ns with
  | nil => exact absurd rfl hn
  | cons m ms =>
    rw [List.map_cons] at rv
    cases rv with
    | @cons _ u _ us r t =>
      obtain ⟨tk, rfl⟩ := r
      exact ⟨_, b, o, _, n, rfl, ho, hc, hd, by simp, fun _ => ⟨m, tk, rfl⟩, fun z => absurd z Bool.false_ne_true⟩
theorem firsts {h : Heap} : ∀ {bs : List Addr} {nss : List (List Int)}, Paired (RowIn h) bs nss → (∀ ns ∈ nss, ns ≠ []) → ∃ fs, TupsOf h (fun _ => false) (bs.map Value.ref) fs
  | _, _, .nil, _ => ⟨[], .nil⟩
  | _, _, .cons r t, hn => by
    obtain ⟨f, hf⟩ := r.first (hn _ List.mem_cons_self)
    obtain ⟨fs, hfs⟩ := firsts t fun ns m => hn ns (List.mem_cons_of_mem _ m)
    exact ⟨f :: fs, .cons hf hfs⟩
theorem rows_of {H : Hp} : ∀ {kvs : List (List L2.Key × V)} {xs : List (List L2.Key × Addr × Value)} {l : List (List Int)}, Paired (fun (p : List L2.Key × V) (q : List L2.Key × Addr × Value) => p.1 = q.1 ∧ H q.2.1 = some (.tup (p.1.map kV)) ∧ RelV p.2 q.2.2) kvs xs → keysInts kvs = some l →
    RowsAt H (xs.map fun x => x.2.1) l
  | _, _, _, .nil, e => by cases e; exact .nil
  | (k, v) :: _, _, _, .cons h t, e => by
    unfold keysInts at e
    split at e
    · rename_i ns l e1 e2
      cases e
      refine .cons ?_ (rows_of t e2)
      rw [← keyInts_v e1]
      exact h.2.1
    · cases e
theorem tups_eq {h : Heap} {sh : Nat → Bool} {vs vs' fs : List Value} (e : vs = vs') (t : TupsOf h sh vs' fs) : TupsOf h sh vs fs := by
  rw [e]
  exact t
theorem paired_get {α β : Type} {F : α → β → Prop} : ∀ {xs : List α} {ys : List β} {i : Nat} {x : α}, Paired F xs ys → xs[i]? = some x → ∃ y, ys[i]? = some y ∧ F x y
  | _, _, _, _, .nil, e => by simp at e
  | _, _, 0, _, .cons h _, e => by cases e; exact ⟨_, rfl, h⟩
  | _, _, i + 1, _, .cons _ t, e => by
    obtain ⟨y, e1, r⟩ := paired_get t (i := i) (by simpa using e)
    exact ⟨y, by simpa using e1, r⟩
def rSortedDT : List V → Hp → VK → Prop := fun xs H Q => ∃ d kvs l, xs = [.ref d] ∧ Rd H d (.dT kvs) ∧ keysInts kvs = some l ∧ (∀ ns ∈ l, ns ≠ []) ∧ ∀ p bs, H p = none → RowsAt H bs (sortK l) → Q (.ref p) (upd H p (.lst (bs.map V.ref)))
def adr : Value → Addr
  | .ref a => a
  | _ => 0
section
variable {X : Cx} {G : DG}
theorem call_sortedDT (hcalm : X.calm = true) : CallR X (.builtin "sorted") rSortedDT := by
  intro pins s σ H xs us Q I r h
  obtain ⟨d, kvs, l, rfl, hd, hl, hne, q⟩ := h
  obtain ⟨u, rfl, rx⟩ := r.one
  cases rx
  obtain ⟨z, hs, ks, pr, o, es, ep, ho, hx, hdt, he, hn⟩ := (show ObjOk X.prog X.w H s.heap d (.dT kvs) from hd.ok I.hok)
  have l1 : es.size = ks.length := size_of_entries he
  have l2 : kvs.length = ks.length := Paired.length pr
  have rows := rows_of pr hl
  have hlen2 : (ks.map fun x => x.2.1).length = l.length := Paired.length rows
  refine Calls.call_function_entry PyProof.Rows.kind_sorted PyProof.Rows.plain_sorted PyProof.Rows.entry_sorted (PyProof.Rows.args_sorted1 _) ?_
  unfold Builtin.«sorted»
  refine wpAny_bind (m := checkCount "sorted" 1 1 _) (wpAny_pure ?_)
  refine wpAny_bind (PySem.W.kdu_collect (A := X.A.in1) (L2.kdl_raw hs hx hdt) (I.ok.hd hcalm) ho (by omega) fun h' tk acc hk hacc => ?_)
  have ea : acc.toList = (ks.map fun x => x.2.1).map Value.ref := by
    have hl : acc.toList.length = ks.length := by rw [Array.length_toList, hacc.1]; exact l1
    apply List.ext_getElem?
    intro j
    rw [List.getElem?_map, List.getElem?_map]
    cases hj : acc.toList[j]? with
    | none =>
      have h1 := List.getElem?_eq_none_iff.mp hj
      rw [List.getElem?_eq_none (by omega)]
      all_goals rfl
    | some v =>
      obtain ⟨en, hen, hv⟩ := hacc.2 j v (by rw [← Array.getElem?_toList]; exact hj)
      have qe := entry_at he j
      rw [hen] at qe
      cases hb : ks[j]? with
      | none =>
        rw [hb] at qe
        exact nomatch (show some en = none from qe)
      | some b =>
        rw [hb] at qe
        have e2 : en = entryOfKey (tupleKind (mixKind X.prog X.w)) b := Option.some.inj qe
        rw [hv, e2]
        all_goals rfl
  have I1 : Inv X pins σ H { s with heap := h', toks := tk } := I.kept hk
  generalize hbs : (ks.map fun x => x.2.1) = bs0 at *
  have hsz : acc.toList.length ≤ sizeLine := by rw [ea, List.length_map, hlen2, ← hlen2, ← hbs, List.length_map]; omega
  refine wpAny_bind (wpAny_newList ?_ hsz)
  have hoL : (h'.push (seqObj "list" acc.toList.toArray 0)).get? h'.objs.size = some (seqObj "list" acc.toList.toArray 0) := Heap.get?_push_size _ rfl
  have rowsIn : Paired (RowIn (h'.push (seqObj "list" acc.toList.toArray 0))) bs0 l := by
    refine Paired.mapP rows fun b ns e => ?_
    obtain ⟨_, its, rv, ht⟩ := (show ObjOk X.prog X.w H h' b (.tup (ns.map V.int)) from I1.hok b _ e)
    obtain ⟨ob, h1, h2, n, h3⟩ := ht
    exact ⟨its, rv, ob, Heap.get?_push_of_some _ h1, h2, n, h3⟩
  have keyAt : ∀ b ns, H b = some (.tup (List.map V.int ns)) → tupKeyC (h'.push (seqObj "list" acc.toList.toArray 0)) (fun _ => false) (.ref b) = some (ns.map Sum.inl) := fun b ns e => by
    obtain ⟨_, its, rv, ht⟩ := (show ObjOk X.prog X.w H h' b (.tup (ns.map V.int)) from I1.hok b _ e)
    obtain ⟨ob, h1, h2, n, h3⟩ := ht
    exact RowIn.key ⟨its, rv, ob, Heap.get?_push_of_some _ h1, h2, n, h3⟩
  have rowOf : ∀ b ∈ bs0, ∃ ns, H b = some (.tup (List.map V.int ns)) := fun b hb => by
    obtain ⟨i, hi, e⟩ := List.getElem_of_mem hb
    obtain ⟨ns, _, h2⟩ := paired_get rows (by rw [List.getElem?_eq_getElem hi, e])
    exact ⟨ns, h2⟩
  obtain ⟨fs, hfs⟩ := firsts rowsIn hne
  show wpAny _ _ _ _ _ { s with heap := h'.push (seqObj "list" acc.toList.toArray 0), toks := tk }
  refine wpAny_bind (wpAny_holding (wpAny_call_entry PyProof.Rows.slot_list_sort ⟨_, hoL, rfl⟩ PyProof.Rows.entry_list_sort
    (PyProof.Rows.G.list_sort_tups (shape := fun _ => false) (fs := fs) (s := { s with heap := h'.push (seqObj "list" acc.toList.toArray 0), toks := tk }) hoL (tups_eq ea hfs) (fun v hv => ?_) hsz fun st' hp hsrt hstb => ⟨_, rfl, ?_⟩) (PyProof.Rows.args_list_sort _)))
  · rw [ea] at hv
    obtain ⟨b, hb, rfl⟩ := List.mem_map.mp hv
    obtain ⟨ns, e⟩ := rowOf b hb
    exact ⟨_, keyAt b ns e⟩
  · obtain ⟨e', he'⟩ := PyProof.Rows.sortedHeap_at (vs := acc.toList) (out := (arrOf st').map (·.2)) hoL
    have hpl : (arrOf st').toList.Perm (acc.toList.zip acc.toList) := by
      have := Array.perm_iff_toList_perm.mp hp
      rw [pairsOf_toList] at this
      exact this
    have same : ∀ p ∈ (arrOf st').toList, p.1 = p.2 ∧ p.2 ∈ acc.toList := fun p hm => (let ⟨a, b⟩ := mem_zip_self (hpl.mem_iff.mp hm); ⟨a, a ▸ b⟩)
    have hout : ((arrOf st').map (·.2)).toList.Perm acc.toList := by
      rw [Array.toList_map]
      refine (hpl.map _).trans ?_
      rw [List.map_snd_zip (Nat.le_refl _)]
    have ref_of : ∀ v ∈ ((arrOf st').map (·.2)).toList, ∃ b ns, v = Value.ref b ∧ b ∈ bs0 ∧ H b = some (.tup (List.map V.int ns)) := fun v hv => by
      have h1 := hout.mem_iff.mp hv
      rw [ea] at h1
      obtain ⟨b, hb, rfl⟩ := List.mem_map.mp h1
      obtain ⟨ns, e⟩ := rowOf b hb
      exact ⟨b, ns, rfl, hb, e⟩
    have eref : ((arrOf st').map (·.2)).toList = (((arrOf st').map (·.2)).toList.map adr).map Value.ref := by
      rw [List.map_map]
      refine (List.map_id _).symm.trans (List.map_congr_left fun v hv => ?_)
      obtain ⟨b, _, rfl, _⟩ := ref_of v hv
      rfl
    have hbp : (((arrOf st').map (·.2)).toList.map adr).Perm bs0 := by
      refine (hout.map adr).trans ?_
      rw [ea, List.map_map]
      exact List.Perm.of_eq (List.map_id _)
    have rows' : RowsAt H (((arrOf st').map (·.2)).toList.map adr) (((((arrOf st').map (·.2)).toList.map adr)).map (intsAt H)) := by
      have all : ∀ bs : List Addr, (∀ b ∈ bs, ∃ ns, H b = some (.tup (List.map V.int ns))) → RowsAt H bs (bs.map (intsAt H)) := by
        intro bs
        induction bs with
        | nil => intro _; exact .nil
        | cons b bs ih =>
          intro hb
          obtain ⟨ns, e⟩ := hb b List.mem_cons_self
          refine .cons ?_ (ih fun c hc => hb c (List.mem_cons_of_mem _ hc))
          rw [intsAt_of e]
          exact e
      exact all _ fun b hb => rowOf b (hbp.mem_iff.mp hb)
    have hnl : bs0.map (intsAt H) = l := by
      have all : ∀ {bs : List Addr} {l : List (List Int)}, RowsAt H bs l → bs.map (intsAt H) = l := by
        intro bs l h
        induction h with
        | nil => rfl
        | cons e _ ih => rw [List.map_cons, intsAt_of e, ih]
      exact all rows
    have hpn : ((((arrOf st').map (·.2)).toList.map adr).map (intsAt H)).Perm l := by
      rw [← hnl]
      exact hbp.map _
    have hsz2 : (arrOf st').size = (pairsOf acc.toList).size := hp.size_eq
    have hkk : ∀ i (hi : i < (arrOf st').size), KK (tupKindC (h'.push (seqObj "list" acc.toList.toArray 0)) fun _ => false) (arrOf st') i = (intsAt H (adr (arrOf st')[i].2)).map Sum.inl := fun i hi => by
      have hm : (arrOf st')[i] ∈ (arrOf st').toList := by simp
      obtain ⟨h1, h2⟩ := same _ hm
      rw [ea] at h2
      obtain ⟨b, hb, e2⟩ := List.mem_map.mp h2
      obtain ⟨ns, e⟩ := rowOf b hb
      unfold KK
      rw [Array.getElem?_eq_getElem hi]
      show (tupKeyC (h'.push (seqObj "list" acc.toList.toArray 0)) (fun _ => false) (arrOf st')[i].1).getD [] = _
      rw [h1, ← e2, keyAt b ns e]
      show ns.map Sum.inl = (intsAt H b).map Sum.inl
      rw [intsAt_of e]
    have hpw : ((((arrOf st').map (·.2)).toList.map adr).map (intsAt H)).Pairwise (fun a b => leK a b = true) := by
      rw [List.pairwise_iff_getElem]
      intro i j hi hj hij
      have hi' : i < (arrOf st').size := by simpa using hi
      have hj' : j < (arrOf st').size := by simpa using hj
      have := hsrt i j (Nat.le_of_lt hij) (by rw [← hsz2]; exact hj')
      rw [hkk i hi', hkk j hj'] at this
      simp only [List.getElem_map, Array.getElem_toList, Array.getElem_map]
      unfold leK
      rw [show lexLt itemOrd ((intsAt H (adr (arrOf st')[j].2)).map Sum.inl) ((intsAt H (adr (arrOf st')[i].2)).map Sum.inl) = false from this]
      rfl
    have hfin := sortK_eq hpn hpw
    rw [hfin] at rows'
    have hlen : ((((arrOf st').map (·.2)).toList.map adr).map V.ref).length ≤ sizeLine := by
      rw [List.length_map, List.length_map, hout.length_eq]
      exact hsz
    refine wpAny_pure ⟨_, rfl, .ref h'.objs.size, upd H h'.objs.size (.lst ((((arrOf st').map (·.2)).toList.map adr).map V.ref)), I1.laid (t' := tk) (fun b u e => ?_) (Nat.le_refl _)
      (show ObjOk X.prog X.w _ _ _ (.lst ((((arrOf st').map (·.2)).toList.map adr).map V.ref)) from ⟨hlen, ((arrOf st').map (·.2)).toList, e', ?_, by rw [Array.toArray_toList]; exact he'⟩), rfl, q _ _ (I1.hok.fresh (Nat.le_refl _)) rows'⟩
    · have hb : b < h'.objs.size := Heap.lt_size e
      rw [PyProof.Rows.sortedHeap_old (Nat.ne_of_lt hb) (by rw [size_push']; exact Nat.lt_succ_of_lt hb)]
      exact Heap.get?_push_of_some _ e
    · have h3 := L2.vals_refs (((arrOf st').map (·.2)).toList.map adr)
      rw [← eref] at h3
      exact h3
theorem keysInts_rd {K : PySem.W.Frag} {U : Addr → Prop} {H : Hp} : ∀ {vs : List (List L2.Key × V)} {ds : List (List L2.Key × D)}, RDt K U H vs ds → keysInts vs = keysInts ds
  | _, _, .nil => rfl
  | _, _, .cons _ t => by unfold keysInts; rw [keysInts_rd t]
def keyI {α : Type} : List (L2.Key × α) → Option (List Int)
  | [] => some []
  | (.inl i, _) :: r => (keyI r).map (i :: ·)
  | (.inr _, _) :: _ => none
theorem keyI_rd {K : PySem.W.Frag} {U : Addr → Prop} {H : Hp} : ∀ {vs : List (L2.Key × V)} {ds : List (L2.Key × D)}, RDk K U H vs ds → keyI vs = keyI ds
  | _, _, .nil => rfl
  | _, _, .cons (k := k) _ t => by
    cases k with
    | inl i => unfold keyI; rw [keyI_rd t]
    | inr x => rfl
theorem keyI_map : ∀ {vs : List (L2.Key × V)} {ns : List Int}, keyI vs = some ns → vs.map (·.1) = ns.map Sum.inl
  | [], _, e => by cases e; rfl
  | (.inl i, _) :: r, _, e => by
    unfold keyI at e
    obtain ⟨ns, e', rfl⟩ := Option.map_eq_some_iff.mp e
    rw [List.map_cons, List.map_cons, keyI_map e']
  | (.inr _, _) :: _, _, e => by cases e
def sortI (ns : List Int) : List Int := ns.mergeSort fun a b => decide (a ≤ b)
theorem sortI_perm (l : List Int) : (sortI l).Perm l := List.mergeSort_perm l _
theorem sortI_sorted (l : List Int) : (sortI l).Pairwise (· ≤ ·) := by
  have := List.pairwise_mergeSort (le := fun a b : Int => decide (a ≤ b)) (fun a b c h1 h2 => by simp at *; omega) (fun a b => by simp; omega) l
  exact this.imp fun h => of_decide_eq_true h
theorem sortI_eq {l m : List Int} (h : m.Perm l) (s : m.Pairwise (· ≤ ·)) : m = sortI l :=
  List.Perm.eq_of_pairwise (fun _ _ _ _ h1 h2 => Int.le_antisymm h1 h2) s (sortI_sorted l) (h.trans (sortI_perm l).symm)
/-- sorted(d) of a dict, its keys ints or tuples of ints -/
def sortedM (st : List O) : List MV → Option MV
  | [.v (.dit kvs)] => match keysInts kvs with
    | some l => if (l.all fun ns => !ns.isEmpty) = true then some (.v (.lst ((sortK l).map fun ns => .tup (ns.map .int)))) else none
    | none => none
  | [.v (.dic kvs)] => match keyI kvs with
    | some l => if l.length < 64 then some (.v (.lst ((sortI l).map .int))) else none
    | none => none
  | [.obj j] => match st[j]? with
    | some (.dic kvs) => match keyI kvs with
      | some l => if l.length < 64 then some (.v (.lst ((sortI l).map .int))) else none
      | none => none
    | _ => none
  | _ => none
theorem crd_sorted (hcalm : X.calm = true) : CallR X (.builtin "sorted") (LRs X.K G sortedM) := by
  intro pins s σ H xs us Q I r h
  obtain ⟨q, st, ms, mz, rw_, rm, e, p⟩ := h
  unfold sortedM at e
  split at e
  · split at e
    rotate_left
    · cases e
    rename_i l hl
    split at e <;> cases e
    rename_i hne
    obtain ⟨v, rfl, r1⟩ := one_of rm
    cases r1 with | v r1 => cases r1 with | dit ea na ha =>
    refine call_sortedDT hcalm pins s σ H _ us Q I r ⟨_, _, l, rfl, .inl ea, (keysInts_rd ha).trans hl, fun ns hm z => ?_, fun p0 bs hp rows => p _ _ (Kp.new hp) (.v (new_lst rw_ hp (rows_rd rows)))⟩
    have := List.all_eq_true.mp hne ns hm
    rw [z] at this
    cases this
  · split at e
    rotate_left
    · cases e
    rename_i l hl
    split at e <;> cases e
    rename_i hlt
    obtain ⟨v, rfl, r1⟩ := one_of rm
    cases r1 with | v r1 => cases r1 with | dic ea na ha =>
    exact call_sortedDI hcalm pins s σ H _ us Q I r ⟨_, _, l, rfl, .inl ea, keyI_map ((keyI_rd ha).trans hl), hlt, fun ys p0 hp hs hn => p _ _ (Kp.new hn) (.v (new_lst rw_ hn (by rw [sortI_eq hp hs]; exact RDs.ints _)))⟩
  · obtain ⟨v, rfl, r1⟩ := one_of rm
    cases r1 with | obj em =>
    split at e
    · rename_i hj
      split at e
      rotate_left
      · cases e
      rename_i l hl
      split at e <;> cases e
      rename_i hlt
      obtain ⟨vs, ea, ha⟩ := rw_.objs _ _ _ em hj
      exact call_sortedDI hcalm pins s σ H _ us Q I r ⟨_, _, l, rfl, .inl ea, keyI_map ((keyI_rd ha).trans hl), hlt, fun ys p0 hp hs hn => p _ _ (Kp.new hn) (.v (new_lst rw_ hn (by rw [sortI_eq hp hs]; exact RDs.ints _)))⟩
    · cases e
  · cases e
end
/-! ### dict(pairs) -/
def putKD {κ : Type} [DecidableEq κ] (kvs : List (κ × D)) (k : κ) (d : D) : List (κ × D) :=
  if (kvs.any fun kv => decide (kv.1 = k)) = true then kvs.map (fun kv => if kv.1 = k then (kv.1, d) else kv) else kvs ++ [(k, d)]
def mergeKD {κ : Type} [DecidableEq κ] (kvs more : List (κ × D)) : List (κ × D) := more.foldl (fun acc kv => putKD acc kv.1 kv.2) kvs
def pairsK : List D → Option (List (L2.Key × D))
  | [] => some []
  | .tup [k, d] :: r => match dKey k, pairsK r with
    | some k, some l => some ((k, d) :: l)
    | _, _ => none
  | _ :: _ => none
def pairsT : List D → Option (List (List L2.Key × D))
  | [] => some []
  | .tup [.tup ks, d] :: r => match dKeys ks, pairsT r with
    | some k, some l => some ((k, d) :: l)
    | _, _ => none
  | _ :: _ => none
def dictM (_ : List O) : List MV → Option MV
  | [.v (.lst ps)] => if szOk ps.length = true then (match pairsK ps with
    | some l => some (.v (.dic (mergeKD [] l)))
    | none => (pairsT ps).map fun l => .v (.dit (mergeKD [] l))) else none
  | _ => none
section
variable {K : PySem.W.Frag} {U : Addr → Prop} {H : Hp}
theorem RDk.any {vs : List (L2.Key × V)} {ds : List (L2.Key × D)} (r : RDk K U H vs ds) (k : L2.Key) : (vs.any fun kv => decide (kv.1 = k)) = ds.any fun kv => decide (kv.1 = k) := by
  induction ds generalizing vs with
  | nil => cases r; rfl
  | cons d ds ih =>
    cases r with
    | cons h t => rw [List.any_cons, List.any_cons, ih t]
theorem RDk.append : ∀ {vs vs' : List (L2.Key × V)} {ds ds' : List (L2.Key × D)}, RDk K U H vs ds → RDk K U H vs' ds' → RDk K U H (vs ++ vs') (ds ++ ds')
  | _, _, _, _, .nil, s => s
  | _, _, _, _, .cons h t, s => .cons h (RDk.append t s)
theorem RDk.repl {v : V} {d : D} (k : L2.Key) (r0 : RD K U H v d) : ∀ {vs : List (L2.Key × V)} {ds : List (L2.Key × D)}, RDk K U H vs ds → RDk K U H (vs.map fun kv => if kv.1 = k then (kv.1, v) else kv) (ds.map fun kv => if kv.1 = k then (kv.1, d) else kv)
  | _, _, .nil => .nil
  | _, _, .cons (k := k') h t => by
    rw [List.map_cons, List.map_cons]
    by_cases e : k' = k
    · simp only [e, if_true]
      exact .cons r0 (RDk.repl k r0 t)
    · simp only [e, if_false]
      exact .cons h (RDk.repl k r0 t)
theorem RDk.put {vs : List (L2.Key × V)} {ds : List (L2.Key × D)} {v : V} {d : D} (r : RDk K U H vs ds) (k : L2.Key) (r0 : RD K U H v d) : RDk K U H (putK vs k v) (putKD ds k d) := by
  unfold putK putKD
  rw [r.any k]
  by_cases e : (ds.any fun kv => decide (kv.1 = k)) = true
  · rw [if_pos e, if_pos e]; exact RDk.repl k r0 r
  · rw [if_neg e, if_neg e]; exact r.append (.cons r0 .nil)
theorem RDk.merge : ∀ {vs' : List (L2.Key × V)} {ds' : List (L2.Key × D)} {vs : List (L2.Key × V)} {ds : List (L2.Key × D)}, RDk K U H vs' ds' → RDk K U H vs ds → RDk K U H (mergeK vs vs') (mergeKD ds ds')
  | _, _, _, _, .nil, r => r
  | _, _, _, _, .cons h t, r => (RDk.merge t (r.put _ h) :)
theorem RDt.any {vs : List (List L2.Key × V)} {ds : List (List L2.Key × D)} (r : RDt K U H vs ds) (k : List L2.Key) : (vs.any fun kv => decide (kv.1 = k)) = ds.any fun kv => decide (kv.1 = k) := by
  induction ds generalizing vs with
  | nil => cases r; rfl
  | cons d ds ih =>
    cases r with
    | cons h t => rw [List.any_cons, List.any_cons, ih t]
theorem RDt.append : ∀ {vs vs' : List (List L2.Key × V)} {ds ds' : List (List L2.Key × D)}, RDt K U H vs ds → RDt K U H vs' ds' → RDt K U H (vs ++ vs') (ds ++ ds')
  | _, _, _, _, .nil, s => s
  | _, _, _, _, .cons h t, s => .cons h (RDt.append t s)
theorem RDt.repl {v : V} {d : D} (k : List L2.Key) (r0 : RD K U H v d) : ∀ {vs : List (List L2.Key × V)} {ds : List (List L2.Key × D)}, RDt K U H vs ds → RDt K U H (vs.map fun kv => if kv.1 = k then (kv.1, v) else kv) (ds.map fun kv => if kv.1 = k then (kv.1, d) else kv)
  | _, _, .nil => .nil
  | _, _, .cons (k := k') h t => by
    rw [List.map_cons, List.map_cons]
    by_cases e : k' = k
    · simp only [e, if_true]
      exact .cons r0 (RDt.repl k r0 t)
    · simp only [e, if_false]
      exact .cons h (RDt.repl k r0 t)
theorem RDt.put {vs : List (List L2.Key × V)} {ds : List (List L2.Key × D)} {v : V} {d : D} (r : RDt K U H vs ds) (k : List L2.Key) (r0 : RD K U H v d) : RDt K U H (putK vs k v) (putKD ds k d) := by
  unfold putK putKD
  rw [r.any k]
  by_cases e : (ds.any fun kv => decide (kv.1 = k)) = true
  · rw [if_pos e, if_pos e]; exact RDt.repl k r0 r
  · rw [if_neg e, if_neg e]; exact r.append (.cons r0 .nil)
theorem RDt.merge : ∀ {vs' : List (List L2.Key × V)} {ds' : List (List L2.Key × D)} {vs : List (List L2.Key × V)} {ds : List (List L2.Key × D)}, RDt K U H vs' ds' → RDt K U H vs ds → RDt K U H (vs'.foldl (fun acc kv => putK acc kv.1 kv.2) vs) (mergeKD ds ds')
  | _, _, _, _, .nil, r => r
  | _, _, _, _, .cons h t, r => (RDt.merge t (r.put _ h) :)
end

/-- dict(xs), xs a list of pairs whose keys are tuples: each pair's place, its key's place, key and value -/
def rDictT : List V → Hp → VK → Prop := fun xs H Q => ∃ (a : Addr) (ts : List (Addr × Addr × List L2.Key × V)), xs = [.ref a] ∧ H a = some (.lst (ts.map fun t => V.ref t.1)) ∧
  (∀ t ∈ ts, H t.1 = some (.tup [.ref t.2.1, t.2.2.2]) ∧ H t.2.1 = some (.tup (t.2.2.1.map kV))) ∧ ∀ p, H p = none → Q (.ref p) (upd H p (.dT ((ts.map fun t => t.2.2).foldl (fun acc kv => putK acc kv.1 kv.2) [])))
theorem storedAll_kt {H : Hp} : ∀ {kvs : List (List L2.Key × V)} {rs : List (List L2.Key × Addr × Value)} {acc : List (List L2.Key × V)} {xs : List (List L2.Key × Addr × Value)}, KT H kvs rs → KT H acc xs →
    KT H (kvs.foldl (fun acc kv => putK acc kv.1 kv.2) acc) (storedAllH xs rs)
  | _, _, _, _, .nil, r => r
  | kv :: _, q :: _, _, _, .cons h t, r => by
    obtain ⟨h1, h2, h3⟩ := h
    have := storedAll_kt t (r.put kv.1 h2 h3)
    rw [List.foldl_cons]
    unfold storedAllH at this ⊢
    rw [List.foldl_cons, ← h1]
    exact this
section
variable {X : Cx} {G : DG} {pins : List (Addr × Obj)} {σ : L2.St} {H : Hp} {s : Shared}
theorem dt_vals (I : Inv X pins σ H s) : ∀ {ts : List (Addr × Addr × List L2.Key × V)}, (∀ t ∈ ts, H t.1 = some (.tup [.ref t.2.1, t.2.2.2]) ∧ H t.2.1 = some (.tup (t.2.2.1.map kV))) →
    ∃ rs : List (List L2.Key × Addr × Value), KT H (ts.map fun t => t.2.2) rs ∧ Paired (fun (t : Addr × Addr × List L2.Key × V) (q : List L2.Key × Addr × Value) => t.2.1 = q.2.1 ∧ IsTup s.heap t.1 #[.ref q.2.1, q.2.2]) ts rs
  | [], _ => ⟨[], .nil, .nil⟩
  | t :: ts, h => by
    obtain ⟨rs, r1, r2⟩ := dt_vals I fun t' m => h t' (List.mem_cons_of_mem _ m)
    obtain ⟨h1, h2⟩ := h t List.mem_cons_self
    obtain ⟨_, its, rv, ht⟩ := (show ObjOk X.prog X.w H s.heap _ (.tup _) from I.hok _ _ h1)
    obtain ⟨u1, u2, rfl, q1, q2⟩ := vals2 rv
    cases q1
    exact ⟨(t.2.2.1, t.2.1, u2) :: rs, .cons ⟨rfl, h2, q2⟩ r1, .cons ⟨rfl, ht⟩ r2⟩
theorem paired_at {α β : Type} {F : α → β → Prop} : ∀ {xs : List α} {ys : List β} {i : Nat} {y : β}, Paired F xs ys → ys[i]? = some y → ∃ x, xs[i]? = some x ∧ F x y
  | _, _, _, _, .nil, e => by simp at e
  | _, _, 0, _, .cons h _, e => by cases e; exact ⟨_, rfl, h⟩
  | _, _, i + 1, _, .cons _ t, e => by
    obtain ⟨y, e1, r⟩ := paired_at t (i := i) (by simpa using e)
    exact ⟨y, by simpa using e1, r⟩
theorem call_dictT (hcalm : X.calm = true) (hu : X.A.units + 65 < cLine) : CallR X (.type "dict") rDictT := by
  intro pins s σ H xs us Q I r h
  obtain ⟨a, ts, rfl, ha, hat, q⟩ := h
  obtain ⟨u, rfl, rx⟩ := r.one
  cases rx
  obtain ⟨hz, its, n, rv, e⟩ := (show (ts.map fun t => V.ref t.1).length ≤ sizeLine ∧ ∃ (its : List Value) (n : Nat), Vals (ts.map fun t => V.ref t.1) its ∧ s.heap.get? a = some { cls := .type "list", data := .seq its.toArray n } from I.hok a _ ha)
  have ei : its = (ts.map fun t => t.1).map Value.ref := refs_at (by rw [List.map_map]; exact rv)
  obtain ⟨rs, r1, r2⟩ := dt_vals I hat
  have hlr : ts.length = rs.length := Paired.length r2
  rw [List.length_map] at hz
  refine call_dict_pairsH (knd := tupleKind (mixKind X.prog X.w)) (ps := rs) (PairArg.list a its.toArray (fun j => ((ts.map fun t => t.1)[j]?).getD 0) (rs.map fun q => (Value.ref q.2.1, q.2.2))) (I.ok.hd hcalm) (by show X.A.units + 1 + 1 < cLine; omega)
    ⟨⟨_, n, e, rfl, rfl, rfl⟩, by rw [List.size_toArray, ei, List.length_map, List.length_map, List.length_map, hlr], fun j k v hj => ?_⟩ ⟨by rw [List.length_map], fun i key v hr => ?_⟩ (fun h' hk x hx => ?_) (by rw [List.length_map, ← hlr]; exact hz) fun h' tk hd' hk => ?_
  · rw [List.getElem?_map] at hj
    obtain ⟨q, hq, hkv⟩ := Option.map_eq_some_iff.mp hj
    cases hkv
    obtain ⟨t, ht, hx1, hx2⟩ := paired_at r2 hq
    have e1 : ((ts.map fun t => t.1)[j]?).getD 0 = t.1 := by rw [List.getElem?_map, ht]; rfl
    show its.toArray[j]? = some (Value.ref (((ts.map fun t => t.1)[j]?).getD 0)) ∧ PairAt s.heap (((ts.map fun t => t.1)[j]?).getD 0) (Value.ref q.2.1) q.2.2
    rw [e1]
    refine ⟨by rw [ei]; simp [ht], .inl ?_⟩
    obtain ⟨o, ho, hc, n, hd⟩ := hx2
    exact ⟨o, ho, hc, n, hd⟩
  · have hr : (rs.map fun q => (Value.ref q.2.1, q.2.2))[i]? = some (key, v) := hr
    rw [List.getElem?_map] at hr
    obtain ⟨q, hq, hkv⟩ := Option.map_eq_some_iff.mp hr
    cases hkv
    exact ⟨q.1, q.2.1, hq, rfl⟩
  · obtain ⟨i, hi, hix⟩ := List.getElem_of_mem hx
    obtain ⟨kv, hkv, h1, h2, h3⟩ := paired_at r1 (i := i) (y := x) (by rw [List.getElem?_eq_getElem hi, hix])
    have hk1 := key_of (P := X.prog) (w := X.w) I.hok h2
    rw [h1] at hk1
    exact tupleKind_stays.stays (fun b o vs n e _ => hk b o (Nat.ne_of_lt (Heap.lt_size e)) (fun z => nomatch z) e) hk1
  · obtain ⟨o, es, ep, h1, h2, h3, h4, h5, h6⟩ := hd'
    have hm : (s.heap.objs.size == sysModules) = false := beq_eq_false_iff_ne.mpr (Nat.ne_of_gt I.big)
    have hn : H s.heap.objs.size = none := I.hok.fresh (Nat.le_refl _)
    have kt := storedAll_kt r1 (acc := []) (xs := []) .nil
    have hlen : ((ts.map fun t => t.2.2).foldl (fun acc kv => putK acc kv.1 kv.2) []).length ≤ sizeLine := by
      rw [Paired.length kt]
      refine Nat.le_trans (storedAllH_length rs []) ?_
      rw [List.length_nil, Nat.zero_add, ← hlr]
      exact hz
    exact ⟨.ref s.heap.objs.size, upd H s.heap.objs.size (.dT _), I.laid (t' := tk) (fun b o e => hk b o (fun z => nomatch z) e) (Nat.le_refl _) (show ObjOk X.prog X.w _ _ _ (.dT _) from ⟨hlen, hm, _, kt.keeps (fun b ys eb => by rw [upd_ne (ne_of_none eb hn)]; exact eb), o, es, ep, h1, h2, h3, h4, h6⟩), rfl, q _ hn⟩
theorem pairsK_v {K : PySem.W.Frag} {U : Addr → Prop} {H : Hp} : ∀ {ds : List D} {l : List (L2.Key × D)} {vs : List V}, pairsK ds = some l → RDs K U H vs ds →
    ∃ (ps : List Addr) (kvs : List (L2.Key × V)), vs = ps.map V.ref ∧ Paired (fun p kv => H p = some (.tup [kV kv.1, kv.2])) ps kvs ∧ RDk K U H kvs l
  | [], _, _, e, .nil => by cases e; exact ⟨[], [], rfl, .nil, .nil⟩
  | d :: ds, l, _, e, .cons h t => by
    unfold pairsK at e
    split at e
    · rename_i heq; cases heq
    · rename_i k d' r heq
      cases heq
      split at e
      · rename_i k' l' e1 e2
        cases e
        obtain ⟨ps, kvs, rfl, h1, h2⟩ := pairsK_v e2 t
        cases h with | tup ea ha =>
        cases ha with | cons r1 r2 => cases r2 with | cons r2 r3 =>
        cases r3
        have := dKey_v e1 r1
        subst this
        exact ⟨_ :: ps, (k', _) :: kvs, rfl, .cons ea h1, .cons r2 h2⟩
      · cases e
    · cases e
theorem pairsT_v {K : PySem.W.Frag} {U : Addr → Prop} {H : Hp} : ∀ {ds : List D} {l : List (List L2.Key × D)} {vs : List V}, pairsT ds = some l → RDs K U H vs ds →
    ∃ (ts : List (Addr × Addr × List L2.Key × V)), vs = ts.map (fun t => V.ref t.1) ∧ (∀ t ∈ ts, H t.1 = some (.tup [.ref t.2.1, t.2.2.2]) ∧ H t.2.1 = some (.tup (t.2.2.1.map kV))) ∧ RDt K U H (ts.map fun t => t.2.2) l
  | [], _, _, e, .nil => by cases e; exact ⟨[], rfl, fun t ht => (by cases ht), .nil⟩
  | d :: ds, l, _, e, .cons h t => by
    unfold pairsT at e
    split at e
    · rename_i heq; cases heq
    · rename_i k d' r heq
      cases heq
      split at e
      · rename_i k' l' e1 e2
        cases e
        obtain ⟨ts, rfl, h1, h2⟩ := pairsT_v e2 t
        cases h with | @tup a xs _ ea ha =>
        cases ha with | cons r1 r2 => cases r2 with | @cons v2 _ _ _ r2 r3 =>
        cases r3
        cases r1 with | @tup b ys _ eb hb =>
        have := dKeys_v e1 hb
        subst this
        refine ⟨(a, b, k', v2) :: ts, rfl, fun t ht => ?_, .cons r2 h2⟩
        rcases List.mem_cons.mp ht with ht | ht
        · subst ht
          exact ⟨ea, eb⟩
        · exact h1 t ht
      · cases e
    · cases e
theorem crd_dict (hcalm : X.calm = true) (hu : X.A.units + 65 < cLine) : CallR X (.type "dict") (LRs X.K G dictM) := by
  intro pins s σ H xs us Q I r h
  obtain ⟨q, st, ms, mz, rw_, rm, e, p⟩ := h
  unfold dictM at e
  split at e
  rotate_left
  · cases e
  rename_i ds
  split at e
  rotate_left
  · cases e
  rename_i hz
  obtain ⟨v, rfl, r1⟩ := one_of rm
  cases r1 with | v r1 => cases r1 with | @lst a vs _ ea na ha =>
  split at e
  · rename_i l hl
    cases e
    obtain ⟨ps, kvs, rfl, h1, h2⟩ := pairsK_v hl ha
    exact call_dictP hcalm pins s σ H _ us Q I r ⟨a, ps, kvs, rfl, sql_of ea, Paired.mapP h1 fun _ _ z => st_of z, fun p0 hp => p _ _ (Kp.new hp) (.v (.dic upd_same (rw_.fresh hp) (RDk.mono (Mu := fun _ => False) (Kp.new hp) (fun _ n _ => ⟨id, n⟩) _ _ (RDk.merge h2 .nil))))⟩
  · obtain ⟨l, hl, rfl⟩ := Option.map_eq_some_iff.mp e
    obtain ⟨ts, rfl, h1, h2⟩ := pairsT_v hl ha
    exact call_dictT hcalm hu pins s σ H _ us Q I r ⟨a, ts, rfl, ea, h1, fun p0 hp => p _ _ (Kp.new hp) (.v (.dit upd_same (rw_.fresh hp) (RDt.mono (Mu := fun _ => False) (Kp.new hp) (fun _ n _ => ⟨id, n⟩) _ _ (RDt.merge h2 .nil))))⟩
end
end CD

set_option Elab.async false
set_option linter.all false
set_option maxRecDepth 100000
set_option maxHeartbeats 4000000
namespace CD
open PySem PySem.Spec PyProof.Rows L2

/-! ### rules as they are printed: nothing is left to be found -/
/-- no slot's name is one of the two that the language keeps -/
def NoDbg (N : List Str) : Bool := N.all fun x => !(x == ("__debug__" : Str)) && !(x == ("__classdict__" : Str))
theorem NoDbg.at {N : List Str} (h : NoDbg N = true) {i : Nat} {x : Str} (e : N[i]? = some x) : (x == ("__debug__" : Str)) = false ∧ (x == ("__classdict__" : Str)) = false := by
  have := List.all_eq_true.mp h x (List.mem_of_getElem? e)
  simpa using this
/-- a builtin's name -/
structure BB (x : Str) (v : Value) : Prop where
  hv : bootBuiltins x = some v
  hn : x ≠ "__name__"
  hd : (x == ("__debug__" : Str)) = false
section
variable {X : Cx} {G : DG} {W : WX} {e a b : Expr} {es : List Expr} {f : Env → M MV} {fs : Env → M (List MV)} {pos : Pos}
theorem qv (i : Nat) {x : Str} (hD : NoDbg X.N = true) (hN : X.N[i]? = some x) (hv : Vis X.env.scope x) : PE X (.Name x pos) (LE X.K G W (fVar i)) := pd_var i hN hv (NoDbg.at hD hN).1 (NoDbg.at hD hN).2
theorem q_callB {id : String} {o : List O → List MV → Option MV} {x : Str} {p : Pos} (hc : CallR X (.builtin id) (LRs X.K G o)) (hg : Gl X x) (hm : X.mg x = none) (bb : BB x (.builtin id)) (ha : PA X (e :: es) (LA X.K G W fs))
    (he : starEach (e :: es) X.env = (false, eval e X.env) :: starEach es X.env) (hpl : (backTo pos (starEach es X.env)).any (·.1) = false) : PE X (.Call (.Name x p) (e :: es) [] pos) (LE X.K G W (fB o fs)) :=
  pd_callB hc hg hm bb.hv ha bb.hn bb.hd he hpl
theorem q_callTy {T : String} {o : List O → List MV → Option MV} {x : Str} {p : Pos} (hc : CallR X (.type T) (LRs X.K G o)) (hg : Gl X x) (hm : X.mg x = none) (bb : BB x (.type T)) (ha : PA X (e :: es) (LA X.K G W fs))
    (he : starEach (e :: es) X.env = (false, eval e X.env) :: starEach es X.env) (hpl : (backTo pos (starEach es X.env)).any (·.1) = false) : PE X (.Call (.Name x p) (e :: es) [] pos) (LE X.K G W (fB o fs)) :=
  pd_callTy hc hg hm bb.hv ha bb.hn bb.hd he hpl
theorem q_isi {T : Str} {Tn : String} {p p2 : Pos} (hT : Tn = "int" ∨ Tn = "bool" ∨ Tn = "str" ∨ Tn = "list" ∨ Tn = "tuple" ∨ Tn = "dict") (hg : Gl X "isinstance") (hm : X.mg "isinstance" = none) (hgT : Gl X T) (hmT : X.mg T = none) (bb : BB T (.type Tn))
    (he : PE X e (LE X.K G W f)) (hst : starEach [e, .Name T p2] X.env = (false, eval e X.env) :: starEach [.Name T p2] X.env) : PE X (.Call (.Name "isinstance" p) [e, .Name T p2] [] pos) (LE X.K G W (fIsi Tn f)) :=
  pd_isi hT hg hm hgT hmT bb.hv he bb.hn bb.hd hst rfl rfl
end
theorem bb_len : BB "len" (.builtin "len") := ⟨by decide +kernel, by decide, by decide⟩
theorem bb_abs : BB "abs" (.builtin "abs") := ⟨by decide +kernel, by decide, by decide⟩
theorem bb_sum : BB "sum" (.builtin "sum") := ⟨by decide +kernel, by decide, by decide⟩
theorem bb_any : BB "any" (.builtin "any") := ⟨by decide +kernel, by decide, by decide⟩
theorem bb_all : BB "all" (.builtin "all") := ⟨by decide +kernel, by decide, by decide⟩
theorem bb_max : BB "max" (.builtin "max") := ⟨by decide +kernel, by decide, by decide⟩
theorem bb_min : BB "min" (.builtin "min") := ⟨by decide +kernel, by decide, by decide⟩
theorem bb_sorted : BB "sorted" (.builtin "sorted") := ⟨by decide +kernel, by decide, by decide⟩
theorem bb_tuple : BB "tuple" (.type "tuple") := ⟨by decide +kernel, by decide, by decide⟩
theorem bb_list : BB "list" (.type "list") := ⟨by decide +kernel, by decide, by decide⟩
theorem bb_int : BB "int" (.type "int") := ⟨by decide +kernel, by decide, by decide⟩
theorem bb_str : BB "str" (.type "str") := ⟨by decide +kernel, by decide, by decide⟩
theorem bb_bool : BB "bool" (.type "bool") := ⟨by decide +kernel, by decide, by decide⟩
theorem bb_dict : BB "dict" (.type "dict") := ⟨by decide +kernel, by decide, by decide⟩
theorem ty_int : ("int" : String) = "int" ∨ ("int" : String) = "bool" ∨ ("int" : String) = "str" ∨ ("int" : String) = "list" ∨ ("int" : String) = "tuple" ∨ ("int" : String) = "dict" := .inl rfl
theorem ty_bool : ("bool" : String) = "int" ∨ ("bool" : String) = "bool" ∨ ("bool" : String) = "str" ∨ ("bool" : String) = "list" ∨ ("bool" : String) = "tuple" ∨ ("bool" : String) = "dict" := .inr (.inl rfl)
theorem ty_str : ("str" : String) = "int" ∨ ("str" : String) = "bool" ∨ ("str" : String) = "str" ∨ ("str" : String) = "list" ∨ ("str" : String) = "tuple" ∨ ("str" : String) = "dict" := .inr (.inr (.inl rfl))
theorem ty_list : ("list" : String) = "int" ∨ ("list" : String) = "bool" ∨ ("list" : String) = "str" ∨ ("list" : String) = "list" ∨ ("list" : String) = "tuple" ∨ ("list" : String) = "dict" := .inr (.inr (.inr (.inl rfl)))
theorem ty_tuple : ("tuple" : String) = "int" ∨ ("tuple" : String) = "bool" ∨ ("tuple" : String) = "str" ∨ ("tuple" : String) = "list" ∨ ("tuple" : String) = "tuple" ∨ ("tuple" : String) = "dict" := .inr (.inr (.inr (.inr (.inl rfl))))
section
variable {X : Cx} {G : DG} {E : XK} {W : WX} {e a b o : Expr} {es : List Expr} {f g fo : Env → M MV} {fs gs : Env → M (List MV)} {F : List MV → M MV} {p pos apos tpos gpos : Pos} {elts : List Expr} {kk : Nat}
theorem q_callP (x : Str) (k : Nat) (ps : List Str) (kb : List (Nat × List Str)) {n : Nat} (hn : ps.length = n) (h : HasF X.prog X.w X.K X.mg X.base G k x ps kb F) (hr : Room k X.A) (hg : Gl X x) (hx : Passes (L2.CX X.prog X.w) X E) (ha : PA X (e :: es) (LA X.K G (WE E) fs)) (hdb : (x == ("__debug__" : Str)) = false)
    (he : starEach (e :: es) X.env = (false, eval e X.env) :: starEach es X.env) (hpl : (backTo pos (starEach es X.env)).any (·.1) = false) : PE X (.Call (.Name x p) (e :: es) [] pos) (LE X.K G (WE E) (fCallP n F fs)) := by
  subst hn
  exact pd_callP h hr hg hx ha hdb he hpl
theorem q_callS (x : Str) (k : Nat) (ps : List Str) (kb : List (Nat × List Str)) {n : Nat} (hn : ps.length = n) (h : HasF X.prog X.w X.K X.mg X.base G k x ps kb F) (hr : Room k X.A) (hg : Gl X x) (hx : Passes (L2.CX X.prog X.w) X E) (ha : PA X (e :: es) (LA X.K G (WE E) fs)) (hdb : (x == ("__debug__" : Str)) = false)
    (he : starEach (e :: es) X.env = (false, eval e X.env) :: starEach es X.env) (hpl : (backTo pos (starEach es X.env)).any (·.1) = false) : PE X (.Call (.Name x p) (e :: es) [] pos) (LE X.K G (WE E) (fCallS n F fs)) := by
  subst hn
  exact pd_callS h hr hg hx ha hdb he hpl
theorem q_make (x : Str) (k : Nat) (C : Addr) (ps : List Str) (kb : List (Nat × List Str)) {n : Nat} (hn : ps.length = n) (h : HasK X.prog X.w X.K X.mg X.base G C k x ps kb F) (hr : Room (k + 1) X.A) (hg : Gl X x) (hx : Passes (L2.CX X.prog X.w) X E) (ha : PA X (e :: es) (LA X.K G (WE E) fs)) (hdb : (x == ("__debug__" : Str)) = false)
    (he : starEach (e :: es) X.env = (false, eval e X.env) :: starEach es X.env) (hpl : (backTo pos (starEach es X.env)).any (·.1) = false) : PE X (.Call (.Name x p) (e :: es) [] pos) (LE X.K G (WE E) (fMake C n F fs)) := by
  subst hn
  exact pd_make h hr hg hx ha hdb he hpl
theorem q_meth {pl : Sem Bool} (m : Str) (k : Nat) (C : Addr) (ps : List Str) (kb : List (Nat × List Str)) {n : Nat} (hn : ps.length = n) (h : HasM X.prog X.w X.K X.mg X.base G C k m ps kb F) (hr : Room k X.A) (hx : Passes (L2.CX X.prog X.w) X E) (ho : PE X o (LE X.K G (WE E) fo)) (ha : PA X (e :: es) (LA X.K G (WE E) fs))
    (hst : starEach (e :: es) X.env = (false, eval e X.env) :: starEach es X.env) (hpl : (backTo pos (starEach es X.env)).any (·.1) = false)
    (ht : eval (.Call (.Attribute o m apos) (e :: es) [] pos) X.env = (do
      let ov ← eval o X.env
      standAt apos.atName
      let (f, first) ← holding [ov] (getMethod ov m pl)
      callWith pos f first (backTo pos (starEach (e :: es) X.env)) (backToKw pos (keywordEach [] X.env)))) :
    PE X (.Call (.Attribute o m apos) (e :: es) [] pos) (LE X.K G (WE E) (fMeth C m n F fo fs)) := by
  subst hn
  exact pd_meth h hr hx ho ha hst hpl ht
theorem q_meth0 {pl : Sem Bool} (m : Str) (k : Nat) (C : Addr) (ps : List Str) (kb : List (Nat × List Str)) {n : Nat} (hn : ps.length = n) (h : HasM X.prog X.w X.K X.mg X.base G C k m ps kb F) (hr : Room k X.A) (hx : Passes (L2.CX X.prog X.w) X E) (ho : PE X o (LE X.K G (WE E) fo))
    (ht : eval (.Call (.Attribute o m apos) [] [] pos) X.env = (do
      let ov ← eval o X.env
      standAt apos.atName
      let (f, first) ← holding [ov] (getMethod ov m pl)
      callWith pos f first (backTo pos (starEach [] X.env)) (backToKw pos (keywordEach [] X.env)))) :
    PE X (.Call (.Attribute o m apos) [] [] pos) (LE X.K G (WE E) (fMeth C m n F fo fNil)) := by
  subst hn
  exact pd_meth0 h hr hx ho ht
variable {elt tg iter : Expr} {ifs : List Expr} {scope : Scope} {fi : Env → M (List D)} {gt : MV → Env → Option Env} {ft : Env → M Bool} {fe : Env → M MV}
theorem q_lc (own : List (Str × Nat)) {vs : List Nat} (hvs : own.map (·.2) = vs) (hc : X.calm = true) (hN : X.N.Nodup) (hi : PI X tg iter (LI X.K G W fi)) (ok : BlkOk X.N X.env.scope scope own)
    (hg : ∀ (s : Shared) (H : Hp) (C : Addr) (cl : List (Str × Addr)) (fp : List Addr), PG (X.blk s H scope (compEnvC scope cl C X.env) fp) tg (LG X.K G vs gt))
    (ht : ∀ (s : Shared) (H : Hp) (C : Addr) (cl : List (Str × Addr)) (fp : List Addr), PTs (X.blk s H scope (compEnvC scope cl C X.env) fp) ifs (LT X.K G (fun _ _ _ _ => False) ft))
    (he : ∀ (s : Shared) (H : Hp) (C : Addr) (cl : List (Str × Addr)) (fp : List Addr), PE (X.blk s H scope (compEnvC scope cl C X.env) fp) elt (LE X.K G (fun _ _ _ _ => False) fe)) (hs : ∀ x, foldedSetIterable iter X.env x = pure x) :
    PE X (.ListComp elt [⟨tg, iter, ifs, 0⟩] scope pos) (LE X.K G W (fLc vs fi gt ft fe)) := by
  subst hvs
  exact pd_lc hc hN hi ok hg ht he hs
theorem q_setLc (i : Nat) (own : List (Str × Nat)) {vs : List Nat} (hvs : own.map (·.2) = vs) {y : Str} {py spos : Pos} (hc : X.calm = true) (hN : X.N.Nodup) (hy : X.N[i]? = some y) (hyl : X.env.scope.names.lookup y = some .local)
    (hsw : swapsWith (.ListComp elt [⟨tg, iter, ifs, 0⟩] scope pos) (some (.Name y py)) spos.line X.env = pure true) (hi : PI X tg iter (LI X.K G W fi)) (ok : BlkOk X.N X.env.scope scope own)
    (hg : ∀ (s : Shared) (H : Hp) (C : Addr) (cl : List (Str × Addr)) (fp : List Addr), PG (X.blk s H scope (compEnvC scope cl C X.env) fp) tg (LG X.K G vs gt))
    (ht : ∀ (s : Shared) (H : Hp) (C : Addr) (cl : List (Str × Addr)) (fp : List Addr), PTs (X.blk s H scope (compEnvC scope cl C X.env) fp) ifs (LT X.K G (fun _ _ _ _ => False) ft))
    (he : ∀ (s : Shared) (H : Hp) (C : Addr) (cl : List (Str × Addr)) (fp : List Addr), PE (X.blk s H scope (compEnvC scope cl C X.env) fp) elt (LE X.K G (fun _ _ _ _ => False) fe)) (hs : ∀ x, foldedSetIterable iter X.env x = pure x) :
    PS X (.Assign [.Name y py] (.ListComp elt [⟨tg, iter, ifs, 0⟩] scope pos) spos) (LS X.K G W (sAsg (fLc vs fi gt ft fe) (setN i))) := by
  subst hvs
  exact psd_setLc i hc hN hy hyl hsw hi ok hg ht he hs
theorem q_allG (own : List (Str × Nat)) {vs : List Nat} (hvs : own.map (·.2) = vs) {c P : Addr} {k : Nat} (hr : Room (k + 1) X.A) (hcalm : X.calm = true) (hN : X.N.Nodup) (hg : Gl X "all") (hm : X.mg "all" = none) (TB : GxR.TabB X.base X.mg c P) (hP : P ∈ G.T) (hcode : X.env.code = .ref c) (ok : BlkOk X.N X.env.scope scope own)
    (hcell : ∀ y ∈ scope.names, y.2 ≠ .cell) (hdotN : (".0" : Str) ∉ X.N) (hdot : scope.names.lookup (".0" : Str) = some NameKind.local) (hco : scope.isCoroutine = false) (hi : PI X tg iter (LI X.K G W fi))
    (hgt : ∀ (A : Around) (s : Shared) (H : Hp) (C : Addr) (cl : List (Str × Addr)) (code : Value) (fp : List Addr), PG (CWG.gcx X A s H (genEnv scope cl C code builtinsNs X.env) fp) tg (LG X.K G vs gt))
    (he : ∀ (A : Around) (s : Shared) (H : Hp) (C : Addr) (cl : List (Str × Addr)) (code : Value) (fp : List Addr), Room k A → PE (CWG.gcx X A s H (genEnv scope cl C code builtinsNs X.env) fp) elt (LE X.K G (fun _ _ _ _ => False) fe))
    (hs : ∀ v, genFold iter X.env v = pure v)
    (hst : starEach [.GeneratorExp elt [⟨tg, iter, [], 0⟩] scope gpos] X.env = (false, eval (.GeneratorExp elt [⟨tg, iter, [], 0⟩] scope gpos) X.env) :: starEach [] X.env) :
    PE X (.Call (.Name "all" p) [.GeneratorExp elt [⟨tg, iter, [], 0⟩] scope gpos] [] pos) (LE X.K G W (fAllG vs fi gt fe)) := by
  subst hvs
  exact pd_allG hr hcalm hN hg hm TB hP hcode ok hcell hdotN hdot hco hi hgt he hs hst
end
/-! ### (a if t else b).append(e) -/
def sAppIf (i j : Nat) (t : Env → M Bool) (f : Env → M MV) : Env → M Fl := fun ρ => M.bind (t ρ) fun k => if k = true then sApp i f ρ else sApp j f ρ
section
variable {X : Cx} {G : DG} {W : WX} {e c : Expr} {f : Env → M MV} {t : Env → M Bool} {x y : Str} {i j : Nat} {pos apos npos npos2 ipos cpos : Pos}
theorem app_tail {D : Ends} {σ : L2.St} {q : Wd} {H : Hp} {ρ : Env} {st : List O} (i : Nat) (rs : RS X.K G q σ H ρ st) (h : FinS X.K G W D q H (sApp i f ρ st)) :
    tVar i σ H (fun x H1 => tyV X.K "list" x H1 ∧ tCons (LE X.K G W f) tNil σ H1 fun xs H2 => rAppend x xs H2 fun _ H3 => D.nx σ H3) := by
  have h : FinS X.K G W D q H (M.bind (M.of (ownL ρ i)) _ st) := h
  obtain ⟨ds, hds, h⟩ := fin_ofS h
  have e0 := ownL_some hds
  obtain ⟨v0, ev0, p, hw, rfl, vs, ep, rv⟩ := rs.slot i _ e0
  refine ⟨.ref p, ev0, .inl ⟨rfl, vs, sql_of ep⟩, ?_⟩
  refine seqS rs h fun y H1 q1 st1 my rs1 a1 r1 h1 => ?_
  obtain ⟨d, hd, h2⟩ := fin_ofS h1
  by_cases hz : szOk (ds.length + 1) = true
  rotate_left
  · rw [if_neg hz] at h2; exact h2.elim
  rw [if_pos hz] at h2
  have ep1 : H1 p = some (.lst vs) := a1.kp.keep p _ (rs.rw.mw i p hw).1 ep (fun _ z => nomatch z)
  have hzl := szOk_le hz
  have hl := rv.length
  refine ⟨p, vs, y, rfl, rfl, ep1, by omega, ?_⟩
  have rd : RD X.K q1.un H1 y d := by
    unfold asD at hd
    split at hd <;> cases hd
    cases r1 with | v r1 => exact r1
  obtain ⟨s, r⟩ := rs1.ownPut (i := i) (by rw [a1.w]; exact hw) e0 ep1 ((rv.aft a1).append (.cons rd .nil))
  exact h2 _ _ _ s r
theorem psd_appIf (i j : Nat) (hD : NoDbg X.N = true) (hi : X.N[i]? = some x) (hj : X.N[j]? = some y) (hv : Vis X.env.scope x) (hv2 : Vis X.env.scope y) (hc : PT X c (LT X.K G W t)) (he : PE X e (LE X.K G W f))
    (hbase : attributeBase (.IfExp c (.Name x npos) (.Name y npos2) ipos) "append" X.env (eval (.IfExp c (.Name x npos) (.Name y npos2) ipos) X.env) = eval (.IfExp c (.Name x npos) (.Name y npos2) ipos) X.env)
    (hst : starEach [e] X.env = (false, eval e X.env) :: starEach [] X.env)
    (hfew : ((backTo cpos (starEach [e] X.env)).all (fun x => !x.1) && (backToKw cpos (keywordEach [] X.env)).all (fun x => x.1.isSome)
      && decide ([e].length + ([] : List Keyword).length + (if ([] : List Keyword).isEmpty then 0 else 1) < 30)) = true)
    (hline : (apos.endLine == cpos.line) = true) (hsw : swapsWith (.Call (.Attribute (.IfExp c (.Name x npos) (.Name y npos2) ipos) "append" apos) [e] [] cpos) none pos.line X.env = pure false) :
    PS X (.Expr (.Call (.Attribute (.IfExp c (.Name x npos) (.Name y npos2) ipos) "append" apos) [e] [] cpos) pos) (LS X.K G W (sAppIf i j t f)) :=
  PS.by (ps_expr (pe_bm F.plainAttrs_list F.slot_list_append F.type_list_append mt_append (pe_ifExp hc (pe_var hi hv (NoDbg.at hD hi).1 (NoDbg.at hD hi).2) (pe_var hj hv2 (NoDbg.at hD hj).1 (NoDbg.at hD hj).2)) (pa_cons he pa_nil hst) hbase hfew hline hst) hsw) fun D σ H ⟨q, ρ, st, rs, h⟩ => by
    refine seqS rs h fun k H1 q1 st1 mk rs1 _ r1 h1 => ?_
    cases (show k = mk from r1)
    cases k with
    | false => simp only [Bool.false_eq_true, if_false] at h1 ⊢; exact app_tail j rs1 h1
    | true => simp only [if_true] at h1 ⊢; exact app_tail i rs1 h1
end
end CD

set_option Elab.async false
set_option linter.all false
set_option maxRecDepth 100000
set_option maxHeartbeats 4000000
namespace CD
open PySem PySem.Spec PyProof.Rows L2

/-! ### dicts and lists of the store -/
def M.alloc (o : O) : M MV := fun st => .val (.obj st.length) (st ++ [o])
def fNewD : Env → M MV := fun _ => M.alloc (.dic [])
def dictSrc (st : List O) : List MV → Option (List (L2.Key × D))
  | [.v (.dic kvs)] => some kvs
  | [.v (.lst ps)] => if szOk ps.length = true then (pairsK ps).map (mergeKD []) else none
  | [.obj j] => match st[j]? with
    | some (.dic kvs) => some kvs
    | some (.dicL kvs) => some kvs
    | _ => none
  | _ => none
def fDictO (fs : Env → M (List MV)) : Env → M MV := fun ρ => M.bind (fs ρ) fun ms => M.bind (M.rd fun st => dictSrc st ms) fun kvs => M.alloc (.dic kvs)
def fLstO (fs : Env → M (List MV)) : Env → M MV := fun ρ => M.bind (fs ρ) fun ms => M.bind (M.of (if szOk ms.length = true then toDs ms else none)) fun ds => M.alloc (.lst ds)
def sPutD (fo fi fv : Env → M MV) : Env → M Fl := fun ρ => M.bind (fv ρ) fun y => M.bind (fo ρ) fun x => M.bind (fi ρ) fun k => M.bind (M.rd fun st => match x, y with
    | .obj j, .v d => match st[j]? with
      | some (.dic kvs) => match asD k with
        | some kd => (dKey kd).map fun key => (j, kvs, key, d)
        | none => none
      | _ => none
    | _, _ => none) fun (j, kvs, key, d) => M.bind (M.of (if szOk (kvs.length + 1) = true then some () else none)) fun _ => M.bind (M.put j (.dic (putKD kvs key d))) fun _ => M.pure (.nx ρ)
section
variable {K : PySem.W.Frag} {G : DG} {q : Wd} {H : Hp} {st : List O}
theorem alloc_dic (r : RW K G q H st) {p : Addr} (hp : H p = none) {vs : List (L2.Key × V)} {ds : List (L2.Key × D)} (rd : RDk K q.un H vs ds) : Aft K G q H (q.add p) (upd H p (.dK vs)) (st ++ [.dic ds]) ∧ RE K (q.add p) (upd H p (.dK vs)) (.ref p) (.obj st.length) :=
  ⟨Aft.alloc r hp (Kp.new hp) (by rw [upd_same]; exact nofun) ⟨vs, upd_same, RDk.mono (Mu := fun _ => False) (Kp.new hp) (add_hu r hp) ds vs rd⟩, .obj (add_at r)⟩
theorem alloc_lst (r : RW K G q H st) {p : Addr} (hp : H p = none) {vs : List V} {ds : List D} (rd : RDs K q.un H vs ds) : Aft K G q H (q.add p) (upd H p (.lst vs)) (st ++ [.lst ds]) ∧ RE K (q.add p) (upd H p (.lst vs)) (.ref p) (.obj st.length) :=
  ⟨Aft.alloc r hp (Kp.new hp) (by rw [upd_same]; exact nofun) ⟨vs, upd_same, RDs.mono (Mu := fun _ => False) (Kp.new hp) (add_hu r hp) ds vs rd⟩, .obj (add_at r)⟩
end
section
variable {X : Cx} {G : DG} {W : WX} {o i e value : Expr} {es : List Expr} {f g h : Env → M MV} {fs : Env → M (List MV)} {p pos pos' tpos : Pos}
theorem pd_newD : PE X (.Dict [] [] pos) (LE X.K G W fNewD) :=
  PE.by pe_dnewK fun σ H Q ⟨q, ρ, st, rs, h⟩ => fun p hp =>
    let ⟨a, r⟩ := alloc_dic rs.rw hp (vs := []) (ds := []) .nil
    (show Post X.K G (RE X.K) Q q H (.obj st.length) (st ++ [.dic []]) from h) _ _ _ a r
theorem pd_lstO (h : PA X es (LA X.K G W fs)) : PE X (.List es pos) (LE X.K G W (fLstO fs)) :=
  PE.by (pe_lst h) fun σ H Q ⟨q, ρ, st, rs, h⟩ => seq rs h fun xs H1 q1 st1 ms rs1 _ r1 h1 => by
    obtain ⟨ds, hz, h2⟩ := fin_ofk h1
    split at hz
    rotate_left
    · cases hz
    rename_i hsz
    refine ⟨by rw [RMs.length r1]; exact szOk_le hsz, fun p0 hp => ?_⟩
    obtain ⟨a, r⟩ := alloc_lst rs1.rw hp (toDs_v hz r1)
    exact (show Post X.K G (RE X.K) Q q1 H1 (.obj st1.length) (st1 ++ [.lst ds]) from h2) _ _ _ a r
def LRn (K : PySem.W.Frag) (G : DG) : List V → Hp → VK → Prop := fun xs H Q => ∃ q st ms kvs, RW K G q H st ∧ REs K q H xs ms ∧ dictSrc st ms = some kvs ∧ ∀ p vs, H p = none → RDk K q.un H vs kvs → Q (.ref p) (upd H p (.dK vs))
theorem crn_dict (hcalm : X.calm = true) : CallR X (.type "dict") (LRn X.K G) := by
  intro pins s σ H xs us Q I r h
  obtain ⟨q, st, ms, kvs, rw_, rm, e, p⟩ := h
  unfold dictSrc at e
  split at e
  · cases e
    obtain ⟨v, rfl, r1⟩ := one_of rm
    cases r1 with | v r1 => cases r1 with | dic ea na ha =>
    exact call_dictD pins s σ H _ us Q I r ⟨_, _, rfl, .inl ea, fun p0 hp => p _ _ hp ha⟩
  · split at e
    rotate_left
    · cases e
    obtain ⟨l, hl, rfl⟩ := Option.map_eq_some_iff.mp e
    obtain ⟨v, rfl, r1⟩ := one_of rm
    cases r1 with | v r1 => cases r1 with | @lst a vs _ ea na ha =>
    obtain ⟨ps, kvs, rfl, h1, h2⟩ := pairsK_v hl ha
    exact call_dictP hcalm pins s σ H _ us Q I r ⟨a, ps, kvs, rfl, sql_of ea, Paired.mapP h1 fun _ _ z => st_of z, fun p0 hp => p _ _ hp (RDk.merge h2 .nil)⟩
  · obtain ⟨v, rfl, r1⟩ := one_of rm
    cases r1 with | obj em =>
    split at e
    · rename_i hj
      cases e
      obtain ⟨vs, ea, ha⟩ := rw_.objs _ _ _ em hj
      exact call_dictD pins s σ H _ us Q I r ⟨_, _, rfl, .inl ea, fun p0 hp => p _ _ hp ha⟩
    · rename_i hj
      cases e
      obtain ⟨o, vs, ea, ha⟩ := rw_.objs _ _ _ em hj
      exact call_dictD pins s σ H _ us Q I r ⟨_, _, rfl, .inr ⟨o, ea⟩, fun p0 hp => p _ _ hp ha⟩
    · cases e
  · cases e
theorem q_dictO {x : Str} (hcalm : X.calm = true) (hg : Gl X x) (hm : X.mg x = none) (bb : BB x (.type "dict")) (ha : PA X (e :: es) (LA X.K G W fs))
    (he : starEach (e :: es) X.env = (false, eval e X.env) :: starEach es X.env) (hpl : (backTo pos (starEach es X.env)).any (·.1) = false) : PE X (.Call (.Name x p) (e :: es) [] pos) (LE X.K G W (fDictO fs)) :=
  PE.by (pe_callTy (crn_dict (G := G) hcalm) hg hm bb.hv ha bb.hn bb.hd he hpl) fun σ H Q ⟨q, ρ, st, rs, h⟩ => seq rs h fun xs H1 q1 st1 ms rs1 _ r1 h1 => by
    obtain ⟨kvs, hk, h2⟩ := fin_rdk h1
    refine ⟨q1, st1, ms, kvs, rs1.rw, r1, hk, fun p vs hp rd => ?_⟩
    obtain ⟨a, r⟩ := alloc_dic rs1.rw hp rd
    exact (show Post X.K G (RE X.K) Q q1 H1 (.obj st1.length) (st1 ++ [.dic kvs]) from h2) _ _ _ a r
theorem RDk.length_put (kvs : List (L2.Key × V)) (k : L2.Key) (v : V) : True := trivial
/-- o[i] = value, o a dict of the store -/
theorem psd_putD (hu : X.A.units + 65 < cLine) (ho : PE X o (LE X.K G W f)) (hi : PE X i (LE X.K G W g)) (hv : PE X value (LE X.K G W h)) (hs : swapsWith value (some (.Subscript o i pos')) pos.line X.env = pure false) : PS X (.Assign [.Subscript o i pos'] value pos) (LS X.K G W (sPutD f g h)) :=
  PS.by (ps_dput (by omega) ho hi hv hs) fun D σ H ⟨q, ρ, st, rs, hh⟩ => seqS rs hh fun y H1 q1 st1 my rs1 a1 r1 h1 => seqS rs1 h1 fun x H2 q2 st2 mx rs2 a2 r2 h2 => seqS rs2 h2 fun k H3 q3 st3 mk rs3 a3 r3 h3 => by
    obtain ⟨⟨j, kvs, key, d⟩, hz, h4⟩ := fin_rdS h3
    split at hz
    rotate_left
    · cases hz
    rename_i j' d'
    split at hz
    rotate_left
    · cases hz
    rename_i kvs' hj
    split at hz
    rotate_left
    · cases hz
    rename_i kd hkd
    obtain ⟨key', hkey, hzz⟩ := Option.map_eq_some_iff.mp hz
    cases hzz
    obtain ⟨_, hl, h5⟩ := fin_ofS h4
    split at hl <;> cases hl
    rename_i hl
    have hl := of_decide_eq_true hl
    have r2 := r2.aft a3
    cases r2 with | obj em =>
    obtain ⟨vs, ea, ha⟩ := rs3.rw.objs _ _ _ em hj
    have e1 : k = kV key := by
      unfold asD at hkd
      split at hkd <;> cases hkd
      cases r3 with | v r3 => exact dKey_v hkey r3
    have r1 := (r1.aft a2).aft a3
    cases r1 with | v r1 =>
    have hlv := ha.length
    refine ⟨_, _, rfl, by rw [e1]; exact DPut.k ea (by rw [sizeLine_eq]; omega), ?_⟩
    have kp : Kp (· = _) H3 (upd H3 _ (.dK (putK vs key y))) := Kp.put rfl ea (fun _ z => nomatch z) (fun _ _ z => nomatch z) (fun _ z => nomatch z)
    obtain ⟨s, r⟩ := rs3.objPut (ho' := .dK (putK vs key y)) (o := .dic (putKD kvs key d)) em ea (fun _ z => nomatch z) (fun _ _ z => nomatch z) (fun _ z => nomatch z)
      ⟨_, upd_same, RDk.mono kp (fun b n _ => ⟨fun z => n (z ▸ .inl (List.mem_of_getElem? em)), n⟩) _ _ (ha.put key r1)⟩
    exact (show FinS X.K G W D q3 H3 (.val (.nx ρ) (st3.set j (.dic (putKD kvs key d)))) from h5) σ _ _ s r
end
end CD

set_option Elab.async false
set_option linter.all false
set_option maxRecDepth 100000
set_option maxHeartbeats 4000000
namespace CD
open PySem PySem.Spec PyProof.Rows L2

/-! ### lists of the store: o[i] = v, o.append(v) -/
def sPutL (fo fi fv : Env → M MV) : Env → M Fl := fun ρ => M.bind (fv ρ) fun y => M.bind (fo ρ) fun x => M.bind (fi ρ) fun k => M.bind (M.rd fun st => match x, k, y with
    | .obj j, .v (.int i), .v d => match st[j]? with
      | some (.lst ds) => (ixN ds.length i).map fun n => (j, ds.set n d)
      | _ => none
    | _, _, _ => none) fun (j, ds) => M.bind (M.put j (.lst ds)) fun _ => M.pure (.nx ρ)
def sApO (fo fv : Env → M MV) : Env → M Fl := fun ρ => M.bind (fo ρ) fun x => M.bind (M.rd fun st => match x with
    | .obj j => match st[j]? with
      | some (.lst _) => some j
      | _ => none
    | _ => none) fun j => M.bind (fv ρ) fun y => M.bind (M.rd fun st => match y with
    | .v d => match st[j]? with
      | some (.lst ds) => if szOk (ds.length + 1) = true then some (ds ++ [d]) else none
      | _ => none
    | _ => none) fun ds => M.bind (M.put j (.lst ds)) fun _ => M.pure (.nx ρ)
theorem RDs.set {K : PySem.W.Frag} {U : Addr → Prop} {H : Hp} {v : V} {d : D} (h : RD K U H v d) : ∀ {vs : List V} {ds : List D} (n : Nat), RDs K U H vs ds → RDs K U H (vs.set n v) (ds.set n d)
  | _, _, _, .nil => .nil
  | _, _, 0, .cons _ t => .cons h t
  | _, _, n + 1, .cons a t => .cons a (RDs.set h n t)
section
variable {X : Cx} {G : DG} {W : WX} {o i e value : Expr} {es : List Expr} {f g h : Env → M MV} {fs : Env → M (List MV)} {p pos pos' tpos : Pos}
theorem psd_putL (ho : PE X o (LE X.K G W f)) (hi : PE X i (LE X.K G W g)) (hv : PE X value (LE X.K G W h)) (hs : swapsWithSole [.Subscript o i pos'] value pos.line X.env = pure false) (hw : swappedStores [.Subscript o i pos'] value X.env = pure none)
    (h1 : (assignEach [.Subscript o i pos'] X.env).map (·.2) = [assign (.Subscript o i pos') X.env])
    (ha : ∀ v, assign (.Subscript o i pos') X.env v = (do
      let ov ← holding [v] (eval o X.env)
      let iv ← holding [v, ov] (eval i X.env)
      standAt pos'
      holding [v, ov, iv] (setItem ov iv v)
      release [v, ov, iv] [])) : PS X (.Assign [.Subscript o i pos'] value pos) (LS X.K G W (sPutL f g h)) :=
  PS.by (ps_asg hv (pg_sub ho hi set_list ha) hs hw h1) fun D σ H ⟨q, ρ, st, rs, hh⟩ => seqS rs hh fun y H1 q1 st1 my rs1 a1 r1 h1 => seqS rs1 h1 fun x H2 q2 st2 mx rs2 a2 r2 h2 => seqS rs2 h2 fun k H3 q3 st3 mk rs3 a3 r3 h3 => by
    obtain ⟨⟨j, ds'⟩, hz, h4⟩ := fin_rdS h3
    split at hz
    rotate_left
    · cases hz
    rename_i j' i' d'
    split at hz
    rotate_left
    · cases hz
    rename_i ds hj
    obtain ⟨n, hn, hzz⟩ := Option.map_eq_some_iff.mp hz
    cases hzz
    have r2 := r2.aft a3
    cases r2 with | obj em =>
    obtain ⟨vs, ea, ha⟩ := rs3.rw.objs _ _ _ em hj
    have r1 := (r1.aft a2).aft a3
    cases r1 with | v r1 =>
    cases r3 with | v r3 =>
    cases r3
    refine ⟨_, vs, _, n, rfl, rfl, ea, by rw [ha.length]; exact hn, ?_⟩
    have kp : Kp (· = _) H3 (upd H3 _ (.lst (vs.set n y))) := Kp.put rfl ea (fun _ z => nomatch z) (fun _ _ z => nomatch z) (fun _ z => nomatch z)
    obtain ⟨s, r⟩ := rs3.objPut (ho' := .lst (vs.set n y)) (o := .lst (ds.set n d')) em ea (fun _ z => nomatch z) (fun _ _ z => nomatch z) (fun _ z => nomatch z)
      ⟨_, upd_same, RDs.mono kp (fun b n _ => ⟨fun z => n (z ▸ .inl (List.mem_of_getElem? em)), n⟩) _ _ (ha.set r1 n)⟩
    exact (show FinS X.K G W D q3 H3 (.val (.nx ρ) (st3.set j (.lst (ds.set n d')))) from h4) σ _ _ s r
theorem psd_apO {apos cpos : Pos} (ho : PE X o (LE X.K G W f)) (he : PE X e (LE X.K G W g))
    (hbase : attributeBase o "append" X.env (eval o X.env) = eval o X.env)
    (hst : starEach [e] X.env = (false, eval e X.env) :: starEach [] X.env)
    (hfew : ((backTo cpos (starEach [e] X.env)).all (fun x => !x.1) && (backToKw cpos (keywordEach [] X.env)).all (fun x => x.1.isSome)
      && decide ([e].length + ([] : List Keyword).length + (if ([] : List Keyword).isEmpty then 0 else 1) < 30)) = true)
    (hline : (apos.endLine == cpos.line) = true) (hsw : swapsWith (.Call (.Attribute o "append" apos) [e] [] cpos) none pos.line X.env = pure false) :
    PS X (.Expr (.Call (.Attribute o "append" apos) [e] [] cpos) pos) (LS X.K G W (sApO f g)) :=
  PS.by (ps_expr (pe_bm F.plainAttrs_list F.slot_list_append F.type_list_append mt_append ho (pa_cons he pa_nil hst) hbase hfew hline hst) hsw) fun D σ H ⟨q, ρ, st, rs, h⟩ => by
    refine seqS rs h fun x H1 q1 st1 mx rs1 a1 r1 h1 => ?_
    obtain ⟨j, hz, h2⟩ := fin_rdS h1
    split at hz
    rotate_left
    · cases hz
    rename_i j'
    split at hz
    rotate_left
    · cases hz
    rename_i ds0 hj0
    cases hz
    cases r1 with | @obj a _ em =>
    obtain ⟨vs0, ea0, ha0⟩ := rs1.rw.objs _ _ _ em hj0
    refine ⟨.inl ⟨rfl, vs0, sql_of ea0⟩, ?_⟩
    refine seqS rs1 h2 fun y H2 q2 st2 my rs2 a2 r2 h3 => ?_
    obtain ⟨ds', hz, h4⟩ := fin_rdS h3
    split at hz
    rotate_left
    · cases hz
    rename_i d'
    split at hz
    rotate_left
    · cases hz
    rename_i ds hj
    split at hz <;> cases hz
    rename_i hsz
    have em2 := a2.pre _ _ em
    obtain ⟨vs, ea, ha⟩ := rs2.rw.objs _ _ _ em2 hj
    cases r2 with | v r2 =>
    have hl := ha.length
    have hzl := szOk_le hsz
    refine ⟨_, vs, y, rfl, rfl, ea, by omega, ?_⟩
    have kp : Kp (· = _) H2 (upd H2 _ (.lst (vs ++ [y]))) := Kp.put rfl ea (fun _ z => nomatch z) (fun _ _ z => nomatch z) (fun _ z => nomatch z)
    obtain ⟨s, r⟩ := rs2.objPut (ho' := .lst (vs ++ [y])) (o := .lst (ds ++ [d'])) em2 ea (fun _ z => nomatch z) (fun _ _ z => nomatch z) (fun _ z => nomatch z)
      ⟨_, upd_same, RDs.mono kp (fun b n _ => ⟨fun z => n (z ▸ .inl (List.mem_of_getElem? em2)), n⟩) _ _ (ha.append (.cons r2 .nil))⟩
    exact (show FinS X.K G W D q2 H2 (.val (.nx ρ) (st2.set j (.lst (ds ++ [d'])))) from h4) σ _ _ s r
end

/-! ### a dict of the store is walked over: read, not written -/
def fLockE (fo : Env → M MV) (f : Env → M MV) : Env → M MV := fun ρ st => match fo ρ st with
  | .val (.obj j) _ => match st[j]? with
    | some (.dic kvs) => match f ρ (st.set j (.dicL kvs)) with
      | .val x st2 => .val x (st2.set j (.dic kvs))
      | _ => .bad
    | _ => .bad
  | _ => .bad
section
variable {K : PySem.W.Frag} {G : DG} {q q' : Wd} {H H' : Hp} {st st2 : List O}
theorem kw_unlock {d : Addr} {o : Obj} {vs : List (L2.Key × V)} (e : H d = some (.frz o (.dK vs))) (u : HO) : Kw (· = d) H (upd H d u) := by
  refine ⟨fun a o' n h _ => by rw [upd_ne n]; exact h, fun a xs h => ?_, fun a o' u' n h => ?_⟩
  · rw [upd_ne (fun z => by rw [z, e] at h; cases h)]; exact h
  · rw [upd_ne (fun z => by rw [z, e] at h; cases h; exact n _ rfl)]; exact h
theorem aft_unlock {d : Addr} {j : Nat} {o : Obj} {vs : List (L2.Key × V)} {kvs : List (L2.Key × D)} (rw_ : RW K G q H st) (em : q.m[j]? = some d) (ea : H d = some (.dK vs)) (rd : RDk K q.un H vs kvs)
    (a : Aft K G q (upd H d (.frz o (.dK vs))) q' H' st2) : Aft K G q H q' (upd H' d (.dK vs)) (st2.set j (.dic kvs)) ∧ H' d = some (.frz o (.dK vs)) := by
  have hm : d ∈ q.m := List.mem_of_getElem? em
  have em' : q'.m[j]? = some d := a.pre _ _ em
  have hd : H' d = some (.frz o (.dK vs)) := a.kp.frz d _ _ upd_same
  have kw : Kw (· = d) H' (upd H' d (.dK vs)) := kw_unlock hd _
  have hu : ∀ b, ¬ q'.un b → H' b ≠ none → ¬ b = d ∧ ¬ q'.un b := fun b n _ => ⟨fun z => n (z ▸ .inl (List.mem_of_getElem? em')), n⟩
  have al : ∀ b, H' b ≠ none → upd H' d (.dK vs) b ≠ none := fun b n => by
    by_cases z : b = d
    · rw [z, upd_same]; exact nofun
    · rw [upd_ne z]; exact n
  have lamL : LamX.Tabs lamT H → LamX.Tabs lamT (upd H d (.frz o (.dK vs))) := fun t p' hp' => by
    obtain ⟨ps, h1, h2, h3⟩ := t p' hp'
    refine ⟨ps, by rw [upd_ne (fun z => by rw [z, ea] at h1; cases h1)]; exact h1, h2, fun pos cv hc => ?_⟩
    obtain ⟨c, e1, e2⟩ := h3 pos cv hc
    exact ⟨c, e1, by rw [upd_ne (fun z => by rw [z, ea] at e2; cases e2)]; exact e2⟩
  have lamU : LamX.Tabs lamT H' → LamX.Tabs lamT (upd H' d (.dK vs)) := fun t p' hp' => by
    obtain ⟨ps, h1, h2, h3⟩ := t p' hp'
    refine ⟨ps, by rw [upd_ne (fun z => by rw [z, hd] at h1; cases h1)]; exact h1, h2, fun pos cv hc => ?_⟩
    obtain ⟨c, e1, e2⟩ := h3 pos cv hc
    exact ⟨c, e1, by rw [upd_ne (fun z => by rw [z, hd] at e2; cases e2)]; exact e2⟩
  have kp : Kp (· ∈ q.m) H (upd H' d (.dK vs)) := by
    refine ⟨fun b o' n h t => ?_, fun b xs h => ?_, fun b o' u h => ?_, fun P ⟨ps, h, t⟩ => ?_, fun t => ?_, fun b n => ?_⟩
    · have z : b ≠ d := fun z => n (z ▸ hm)
      rw [upd_ne z]; exact a.kp.keep b o' n (by rw [upd_ne z]; exact h) t
    · have z : b ≠ d := fun z => by rw [z, ea] at h; cases h
      rw [upd_ne z]; exact a.kp.tup b xs (by rw [upd_ne z]; exact h)
    · have z : b ≠ d := fun z => by rw [z, ea] at h; cases h
      rw [upd_ne z]; exact a.kp.frz b o' u (by rw [upd_ne z]; exact h)
    · have z : P ≠ d := fun z => by rw [z, ea] at h; cases h
      obtain ⟨ps', h', t'⟩ := a.kp.tab P ⟨ps, by rw [upd_ne z]; exact h, t⟩
      exact ⟨ps', by rw [upd_ne z]; exact h', t'⟩
    · exact lamU (a.kp.lam (lamL t))
    · exact al b (a.kp.al b (by
        by_cases z : b = d
        · rw [z, upd_same]; exact nofun
        · rw [upd_ne z]; exact n))
  have tab : ∀ P, GxR.TabG H' P → GxR.TabG (upd H' d (.dK vs)) P := fun P ⟨ps, h, t⟩ => ⟨ps, by rw [upd_ne (fun z => by rw [z, hd] at h; cases h)]; exact h, t⟩
  refine ⟨⟨a.w, a.Z, a.pre, fun b h n => ?_, kp, ⟨fun i b o' e1 e2 => ?_, by rw [List.length_set]; exact a.rw.len, a.rw.nd, fun i b e => ⟨(a.rw.mw i b e).1, (a.rw.mw i b e).2.1, al b (a.rw.mw i b e).2.2⟩, a.rw.ww, a.rw.mz, fun b z => al b (a.rw.zh b z), ⟨fun P h => tab P (a.rw.tabs.1 P h), lamU a.rw.tabs.2⟩⟩⟩, hd⟩
  · have z : b ≠ d := fun z => n (z ▸ hm)
    have := a.new b h n
    rw [upd_ne z] at this
    exact this
  · by_cases hij : j = i
    · subst hij
      have hl : j < st2.length := by
        obtain ⟨h, _⟩ := List.getElem?_eq_some_iff.mp e2
        rw [List.length_set] at h
        exact h
      rw [List.getElem?_set_self hl] at e2
      cases e2
      rw [em'] at e1
      cases e1
      refine ⟨vs, upd_same, ?_⟩
      refine RDk.mono kp (fun b n ne => ⟨fun h => n (.inl h), fun h => ?_⟩) _ _ rd
      rcases h with h | h | h
      · have hb : b ∉ q.m := fun z => n (.inl z)
        have z : b ≠ d := fun z => hb (z ▸ hm)
        have := a.new b h hb
        rw [upd_ne z] at this
        exact ne this
      · rw [a.w] at h
        exact n (.inr (.inl h))
      · rw [a.Z] at h
        exact n (.inr (.inr h))
    · rw [List.getElem?_set_ne hij] at e2
      have hba : b ≠ d := fun z => by
        subst z
        exact hij (nodup_at a.rw.nd em' e1)
      exact RO.monoW kw hu (fun _ _ e => e) (upd_ne hba) (a.rw.objs i b o' e1 e2)
end
section
variable {X : Cx} {G : DG} {W : WX} {e : Expr} {fo f : Env → M MV}
theorem pd_lockE (h : PE X e (LE X.K G W f)) : PE X e (LE X.K G W (fLockE fo f)) :=
  PE.by (pe_lock h) fun σ H Q ⟨q, ρ, st, rs, h⟩ => by
    unfold fLockE at h
    split at h
    rotate_left
    · exact h.elim
    rename_i j st' _
    split at h
    rotate_left
    · exact h.elim
    rename_i kvs hj
    have hjl : j < q.m.length := by
      rw [rs.rw.len]
      exact (List.getElem?_eq_some_iff.mp hj).1
    have em : q.m[j]? = some q.m[j] := List.getElem?_eq_getElem hjl
    obtain ⟨vs, ea, ha⟩ := rs.rw.objs _ _ _ em hj
    refine ⟨_, _, ea, trivial, fun od => ?_⟩
    have kp : Kp (· = q.m[j]) H (upd H q.m[j] (.frz od (.dK vs))) := Kp.put rfl ea (fun _ z => nomatch z) (fun _ _ z => nomatch z) (fun _ z => nomatch z)
    obtain ⟨_, rs'⟩ := rs.objPut (ho' := .frz od (.dK vs)) (o := .dicL kvs) em ea (fun _ z => nomatch z) (fun _ _ z => nomatch z) (fun _ z => nomatch z)
      ⟨od, vs, upd_same, RDk.mono kp (fun b n _ => ⟨fun z => n (z ▸ .inl (List.mem_of_getElem? em)), n⟩) _ _ ha⟩
    refine ⟨q, ρ, _, rs', ?_⟩
    split at h
    rotate_left
    · exact h.elim
    rename_i x st2 e
    rw [e]
    intro b H' q' a r
    obtain ⟨a2, hd⟩ := aft_unlock rs.rw em ea ha a
    refine ⟨hd, h b _ q' a2 ?_⟩
    have em' := a.pre _ _ em
    exact RM.monoW (kw_unlock hd _) (fun b n _ => ⟨fun z => n (z ▸ .inl (List.mem_of_getElem? em')), n⟩) (fun _ _ e => e) _ _ r
end

/-! ### the keys of a locked dict of the store -/
def keyD : L2.Key → D
  | .inl i => .int i
  | .inr x => .str x
def iKeyO (f : Env → M MV) : Env → M (List D) := fun ρ => M.bind (f ρ) fun x => M.rd fun st => match x with
  | .obj j => match st[j]? with
    | some (.dicL kvs) => some (kvs.map fun p => keyD p.1)
    | _ => none
  | _ => none
section
variable {K : PySem.W.Frag} {G : DG} {W : WX} {q : Wd} {σ : L2.St} {H : Hp} {st : List O}
theorem RDk.keys {U : Addr → Prop} : ∀ {vs : List (L2.Key × V)} {ds : List (L2.Key × D)}, RDk K U H vs ds → vs.map (·.1) = ds.map (·.1)
  | _, _, .nil => rfl
  | _, _, .cons _ t => by rw [List.map_cons, List.map_cons, t.keys]
theorem keyD_rd {U : Addr → Prop} (k : L2.Key) : RD K U H (kV k) (keyD k) := by
  cases k with
  | inl i => exact .int i
  | inr x => exact .str x
theorem itOk_keys {d : Addr} {o : Obj} {vs : List (L2.Key × V)} {kvs : List (L2.Key × D)} (e : H d = some (.frz o (.dK vs))) (r : RDk K q.un H vs kvs) : ItOk K q (Itk d o vs) H (kvs.map fun p => keyD p.1) := by
  intro q2 H2 kp hu
  have e2 := kp.frz d _ _ e
  have hk := r.keys
  have hl : vs.length = kvs.length := by have := congrArg List.length hk; simpa using this
  refine ⟨fun i dd hd => ?_, e2, by rw [List.length_map, hl]; exact Nat.le_refl _⟩
  have hi : i < kvs.length := by
    obtain ⟨h, _⟩ := List.getElem?_eq_some_iff.mp hd
    rw [List.length_map] at h; exact h
  refine ⟨⟨e2, by omega⟩, fun x H3 ⟨h1, k, v, h2, h3⟩ => ?_⟩
  subst h1 h3
  rw [List.getElem?_map] at hd
  have h4 : (vs.map (·.1))[i]? = some k := by rw [List.getElem?_map, h2]; rfl
  rw [hk, List.getElem?_map] at h4
  cases h5 : kvs[i]? with
  | none => rw [h5] at hd; cases hd
  | some p =>
    rw [h5] at hd h4
    cases hd
    cases h4
    exact ⟨Kp.refl, keyD_rd _⟩
theorem fin_rdI {o : List O → Option (List D)} {R : It → Hp → Prop} (rw_ : RW K G q H st) (h : Fin K G W q σ H (M.rd o st) (fun items st' => ∀ J H1 q1, Aft K G q H q1 H1 st' → ItOk K q1 J H1 items → R J H1)) :
    ∃ items, o st = some items ∧ ∀ J, ItOk K q J H items → R J H := by
  unfold M.rd at h
  cases e : o st with
  | none => rw [e] at h; exact h.elim
  | some z => rw [e] at h; exact ⟨z, rfl, fun J io => h J H q (Aft.refl rw_) io⟩
end
section
variable {X : Cx} {G : DG} {W : WX} {tg e : Expr} {f : Env → M MV}
theorem pid_keys (he : PE X e (LE X.K G W f)) : PI X tg e (LI X.K G W (iKeyO f)) :=
  PI.by (pi_keys he) fun σ H R ⟨q, ρ, st, rs, h⟩ => seqI rs h fun x H1 q1 st1 mx rs1 _ r1 h1 => by
    obtain ⟨items, hz, h2⟩ := fin_rdI rs1.rw h1
    split at hz
    rotate_left
    · cases hz
    split at hz <;> cases hz
    rename_i kvs hj
    cases r1 with | @obj a j em =>
    obtain ⟨o, vs, ea, ha⟩ := rs1.rw.objs _ _ _ em hj
    exact ⟨a, o, rfl, .inl ⟨vs, ea, h2 _ (itOk_keys ea ha)⟩⟩
end
end CD

set_option Elab.async false
set_option linter.all false
set_option maxRecDepth 100000
set_option maxHeartbeats 4000000
namespace CD
open PySem PySem.Spec PyProof.Rows L2

/-! ### calls with keywords: n things by place, then m by name -/
def fKw (n m : Nat) (fs gs : Env → M (List MV)) : Env → M (List MV) := fun ρ => M.bind (fs ρ) fun xs => M.bind (gs ρ) fun ys => M.bind (M.of (if xs.length = n ∧ ys.length = m then some () else none)) fun _ => M.pure (xs ++ ys)
section
variable {X : Cx} {G : DG} {E : XK} {e o : Expr} {es : List Expr} {fs gs : Env → M (List MV)} {fo : Env → M MV} {kws : List Keyword} {F : List MV → M MV} {p pos apos : Pos}
theorem kw_core {α : Type} {q : Wd} {σ : L2.St} {H : Hp} {ρ : Env} {st : List O} {W : WX} {Q : VK} {n m : Nat} {k : List MV → M MV} {Q' : List V → List V → Hp → Prop} (rs : RS X.K G q σ H ρ st) (h : Fin X.K G W q σ H (M.bind (fKw n m fs gs ρ) k st) (Post X.K G (RE X.K) Q q H))
    (c : ∀ vs zs H1 q1 st1 ms, RS X.K G q1 σ H1 ρ st1 → REs X.K q1 H1 (vs ++ zs) ms → vs.length = n → zs.length = m → Fin X.K G W q1 σ H1 (k ms st1) (Post X.K G (RE X.K) Q q1 H1) → Q' vs zs H1) : LA X.K G W fs σ H (fun vs H1 => LA X.K G W gs σ H1 (fun zs H2 => Q' vs zs H2)) := by
  unfold fKw at h
  rw [M.assoc] at h
  refine seq rs h fun vs H1 q1 st1 ms rs1 _ r1 h1 => ?_
  rw [M.assoc] at h1
  refine seq rs1 h1 fun zs H2 q2 st2 ns rs2 a2 r2 h2 => ?_
  rw [M.assoc] at h2
  obtain ⟨_, hz, h3⟩ := fin_ofk h2
  split at hz <;> cases hz
  rename_i hl
  exact c vs zs H2 q2 st2 (ms ++ ns) rs2 ((r1.aft a2).append r2) (by rw [r1.length]; exact hl.1) (by rw [r2.length]; exact hl.2) h3
/-- f(k = v, ..) on plain data -/
theorem q_callPK0 (x : Str) (k : Nat) (ps : List Str) (kb : List (Nat × List Str)) (ks : List Str) {n : Nat} (hn : ps.length = n) (h : HasF X.prog X.w X.K X.mg X.base G k x ps kb F) (hr : Room k X.A) (hg : Gl X x) (hx : Passes (L2.CX X.prog X.w) X E) (hm : (0, ks) ∈ kb) (hkw : PK X kws (LA X.K G (WE E) gs))
    (hall : (backToKw pos (keywordEach kws X.env)).all (·.1.isSome) = true) (hks : (backToKw pos (keywordEach kws X.env)).filterMap (·.1) = ks) (hdb : (x == ("__debug__" : Str)) = false)
    (hpl : ((backTo pos (starEach [] X.env)).any (·.1) || (backToKw pos (keywordEach kws X.env)).any (·.1.isNone)) = false) :
    PE X (.Call (.Name x p) [] kws pos) (LE X.K G (WE E) (fCallP n F (fKw 0 ks.length fNil gs))) := by
  subst hn
  obtain ⟨f, fd, e1, e2, _, e4, F⟩ := h.ex
  refine PE.by (CWG.pe_callN0 F hr hg e1 e2 (e4 _ hm) hx hkw hall hks hdb hpl) fun σ H Q ⟨q, ρ, st, rs, h⟩ => ?_
  unfold fCallP fKw at h
  rw [M.assoc] at h
  have h : Fin X.K G (WE E) q σ H (M.bind (M.bind (gs ρ) fun ys => M.bind (M.of (if ([] : List MV).length = 0 ∧ ys.length = ks.length then some () else none)) fun _ => M.pure ([] ++ ys)) _ st) _ := h
  rw [M.assoc] at h
  refine seq rs h fun zs H2 q2 st2 ns rs2 a2 r2 h2 => ?_
  rw [M.assoc] at h2
  obtain ⟨_, hz, h3⟩ := fin_ofk h2
  split at hz <;> cases hz
  rename_i hl
  exact ⟨rfl, by rw [r2.length]; exact hl.2, sp_pure rs2.rw r2 h3⟩
theorem q_callSK0 (x : Str) (k : Nat) (ps : List Str) (kb : List (Nat × List Str)) (ks : List Str) {n : Nat} (hn : ps.length = n) (h : HasF X.prog X.w X.K X.mg X.base G k x ps kb F) (hr : Room k X.A) (hg : Gl X x) (hx : Passes (L2.CX X.prog X.w) X E) (hm : (0, ks) ∈ kb) (hkw : PK X kws (LA X.K G (WE E) gs))
    (hall : (backToKw pos (keywordEach kws X.env)).all (·.1.isSome) = true) (hks : (backToKw pos (keywordEach kws X.env)).filterMap (·.1) = ks) (hdb : (x == ("__debug__" : Str)) = false)
    (hpl : ((backTo pos (starEach [] X.env)).any (·.1) || (backToKw pos (keywordEach kws X.env)).any (·.1.isNone)) = false) :
    PE X (.Call (.Name x p) [] kws pos) (LE X.K G (WE E) (fCallS n F (fKw 0 ks.length fNil gs))) := by
  subst hn
  obtain ⟨f, fd, e1, e2, _, e4, F⟩ := h.ex
  refine PE.by (CWG.pe_callN0 F hr hg e1 e2 (e4 _ hm) hx hkw hall hks hdb hpl) fun σ H Q ⟨q, ρ, st, rs, h⟩ => ?_
  unfold fCallS fKw at h
  rw [M.assoc] at h
  have h : Fin X.K G (WE E) q σ H (M.bind (M.bind (gs ρ) fun ys => M.bind (M.of (if ([] : List MV).length = 0 ∧ ys.length = ks.length then some () else none)) fun _ => M.pure ([] ++ ys)) _ st) _ := h
  rw [M.assoc] at h
  refine seq rs h fun zs H2 q2 st2 ns rs2 a2 r2 h2 => ?_
  rw [M.assoc] at h2
  obtain ⟨_, hz, h3⟩ := fin_ofk h2
  split at hz <;> cases hz
  rename_i hl
  exact ⟨rfl, by rw [r2.length]; exact hl.2, sp_store rs2.rw r2 h3⟩
/-- f(e, .., k = v, ..) -/
theorem q_callPK (x : Str) (k : Nat) (ps : List Str) (kb : List (Nat × List Str)) (nn : Nat) (ks : List Str) {n : Nat} (hn : ps.length = n) (h : HasF X.prog X.w X.K X.mg X.base G k x ps kb F) (hr : Room k X.A) (hg : Gl X x) (hx : Passes (L2.CX X.prog X.w) X E) (hm : (nn, ks) ∈ kb) (ha : PA X (e :: es) (LA X.K G (WE E) fs)) (hkw : PK X kws (LA X.K G (WE E) gs))
    (hall : (backToKw pos (keywordEach kws X.env)).all (·.1.isSome) = true) (hks : (backToKw pos (keywordEach kws X.env)).filterMap (·.1) = ks) (hdb : (x == ("__debug__" : Str)) = false)
    (he : starEach (e :: es) X.env = (false, eval e X.env) :: starEach es X.env)
    (hpl : ((backTo pos (starEach (e :: es) X.env)).any (·.1) || (backToKw pos (keywordEach kws X.env)).any (·.1.isNone)) = false) :
    PE X (.Call (.Name x p) (e :: es) kws pos) (LE X.K G (WE E) (fCallP n F (fKw nn ks.length fs gs))) := by
  subst hn
  obtain ⟨f, fd, e1, e2, _, e4, F⟩ := h.ex
  refine PE.by (pe_callN F hr hg e1 e2 (e4 _ hm) hx ha hkw hall hks hdb he hpl) fun σ H Q ⟨q, ρ, st, rs, h⟩ => ?_
  exact kw_core (α := Unit) rs h fun vs zs H1 q1 st1 ms rs1 r1 l1 l2 h1 => ⟨l1, l2, sp_pure rs1.rw r1 h1⟩
theorem q_callSK (x : Str) (k : Nat) (ps : List Str) (kb : List (Nat × List Str)) (nn : Nat) (ks : List Str) {n : Nat} (hn : ps.length = n) (h : HasF X.prog X.w X.K X.mg X.base G k x ps kb F) (hr : Room k X.A) (hg : Gl X x) (hx : Passes (L2.CX X.prog X.w) X E) (hm : (nn, ks) ∈ kb) (ha : PA X (e :: es) (LA X.K G (WE E) fs)) (hkw : PK X kws (LA X.K G (WE E) gs))
    (hall : (backToKw pos (keywordEach kws X.env)).all (·.1.isSome) = true) (hks : (backToKw pos (keywordEach kws X.env)).filterMap (·.1) = ks) (hdb : (x == ("__debug__" : Str)) = false)
    (he : starEach (e :: es) X.env = (false, eval e X.env) :: starEach es X.env)
    (hpl : ((backTo pos (starEach (e :: es) X.env)).any (·.1) || (backToKw pos (keywordEach kws X.env)).any (·.1.isNone)) = false) :
    PE X (.Call (.Name x p) (e :: es) kws pos) (LE X.K G (WE E) (fCallS n F (fKw nn ks.length fs gs))) := by
  subst hn
  obtain ⟨f, fd, e1, e2, _, e4, F⟩ := h.ex
  refine PE.by (pe_callN F hr hg e1 e2 (e4 _ hm) hx ha hkw hall hks hdb he hpl) fun σ H Q ⟨q, ρ, st, rs, h⟩ => ?_
  exact kw_core (α := Unit) rs h fun vs zs H1 q1 st1 ms rs1 r1 l1 l2 h1 => ⟨l1, l2, sp_store rs1.rw r1 h1⟩
/-- o.m(k = v, ..) -/
def fLen (m : Nat) (gs : Env → M (List MV)) : Env → M (List MV) := fun ρ => M.bind (gs ρ) fun ys => M.bind (M.of (if ys.length = m then some () else none)) fun _ => M.pure ys
theorem q_methK0 {pl : Sem Bool} (m : Str) (k : Nat) (C : Addr) (ps : List Str) (kb : List (Nat × List Str)) (ks : List Str) {n : Nat} (hn : ps.length = n) (h : HasM X.prog X.w X.K X.mg X.base G C k m ps kb F) (hr : Room k X.A) (hx : Passes (L2.CX X.prog X.w) X E) (hm : (1, ks) ∈ kb) (ho : PE X o (LE X.K G (WE E) fo)) (hkw : PK X kws (LA X.K G (WE E) gs))
    (hall : (backToKw pos (keywordEach kws X.env)).all (·.1.isSome) = true) (hks : (backToKw pos (keywordEach kws X.env)).filterMap (·.1) = ks)
    (hpl : ((backTo pos (starEach [] X.env)).any (·.1) || (backToKw pos (keywordEach kws X.env)).any (·.1.isNone)) = false)
    (ht : eval (.Call (.Attribute o m apos) [] kws pos) X.env = (do
      let ov ← eval o X.env
      standAt apos.atName
      let (f, first) ← holding [ov] (getMethod ov m pl)
      callWith pos f first (backTo pos (starEach [] X.env)) (backToKw pos (keywordEach kws X.env)))) :
    PE X (.Call (.Attribute o m apos) [] kws pos) (LE X.K G (WE E) (fMeth C m n F fo (fLen ks.length gs))) := by
  subst hn
  obtain ⟨f, fd, hC, hme, _, e4, F⟩ := h.ex
  refine PE.by (CWG.pe_methN0 ho hC hme F hr (e4 _ hm) hx hkw hall hks hpl ht) fun σ H Q ⟨q, ρ, st, rs, h⟩ => ?_
  refine seq rs h fun x H1 q1 st1 mx rs1 _ r1 h1 => ?_
  obtain ⟨_, hz, h2⟩ := fin_rdk h1
  obtain ⟨p, hp, e2⟩ := Option.bind_eq_some_iff.mp hz
  obtain ⟨a, dx, vs, rfl, em, es, ea, ha⟩ := insAt_v rs1.rw r1 hp
  split at e2 <;> cases e2
  rename_i hl
  refine ⟨a, dx, vs, rfl, ea, ha.none (Option.isNone_iff_eq_none.mp hl), ?_⟩
  unfold fLen at h2
  rw [M.assoc] at h2
  refine seq rs1 h2 fun us H2 q2 st2 ms rs2 a2 r2 h3 => ?_
  rw [M.assoc] at h3
  obtain ⟨_, hz3, h4⟩ := fin_ofk h3
  split at hz3 <;> cases hz3
  rename_i hl3
  exact ⟨by rw [r2.length]; exact hl3, sp_store rs2.rw (.cons (r1.aft a2) r2) h4⟩
end
end CD

set_option Elab.async false
set_option linter.all false
set_option maxRecDepth 100000
set_option maxHeartbeats 4000000
namespace CD
open PySem PySem.Spec PyProof.Rows L2

/-! ### x(lambda: e): which argument was refused -/
section
variable {X : Cx} {pins : List (Addr × Obj)} {σ : L2.St} {H : Hp} {s : Shared}
/-- the lambda is made; all but its own table is kept -/
theorem lam_new {c P : Addr} {q : Str} {params : Arguments} {body : Expr} {scope : Scope} {pos : Pos} {E Q : Value → Shared → Prop} (hq : X.env.qual ++ "<lambda>" = q) (I : Inv X pins σ H s) (TB : GxR.TabB X.base X.mg c P)
    (hcode : X.env.code = .ref c) (hT : LamX.TabS H P q) (hdef : defaultsOf params X.env = ([], [])) (hfree : ∀ y ∈ scope.names, y.2 = .free → ∃ a, X.env.cells.lookup y.1 = some a)
    (h : ∀ (f c' : Addr) (pm ctv : Value) (H1 : Hp) (s' : Shared), Inv X pins σ H1 s' → (∀ b o, b ≠ P → H b = some o → H1 b = some o) → LamX.TabS H1 P q →
      s'.heap.get? f = some (PySem.W.kla_obj "<lambda>" q params body scope (cloFrom X.env.cells scope.names []) pm c' ctv) → H1 f = none → f ∉ frs X.stack → H1 c' = some (LamX.CodeO c' q) → Q (.ref f) s') :
    wpAny (model X.prog X.w) X.A (eval (.Lambda params body scope pos) X.env) Q E s := by
  subst hq
  obtain ⟨ps, hP, ht, ha⟩ := hT
  have atP : s.heap.get? P = some { cls := .none, data := .fields ps } := I.hok P _ hP
  have lt0 : ∀ f, s.heap.objs.size ≤ f → f ∉ frs X.stack := fun f hf z => by
    cases List.mem_cons.mp (I.stkSub _ z) with
    | inl e => exact absurd (Nat.lt_of_lt_of_le (e ▸ I.lt) hf) (Nat.lt_irrefl _)
    | inr e => exact I.nofs hf e
  apply PySem.W.kla_eval hdef
  cases hc : codeAmong pos ps.toList with
  | some cv =>
    obtain ⟨c', rfl, hco⟩ := ha pos cv hc
    apply PySem.W.kla_makeFunctionHit (mg := X.mg) (c := c) (P := P) (ps := ps) (closure_ok hfree) I.ok.glob (I.mod.glob.keeps I.bk) hcode (TB.code.keeps I.bk) atP ht hc (TB.bm.keeps I.bk)
    intro ctv h' tk hx hsz
    exact h _ c' _ ctv H _ (I.kept fun b o e => Heap.get?_push_of_some _ (hx b o e)) (fun _ _ _ e => e) ⟨ps, hP, ht, ha⟩ (Heap.get?_push_size _ rfl) (I.hok.fresh hsz) (lt0 _ hsz) hco
  | none =>
    apply PySem.W.kla_makeFunction (mg := X.mg) (c := c) (P := P) (ps := ps) (closure_ok hfree) I.ok.glob (I.mod.glob.keeps I.bk) hcode (TB.code.keeps I.bk) atP ht hc TB.gP (TB.bm.keeps I.bk)
    intro c' ctv h' tk hx hge hlt hrec htb
    obtain ⟨_, oc, vs, t, e2, hoc, hd, hv⟩ := hrec
    cases e2
    have nC : H c' = none := I.hok.fresh hge
    have hsz := Nat.le_trans hge (Nat.le_of_lt hlt)
    have keep : ∀ b o, b ≠ P → H b = some o → upd (upd H P (.tbl (ps ++ #[rawInt pos.line, rawInt pos.col, .ref c']))) c' (LamX.CodeO c' (X.env.qual ++ "<lambda>")) b = some o := fun b o hb e => by
      rw [upd_ne (ne_of_none e nC), upd_ne hb]; exact e
    refine h _ c' _ ctv _ _ (LamX.inv_table (t' := tk) (more := #[rawInt pos.line, rawInt pos.col, .ref c']) I hP (fun b o hb e => Heap.get?_push_of_some _ (hx b o hb e)) (Heap.get?_push_of_some _ htb) hge ⟨oc, vs, t, Heap.get?_push_of_some _ hoc, hd, hv⟩) keep ?_ (Heap.get?_push_size _ rfl) ?_ (lt0 _ hsz) upd_same
    · refine ⟨_, by rw [upd_ne (ne_of_none hP nC), upd_same], ?_, fun p' cv hcv => ?_⟩
      · rw [Array.toList_append]
        exact PySem.TriplesOk_snoc _ _ _ _ ht
      · rw [Array.toList_append] at hcv
        rcases LamX.among_app _ ht hcv with z | z
        · obtain ⟨c0, e1, e2⟩ := ha p' cv z
          exact ⟨c0, e1, keep _ _ (fun y => by rw [y, hP] at e2; exact LamX.codeO_ne _ (Option.some.inj e2).symm) e2⟩
        · exact ⟨c', z, upd_same⟩
    · have n2 : h'.objs.size ≠ P := Nat.ne_of_gt (Nat.lt_of_lt_of_le (Heap.lt_size atP) hsz)
      rw [upd_ne (Nat.ne_of_gt hlt), upd_ne n2]
      exact I.hok.fresh hsz
end
/-- the def that calls what it got and tells the name of the exception that comes of it -/
structure HasR (P : Program) (w : World) (K : PySem.W.Frag) (mg : Str → Option Value) (x : Str) (C : Addr) : Prop where
  ex : ∃ (g : Addr) (a e : Str) (sg : Scope) (pg : Arguments) (bg : List Stmt) (oc : Value) (od : Option Addr) (dV kV doc pm : Value) (an : Option Addr) (cdv ct : Value) (osl : Array (Option Value)),
    mg x = some (.ref g) ∧ PySem.W.keepIn K (.ref g) = true ∧ K.lookup g = some ⟨oc, od, .func (PySem.W.fnOf x x pg bg sg dV kV doc pm an cdv ct), osl⟩ ∧ PySem.W.codeIn K cdv x = true ∧ Binds K (PySem.W.fnOf x x pg bg sg dV kV doc pm an cdv ct) [a] [] ∧
    FnScope [a, e] [a] sg ∧ Vis sg a ∧ (a == ("__debug__" : Str)) = false ∧ (a == ("__classdict__" : Str)) = false ∧
    (∀ (X : Cx) (q : Str), X.prog = P → X.w = w → X.K = K → X.mg = mg → LamX.GivesTo X [a, e] x sg g cdv bg a q (CWG.TRef K C)) ∧ PySem.W.exmOne K (.ref C) (.ref C) = some true
section
variable {X : Cx} {A : Around} {outer : List PySem.Env} {s : Shared} {H : Hp} {E : XK} {scope : Scope} {f c' : Addr}
theorem lam_passes : Passes (L2.CX X.prog X.w) (LamX.lamCx X A outer s H E scope f c') E := passes_call (W := WE E) (takes_of rfl rfl rfl rfl) fun _ _ _ _ e => e
end
def fRef (f : Env → M MV) : Env → M MV := fun ρ st => match f ρ st with
  | .val _ st' => .val (.v (.str "")) st'
  | .exc (.arg nm) st' => .val (.v (.str nm)) st'
  | _ => .bad
section
variable {X : Cx} {G : DG} {W : WX}
theorem lam_kp {P : Addr} {q : Str} {Mu : Addr → Prop} {H H1 : Hp} (hm : (P, q) ∈ lamT) (hu : ∀ p ∈ lamT, p.1 = P → p.2 = q) (t0 : LamX.TabS H P q) (k : ∀ b o, b ≠ P → H b = some o → H1 b = some o) (t1 : LamX.TabS H1 P q) : Kp Mu H H1 := by
  obtain ⟨ps, hP, _, _⟩ := t0
  have nP : ∀ a o, H a = some o → NT o → a ≠ P := fun a o e n z => by rw [z, hP] at e; exact n ps (Option.some.inj e).symm
  have keep : ∀ a o, H a = some o → NT o → H1 a = some o := fun a o e n => k a o (nP a o e n) e
  refine ⟨fun a o _ e n => keep a o e n, fun a xs e => keep a _ e (fun _ z => nomatch z), fun a o u e => keep a _ e (fun _ z => nomatch z), fun P' ⟨qs, e, t⟩ => ?_, fun t p hp => ?_, fun a n => ?_⟩
  · by_cases z : P' = P
    · obtain ⟨ps', e', t', _⟩ := t1
      rw [z]; exact ⟨ps', e', t'⟩
    · exact ⟨qs, k _ _ z e, t⟩
  · by_cases z : p.1 = P
    · rw [hu p hp z, z]; exact t1
    · obtain ⟨qs, a1, a2, a3⟩ := t p hp
      refine ⟨qs, k _ _ z a1, a2, fun pos cv hc => ?_⟩
      obtain ⟨c, e1, e2⟩ := a3 pos cv hc
      exact ⟨c, e1, keep _ _ e2 (fun ps => LamX.codeO_ne ps)⟩
  · by_cases z : a = P
    · obtain ⟨ps', e', _⟩ := t1
      rw [z, e']; exact nofun
    · cases e : H a with
      | none => exact absurd e n
      | some o => rw [k a o z e]; exact nofun
theorem q_ref {x q : Str} {c P : Addr} {k : Nat} {params : Arguments} {body : Expr} {scope : Scope} {p lpos pos : Pos} {f : Env → M MV} (hR : HasR X.prog X.w X.K X.mg x G.cb) (hg : Gl X x) (TB : GxR.TabB X.base X.mg c P) (hcode : X.env.code = .ref c) (hq : X.env.qual ++ "<lambda>" = q)
    (hm : (P, q) ∈ lamT) (hu : ∀ p ∈ lamT, p.1 = P → p.2 = q) (hr : Room (k + 2) X.A) (L : LamX.LamS X.env.scope scope) (hdef : defaultsOf params X.env = ([], []))
    (hbind : ∀ (q : Str) (cl : List (Str × Addr)) (pm cv ctv : Value), bindArgs (PySem.W.kla_fn "<lambda>" q params body scope cl pm cv ctv) ⟨[], []⟩ = pure [])
    (hbody : ∀ (A : Around) (outer : List PySem.Env) (s : Shared) (H : Hp) (E : XK) (fa c' : Addr), Room k (A.deeper (LamX.lamEnv X scope s.heap.objs.size fa c')) → Passes (L2.CX X.prog X.w) (LamX.lamCx X A outer s H E scope fa c') E → PE (LamX.lamCx X A outer s H E scope fa c') body (LE X.K G (WE E) f))
    (hdb : (x == ("__debug__" : Str)) = false) : PE X (.Call (.Name x p) [.Lambda params body scope lpos] [] pos) (LE X.K G W (fRef f)) := by
  obtain ⟨g, a, e, sg, pg, bg, oc, od, dV, kV, doc, pm, an, cdv, ct, osl, h1, h2, h3, h4, h5, h6, h7, h8, h9, h10, h11⟩ := hR.ex
  constructor
  intro pins s σ H Q I hQ
  obtain ⟨qw, ρ, st, rs, hF⟩ := hQ
  have t0 : LamX.TabS H P q := rs.rw.tabs.2 (P, q) hm
  refine wpAny_Call_Name_kw (ld_glob I hg h1 ?_ hdb)
  refine PySem.W.callWith_K (h₀ := X.base) I.ok.mod.kin h2 ?_ (by rfl) (by rfl)
  refine Calls.spliced_cons (lam_new hq I TB hcode t0 hdef (L.has I.ok) fun fa c' pm' ctv H1 s1 I1 kp t1 hf hfn hfr hco => Calls.spliced_nil ⟨I1.kIn, ?_⟩)
  subst hq
  have af : Aft X.K G qw H qw H1 st := Aft.of_kp rs.rw (lam_kp hm hu t0 kp t1)
  have tref : CWG.TRef X.K G.cb (fun E' H' Q' => LE X.K G (WE E') f σ H' Q') H1 Q := by
    refine ⟨qw, ρ, st, rs.aft af, ?_⟩
    unfold fRef at hF
    cases hv : f ρ st with
    | bad => rw [hv] at hF; exact hF
    | val y st' =>
      rw [hv] at hF
      intro b H' q' af' _
      exact hF (.str "") H' q' (af.trans af') (.v (.str ""))
    | exc ex st' =>
      rw [hv] at hF
      cases ex with
      | fault l k => exact hF.elim
      | arg nm =>
        intro cc d H' q' af' ⟨e1, dd, e2, e3⟩
        subst e1
        exact ⟨h11, rfl, dd, _, nm, e2, e3, rfl, hF (.str nm) H' q' (af.trans af') (.v (.str nm))⟩
  have rc : codeAny (model X.prog X.w) X.A (.call (.ref g) ⟨[.ref fa], []⟩) (CR C8.CX0 X.stack X.prog X.w H1 s1 Q C8.E0) s1 := by
    refine LamX.run_ofS (N := [a, e]) (ps := [a]) (us := [.ref fa]) (vs := [.ref fa]) h3 h4 h6 hr I1.env0 (h5 s1 [.ref fa] I1.kIn rfl) (.cons rfl .nil) rfl fun hr' => ?_
    obtain ⟨t', ht', hq'⟩ := h10 X (X.env.qual ++ "<lambda>") rfl rfl rfl rfl fa c' s1 H1 Q (fun E' H' Q' => LE X.K G (WE E') f σ H' Q') (fun W' pn xe E' p1 p2 tk hW => LamX.pe_act (i := 0) I1 L hf hfn hfr (hbind _ _ _ _ _) tk hW hr' (fun A outer s H hr2 => hbody A outer s H E' fa c' hr2 lam_passes) rfl h7 h8 h9) hco tref
    exact ⟨t', ht'.nox, hq'⟩
  refine wpAny_call (codeAny_mono rc fun r s2 hh => ?_)
  cases r with
  | error ee => exact (show False from hh).elim
  | ok fl =>
    cases fl with
    | ret u => exact I1.after hh
    | next => exact (show False from hh).elim
    | brk => exact (show False from hh).elim
    | cont => exact (show False from hh).elim
end
/-- turns enough for a loop that the number in slot i, going down, ends -/
def fuelN (i : Nat) (ρ : Env) : Nat := match ρ[i]? with
  | some (some (.m (.v (.int z)))) => z.natAbs + 1
  | _ => 1
end CD

set_option Elab.async false
set_option linter.all false
set_option maxRecDepth 100000
set_option maxHeartbeats 4000000
namespace CD
open PySem PySem.Spec PyProof.Rows L2 He

/-! ### the head's own Hook: HeadHook4's facts, of a part that holds cStatics too, and BadArgument's -/
/-- a def with a closure: what is looked at -/
abbrev FnC : Type := Option (Str × Str × Arguments × FuncBody × Scope × Addr × List Str × Addr)
def fnC (K : PySem.W.Frag) (a : Addr) : FnC := match K.lookup a with
  | some ⟨_, _, .func fd, _⟩ => some (fd.name, fd.qualname, fd.params, fd.body, fd.scope, fd.globals, fd.closure.map (·.1), fd.builtins)
  | _ => none
/-- an own error class without a word of its own but __init__ -/
def oexB (K : PySem.W.Frag) (C : Addr) : Bool := (match K.lookup C with
  | some ⟨.type "type", _, .cls cd, sl⟩ => (match cd.mro, sl.toList with
    | .ref C' :: bm, [_, _, _, _, some (.builtin n), _] => decide (C' = C) && (decide (n = "ValueError.__new__") && (!cd.hasDel && (cd.hasDict && PySem.HandSPX.refsVE bm)))
    | _, _ => false)
  | _ => false) && (decide (PySem.W.findIn K (.ref C) "__setattr__" = some (some (.builtin "object.__setattr__"))) && (decide (PySem.W.subIn K (.ref C) (.type "BaseException") = some true) && (decide (PySem.W.typeIn K (.ref C) = some (.type "type")) && PySem.W.keepIn K (.ref C))))
theorem oexB_ok {K : PySem.W.Frag} {C : Addr} (h : oexB K C = true) : OexC K C := by
  obtain ⟨h1, h⟩ := ba h
  obtain ⟨h2, h⟩ := ba h
  obtain ⟨h3, h⟩ := ba h
  obtain ⟨h4, h5⟩ := ba h
  refine ⟨?_, of_decide_eq_true h2, of_decide_eq_true h3, of_decide_eq_true h4, h5⟩
  split at h1
  · rename_i dd cd sl ho
    split at h1
    · rename_i C' bm k0 k1 k2 k3 n k5 hm hs
      obtain ⟨e1, h1⟩ := ba h1
      obtain ⟨e2, h1⟩ := ba h1
      obtain ⟨e3, h1⟩ := ba h1
      obtain ⟨e4, e5⟩ := ba h1
      have e1 := of_decide_eq_true e1
      have e2 := of_decide_eq_true e2
      subst e1 e2
      obtain ⟨nm, bs, mro, ns, qn, hd, sn, sub, ab, col, del⟩ := cd
      have e3 : del = false := by simpa using e3
      have e4 : hd = true := e4
      have hm : mro = .ref C' :: bm := hm
      subst e3 e4 hm
      have hsl : sl = #[k0, k1, k2, k3, some (.builtin "ValueError.__new__"), k5] := by
        obtain ⟨l⟩ := sl
        exact congrArg Array.mk hs
      subst hsl
      exact ⟨nm, qn, ns, bs, bm, sn, sub, ab, col, dd, k0, k1, k2, k3, k5, ho, e5⟩
    · cases h1
  · cases h1
/-- isinstance by an own class -/
def insB (K : PySem.W.Frag) (C : Addr) : Bool := decide (PySem.W.findIn K (.ref C) "__class__" = some (some (.builtin "object.__class__"))) && (decide (PySem.W.specialIn K (.builtin "object.__class__") "__get__" = some (some (.builtin "getset_descriptor.__get__"))) &&
  (decide (PySem.W.takesIn K (.builtin "object.__class__") = some true) && (decide (PySem.W.mroIn K C (.type "object") = some true) && (decide (PySem.W.kitOne K (.ref C) (.ref C) = some true) &&
  (["NoneType", "bool", "int", "str", "list", "tuple", "dict"] : List String).all fun T => decide (PySem.W.kitOne K (.type T) (.ref C) = some false)))))
theorem insB_ok {K : PySem.W.Frag} {C : Addr} (c : Cls K C) (h : insB K C = true) : IsiC K C := by
  obtain ⟨h1, h⟩ := ba h
  obtain ⟨h2, h⟩ := ba h
  obtain ⟨h3, h⟩ := ba h
  obtain ⟨h4, h⟩ := ba h
  obtain ⟨h5, h6⟩ := ba h
  exact ⟨fun T hT => of_decide_eq_true (List.all_eq_true.mp h6 T hT), ⟨c, of_decide_eq_true h1, of_decide_eq_true h2, of_decide_eq_true h3, of_decide_eq_true h4, of_decide_eq_true h5⟩⟩
/-- BadArgument's __init__: its code, its cell, the class behind it -/
def badB (file : Str) (K : PySem.W.Frag) (C fI : Addr) : Bool := (match K.lookup fI with
  | some ⟨_, _, .func fd, _⟩ => decide (fd.defaults = .none) && ((match fd.code with
    | .ref cda => PySem.W.codeIn K (.ref cda) "BadArgument.__init__" && (match K.lookup cda with
      | some ⟨_, _, .fields vs, _⟩ => (match (vs[2]? : Option Value) with
        | some (Value.str f _) => (file == f)
        | _ => false)
      | _ => false)
    | _ => false) && (match fd.closure with
    | [(_, cc)] => (match K.lookup cc with
      | some ⟨_, _, .cell (some (.ref C')), _⟩ => decide (C' = C)
      | _ => false)
    | _ => false))
  | _ => false) && (oexB K C && ((PySem.W.clsIn K C).isSome && (decide (PySem.W.mroIn K C (.ref C) = some true) && (decide (PySem.W.ks_superIn K C C "__init__" = some (some (.builtin "ValueError.__init__"))) && (decide (PySem.W.subIn K (.ref C) (.type "ValueError") = some true) &&
  (PySem.W.excInitIn K C [.type "ValueError", .type "Exception", .type "BaseException", .type "object"] "ValueError.__new__" && (decide (PySem.W.nsIn K cStatics "thirdparty.any" = some none) && (decide (PySem.W.findIn K (.ref C) "name" = some none) &&
  (decide (PySem.W.findIn K (.ref C) "__init__" = some (some (.ref fI))) && (decide (PySem.W.typeIn K (.ref fI) = some (.type "function")) && (decide (PySem.W.exmOne K (.ref C) (.ref C) = some true) && L2.xfB K C)))))))))))
structure BadS (prog : Program) (K : PySem.W.Frag) (C fI : Addr) : Prop where
  ex : OexC K C
  init : PySem.W.findIn K (.ref C) "__init__" = some (some (.ref fI))
  ty : PySem.W.typeIn K (.ref fI) = some (.type "function")
  exm : PySem.W.exmOne K (.ref C) (.ref C) = some true
  xf : XfC K C
  noName : PySem.W.findIn K (.ref C) "name" = some none
theorem badB_ok {prog : Program} {K : PySem.W.Frag} {mg : Str → Option Value} {C fI : Addr} {params : Arguments} {body : List Stmt} {scope : Scope} (h : badB prog.main.file K C fI = true)
    (hf : fnC K fI = (some (("__init__" : Str), ("BadArgument.__init__" : Str), params, FuncBody.stmts body, scope, mainGlobals, [("__class__" : Str)], builtinsNs) : FnC))
    (s0 : ((params.posonlyargs ++ params.args).head?.map fun a => a.arg) = some "self") (s3 : scope.names.lookup ("self" : Str) = some NameKind.local) (s4 : scope.names.lookup ("name" : Str) = some NameKind.local) (s5 : scope.names.lookup ("__class__" : Str) = some NameKind.free)
    (s6 : scope.names.lookup ("super" : Str) = some NameKind.globalImplicit) (s7 : ∀ y ∈ scope.names, y.2 ≠ NameKind.cell) (s8 : scope.isCoroutine = false) (s9 : scope.isGenerator = false) (s10 : scope.kind = .function) (s11 : mg "super" = none) (s12 : (prog.main.scope.names.lookup ("super" : Str)).isSome = false) :
    (∃ fd, CWG.BadC prog K mg C fI fd body ∧ fd.params = params ∧ ∃ kV doc pm an ct cc cda, fd = PySem.W.ksFn "__init__" "BadArgument.__init__" params body scope .none kV doc pm an (.ref cda) ct cc) ∧ BadS prog K C fI := by
  obtain ⟨ar, s1, s2⟩ := Option.map_eq_some_iff.mp s0
  obtain ⟨h1, h⟩ := ba h
  obtain ⟨b1, h⟩ := ba h
  obtain ⟨b2, h⟩ := ba h
  obtain ⟨b3, h⟩ := ba h
  obtain ⟨b4, h⟩ := ba h
  obtain ⟨b5, h⟩ := ba h
  obtain ⟨b6, h⟩ := ba h
  obtain ⟨b7, h⟩ := ba h
  obtain ⟨b8, h⟩ := ba h
  obtain ⟨b9, h⟩ := ba h
  obtain ⟨b10, h⟩ := ba h
  obtain ⟨b11, b12⟩ := ba h
  have S : BadS prog K C fI := ⟨oexB_ok b1, of_decide_eq_true b9, of_decide_eq_true b10, of_decide_eq_true b11, xfB_ok b12, of_decide_eq_true b8⟩
  refine ⟨?_, S⟩
  unfold fnC at hf
  cases q : K.lookup fI with
  | none => rw [q] at h1; cases h1
  | some o =>
    obtain ⟨oc, od, dt, osl⟩ := o
    rw [q] at h1 hf
    cases dt with
    | func fd =>
      obtain ⟨n1, n2, n3, n4, n5, n6, n7, n8, n9, n10, n11, n12, n13, n14, n15⟩ := fd
      have e2 : (some (n1, n2, n3, n4, n5, n6, n7.map (·.1), n15) : FnC) = (some (("__init__" : Str), ("BadArgument.__init__" : Str), params, FuncBody.stmts body, scope, mainGlobals, [("__class__" : Str)], builtinsNs) : FnC) := hf
      simp only [Option.some.injEq, Prod.mk.injEq] at e2
      obtain ⟨g1, g2, g3, g4, g5, g6, g7, g8⟩ := e2
      subst g1 g2 g3 g4 g5 g6 g8
      obtain ⟨c1, i1⟩ := ba h1
      clear h1
      obtain ⟨c2, c3⟩ := ba i1
      clear i1
      have c1 : n8 = .none := of_decide_eq_true c1
      subst c1
      dsimp only at c2 c3
      split at c2
      rotate_left
      · cases c2
      rename_i cda
      obtain ⟨d1, d2⟩ := ba c2
      split at d2
      rotate_left
      · cases d2
      rename_i ccl cdd vs ccs hlc
      split at d2
      rotate_left
      · cases d2
      rename_i file tf hvs
      split at c3
      rotate_left
      · cases c3
      rename_i nm cc
      have g7 : [nm] = [("__class__" : Str)] := g7
      cases g7
      split at c3
      rotate_left
      · cases c3
      rename_i cl cld C' csl hcell
      have c3 := of_decide_eq_true c3
      subst c3
      refine ⟨_, ⟨oexB_ok b1, ⟨oc, od, n9, n10, n11, n12, n14, osl, cc, cda, n3, n5, ccl, cl, cdd, cld, vs, ccs, csl, file, tf, ar, rfl, q, d1, hlc, hvs, d2, hcell, s1, s2, s3, s4, s5, s6, s7, s8, s9, s10⟩, ?_, of_decide_eq_true b3, of_decide_eq_true b4, of_decide_eq_true b5, b6, of_decide_eq_true b7, of_decide_eq_true b8, s11, s12⟩, rfl, _, _, _, _, _, _, _, rfl⟩
      exact Option.isSome_iff_exists.mp b2
    | _ => cases h1
/-! ### the Hook: over a list of addresses that is handed in; BadArgument's __init__ beside the defs -/
theorem saysX_list {as : List Addr} {fa : List Fa} {fn : List DefD} {ts : List Tab} {tf : List Defn} {ex : PySem.W.Frag → Bool} {w : World} {h : Heap} (e1 : obsT fa fn ts (frT h.get? as) = valT fn ts w) (e2 : (ex (frT h.get? as) && tabsB h.get? tf (frT h.get? as)) = true) : SaysX fa fn ts tf ex w h (frT h.get? as) := by
  obtain ⟨m, t⟩ := ba e2
  have each := List.all_eq_true.mp t
  have one : ∀ p ∈ tf, ∃ o, h.get? (cT (frT h.get? as) p).2 = some o ∧ emptyTab o = true := by
    intro p hp
    have q := (ba (each p hp)).2
    split at q
    · exact ⟨_, by assumption, q⟩
    · cases q
  refine ⟨e1, m, fun p hp => (ba (each p hp)).1, ?_, ?_⟩
  · intro p hp
    obtain ⟨o, q, z⟩ := one p hp
    exact frT_none q z
  · intro p hp
    obtain ⟨o, q, z⟩ := one p hp
    exact q.trans (congrArg some (emptyTab_eq z))
/-- what is looked at -/
abbrev AlY : Type := AlX × FnC
abbrev badI (K : PySem.W.Frag) : Addr := ma K (ga K "BadArgument") "__init__"
def asY (n : Nat) (g : Addr → Option Obj) : List Addr := cStatics :: He.asD g n
def obsY (n : Nat) (fa : List Fa) (fn : List DefD) (tf : List Defn) (ex : PySem.W.Frag → Bool) (g : Addr → Option Obj) : AlY :=
  let K := frT g (asY n g)
  ((obsT fa fn [] K, ex K && tabsB g tf K), fnC K (badI K))
structure SaysY (fa : List Fa) (fn : List DefD) (tf : List Defn) (ex : PySem.W.Frag → Bool) (bad : FnC) (w : World) (h : Heap) (K : PySem.W.Frag) : Prop where
  x : SaysX fa fn [] tf ex w h K
  b : fnC K (badI K) = bad
def hookY (n : Nat) (fa : List Fa) (fn : List DefD) (tf : List Defn) (ex : PySem.W.Frag → Bool) (bad : FnC) : PySem.W.Hook where
  α := AlY
  obs := fun s => obsY n fa fn tf ex s.heap.get?
  val := fun w => ((valT fn [] w, true), bad)
  says := fun w h => ∃ K : PySem.W.Frag, K.In h ∧ SaysY fa fn tf ex bad w h K
  of := fun w s e => ⟨_, frT_in, saysX_list (congrArg (fun z : AlY => z.1.1) e) (congrArg (fun z : AlY => z.1.2) e), congrArg (fun z : AlY => z.2) e⟩
  keeps := fun _ _ _ ⟨K, hK, c⟩ k => ⟨K, PySem.W.Frag.In.keeps hK k, ⟨c.x.t, c.x.more, c.x.hd, c.x.out, fun p hp => k _ _ (c.x.empty p hp)⟩, c.b⟩
theorem obsY_eq {n : Nat} {fa : List Fa} {fn : List DefD} {tf : List Defn} {ex : PySem.W.Frag → Bool} {bad : FnC} {g : Addr → Option Obj} {s : Shared} (h : ∀ a, g a = s.heap.get? a) : obsY n fa fn tf ex g = (hookY n fa fn tf ex bad).obs s := by
  have e : g = s.heap.get? := funext h
  rw [e] <;> rfl
/-! ### what the end asks -/
theorem tabG_empty {H : Hp} {P : Addr} (h : H P = some (.tbl #[])) : GxR.TabG H P := ⟨_, h, trivial⟩
theorem tabS_empty {H : Hp} {P : Addr} {q : Str} (h : H P = some (.tbl #[])) : LamX.TabS H P q := ⟨_, h, trivial, fun pos cv e => nomatch (show (none : Option Value) = some cv from e)⟩
theorem code_cT {K : PySem.W.Frag} {x qual : Str} {params : Arguments} {body : List Stmt} {scope : Scope} {dvs : List V} {kws : List (Str × V)} {fd : FuncData} {p : Defn} (F : FunD K x qual params body scope dvs kws (fAd K p) fd) : ∃ cd, fd.code = .ref cd ∧ (cT K p).1 = cd := by
  obtain ⟨oc, od, dV, kV, doc, pm, an, cdv, ct, osl, e, lk, hcd, _, _⟩ := F.ex
  obtain ⟨c, rfl⟩ := codeIn_ref hcd
  subst e
  exact ⟨c, rfl, codeOf_eq lk rfl⟩
/-- the law's promise, of what its body makes of the script -/
theorem law_sp {K : PySem.W.Frag} {G : DG} {H : Hp} {a : Addr} {ns : List Int} {F : List MV → M MV} (hG : ∀ P ∈ G.T, GxR.TabG H P) (hL : LamX.Tabs lamT H) (hS : SqL K H a (ns.map V.int)) (hp : ∃ st', F [.v (.scr ns)] [] = .val (.v (.bl true)) st') :
    spS K G 1 F [.ref a] H (fun v _ => v = .bl true) fun _ _ _ => False := by
  obtain ⟨st', e⟩ := hp
  refine ⟨rfl, ⟨[], fun _ => none, fun _ => False⟩, [], [.v (.scr ns)], ⟨fun j a o e => (by simp at e), rfl, List.nodup_nil, fun i a e => (by cases e), fun i j a e => (by cases e), fun a h => (by cases h), fun a z => z.elim, ⟨hG, hL⟩⟩, .cons (.v (.scr (.of (fun h => ?_) hS))) .nil, fun _ => rfl, ?_⟩
  · rcases h with h | ⟨i, h⟩ | h
    · cases h
    · cases h
    · exact h
  · rw [e]
    intro b H' q' af r
    cases r with
    | v r => cases r; rfl
end CD

set_option Elab.async false
set_option linter.all false
set_option maxRecDepth 100000
set_option maxHeartbeats 4000000
namespace CD
open PySem PySem.Spec PyProof.Rows L2
def top (i : Nat) : Stmt := PySem.Challenge.pw_cornerwalls_k14_whole_growing.main.body.getD i (.Pass ⟨0, 0, 0, 0⟩)
structure Bl (mg : Str → Option Value) : Prop where
  abs : mg "abs" = none
  all : mg "all" = none
  any : mg "any" = none
  bool : mg "bool" = none
  dict : mg "dict" = none
  int : mg "int" = none
  isinstance : mg "isinstance" = none
  len : mg "len" = none
  list : mg "list" = none
  max : mg "max" = none
  min : mg "min" = none
  range : mg "range" = none
  sorted : mg "sorted" = none
  str : mg "str" = none
  sum : mg "sum" = none
  tuple : mg "tuple" = none
  zip : mg "zip" = none
structure Ct (mg : Str → Option Value) : Prop where
  MOST_SIZE : ∃ t, mg "MOST_SIZE" = some (.int 4 t)
  MOST_NUMBER : ∃ t, mg "MOST_NUMBER" = some (.int 1000000 t)
  MOST_ROWS : ∃ t, mg "MOST_ROWS" = some (.int 100 t)
  MOST_CHANGES : ∃ t, mg "MOST_CHANGES" = some (.int 60 t)
structure Cs where
  Cone : Addr
  Growing : Addr
structure ClsA (K : PySem.W.Frag) (mg : Str → Option Value) (c : Cs) : Prop where
  Cone : Cls K c.Cone
  g_Cone : mg "Cone" = some (.ref c.Cone)
  Growing : Cls K c.Growing
  g_Growing : mg "Growing" = some (.ref c.Growing)
structure NoA (K : PySem.W.Frag) (c : Cs) : Prop where
  Cone_count : NoAttr K c.Cone "count"
  Cone_lines : NoAttr K c.Cone "lines"
  Cone_rays : NoAttr K c.Cone "rays"
  Growing_cone : NoAttr K c.Growing "cone"
  Growing_earlier : NoAttr K c.Growing "earlier"
  Growing_last : NoAttr K c.Growing "last"
  Growing_size : NoAttr K c.Growing "size"
  Growing_table : NoAttr K c.Growing "table"
structure IsA (K : PySem.W.Frag) (c : Cs) : Prop where
  Growing : IsiC K c.Growing
section
variable {P : Program} {w : World} {K : PySem.W.Frag} {mg : Str → Option Value} {base : Heap} {G : DG} {c : Cs} (B : Bl mg) (C : Ct mg) (A : ClsA K mg c) (N : NoA K c) (I : IsA K c)
include B C A N I
def F_is_integer : List MV → M MV := runB (sRet (fAndV (fIsi "int" (fVar 0)) (fNotV (fIsi "bool" (fVar 0))))) 1
theorem has_is_integer (F : ∃ f fd, mg "is_integer" = some (.ref f) ∧ FunD K "is_integer" "is_integer" (defArgs (top 3)) (defBody (top 3)) (defScope (top 3)) [] [] f fd) : HasF P w K mg base G 1 "is_integer" ["value"] [] F_is_integer := by
  obtain ⟨f, fd, hm, F⟩ := F
  have hN : (["value"] : List Str).Nodup := by decide
  refine HasF.of2 (N := ["value"]) F hm (C8.fnScope_by (by decide +kernel)) (by decide) (fun kV doc pm an cdv ct us hl => match us, hl with | [u0], _ => rfl) (fun p hp => nomatch hp) (fun cd A_ outer s H E hcd hr => ?_)
  have HU : (cxF P w K mg base ["value"] "is_integer" (defScope (top 3)) f cd A_ outer s H E).A.units + 65 < cLine := by have := hr.un; omega
  have v_value : (defScope (top 3)).names.lookup ("value" : Str) = some .local := by decide +kernel
  have g_bool : (defScope (top 3)).names.lookup ("bool" : Str) = some .globalImplicit := by decide +kernel
  have g_int : (defScope (top 3)).names.lookup ("int" : Str) = some .globalImplicit := by decide +kernel
  have g_isinstance : (defScope (top 3)).names.lookup ("isinstance" : Str) = some .globalImplicit := by decide +kernel
  have hD : NoDbg (["value"] : List Str) = true := by decide +kernel
  exact (pss_of (psd_ret (pd_and (q_isi ty_int g_isinstance B.isinstance g_int B.int bb_int (qv 0 hD rfl (.inl v_value)) rfl) (pd_and1 (pd_not (q_isi ty_bool g_isinstance B.isinstance g_bool B.bool bb_bool (qv 0 hD rfl (.inl v_value)) rfl))))))
def F_common : List MV → M MV := runB (sSeq (sAsg (fB absM (fCons (fVar 0) fNil)) (setN 0)) (sSeq (sAsg (fB absM (fCons (fVar 1) fNil)) (setN 1)) (sSeq (sWhile (fuelN 1) (fCmpT gtM (fVar 1) (fC (.v (.int 0)))) (sPar 0 1 (fCons (fVar 1) (fCons (fBin modM (fVar 0) (fVar 1)) fNil)))) (sRet (fVar 0))))) 2
theorem has_common (F : ∃ f fd, mg "common" = some (.ref f) ∧ FunD K "common" "common" (defArgs (top 4)) (defBody (top 4)) (defScope (top 4)) [] [] f fd) : HasF P w K mg base G 1 "common" ["one", "other"] [] F_common := by
  obtain ⟨f, fd, hm, F⟩ := F
  have hN : (["one", "other"] : List Str).Nodup := by decide
  refine HasF.of2 (N := ["one", "other"]) F hm (C8.fnScope_by (by decide +kernel)) (by decide) (fun kV doc pm an cdv ct us hl => match us, hl with | [u0, u1], _ => rfl) (fun p hp => nomatch hp) (fun cd A_ outer s H E hcd hr => ?_)
  have HU : (cxF P w K mg base ["one", "other"] "common" (defScope (top 4)) f cd A_ outer s H E).A.units + 65 < cLine := by have := hr.un; omega
  have v_one : (defScope (top 4)).names.lookup ("one" : Str) = some .local := by decide +kernel
  have v_other : (defScope (top 4)).names.lookup ("other" : Str) = some .local := by decide +kernel
  have g_abs : (defScope (top 4)).names.lookup ("abs" : Str) = some .globalImplicit := by decide +kernel
  have hD : NoDbg (["one", "other"] : List Str) = true := by decide +kernel
  exact (pss_seq (psd_asg [0] (q_callB cr_abs g_abs B.abs bb_abs (pda_cons (qv 0 hD rfl (.inl v_one)) pda_nil rfl) rfl rfl) (pgd_name 0 hN rfl (.inl v_one) (.inl rfl) (by decide)) rfl rfl rfl)
  (pss_seq (psd_asg [1] (q_callB cr_abs g_abs B.abs bb_abs (pda_cons (qv 1 hD rfl (.inl v_other)) pda_nil rfl) rfl rfl) (pgd_name 1 hN rfl (.inl v_other) (.inl rfl) (by decide)) rfl rfl rfl)
  (pss_seq (psd_while (fuelN 1) cx_own (pdt_cmp op_gtM (qv 1 hD rfl (.inl v_other)) pd_int rfl) (pss_of (psd_par 0 1 rfl hN rfl rfl (by decide) rfl rfl (pda_cons (qv 1 hD rfl (.inl v_other)) (pda_cons (pd_bin op_modM (qv 0 hD rfl (.inl v_one)) (qv 1 hD rfl (.inl v_other))) pda_nil rfl) rfl) rfl)))
  (pss_of (psd_ret (qv 0 hD rfl (.inl v_one)))))))
def F_divisor_of : List MV → M MV := runB (sSeq (sAsg (fC (.v (.int 0))) (setN 1)) (sSeq (sFor (iSeqT (fVar 0)) (setN 2) (sAsg (fCallP 2 F_common (fCons (fVar 1) (fCons (fVar 2) fNil))) (setN 1))) (sRet (fVar 1)))) 3
theorem has_divisor_of (h_common : HasF P w K mg base G 1 "common" ["one", "other"] [] F_common) (F : ∃ f fd, mg "divisor_of" = some (.ref f) ∧ FunD K "divisor_of" "divisor_of" (defArgs (top 5)) (defBody (top 5)) (defScope (top 5)) [] [] f fd) : HasF P w K mg base G 2 "divisor_of" ["row"] [] F_divisor_of := by
  obtain ⟨f, fd, hm, F⟩ := F
  have hN : (["row", "found", "one"] : List Str).Nodup := by decide
  refine HasF.of2 (N := ["row", "found", "one"]) F hm (C8.fnScope_by (by decide +kernel)) (by decide) (fun kV doc pm an cdv ct us hl => match us, hl with | [u0], _ => rfl) (fun p hp => nomatch hp) (fun cd A_ outer s H E hcd hr => ?_)
  have HU : (cxF P w K mg base ["row", "found", "one"] "divisor_of" (defScope (top 5)) f cd A_ outer s H E).A.units + 65 < cLine := by have := hr.un; omega
  have v_found : (defScope (top 5)).names.lookup ("found" : Str) = some .local := by decide +kernel
  have v_one : (defScope (top 5)).names.lookup ("one" : Str) = some .local := by decide +kernel
  have v_row : (defScope (top 5)).names.lookup ("row" : Str) = some .local := by decide +kernel
  have g_common : (defScope (top 5)).names.lookup ("common" : Str) = some .globalImplicit := by decide +kernel
  have hD : NoDbg (["row", "found", "one"] : List Str) = true := by decide +kernel
  exact (pss_seq (psd_asg [1] pd_int (pgd_name 1 hN rfl (.inl v_found) (.inl rfl) (by decide)) rfl rfl rfl)
  (pss_seq (psd_for [2] cx_own rfl (pid_tup (qv 0 hD rfl (.inl v_row))) (pgd_name 2 hN rfl (.inl v_one) (.inl rfl) (by decide))
  (pss_of (psd_asg [1] (q_callP "common" 1 ["one", "other"] [] rfl h_common (by exact hr.mono (by decide)) g_common cx_passes (pda_cons (qv 1 hD rfl (.inl v_found)) (pda_cons (qv 2 hD rfl (.inl v_one)) pda_nil rfl) rfl) (by decide) rfl rfl) (pgd_name 1 hN rfl (.inl v_found) (.inl rfl) (by decide)) rfl rfl rfl)) (fun _ => rfl))
  (pss_of (psd_ret (qv 1 hD rfl (.inl v_found))))))
def F_primitive : List MV → M MV := runB (sSeq (sAsg (fCallP 1 F_divisor_of (fCons (fVar 0) fNil)) (setN 1)) (sRet (fIf (fCmpT gtM (fVar 1) (fC (.v (.int 1)))) (fB tupleM (fCons (fLc [2] (iSeqT (fVar 0)) (setN 2) fYes (fBin fdivM (fVar 2) (fVar 1))) fNil)) (fB tupleM (fCons (fVar 0) fNil))))) 3
theorem has_primitive (h_divisor_of : HasF P w K mg base G 2 "divisor_of" ["row"] [] F_divisor_of) (F : ∃ f fd, mg "primitive" = some (.ref f) ∧ FunD K "primitive" "primitive" (defArgs (top 6)) (defBody (top 6)) (defScope (top 6)) [] [] f fd) : HasF P w K mg base G 3 "primitive" ["row"] [] F_primitive := by
  obtain ⟨f, fd, hm, F⟩ := F
  have hN : (["row", "divisor", "one"] : List Str).Nodup := by decide
  refine HasF.of2 (N := ["row", "divisor", "one"]) F hm (C8.fnScope_by (by decide +kernel)) (by decide) (fun kV doc pm an cdv ct us hl => match us, hl with | [u0], _ => rfl) (fun p hp => nomatch hp) (fun cd A_ outer s H E hcd hr => ?_)
  have HU : (cxF P w K mg base ["row", "divisor", "one"] "primitive" (defScope (top 6)) f cd A_ outer s H E).A.units + 65 < cLine := by have := hr.un; omega
  have v_divisor : (defScope (top 6)).names.lookup ("divisor" : Str) = some .cell := by decide +kernel
  have v_row : (defScope (top 6)).names.lookup ("row" : Str) = some .local := by decide +kernel
  have g_divisor_of : (defScope (top 6)).names.lookup ("divisor_of" : Str) = some .globalImplicit := by decide +kernel
  have g_tuple : (defScope (top 6)).names.lookup ("tuple" : Str) = some .globalImplicit := by decide +kernel
  have hD : NoDbg (["row", "divisor", "one"] : List Str) = true := by decide +kernel
  exact (pss_seq (psd_asg [1] (q_callP "divisor_of" 2 ["row"] [] rfl h_divisor_of (by exact hr.mono (by decide)) g_divisor_of cx_passes (pda_cons (qv 0 hD rfl (.inl v_row)) pda_nil rfl) (by decide) rfl rfl) (pgd_name 1 hN rfl (.inr v_divisor) (.inl rfl) (by decide)) rfl rfl rfl)
  (pss_of (psd_ret (pd_if (pdt_cmp op_gtM (qv 1 hD rfl (.inr (.inl v_divisor))) pd_int rfl) (q_callTy cr_tuple g_tuple B.tuple bb_tuple (pda_cons (q_lc [("one", 2)] rfl rfl hN (pid_tup (qv 0 hD rfl (.inl v_row))) (blkOk_by (by rfl)) (fun _ _ _ _ _ => (pgd_name 2 hN rfl (.inl rfl) (.inr rfl) (by decide))) (fun _ _ _ _ _ => ptsd_nil)
  (fun _ _ _ _ _ => (pd_bin op_fdivM (qv 2 hD rfl (.inl rfl)) (qv 1 hD rfl (.inr (.inl rfl))))) (fun _ => rfl)) pda_nil rfl) rfl rfl) (q_callTy cr_tuple g_tuple B.tuple bb_tuple (pda_cons (qv 0 hD rfl (.inl v_row)) pda_nil rfl) rfl rfl)))))
def F_product : List MV → M MV := runB (sRet (fB sumM (fCons (fLc [2, 3] (iZip (fVar 0) (fVar 1)) (setTup 2 (setCons (setN 2) (setCons (setN 3) setNil))) fYes (fBin mulM (fVar 2) (fVar 3))) fNil))) 4
theorem has_product (F : ∃ f fd, mg "product" = some (.ref f) ∧ FunD K "product" "product" (defArgs (top 7)) (defBody (top 7)) (defScope (top 7)) [] [] f fd) : HasF P w K mg base G 1 "product" ["one", "other"] [] F_product := by
  obtain ⟨f, fd, hm, F⟩ := F
  have hN : (["one", "other", "first", "second"] : List Str).Nodup := by decide
  refine HasF.of2 (N := ["one", "other", "first", "second"]) F hm (C8.fnScope_by (by decide +kernel)) (by decide) (fun kV doc pm an cdv ct us hl => match us, hl with | [u0, u1], _ => rfl) (fun p hp => nomatch hp) (fun cd A_ outer s H E hcd hr => ?_)
  have HU : (cxF P w K mg base ["one", "other", "first", "second"] "product" (defScope (top 7)) f cd A_ outer s H E).A.units + 65 < cLine := by have := hr.un; omega
  have v_one : (defScope (top 7)).names.lookup ("one" : Str) = some .local := by decide +kernel
  have v_other : (defScope (top 7)).names.lookup ("other" : Str) = some .local := by decide +kernel
  have g_sum : (defScope (top 7)).names.lookup ("sum" : Str) = some .globalImplicit := by decide +kernel
  have g_zip : (defScope (top 7)).names.lookup ("zip" : Str) = some .globalImplicit := by decide +kernel
  have hD : NoDbg (["one", "other", "first", "second"] : List Str) = true := by decide +kernel
  exact (pss_of (psd_ret (q_callB (crd_sum rfl) g_sum B.sum bb_sum (pda_cons (q_lc [("first", 2), ("second", 3)] rfl rfl hN (pid_zip g_zip B.zip (qv 0 hD rfl (.inl v_one)) (qv 1 hD rfl (.inl v_other)) rfl rfl rfl) (blkOk_by (by rfl)) (fun _ _ _ _ _ => (pgd_tup rfl (pgsd_cons (pgd_name 2 hN rfl (.inl rfl) (.inr rfl) (by decide)) (pgsd_cons (pgd_name 3 hN rfl (.inl rfl) (.inr rfl) (by decide)) pgsd_nil rfl) rfl) rfl rfl)) (fun _ _ _ _ _ => ptsd_nil)
  (fun _ _ _ _ _ => (pd_bin op_mulM (qv 2 hD rfl (.inl rfl)) (qv 3 hD rfl (.inl rfl)))) (fun _ => rfl)) pda_nil rfl) rfl rfl)))
def F_joined : List MV → M MV := runB (sRet (fB tupleM (fCons (fLc [4, 5] (iZip (fVar 0) (fVar 2)) (setTup 2 (setCons (setN 4) (setCons (setN 5) setNil))) fYes (fBin addM (fBin mulM (fVar 1) (fVar 4)) (fBin mulM (fVar 3) (fVar 5)))) fNil))) 6
theorem has_joined (F : ∃ f fd, mg "joined" = some (.ref f) ∧ FunD K "joined" "joined" (defArgs (top 8)) (defBody (top 8)) (defScope (top 8)) [] [] f fd) : HasF P w K mg base G 1 "joined" ["one", "times", "other", "more"] [] F_joined := by
  obtain ⟨f, fd, hm, F⟩ := F
  have hN : (["one", "times", "other", "more", "first", "second"] : List Str).Nodup := by decide
  refine HasF.of2 (N := ["one", "times", "other", "more", "first", "second"]) F hm (C8.fnScope_by (by decide +kernel)) (by decide) (fun kV doc pm an cdv ct us hl => match us, hl with | [u0, u1, u2, u3], _ => rfl) (fun p hp => nomatch hp) (fun cd A_ outer s H E hcd hr => ?_)
  have HU : (cxF P w K mg base ["one", "times", "other", "more", "first", "second"] "joined" (defScope (top 8)) f cd A_ outer s H E).A.units + 65 < cLine := by have := hr.un; omega
  have v_one : (defScope (top 8)).names.lookup ("one" : Str) = some .local := by decide +kernel
  have v_other : (defScope (top 8)).names.lookup ("other" : Str) = some .local := by decide +kernel
  have g_tuple : (defScope (top 8)).names.lookup ("tuple" : Str) = some .globalImplicit := by decide +kernel
  have g_zip : (defScope (top 8)).names.lookup ("zip" : Str) = some .globalImplicit := by decide +kernel
  have hD : NoDbg (["one", "times", "other", "more", "first", "second"] : List Str) = true := by decide +kernel
  exact (pss_of (psd_ret (q_callTy cr_tuple g_tuple B.tuple bb_tuple (pda_cons (q_lc [("first", 4), ("second", 5)] rfl rfl hN (pid_zip g_zip B.zip (qv 0 hD rfl (.inl v_one)) (qv 2 hD rfl (.inl v_other)) rfl rfl rfl) (blkOk_by (by rfl)) (fun _ _ _ _ _ => (pgd_tup rfl (pgsd_cons (pgd_name 4 hN rfl (.inl rfl) (.inr rfl) (by decide)) (pgsd_cons (pgd_name 5 hN rfl (.inl rfl) (.inr rfl) (by decide)) pgsd_nil rfl) rfl) rfl rfl)) (fun _ _ _ _ _ => ptsd_nil)
  (fun _ _ _ _ _ => (pd_bin op_addM (pd_bin op_mulM (qv 1 hD rfl (.inr (.inl rfl))) (qv 4 hD rfl (.inl rfl))) (pd_bin op_mulM (qv 3 hD rfl (.inr (.inl rfl))) (qv 5 hD rfl (.inl rfl))))) (fun _ => rfl)) pda_nil rfl) rfl rfl)))
def F_opposite : List MV → M MV := runB (sRet (fB tupleM (fCons (fLc [1] (iSeqT (fVar 0)) (setN 1) fYes (fBin subM (fC (.v (.int 0))) (fVar 1))) fNil))) 2
theorem has_opposite (F : ∃ f fd, mg "opposite" = some (.ref f) ∧ FunD K "opposite" "opposite" (defArgs (top 9)) (defBody (top 9)) (defScope (top 9)) [] [] f fd) : HasF P w K mg base G 1 "opposite" ["row"] [] F_opposite := by
  obtain ⟨f, fd, hm, F⟩ := F
  have hN : (["row", "one"] : List Str).Nodup := by decide
  refine HasF.of2 (N := ["row", "one"]) F hm (C8.fnScope_by (by decide +kernel)) (by decide) (fun kV doc pm an cdv ct us hl => match us, hl with | [u0], _ => rfl) (fun p hp => nomatch hp) (fun cd A_ outer s H E hcd hr => ?_)
  have HU : (cxF P w K mg base ["row", "one"] "opposite" (defScope (top 9)) f cd A_ outer s H E).A.units + 65 < cLine := by have := hr.un; omega
  have v_row : (defScope (top 9)).names.lookup ("row" : Str) = some .local := by decide +kernel
  have g_tuple : (defScope (top 9)).names.lookup ("tuple" : Str) = some .globalImplicit := by decide +kernel
  have hD : NoDbg (["row", "one"] : List Str) = true := by decide +kernel
  exact (pss_of (psd_ret (q_callTy cr_tuple g_tuple B.tuple bb_tuple (pda_cons (q_lc [("one", 1)] rfl rfl hN (pid_tup (qv 0 hD rfl (.inl v_row))) (blkOk_by (by rfl)) (fun _ _ _ _ _ => (pgd_name 1 hN rfl (.inl rfl) (.inr rfl) (by decide))) (fun _ _ _ _ _ => ptsd_nil)
  (fun _ _ _ _ _ => (pd_bin op_subM pd_int (qv 1 hD rfl (.inl rfl)))) (fun _ => rfl)) pda_nil rfl) rfl rfl)))
def F_cleared : List MV → M MV := runB (sSeq (sIf (fCmpT eqM (fBin ixM (fVar 0) (fVar 2)) (fC (.v (.int 0)))) (sRet (fVar 0)) sNil) (sRet (fCallP 1 F_primitive (fCons (fCallP 4 F_joined (fCons (fVar 0) (fCons (fBin ixM (fVar 1) (fVar 2)) (fCons (fVar 1) (fCons (fBin subM (fC (.v (.int 0))) (fBin ixM (fVar 0) (fVar 2))) fNil))))) fNil)))) 3
theorem has_cleared (h_primitive : HasF P w K mg base G 3 "primitive" ["row"] [] F_primitive) (h_joined : HasF P w K mg base G 1 "joined" ["one", "times", "other", "more"] [] F_joined) (F : ∃ f fd, mg "cleared" = some (.ref f) ∧ FunD K "cleared" "cleared" (defArgs (top 11)) (defBody (top 11)) (defScope (top 11)) [] [] f fd) : HasF P w K mg base G 4 "cleared" ["row", "other", "column"] [] F_cleared := by
  obtain ⟨f, fd, hm, F⟩ := F
  have hN : (["row", "other", "column"] : List Str).Nodup := by decide
  refine HasF.of2 (N := ["row", "other", "column"]) F hm (C8.fnScope_by (by decide +kernel)) (by decide) (fun kV doc pm an cdv ct us hl => match us, hl with | [u0, u1, u2], _ => rfl) (fun p hp => nomatch hp) (fun cd A_ outer s H E hcd hr => ?_)
  have HU : (cxF P w K mg base ["row", "other", "column"] "cleared" (defScope (top 11)) f cd A_ outer s H E).A.units + 65 < cLine := by have := hr.un; omega
  have v_column : (defScope (top 11)).names.lookup ("column" : Str) = some .local := by decide +kernel
  have v_other : (defScope (top 11)).names.lookup ("other" : Str) = some .local := by decide +kernel
  have v_row : (defScope (top 11)).names.lookup ("row" : Str) = some .local := by decide +kernel
  have g_joined : (defScope (top 11)).names.lookup ("joined" : Str) = some .globalImplicit := by decide +kernel
  have g_primitive : (defScope (top 11)).names.lookup ("primitive" : Str) = some .globalImplicit := by decide +kernel
  have hD : NoDbg (["row", "other", "column"] : List Str) = true := by decide +kernel
  exact (pss_seq (psd_if (pdt_cmp (op_eqM (by exact HU)) (pd_ix (by exact HU) (qv 0 hD rfl (.inl v_row)) (qv 2 hD rfl (.inl v_column)) (fun _ _ => rfl)) pd_int rfl) (pss_of (psd_ret (qv 0 hD rfl (.inl v_row)))) pssd_nil)
  (pss_of (psd_ret (q_callP "primitive" 3 ["row"] [] rfl h_primitive (by exact hr.mono (by decide)) g_primitive cx_passes (pda_cons (q_callP "joined" 1 ["one", "times", "other", "more"] [] rfl h_joined (by exact hr.mono (by decide)) g_joined cx_passes (pda_cons (qv 0 hD rfl (.inl v_row)) (pda_cons (pd_ix (by exact HU) (qv 1 hD rfl (.inl v_other)) (qv 2 hD rfl (.inl v_column)) (fun _ _ => rfl)) (pda_cons (qv 1 hD rfl (.inl v_other)) (pda_cons (pd_bin op_subM pd_int (pd_ix (by exact HU) (qv 0 hD rfl (.inl v_row)) (qv 2 hD rfl (.inl v_column)) (fun _ _ => rfl))) pda_nil rfl) rfl) rfl) rfl) (by decide) rfl rfl) pda_nil rfl) (by decide) rfl rfl))))
def F_in_steps : List MV → M MV := runB (sSeq (sAsg (fLc [8] (iSeqL (fVar 0)) (setN 8) fYes (fB tupleM (fCons (fVar 8) fNil))) (setN 2)) (sSeq (sAsg (fLst fNil) (setN 3)) (sSeq (sOwn 4 fNil) (sSeq (sFor (iSeqL (fVar 1)) (setN 5) (sSeq (sAsg (fLc [8] (iSeqL (fVar 2)) (setN 8) (fCmpT neM (fBin ixM (fVar 8) (fVar 5)) (fC (.v (.int 0)))) (fVar 8)) (setN 6)) (sIf (fCmpT gtM (fB lenM (fCons (fVar 6) fNil)) (fC (.v (.int 0)))) (sSeq (sAsg (fCallP 1 F_primitive (fCons (fIf (fCmpT gtM (fBin ixM (fBin ixM (fVar 6) (fC (.v (.int 0)))) (fVar 5)) (fC (.v (.int 0)))) (fBin ixM (fVar 6) (fC (.v (.int 0)))) (fCallP 1 F_opposite (fCons (fBin ixM (fVar 6) (fC (.v (.int 0)))) fNil))) fNil)) (setN 7)) (sSeq (sAsg (fLc [8] (iSeqL (fVar 2)) (setN 8) fYes (fCallP 3 F_cleared (fCons (fVar 8) (fCons (fVar 7) (fCons (fVar 5) fNil))))) (setN 2)) (sSeq (sAsg (fLc [8] (iSeqL (fVar 2)) (setN 8) (fTest (fB anyM (fCons (fLc [9] (iSeqT (fVar 8)) (setN 9) fYes (fBin neM (fVar 9) (fC (.v (.int 0))))) fNil))) (fVar 8)) (setN 2)) (sSeq (sAsg (fBin addM (fLc [8] (iSeqL (fVar 3)) (setN 8) fYes (fCallP 3 F_cleared (fCons (fVar 8) (fCons (fVar 7) (fCons (fVar 5) fNil))))) (fLst (fCons (fVar 7) fNil))) (setN 3)) (sApp 4 (fVar 5)))))) sNil))) (fun ρ => (sRet (fTup (fCons (fVar 3) (fCons (fVar 4) fNil)))) (frz 4 ρ)))))) 10
theorem has_in_steps (h_primitive : HasF P w K mg base G 3 "primitive" ["row"] [] F_primitive) (h_opposite : HasF P w K mg base G 1 "opposite" ["row"] [] F_opposite) (h_cleared : HasF P w K mg base G 4 "cleared" ["row", "other", "column"] [] F_cleared) (F : ∃ f fd, mg "in_steps" = some (.ref f) ∧ FunD K "in_steps" "in_steps" (defArgs (top 10)) (defBody (top 10)) (defScope (top 10)) [] [] f fd) : HasF P w K mg base G 5 "in_steps" ["rows", "columns"] [] F_in_steps := by
  obtain ⟨f, fd, hm, F⟩ := F
  have hN : (["rows", "columns", "left", "found", "places", "column", "picks", "own", "row", "one"] : List Str).Nodup := by decide
  refine HasF.of2 (N := ["rows", "columns", "left", "found", "places", "column", "picks", "own", "row", "one"]) F hm (C8.fnScope_by (by decide +kernel)) (by decide) (fun kV doc pm an cdv ct us hl => match us, hl with | [u0, u1], _ => rfl) (fun p hp => nomatch hp) (fun cd A_ outer s H E hcd hr => ?_)
  have HU : (cxF P w K mg base ["rows", "columns", "left", "found", "places", "column", "picks", "own", "row", "one"] "in_steps" (defScope (top 10)) f cd A_ outer s H E).A.units + 65 < cLine := by have := hr.un; omega
  have v_column : (defScope (top 10)).names.lookup ("column" : Str) = some .cell := by decide +kernel
  have v_columns : (defScope (top 10)).names.lookup ("columns" : Str) = some .local := by decide +kernel
  have v_found : (defScope (top 10)).names.lookup ("found" : Str) = some .local := by decide +kernel
  have v_left : (defScope (top 10)).names.lookup ("left" : Str) = some .local := by decide +kernel
  have v_own : (defScope (top 10)).names.lookup ("own" : Str) = some .cell := by decide +kernel
  have v_picks : (defScope (top 10)).names.lookup ("picks" : Str) = some .local := by decide +kernel
  have v_places : (defScope (top 10)).names.lookup ("places" : Str) = some .local := by decide +kernel
  have v_rows : (defScope (top 10)).names.lookup ("rows" : Str) = some .local := by decide +kernel
  have g_len : (defScope (top 10)).names.lookup ("len" : Str) = some .globalImplicit := by decide +kernel
  have g_opposite : (defScope (top 10)).names.lookup ("opposite" : Str) = some .globalImplicit := by decide +kernel
  have g_primitive : (defScope (top 10)).names.lookup ("primitive" : Str) = some .globalImplicit := by decide +kernel
  have hD : NoDbg (["rows", "columns", "left", "found", "places", "column", "picks", "own", "row", "one"] : List Str) = true := by decide +kernel
  exact (pss_seq (q_setLc 2 [("row", 8)] rfl rfl hN rfl v_left rfl (pid_list (qv 0 hD rfl (.inl v_rows))) (blkOk_by (by rfl)) (fun _ _ _ _ _ => (pgd_name 8 hN rfl (.inl rfl) (.inr rfl) (by decide))) (fun _ _ _ _ _ => ptsd_nil)
  (fun _ _ _ _ _ => (q_callTy cr_tuple (by exact rfl) B.tuple bb_tuple (pda_cons (qv 8 hD rfl (.inl rfl)) pda_nil rfl) rfl rfl)) (fun _ => rfl))
  (pss_seq (psd_asg [3] (pd_lst pda_nil) (pgd_name 3 hN rfl (.inl v_found) (.inl rfl) (by decide)) rfl rfl rfl)
  (pss_seq (psd_own 4 hN rfl (.inl v_places) pda_nil rfl (.inl rfl))
  (pss_seq (psd_for [5] cx_own rfl (pid_list (qv 1 hD rfl (.inl v_columns))) (pgd_name 5 hN rfl (.inr v_column) (.inl rfl) (by decide))
  (pss_seq (q_setLc 6 [("row", 8)] rfl rfl hN rfl v_picks rfl (pid_list (qv 2 hD rfl (.inl v_left))) (blkOk_by (by rfl)) (fun _ _ _ _ _ => (pgd_name 8 hN rfl (.inl rfl) (.inr rfl) (by decide))) (fun _ _ _ _ _ => (ptsd_one (pdt_cmp (op_neM (by exact HU)) (pd_ix (by exact HU) (qv 8 hD rfl (.inl rfl)) (qv 5 hD rfl (.inr (.inl rfl))) (fun _ _ => rfl)) pd_int rfl)))
  (fun _ _ _ _ _ => (qv 8 hD rfl (.inl rfl))) (fun _ => rfl))
  (pss_of (psd_if (pdt_cmp op_gtM (q_callB cr_len g_len B.len bb_len (pda_cons (qv 6 hD rfl (.inl v_picks)) pda_nil rfl) rfl rfl) pd_int rfl) (pss_seq (psd_asg [7] (q_callP "primitive" 3 ["row"] [] rfl h_primitive (by exact hr.mono (by decide)) g_primitive cx_passes (pda_cons (pd_if (pdt_cmp op_gtM (pd_ix (by exact HU) (pd_ix (by exact HU) (qv 6 hD rfl (.inl v_picks)) pd_int (fun _ _ => rfl)) (qv 5 hD rfl (.inr (.inl v_column))) (fun _ _ => rfl)) pd_int rfl) (pd_ix (by exact HU) (qv 6 hD rfl (.inl v_picks)) pd_int (fun _ _ => rfl)) (q_callP "opposite" 1 ["row"] [] rfl h_opposite (by exact hr.mono (by decide)) g_opposite cx_passes (pda_cons (pd_ix (by exact HU) (qv 6 hD rfl (.inl v_picks)) pd_int (fun _ _ => rfl)) pda_nil rfl) (by decide) rfl rfl)) pda_nil rfl) (by decide) rfl rfl) (pgd_name 7 hN rfl (.inr v_own) (.inl rfl) (by decide)) rfl rfl rfl)
  (pss_seq (q_setLc 2 [("row", 8)] rfl rfl hN rfl v_left rfl (pid_list (qv 2 hD rfl (.inl v_left))) (blkOk_by (by rfl)) (fun _ _ _ _ _ => (pgd_name 8 hN rfl (.inl rfl) (.inr rfl) (by decide))) (fun _ _ _ _ _ => ptsd_nil)
  (fun _ _ _ _ _ => (q_callP "cleared" 4 ["row", "other", "column"] [] rfl h_cleared (by exact hr.mono (by decide)) (by exact rfl) passF (pda_cons (qv 8 hD rfl (.inl rfl)) (pda_cons (qv 7 hD rfl (.inr (.inl rfl))) (pda_cons (qv 5 hD rfl (.inr (.inl rfl))) pda_nil rfl) rfl) rfl) (by decide) rfl rfl)) (fun _ => rfl))
  (pss_seq (q_setLc 2 [("row", 8)] rfl rfl hN rfl v_left rfl (pid_list (qv 2 hD rfl (.inl v_left))) (blkOk_by (by rfl)) (fun _ _ _ _ _ => (pgd_name 8 hN rfl (.inl rfl) (.inr rfl) (by decide))) (fun _ _ _ _ _ => (ptsd_one (pdt_val (q_callB (crd_any rfl) (by exact rfl) B.any bb_any (pda_cons (q_lc [("one", 9)] rfl rfl hN (pid_tup (qv 8 hD rfl (.inl rfl))) (blkOk_by (by rfl)) (fun _ _ _ _ _ => (pgd_name 9 hN rfl (.inl rfl) (.inr rfl) (by decide))) (fun _ _ _ _ _ => ptsd_nil)
  (fun _ _ _ _ _ => (pd_cmp (op_neM (by exact HU)) (qv 9 hD rfl (.inl rfl)) pd_int rfl)) (fun _ => rfl)) pda_nil rfl) rfl rfl) (fun _ => rfl))))
  (fun _ _ _ _ _ => (qv 8 hD rfl (.inl rfl))) (fun _ => rfl))
  (pss_seq (psd_asg [3] (pd_bin op_addM (q_lc [("row", 8)] rfl rfl hN (pid_list (qv 3 hD rfl (.inl v_found))) (blkOk_by (by rfl)) (fun _ _ _ _ _ => (pgd_name 8 hN rfl (.inl rfl) (.inr rfl) (by decide))) (fun _ _ _ _ _ => ptsd_nil)
  (fun _ _ _ _ _ => (q_callP "cleared" 4 ["row", "other", "column"] [] rfl h_cleared (by exact hr.mono (by decide)) (by exact rfl) passF (pda_cons (qv 8 hD rfl (.inl rfl)) (pda_cons (qv 7 hD rfl (.inr (.inl rfl))) (pda_cons (qv 5 hD rfl (.inr (.inl rfl))) pda_nil rfl) rfl) rfl) (by decide) rfl rfl)) (fun _ => rfl)) (pd_lst (pda_cons (qv 7 hD rfl (.inr (.inl v_own))) pda_nil rfl))) (pgd_name 3 hN rfl (.inl v_found) (.inl rfl) (by decide)) rfl rfl rfl)
  (pss_of (psd_app 4 rfl (.inl v_places) (qv 5 hD rfl (.inr (.inl v_column))))))))) pssd_nil))) (fun _ => rfl))
  (pssd_frz 4 (pss_of (psd_ret (pd_tup (pda_cons (qv 3 hD rfl (.inl v_found)) (pda_cons (qv 4 hD rfl (.inl v_places)) pda_nil rfl) rfl)))))))))
def F_cleared_by : List MV → M MV := runB (sSeq (sFor (iZip (fVar 1) (fVar 2)) (setTup 2 (setCons (setN 3) (setCons (setN 4) setNil))) (sAsg (fCallP 3 F_cleared (fCons (fVar 0) (fCons (fVar 3) (fCons (fVar 4) fNil)))) (setN 0))) (sRet (fCallP 1 F_primitive (fCons (fVar 0) fNil)))) 5
theorem has_cleared_by (h_cleared : HasF P w K mg base G 4 "cleared" ["row", "other", "column"] [] F_cleared) (h_primitive : HasF P w K mg base G 3 "primitive" ["row"] [] F_primitive) (F : ∃ f fd, mg "cleared_by" = some (.ref f) ∧ FunD K "cleared_by" "cleared_by" (defArgs (top 12)) (defBody (top 12)) (defScope (top 12)) [] [] f fd) : HasF P w K mg base G 5 "cleared_by" ["row", "rows", "places"] [] F_cleared_by := by
  obtain ⟨f, fd, hm, F⟩ := F
  have hN : (["row", "rows", "places", "own", "column"] : List Str).Nodup := by decide
  refine HasF.of2 (N := ["row", "rows", "places", "own", "column"]) F hm (C8.fnScope_by (by decide +kernel)) (by decide) (fun kV doc pm an cdv ct us hl => match us, hl with | [u0, u1, u2], _ => rfl) (fun p hp => nomatch hp) (fun cd A_ outer s H E hcd hr => ?_)
  have HU : (cxF P w K mg base ["row", "rows", "places", "own", "column"] "cleared_by" (defScope (top 12)) f cd A_ outer s H E).A.units + 65 < cLine := by have := hr.un; omega
  have v_column : (defScope (top 12)).names.lookup ("column" : Str) = some .local := by decide +kernel
  have v_own : (defScope (top 12)).names.lookup ("own" : Str) = some .local := by decide +kernel
  have v_places : (defScope (top 12)).names.lookup ("places" : Str) = some .local := by decide +kernel
  have v_row : (defScope (top 12)).names.lookup ("row" : Str) = some .local := by decide +kernel
  have v_rows : (defScope (top 12)).names.lookup ("rows" : Str) = some .local := by decide +kernel
  have g_cleared : (defScope (top 12)).names.lookup ("cleared" : Str) = some .globalImplicit := by decide +kernel
  have g_primitive : (defScope (top 12)).names.lookup ("primitive" : Str) = some .globalImplicit := by decide +kernel
  have g_zip : (defScope (top 12)).names.lookup ("zip" : Str) = some .globalImplicit := by decide +kernel
  have hD : NoDbg (["row", "rows", "places", "own", "column"] : List Str) = true := by decide +kernel
  exact (pss_seq (psd_for [3, 4] cx_own rfl (pid_zip g_zip B.zip (qv 1 hD rfl (.inl v_rows)) (qv 2 hD rfl (.inl v_places)) rfl rfl rfl) (pgd_tup rfl (pgsd_cons (pgd_name 3 hN rfl (.inl v_own) (.inl rfl) (by decide)) (pgsd_cons (pgd_name 4 hN rfl (.inl v_column) (.inl rfl) (by decide)) pgsd_nil rfl) rfl) rfl rfl)
  (pss_of (psd_asg [0] (q_callP "cleared" 4 ["row", "other", "column"] [] rfl h_cleared (by exact hr.mono (by decide)) g_cleared cx_passes (pda_cons (qv 0 hD rfl (.inl v_row)) (pda_cons (qv 3 hD rfl (.inl v_own)) (pda_cons (qv 4 hD rfl (.inl v_column)) pda_nil rfl) rfl) rfl) (by decide) rfl rfl) (pgd_name 0 hN rfl (.inl v_row) (.inl rfl) (by decide)) rfl rfl rfl)) (fun _ => rfl))
  (pss_of (psd_ret (q_callP "primitive" 3 ["row"] [] rfl h_primitive (by exact hr.mono (by decide)) g_primitive cx_passes (pda_cons (qv 0 hD rfl (.inl v_row)) pda_nil rfl) (by decide) rfl rfl))))
def F_Cone___init__ (c : Cs) : List MV → M MV := runB (sSeq (sAttr c.Cone "lines" (fVar 0) (fLc [2] (iRange1 (fVar 1)) (setN 2) fYes (fB tupleM (fCons (fLc [3] (iRange1 (fVar 1)) (setN 3) fYes (fIf (fCmpT eqM (fVar 2) (fVar 3)) (fC (.v (.int 1))) (fC (.v (.int 0))))) fNil)))) (sSeq (sAttr c.Cone "rays" (fVar 0) (fLst fNil)) (sAttr c.Cone "count" (fVar 0) (fC (.v (.int 0)))))) 4
theorem has_Cone___init__ (F : ∃ f fd, Mk K c.Cone f ∧ mg "Cone" = some (.ref c.Cone) ∧ FunD K "__init__" "Cone.__init__" (defArgs (inClass (top 14) 0)) (defBody (inClass (top 14) 0)) (defScope (inClass (top 14) 0)) [] [] f fd) : HasK P w K mg base G c.Cone 1 "Cone" ["self", "size"] [] (F_Cone___init__ c) := by
  obtain ⟨f, fd, hC, hm, F⟩ := F
  have hN : (["self", "size", "at", "place"] : List Str).Nodup := by decide
  refine HasK.of (N := ["self", "size", "at", "place"]) F hC hm (C8.fnScope_by (by decide +kernel)) (by decide) (fun kV doc pm an cdv ct us hl => match us, hl with | [u0, u1], _ => rfl) (fun p hp => nomatch hp) (fun cd A_ outer s H E hcd hr => ?_)
  have HU : (cxF P w K mg base ["self", "size", "at", "place"] "Cone.__init__" (defScope (inClass (top 14) 0)) f cd A_ outer s H E).A.units + 65 < cLine := by have := hr.un; omega
  have v_self : (defScope (inClass (top 14) 0)).names.lookup ("self" : Str) = some .local := by decide +kernel
  have v_size : (defScope (inClass (top 14) 0)).names.lookup ("size" : Str) = some .cell := by decide +kernel
  have g_range : (defScope (inClass (top 14) 0)).names.lookup ("range" : Str) = some .globalImplicit := by decide +kernel
  have hD : NoDbg (["self", "size", "at", "place"] : List Str) = true := by decide +kernel
  exact (pss_seq (psd_attr A.Cone N.Cone_lines (qv 0 hD rfl (.inl v_self)) (q_lc [("at", 2)] rfl rfl hN (pid_range1 g_range B.range (qv 1 hD rfl (.inr (.inl v_size))) rfl rfl) (blkOk_by (by rfl)) (fun _ _ _ _ _ => (pgd_name 2 hN rfl (.inr rfl) (.inl rfl) (by decide))) (fun _ _ _ _ _ => ptsd_nil)
  (fun _ _ _ _ _ => (q_callTy cr_tuple (by exact rfl) B.tuple bb_tuple (pda_cons (q_lc [("place", 3)] rfl rfl hN (pid_range1 (by exact rfl) B.range (qv 1 hD rfl (.inr (.inl rfl))) rfl rfl) (blkOk_by (by rfl)) (fun _ _ _ _ _ => (pgd_name 3 hN rfl (.inl rfl) (.inr rfl) (by decide))) (fun _ _ _ _ _ => ptsd_nil)
  (fun _ _ _ _ _ => (pd_if (pdt_cmp (op_eqM (by exact HU)) (qv 2 hD rfl (.inr (.inl rfl))) (qv 3 hD rfl (.inl rfl)) rfl) pd_int pd_int)) (fun _ => rfl)) pda_nil rfl) rfl rfl)) (fun _ => rfl)) rfl)
  (pss_seq (psd_attr A.Cone N.Cone_rays (qv 0 hD rfl (.inl v_self)) (pd_lst pda_nil) rfl)
  (pss_of (psd_attr A.Cone N.Cone_count (qv 0 hD rfl (.inl v_self)) pd_int rfl))))
def F_Cone_cut_lines (c : Cs) : List MV → M MV := runB (sSeq (sAsg (fIf (fCmpT gtM (fCallP 2 F_product (fCons (fVar 1) (fCons (fVar 2) fNil))) (fC (.v (.int 0)))) (fVar 2) (fCallP 1 F_opposite (fCons (fVar 2) fNil))) (setN 2)) (sSeq (sAsg (fCallP 2 F_product (fCons (fVar 1) (fCons (fVar 2) fNil))) (setN 3)) (sSeq (sOwn 4 fNil) (sSeq (sFor (iSeqL (fAttr c.Cone "lines" (fVar 0))) (setN 5) (sIf (fCmpT notInM (fVar 5) (fTup (fCons (fVar 2) (fCons (fCallP 1 F_opposite (fCons (fVar 2) fNil)) fNil)))) (sApp 4 (fCallP 1 F_primitive (fCons (fCallP 4 F_joined (fCons (fVar 5) (fCons (fVar 3) (fCons (fVar 2) (fCons (fBin subM (fC (.v (.int 0))) (fCallP 2 F_product (fCons (fVar 1) (fCons (fVar 5) fNil)))) fNil))))) fNil))) sNil)) (fun ρ => (sSeq (sOwn 6 fNil) (sSeq (sFor (iSeqL (fAttr c.Cone "rays" (fVar 0))) (setTup 2 (setCons (setN 7) (setCons (setN 8) setNil))) (sSeq (sAsg (fCallP 1 F_primitive (fCons (fCallP 4 F_joined (fCons (fVar 7) (fCons (fVar 3) (fCons (fVar 2) (fCons (fBin subM (fC (.v (.int 0))) (fCallP 2 F_product (fCons (fVar 1) (fCons (fVar 7) fNil)))) fNil))))) fNil)) (setN 9)) (sApp 6 (fTup (fCons (fVar 9) (fCons (fBin orM (fVar 8) (fBin shlM (fC (.v (.int 1))) (fAttr c.Cone "count" (fVar 0)))) fNil)))))) (fun ρ => (sSeq (sAttr c.Cone "lines" (fVar 0) (fVar 4)) (sAttr c.Cone "rays" (fVar 0) (fBin addM (fVar 6) (fLst (fCons (fTup (fCons (fVar 2) (fCons (fBin subM (fBin shlM (fC (.v (.int 1))) (fAttr c.Cone "count" (fVar 0))) (fC (.v (.int 1)))) fNil))) fNil))))) (frz 6 ρ)))) (frz 4 ρ)))))) 10
theorem has_Cone_cut_lines (h_product : HasF P w K mg base G 1 "product" ["one", "other"] [] F_product) (h_opposite : HasF P w K mg base G 1 "opposite" ["row"] [] F_opposite) (h_primitive : HasF P w K mg base G 3 "primitive" ["row"] [] F_primitive) (h_joined : HasF P w K mg base G 1 "joined" ["one", "times", "other", "more"] [] F_joined) (F : ∃ f fd, Meth K c.Cone "cut_lines" f ∧ FunD K "cut_lines" "Cone.cut_lines" (defArgs (inClass (top 14) 2)) (defBody (inClass (top 14) 2)) (defScope (inClass (top 14) 2)) [] [] f fd) : HasM P w K mg base G c.Cone 4 "cut_lines" ["self", "row", "line"] [] (F_Cone_cut_lines c) := by
  obtain ⟨f, fd, hm, F⟩ := F
  have hN : (["self", "row", "line", "whole", "lines", "own", "rays", "ray", "zeros", "bent"] : List Str).Nodup := by decide
  refine HasM.of (N := ["self", "row", "line", "whole", "lines", "own", "rays", "ray", "zeros", "bent"]) F A.Cone hm (C8.fnScope_by (by decide +kernel)) (by decide) (fun kV doc pm an cdv ct us hl => match us, hl with | [u0, u1, u2], _ => rfl) (fun p hp => nomatch hp) (fun cd A_ outer s H E hcd hr => ?_)
  have HU : (cxF P w K mg base ["self", "row", "line", "whole", "lines", "own", "rays", "ray", "zeros", "bent"] "Cone.cut_lines" (defScope (inClass (top 14) 2)) f cd A_ outer s H E).A.units + 65 < cLine := by have := hr.un; omega
  have v_bent : (defScope (inClass (top 14) 2)).names.lookup ("bent" : Str) = some .local := by decide +kernel
  have v_line : (defScope (inClass (top 14) 2)).names.lookup ("line" : Str) = some .local := by decide +kernel
  have v_lines : (defScope (inClass (top 14) 2)).names.lookup ("lines" : Str) = some .local := by decide +kernel
  have v_own : (defScope (inClass (top 14) 2)).names.lookup ("own" : Str) = some .local := by decide +kernel
  have v_ray : (defScope (inClass (top 14) 2)).names.lookup ("ray" : Str) = some .local := by decide +kernel
  have v_rays : (defScope (inClass (top 14) 2)).names.lookup ("rays" : Str) = some .local := by decide +kernel
  have v_row : (defScope (inClass (top 14) 2)).names.lookup ("row" : Str) = some .local := by decide +kernel
  have v_self : (defScope (inClass (top 14) 2)).names.lookup ("self" : Str) = some .local := by decide +kernel
  have v_whole : (defScope (inClass (top 14) 2)).names.lookup ("whole" : Str) = some .local := by decide +kernel
  have v_zeros : (defScope (inClass (top 14) 2)).names.lookup ("zeros" : Str) = some .local := by decide +kernel
  have g_joined : (defScope (inClass (top 14) 2)).names.lookup ("joined" : Str) = some .globalImplicit := by decide +kernel
  have g_opposite : (defScope (inClass (top 14) 2)).names.lookup ("opposite" : Str) = some .globalImplicit := by decide +kernel
  have g_primitive : (defScope (inClass (top 14) 2)).names.lookup ("primitive" : Str) = some .globalImplicit := by decide +kernel
  have g_product : (defScope (inClass (top 14) 2)).names.lookup ("product" : Str) = some .globalImplicit := by decide +kernel
  have hD : NoDbg (["self", "row", "line", "whole", "lines", "own", "rays", "ray", "zeros", "bent"] : List Str) = true := by decide +kernel
  exact (pss_seq (psd_asg [2] (pd_if (pdt_cmp op_gtM (q_callP "product" 1 ["one", "other"] [] rfl h_product (by exact hr.mono (by decide)) g_product cx_passes (pda_cons (qv 1 hD rfl (.inl v_row)) (pda_cons (qv 2 hD rfl (.inl v_line)) pda_nil rfl) rfl) (by decide) rfl rfl) pd_int rfl) (qv 2 hD rfl (.inl v_line)) (q_callP "opposite" 1 ["row"] [] rfl h_opposite (by exact hr.mono (by decide)) g_opposite cx_passes (pda_cons (qv 2 hD rfl (.inl v_line)) pda_nil rfl) (by decide) rfl rfl)) (pgd_name 2 hN rfl (.inl v_line) (.inl rfl) (by decide)) rfl rfl rfl)
  (pss_seq (psd_asg [3] (q_callP "product" 1 ["one", "other"] [] rfl h_product (by exact hr.mono (by decide)) g_product cx_passes (pda_cons (qv 1 hD rfl (.inl v_row)) (pda_cons (qv 2 hD rfl (.inl v_line)) pda_nil rfl) rfl) (by decide) rfl rfl) (pgd_name 3 hN rfl (.inl v_whole) (.inl rfl) (by decide)) rfl rfl rfl)
  (pss_seq (psd_own 4 hN rfl (.inl v_lines) pda_nil rfl (.inl rfl))
  (pss_seq (psd_for [5] cx_own rfl (pid_list (pd_attr A.Cone N.Cone_lines (qv 0 hD rfl (.inl v_self)) rfl)) (pgd_name 5 hN rfl (.inl v_own) (.inl rfl) (by decide))
  (pss_of (psd_if (pdt_cmp (op_notInM (by exact HU)) (qv 5 hD rfl (.inl v_own)) (pd_tup (pda_cons (qv 2 hD rfl (.inl v_line)) (pda_cons (q_callP "opposite" 1 ["row"] [] rfl h_opposite (by exact hr.mono (by decide)) g_opposite cx_passes (pda_cons (qv 2 hD rfl (.inl v_line)) pda_nil rfl) (by decide) rfl rfl) pda_nil rfl) rfl)) rfl) (pss_of (psd_app 4 rfl (.inl v_lines) (q_callP "primitive" 3 ["row"] [] rfl h_primitive (by exact hr.mono (by decide)) g_primitive cx_passes (pda_cons (q_callP "joined" 1 ["one", "times", "other", "more"] [] rfl h_joined (by exact hr.mono (by decide)) g_joined cx_passes (pda_cons (qv 5 hD rfl (.inl v_own)) (pda_cons (qv 3 hD rfl (.inl v_whole)) (pda_cons (qv 2 hD rfl (.inl v_line)) (pda_cons (pd_bin op_subM pd_int (q_callP "product" 1 ["one", "other"] [] rfl h_product (by exact hr.mono (by decide)) g_product cx_passes (pda_cons (qv 1 hD rfl (.inl v_row)) (pda_cons (qv 5 hD rfl (.inl v_own)) pda_nil rfl) rfl) (by decide) rfl rfl)) pda_nil rfl) rfl) rfl) rfl) (by decide) rfl rfl) pda_nil rfl) (by decide) rfl rfl))) pssd_nil)) (fun _ => rfl))
  (pssd_frz 4 (pss_seq (psd_own 6 hN rfl (.inl v_rays) pda_nil rfl (.inl rfl))
  (pss_seq (psd_for [7, 8] cx_own rfl (pid_list (pd_attr A.Cone N.Cone_rays (qv 0 hD rfl (.inl v_self)) rfl)) (pgd_tup rfl (pgsd_cons (pgd_name 7 hN rfl (.inl v_ray) (.inl rfl) (by decide)) (pgsd_cons (pgd_name 8 hN rfl (.inl v_zeros) (.inl rfl) (by decide)) pgsd_nil rfl) rfl) rfl rfl)
  (pss_seq (psd_asg [9] (q_callP "primitive" 3 ["row"] [] rfl h_primitive (by exact hr.mono (by decide)) g_primitive cx_passes (pda_cons (q_callP "joined" 1 ["one", "times", "other", "more"] [] rfl h_joined (by exact hr.mono (by decide)) g_joined cx_passes (pda_cons (qv 7 hD rfl (.inl v_ray)) (pda_cons (qv 3 hD rfl (.inl v_whole)) (pda_cons (qv 2 hD rfl (.inl v_line)) (pda_cons (pd_bin op_subM pd_int (q_callP "product" 1 ["one", "other"] [] rfl h_product (by exact hr.mono (by decide)) g_product cx_passes (pda_cons (qv 1 hD rfl (.inl v_row)) (pda_cons (qv 7 hD rfl (.inl v_ray)) pda_nil rfl) rfl) (by decide) rfl rfl)) pda_nil rfl) rfl) rfl) rfl) (by decide) rfl rfl) pda_nil rfl) (by decide) rfl rfl) (pgd_name 9 hN rfl (.inl v_bent) (.inl rfl) (by decide)) rfl rfl rfl)
  (pss_of (psd_app 6 rfl (.inl v_rays) (pd_tup (pda_cons (qv 9 hD rfl (.inl v_bent)) (pda_cons (pd_bin op_orM (qv 8 hD rfl (.inl v_zeros)) (pd_bin op_shlM pd_int (pd_attr A.Cone N.Cone_count (qv 0 hD rfl (.inl v_self)) rfl))) pda_nil rfl) rfl))))) (fun _ => rfl))
  (pssd_frz 6 (pss_seq (psd_attr A.Cone N.Cone_lines (qv 0 hD rfl (.inl v_self)) (qv 4 hD rfl (.inl v_lines)) rfl)
  (pss_of (psd_attr A.Cone N.Cone_rays (qv 0 hD rfl (.inl v_self)) (pd_bin op_addM (qv 6 hD rfl (.inl v_rays)) (pd_lst (pda_cons (pd_tup (pda_cons (qv 2 hD rfl (.inl v_line)) (pda_cons (pd_bin op_subM (pd_bin op_shlM pd_int (pd_attr A.Cone N.Cone_count (qv 0 hD rfl (.inl v_self)) rfl)) pd_int) pda_nil rfl) rfl)) pda_nil rfl))) rfl)))))))))))
def F_Cone_is_edge (c : Cs) : List MV → M MV := runB (sSeq (sFor (iSeqL (fAttr c.Cone "rays" (fVar 0))) (setTup 2 (setCons (setN 4) (setCons (setN 5) setNil))) (sIf (fAnd (fCmpT notInM (fVar 4) (fTup (fCons (fVar 2) (fCons (fVar 3) fNil)))) (fCmpT eqM (fBin andM (fVar 5) (fVar 1)) (fVar 1))) (sRet (fC (.v (.bl false)))) sNil)) (sRet (fC (.v (.bl true))))) 6
theorem has_Cone_is_edge (F : ∃ f fd, Meth K c.Cone "is_edge" f ∧ FunD K "is_edge" "Cone.is_edge" (defArgs (inClass (top 14) 4)) (defBody (inClass (top 14) 4)) (defScope (inClass (top 14) 4)) [] [] f fd) : HasM P w K mg base G c.Cone 1 "is_edge" ["self", "zeros", "first", "second"] [] (F_Cone_is_edge c) := by
  obtain ⟨f, fd, hm, F⟩ := F
  have hN : (["self", "zeros", "first", "second", "ray", "own"] : List Str).Nodup := by decide
  refine HasM.of (N := ["self", "zeros", "first", "second", "ray", "own"]) F A.Cone hm (C8.fnScope_by (by decide +kernel)) (by decide) (fun kV doc pm an cdv ct us hl => match us, hl with | [u0, u1, u2, u3], _ => rfl) (fun p hp => nomatch hp) (fun cd A_ outer s H E hcd hr => ?_)
  have HU : (cxF P w K mg base ["self", "zeros", "first", "second", "ray", "own"] "Cone.is_edge" (defScope (inClass (top 14) 4)) f cd A_ outer s H E).A.units + 65 < cLine := by have := hr.un; omega
  have v_first : (defScope (inClass (top 14) 4)).names.lookup ("first" : Str) = some .local := by decide +kernel
  have v_own : (defScope (inClass (top 14) 4)).names.lookup ("own" : Str) = some .local := by decide +kernel
  have v_ray : (defScope (inClass (top 14) 4)).names.lookup ("ray" : Str) = some .local := by decide +kernel
  have v_second : (defScope (inClass (top 14) 4)).names.lookup ("second" : Str) = some .local := by decide +kernel
  have v_self : (defScope (inClass (top 14) 4)).names.lookup ("self" : Str) = some .local := by decide +kernel
  have v_zeros : (defScope (inClass (top 14) 4)).names.lookup ("zeros" : Str) = some .local := by decide +kernel
  have hD : NoDbg (["self", "zeros", "first", "second", "ray", "own"] : List Str) = true := by decide +kernel
  exact (pss_seq (psd_for [4, 5] cx_own rfl (pid_list (pd_attr A.Cone N.Cone_rays (qv 0 hD rfl (.inl v_self)) rfl)) (pgd_tup rfl (pgsd_cons (pgd_name 4 hN rfl (.inl v_ray) (.inl rfl) (by decide)) (pgsd_cons (pgd_name 5 hN rfl (.inl v_own) (.inl rfl) (by decide)) pgsd_nil rfl) rfl) rfl rfl)
  (pss_of (psd_if (PW.pt (pdw_and (pdt_cmp (op_notInM (by exact HU)) (qv 4 hD rfl (.inl v_ray)) (pd_tup (pda_cons (qv 2 hD rfl (.inl v_first)) (pda_cons (qv 3 hD rfl (.inl v_second)) pda_nil rfl) rfl)) rfl) (pdw_and1 (pdt_cmp (op_eqM (by exact HU)) (pd_bin op_andM (qv 5 hD rfl (.inl v_own)) (qv 1 hD rfl (.inl v_zeros))) (qv 1 hD rfl (.inl v_zeros)) rfl)))) (pss_of (psd_ret pd_bl)) pssd_nil)) (fun _ => rfl))
  (pss_of (psd_ret pd_bl)))
def F_Cone_cut_rays (c : Cs) : List MV → M MV := runB (sSeq (sOwn 2 fNil) (sSeq (sOwn 3 fNil) (sSeq (sOwn 4 fNil) (sSeq (sFor (iSeqL (fAttr c.Cone "rays" (fVar 0))) (setTup 2 (setCons (setN 5) (setCons (setN 6) setNil))) (sSeq (sAsg (fCallP 2 F_product (fCons (fVar 1) (fCons (fVar 5) fNil))) (setN 7)) (sIf (fCmpT eqM (fVar 7) (fC (.v (.int 0)))) (sApp 3 (fTup (fCons (fVar 5) (fCons (fBin orM (fVar 6) (fBin shlM (fC (.v (.int 1))) (fAttr c.Cone "count" (fVar 0)))) fNil)))) (sAppIf 2 4 (fCmpT gtM (fVar 7) (fC (.v (.int 0)))) (fTup (fCons (fVar 5) (fCons (fVar 6) (fCons (fVar 7) fNil)))))))) (fun ρ => (fun ρ => (fun ρ => (sSeq (sOwn 8 fNil) (sSeq (sFor (iSeqL (fVar 2)) (setTup 3 (setCons (setN 9) (setCons (setN 10) (setCons (setN 7) setNil)))) (sFor (iSeqL (fVar 4)) (setTup 3 (setCons (setN 11) (setCons (setN 12) (setCons (setN 13) setNil)))) (sIf (fTest (fMeth c.Cone "is_edge" 4 (F_Cone_is_edge c) (fVar 0) (fCons (fBin andM (fVar 10) (fVar 12)) (fCons (fVar 9) (fCons (fVar 11) fNil))))) (sSeq (sAsg (fCallP 1 F_primitive (fCons (fCallP 4 F_joined (fCons (fVar 9) (fCons (fBin subM (fC (.v (.int 0))) (fVar 13)) (fCons (fVar 11) (fCons (fVar 7) fNil))))) fNil)) (setN 5)) (sApp 8 (fTup (fCons (fVar 5) (fCons (fBin orM (fBin andM (fVar 10) (fVar 12)) (fBin shlM (fC (.v (.int 1))) (fAttr c.Cone "count" (fVar 0)))) fNil))))) sNil))) (fun ρ => (sAttr c.Cone "rays" (fVar 0) (fBin addM (fBin addM (fLc [5, 6, 7] (iSeqL (fVar 2)) (setTup 3 (setCons (setN 5) (setCons (setN 6) (setCons (setN 7) setNil)))) fYes (fTup (fCons (fVar 5) (fCons (fVar 6) fNil)))) (fVar 3)) (fVar 8))) (frz 8 ρ)))) (frz 4 ρ)) (frz 3 ρ)) (frz 2 ρ)))))) 14
theorem has_Cone_cut_rays (h_product : HasF P w K mg base G 1 "product" ["one", "other"] [] F_product) (h_Cone_is_edge : HasM P w K mg base G c.Cone 1 "is_edge" ["self", "zeros", "first", "second"] [] (F_Cone_is_edge c)) (h_primitive : HasF P w K mg base G 3 "primitive" ["row"] [] F_primitive) (h_joined : HasF P w K mg base G 1 "joined" ["one", "times", "other", "more"] [] F_joined) (F : ∃ f fd, Meth K c.Cone "cut_rays" f ∧ FunD K "cut_rays" "Cone.cut_rays" (defArgs (inClass (top 14) 3)) (defBody (inClass (top 14) 3)) (defScope (inClass (top 14) 3)) [] [] f fd) : HasM P w K mg base G c.Cone 4 "cut_rays" ["self", "row"] [] (F_Cone_cut_rays c) := by
  obtain ⟨f, fd, hm, F⟩ := F
  have hN : (["self", "row", "above", "on", "below", "ray", "zeros", "value", "fresh", "first", "one", "second", "other", "gap"] : List Str).Nodup := by decide
  refine HasM.of (N := ["self", "row", "above", "on", "below", "ray", "zeros", "value", "fresh", "first", "one", "second", "other", "gap"]) F A.Cone hm (C8.fnScope_by (by decide +kernel)) (by decide) (fun kV doc pm an cdv ct us hl => match us, hl with | [u0, u1], _ => rfl) (fun p hp => nomatch hp) (fun cd A_ outer s H E hcd hr => ?_)
  have HU : (cxF P w K mg base ["self", "row", "above", "on", "below", "ray", "zeros", "value", "fresh", "first", "one", "second", "other", "gap"] "Cone.cut_rays" (defScope (inClass (top 14) 3)) f cd A_ outer s H E).A.units + 65 < cLine := by have := hr.un; omega
  have v_above : (defScope (inClass (top 14) 3)).names.lookup ("above" : Str) = some .local := by decide +kernel
  have v_below : (defScope (inClass (top 14) 3)).names.lookup ("below" : Str) = some .local := by decide +kernel
  have v_first : (defScope (inClass (top 14) 3)).names.lookup ("first" : Str) = some .local := by decide +kernel
  have v_fresh : (defScope (inClass (top 14) 3)).names.lookup ("fresh" : Str) = some .local := by decide +kernel
  have v_gap : (defScope (inClass (top 14) 3)).names.lookup ("gap" : Str) = some .local := by decide +kernel
  have v_on : (defScope (inClass (top 14) 3)).names.lookup ("on" : Str) = some .local := by decide +kernel
  have v_one : (defScope (inClass (top 14) 3)).names.lookup ("one" : Str) = some .local := by decide +kernel
  have v_other : (defScope (inClass (top 14) 3)).names.lookup ("other" : Str) = some .local := by decide +kernel
  have v_ray : (defScope (inClass (top 14) 3)).names.lookup ("ray" : Str) = some .local := by decide +kernel
  have v_row : (defScope (inClass (top 14) 3)).names.lookup ("row" : Str) = some .local := by decide +kernel
  have v_second : (defScope (inClass (top 14) 3)).names.lookup ("second" : Str) = some .local := by decide +kernel
  have v_self : (defScope (inClass (top 14) 3)).names.lookup ("self" : Str) = some .local := by decide +kernel
  have v_value : (defScope (inClass (top 14) 3)).names.lookup ("value" : Str) = some .local := by decide +kernel
  have v_zeros : (defScope (inClass (top 14) 3)).names.lookup ("zeros" : Str) = some .local := by decide +kernel
  have g_joined : (defScope (inClass (top 14) 3)).names.lookup ("joined" : Str) = some .globalImplicit := by decide +kernel
  have g_primitive : (defScope (inClass (top 14) 3)).names.lookup ("primitive" : Str) = some .globalImplicit := by decide +kernel
  have g_product : (defScope (inClass (top 14) 3)).names.lookup ("product" : Str) = some .globalImplicit := by decide +kernel
  have hD : NoDbg (["self", "row", "above", "on", "below", "ray", "zeros", "value", "fresh", "first", "one", "second", "other", "gap"] : List Str) = true := by decide +kernel
  exact (pss_seq (psd_own 2 hN rfl (.inl v_above) pda_nil rfl (.inl rfl))
  (pss_seq (psd_own 3 hN rfl (.inl v_on) pda_nil rfl (.inl rfl))
  (pss_seq (psd_own 4 hN rfl (.inl v_below) pda_nil rfl (.inl rfl))
  (pss_seq (psd_for [5, 6] cx_own rfl (pid_list (pd_attr A.Cone N.Cone_rays (qv 0 hD rfl (.inl v_self)) rfl)) (pgd_tup rfl (pgsd_cons (pgd_name 5 hN rfl (.inl v_ray) (.inl rfl) (by decide)) (pgsd_cons (pgd_name 6 hN rfl (.inl v_zeros) (.inl rfl) (by decide)) pgsd_nil rfl) rfl) rfl rfl)
  (pss_seq (psd_asg [7] (q_callP "product" 1 ["one", "other"] [] rfl h_product (by exact hr.mono (by decide)) g_product cx_passes (pda_cons (qv 1 hD rfl (.inl v_row)) (pda_cons (qv 5 hD rfl (.inl v_ray)) pda_nil rfl) rfl) (by decide) rfl rfl) (pgd_name 7 hN rfl (.inl v_value) (.inl rfl) (by decide)) rfl rfl rfl)
  (pss_of (psd_if (pdt_cmp (op_eqM (by exact HU)) (qv 7 hD rfl (.inl v_value)) pd_int rfl) (pss_of (psd_app 3 rfl (.inl v_on) (pd_tup (pda_cons (qv 5 hD rfl (.inl v_ray)) (pda_cons (pd_bin op_orM (qv 6 hD rfl (.inl v_zeros)) (pd_bin op_shlM pd_int (pd_attr A.Cone N.Cone_count (qv 0 hD rfl (.inl v_self)) rfl))) pda_nil rfl) rfl)))) (pss_of (psd_appIf 2 4 hD rfl rfl (.inl v_above) (.inl v_below) (pdt_cmp op_gtM (qv 7 hD rfl (.inl v_value)) pd_int rfl) (pd_tup (pda_cons (qv 5 hD rfl (.inl v_ray)) (pda_cons (qv 6 hD rfl (.inl v_zeros)) (pda_cons (qv 7 hD rfl (.inl v_value)) pda_nil rfl) rfl) rfl)) rfl rfl rfl rfl rfl))))) (fun _ => rfl))
  (pssd_frz 2 (pssd_frz 3 (pssd_frz 4 (pss_seq (psd_own 8 hN rfl (.inl v_fresh) pda_nil rfl (.inl rfl))
  (pss_seq (psd_for [9, 10, 7] cx_own rfl (pid_list (qv 2 hD rfl (.inl v_above))) (pgd_tup rfl (pgsd_cons (pgd_name 9 hN rfl (.inl v_first) (.inl rfl) (by decide)) (pgsd_cons (pgd_name 10 hN rfl (.inl v_one) (.inl rfl) (by decide)) (pgsd_cons (pgd_name 7 hN rfl (.inl v_value) (.inl rfl) (by decide)) pgsd_nil rfl) rfl) rfl) rfl rfl)
  (pss_of (psd_for [11, 12, 13] cx_own rfl (pid_list (qv 4 hD rfl (.inl v_below))) (pgd_tup rfl (pgsd_cons (pgd_name 11 hN rfl (.inl v_second) (.inl rfl) (by decide)) (pgsd_cons (pgd_name 12 hN rfl (.inl v_other) (.inl rfl) (by decide)) (pgsd_cons (pgd_name 13 hN rfl (.inl v_gap) (.inl rfl) (by decide)) pgsd_nil rfl) rfl) rfl) rfl rfl)
  (pss_of (psd_if (pdt_val (q_meth "is_edge" 1 c.Cone ["self", "zeros", "first", "second"] [] rfl h_Cone_is_edge (by exact hr.mono (by decide)) cx_passes (qv 0 hD rfl (.inl v_self)) (pda_cons (pd_bin op_andM (qv 10 hD rfl (.inl v_one)) (qv 12 hD rfl (.inl v_other))) (pda_cons (qv 9 hD rfl (.inl v_first)) (pda_cons (qv 11 hD rfl (.inl v_second)) pda_nil rfl) rfl) rfl) rfl rfl rfl) (fun _ => rfl)) (pss_seq (psd_asg [5] (q_callP "primitive" 3 ["row"] [] rfl h_primitive (by exact hr.mono (by decide)) g_primitive cx_passes (pda_cons (q_callP "joined" 1 ["one", "times", "other", "more"] [] rfl h_joined (by exact hr.mono (by decide)) g_joined cx_passes (pda_cons (qv 9 hD rfl (.inl v_first)) (pda_cons (pd_bin op_subM pd_int (qv 13 hD rfl (.inl v_gap))) (pda_cons (qv 11 hD rfl (.inl v_second)) (pda_cons (qv 7 hD rfl (.inl v_value)) pda_nil rfl) rfl) rfl) rfl) (by decide) rfl rfl) pda_nil rfl) (by decide) rfl rfl) (pgd_name 5 hN rfl (.inl v_ray) (.inl rfl) (by decide)) rfl rfl rfl)
  (pss_of (psd_app 8 rfl (.inl v_fresh) (pd_tup (pda_cons (qv 5 hD rfl (.inl v_ray)) (pda_cons (pd_bin op_orM (pd_bin op_andM (qv 10 hD rfl (.inl v_one)) (qv 12 hD rfl (.inl v_other))) (pd_bin op_shlM pd_int (pd_attr A.Cone N.Cone_count (qv 0 hD rfl (.inl v_self)) rfl))) pda_nil rfl) rfl))))) pssd_nil)) (fun _ => rfl))) (fun _ => rfl))
  (pssd_frz 8 (pss_of (psd_attr A.Cone N.Cone_rays (qv 0 hD rfl (.inl v_self)) (pd_bin op_addM (pd_bin op_addM (q_lc [("ray", 5), ("zeros", 6), ("value", 7)] rfl rfl hN (pid_list (qv 2 hD rfl (.inl v_above))) (blkOk_by (by rfl)) (fun _ _ _ _ _ => (pgd_tup rfl (pgsd_cons (pgd_name 5 hN rfl (.inl rfl) (.inr rfl) (by decide)) (pgsd_cons (pgd_name 6 hN rfl (.inl rfl) (.inr rfl) (by decide)) (pgsd_cons (pgd_name 7 hN rfl (.inl rfl) (.inr rfl) (by decide)) pgsd_nil rfl) rfl) rfl) rfl rfl)) (fun _ _ _ _ _ => ptsd_nil)
  (fun _ _ _ _ _ => (pd_tup (pda_cons (qv 5 hD rfl (.inl rfl)) (pda_cons (qv 6 hD rfl (.inl rfl)) pda_nil rfl) rfl))) (fun _ => rfl)) (qv 3 hD rfl (.inl v_on))) (qv 8 hD rfl (.inl v_fresh))) rfl))))))))))))
def F_Cone_narrow (c : Cs) : List MV → M MV := runB (sSeq (sAsg (fLc [3] (iSeqL (fAttr c.Cone "lines" (fVar 0))) (setN 3) (fCmpT neM (fCallP 2 F_product (fCons (fVar 1) (fCons (fVar 3) fNil))) (fC (.v (.int 0)))) (fVar 3)) (setN 2)) (sSeq (sIf (fCmpT gtM (fB lenM (fCons (fVar 2) fNil)) (fC (.v (.int 0)))) (sDrop (fMeth c.Cone "cut_lines" 3 (F_Cone_cut_lines c) (fVar 0) (fCons (fVar 1) (fCons (fBin ixM (fVar 2) (fC (.v (.int 0)))) fNil)))) (sDrop (fMeth c.Cone "cut_rays" 2 (F_Cone_cut_rays c) (fVar 0) (fCons (fVar 1) fNil)))) (sAttrAug c.Cone "count" (fVar 0) (fC (.v (.int 1)))))) 4
theorem has_Cone_narrow (h_product : HasF P w K mg base G 1 "product" ["one", "other"] [] F_product) (h_Cone_cut_lines : HasM P w K mg base G c.Cone 4 "cut_lines" ["self", "row", "line"] [] (F_Cone_cut_lines c)) (h_Cone_cut_rays : HasM P w K mg base G c.Cone 4 "cut_rays" ["self", "row"] [] (F_Cone_cut_rays c)) (F : ∃ f fd, Meth K c.Cone "narrow" f ∧ FunD K "narrow" "Cone.narrow" (defArgs (inClass (top 14) 1)) (defBody (inClass (top 14) 1)) (defScope (inClass (top 14) 1)) [] [] f fd) : HasM P w K mg base G c.Cone 5 "narrow" ["self", "row"] [] (F_Cone_narrow c) := by
  obtain ⟨f, fd, hm, F⟩ := F
  have hN : (["self", "row", "own", "line"] : List Str).Nodup := by decide
  refine HasM.of (N := ["self", "row", "own", "line"]) F A.Cone hm (C8.fnScope_by (by decide +kernel)) (by decide) (fun kV doc pm an cdv ct us hl => match us, hl with | [u0, u1], _ => rfl) (fun p hp => nomatch hp) (fun cd A_ outer s H E hcd hr => ?_)
  have HU : (cxF P w K mg base ["self", "row", "own", "line"] "Cone.narrow" (defScope (inClass (top 14) 1)) f cd A_ outer s H E).A.units + 65 < cLine := by have := hr.un; omega
  have v_own : (defScope (inClass (top 14) 1)).names.lookup ("own" : Str) = some .local := by decide +kernel
  have v_row : (defScope (inClass (top 14) 1)).names.lookup ("row" : Str) = some .cell := by decide +kernel
  have v_self : (defScope (inClass (top 14) 1)).names.lookup ("self" : Str) = some .local := by decide +kernel
  have g_len : (defScope (inClass (top 14) 1)).names.lookup ("len" : Str) = some .globalImplicit := by decide +kernel
  have hD : NoDbg (["self", "row", "own", "line"] : List Str) = true := by decide +kernel
  exact (pss_seq (q_setLc 2 [("line", 3)] rfl rfl hN rfl v_own rfl (pid_list (pd_attr A.Cone N.Cone_lines (qv 0 hD rfl (.inl v_self)) rfl)) (blkOk_by (by rfl)) (fun _ _ _ _ _ => (pgd_name 3 hN rfl (.inl rfl) (.inr rfl) (by decide))) (fun _ _ _ _ _ => (ptsd_one (pdt_cmp (op_neM (by exact HU)) (q_callP "product" 1 ["one", "other"] [] rfl h_product (by exact hr.mono (by decide)) (by exact rfl) passF (pda_cons (qv 1 hD rfl (.inr (.inl rfl))) (pda_cons (qv 3 hD rfl (.inl rfl)) pda_nil rfl) rfl) (by decide) rfl rfl) pd_int rfl)))
  (fun _ _ _ _ _ => (qv 3 hD rfl (.inl rfl))) (fun _ => rfl))
  (pss_seq (psd_if (pdt_cmp op_gtM (q_callB cr_len g_len B.len bb_len (pda_cons (qv 2 hD rfl (.inl v_own)) pda_nil rfl) rfl rfl) pd_int rfl) (pss_of (psd_drop (q_meth "cut_lines" 4 c.Cone ["self", "row", "line"] [] rfl h_Cone_cut_lines (by exact hr.mono (by decide)) cx_passes (qv 0 hD rfl (.inl v_self)) (pda_cons (qv 1 hD rfl (.inr (.inl v_row))) (pda_cons (pd_ix (by exact HU) (qv 2 hD rfl (.inl v_own)) pd_int (fun _ _ => rfl)) pda_nil rfl) rfl) rfl rfl rfl) rfl)) (pss_of (psd_drop (q_meth "cut_rays" 4 c.Cone ["self", "row"] [] rfl h_Cone_cut_rays (by exact hr.mono (by decide)) cx_passes (qv 0 hD rfl (.inl v_self)) (pda_cons (qv 1 hD rfl (.inr (.inl v_row))) pda_nil rfl) rfl rfl rfl) rfl)))
  (pss_of (psd_attrAug A.Cone N.Cone_count (qv 0 hD rfl (.inl v_self)) pd_int))))
def F_cone_of (c : Cs) : List MV → M MV := runB (sSeq (sAsg (fMake c.Cone 2 (F_Cone___init__ c) (fCons (fVar 1) fNil)) (setN 2)) (sSeq (sFor (iSeqL (fVar 0)) (setN 3) (sDrop (fMeth c.Cone "narrow" 2 (F_Cone_narrow c) (fVar 2) (fCons (fVar 3) fNil)))) (sRet (fTup (fCons (fLc [4, 5] (iSeqL (fAttr c.Cone "rays" (fVar 2))) (setTup 2 (setCons (setN 4) (setCons (setN 5) setNil))) fYes (fVar 4)) (fCons (fAttr c.Cone "lines" (fVar 2)) fNil)))))) 6
theorem has_cone_of (h_Cone___init__ : HasK P w K mg base G c.Cone 1 "Cone" ["self", "size"] [] (F_Cone___init__ c)) (h_Cone_narrow : HasM P w K mg base G c.Cone 5 "narrow" ["self", "row"] [] (F_Cone_narrow c)) (F : ∃ f fd, mg "cone_of" = some (.ref f) ∧ FunD K "cone_of" "cone_of" (defArgs (top 15)) (defBody (top 15)) (defScope (top 15)) [] [] f fd) : HasF P w K mg base G 6 "cone_of" ["rows", "size"] [] (F_cone_of c) := by
  obtain ⟨f, fd, hm, F⟩ := F
  have hN : (["rows", "size", "found", "row", "ray", "zeros"] : List Str).Nodup := by decide
  refine HasF.of2 (N := ["rows", "size", "found", "row", "ray", "zeros"]) F hm (C8.fnScope_by (by decide +kernel)) (by decide) (fun kV doc pm an cdv ct us hl => match us, hl with | [u0, u1], _ => rfl) (fun p hp => nomatch hp) (fun cd A_ outer s H E hcd hr => ?_)
  have HU : (cxF P w K mg base ["rows", "size", "found", "row", "ray", "zeros"] "cone_of" (defScope (top 15)) f cd A_ outer s H E).A.units + 65 < cLine := by have := hr.un; omega
  have v_found : (defScope (top 15)).names.lookup ("found" : Str) = some .local := by decide +kernel
  have v_row : (defScope (top 15)).names.lookup ("row" : Str) = some .local := by decide +kernel
  have v_rows : (defScope (top 15)).names.lookup ("rows" : Str) = some .local := by decide +kernel
  have v_size : (defScope (top 15)).names.lookup ("size" : Str) = some .local := by decide +kernel
  have g_Cone : (defScope (top 15)).names.lookup ("Cone" : Str) = some .globalImplicit := by decide +kernel
  have hD : NoDbg (["rows", "size", "found", "row", "ray", "zeros"] : List Str) = true := by decide +kernel
  exact (pss_seq (psd_asg [2] (q_make "Cone" 1 c.Cone ["self", "size"] [] rfl h_Cone___init__ (by exact hr.mono (by decide)) g_Cone cx_passes (pda_cons (qv 1 hD rfl (.inl v_size)) pda_nil rfl) (by decide) rfl rfl) (pgd_name 2 hN rfl (.inl v_found) (.inl rfl) (by decide)) rfl rfl rfl)
  (pss_seq (psd_for [3] cx_own rfl (pid_list (qv 0 hD rfl (.inl v_rows))) (pgd_name 3 hN rfl (.inl v_row) (.inl rfl) (by decide))
  (pss_of (psd_drop (q_meth "narrow" 5 c.Cone ["self", "row"] [] rfl h_Cone_narrow (by exact hr.mono (by decide)) cx_passes (qv 2 hD rfl (.inl v_found)) (pda_cons (qv 3 hD rfl (.inl v_row)) pda_nil rfl) rfl rfl rfl) rfl)) (fun _ => rfl))
  (pss_of (psd_ret (pd_tup (pda_cons (q_lc [("ray", 4), ("zeros", 5)] rfl rfl hN (pid_list (pd_attr A.Cone N.Cone_rays (qv 2 hD rfl (.inl v_found)) rfl)) (blkOk_by (by rfl)) (fun _ _ _ _ _ => (pgd_tup rfl (pgsd_cons (pgd_name 4 hN rfl (.inl rfl) (.inr rfl) (by decide)) (pgsd_cons (pgd_name 5 hN rfl (.inl rfl) (.inr rfl) (by decide)) pgsd_nil rfl) rfl) rfl rfl)) (fun _ _ _ _ _ => ptsd_nil)
  (fun _ _ _ _ _ => (qv 4 hD rfl (.inl rfl))) (fun _ => rfl)) (pda_cons (pd_attr A.Cone N.Cone_lines (qv 2 hD rfl (.inl v_found)) rfl) pda_nil rfl) rfl))))))
def F_tidy : List MV → M MV := runB (sSeq (sAsg (fCallP 2 F_in_steps (fCons (fVar 1) (fCons (fVar 2) fNil))) (setTup 2 (setCons (setN 3) (setCons (setN 4) setNil)))) (sSeq (sAsg (fB dictM (fCons (fLc [6] (iSeqL (fVar 0)) (setN 6) fYes (fTup (fCons (fCallP 3 F_cleared_by (fCons (fVar 6) (fCons (fVar 3) (fCons (fVar 4) fNil)))) (fCons (fC (.v (.bl true))) fNil)))) fNil)) (setN 5)) (sRet (fTup (fCons (fB sortedM (fCons (fVar 5) fNil)) (fCons (fVar 3) fNil)))))) 7
theorem has_tidy (h_in_steps : HasF P w K mg base G 5 "in_steps" ["rows", "columns"] [] F_in_steps) (h_cleared_by : HasF P w K mg base G 5 "cleared_by" ["row", "rows", "places"] [] F_cleared_by) (F : ∃ f fd, mg "tidy" = some (.ref f) ∧ FunD K "tidy" "tidy" (defArgs (top 16)) (defBody (top 16)) (defScope (top 16)) [] [] f fd) : HasF P w K mg base G 6 "tidy" ["rays", "lines", "columns"] [] F_tidy := by
  obtain ⟨f, fd, hm, F⟩ := F
  have hN : (["rays", "lines", "columns", "steps", "places", "found", "ray"] : List Str).Nodup := by decide
  refine HasF.of2 (N := ["rays", "lines", "columns", "steps", "places", "found", "ray"]) F hm (C8.fnScope_by (by decide +kernel)) (by decide) (fun kV doc pm an cdv ct us hl => match us, hl with | [u0, u1, u2], _ => rfl) (fun p hp => nomatch hp) (fun cd A_ outer s H E hcd hr => ?_)
  have HU : (cxF P w K mg base ["rays", "lines", "columns", "steps", "places", "found", "ray"] "tidy" (defScope (top 16)) f cd A_ outer s H E).A.units + 65 < cLine := by have := hr.un; omega
  have v_columns : (defScope (top 16)).names.lookup ("columns" : Str) = some .local := by decide +kernel
  have v_found : (defScope (top 16)).names.lookup ("found" : Str) = some .local := by decide +kernel
  have v_lines : (defScope (top 16)).names.lookup ("lines" : Str) = some .local := by decide +kernel
  have v_places : (defScope (top 16)).names.lookup ("places" : Str) = some .cell := by decide +kernel
  have v_rays : (defScope (top 16)).names.lookup ("rays" : Str) = some .local := by decide +kernel
  have v_steps : (defScope (top 16)).names.lookup ("steps" : Str) = some .cell := by decide +kernel
  have g_dict : (defScope (top 16)).names.lookup ("dict" : Str) = some .globalImplicit := by decide +kernel
  have g_in_steps : (defScope (top 16)).names.lookup ("in_steps" : Str) = some .globalImplicit := by decide +kernel
  have g_sorted : (defScope (top 16)).names.lookup ("sorted" : Str) = some .globalImplicit := by decide +kernel
  have hD : NoDbg (["rays", "lines", "columns", "steps", "places", "found", "ray"] : List Str) = true := by decide +kernel
  exact (pss_seq (psd_asg [3, 4] (q_callP "in_steps" 5 ["rows", "columns"] [] rfl h_in_steps (by exact hr.mono (by decide)) g_in_steps cx_passes (pda_cons (qv 1 hD rfl (.inl v_lines)) (pda_cons (qv 2 hD rfl (.inl v_columns)) pda_nil rfl) rfl) (by decide) rfl rfl) (pgd_tup rfl (pgsd_cons (pgd_name 3 hN rfl (.inr v_steps) (.inl rfl) (by decide)) (pgsd_cons (pgd_name 4 hN rfl (.inr v_places) (.inl rfl) (by decide)) pgsd_nil rfl) rfl) rfl rfl) rfl rfl rfl)
  (pss_seq (psd_asg [5] (q_callTy (crd_dict rfl (by exact HU)) g_dict B.dict bb_dict (pda_cons (q_lc [("ray", 6)] rfl rfl hN (pid_list (qv 0 hD rfl (.inl v_rays))) (blkOk_by (by rfl)) (fun _ _ _ _ _ => (pgd_name 6 hN rfl (.inl rfl) (.inr rfl) (by decide))) (fun _ _ _ _ _ => ptsd_nil)
  (fun _ _ _ _ _ => (pd_tup (pda_cons (q_callP "cleared_by" 5 ["row", "rows", "places"] [] rfl h_cleared_by (by exact hr.mono (by decide)) (by exact rfl) passF (pda_cons (qv 6 hD rfl (.inl rfl)) (pda_cons (qv 3 hD rfl (.inr (.inl rfl))) (pda_cons (qv 4 hD rfl (.inr (.inl rfl))) pda_nil rfl) rfl) rfl) (by decide) rfl rfl) (pda_cons pd_bl pda_nil rfl) rfl))) (fun _ => rfl)) pda_nil rfl) rfl rfl) (pgd_name 5 hN rfl (.inl v_found) (.inl rfl) (by decide)) rfl rfl rfl)
  (pss_of (psd_ret (pd_tup (pda_cons (q_callB (crd_sorted rfl) g_sorted B.sorted bb_sorted (pda_cons (qv 5 hD rfl (.inl v_found)) pda_nil rfl) rfl rfl) (pda_cons (qv 3 hD rfl (.inr (.inl v_steps))) pda_nil rfl) rfl))))))
def F_is_row : List MV → M MV := runB (sSeq (sIf (fOr (fNot (fTest (fIsi "tuple" (fVar 0)))) (fOr (fCmpT neM (fB lenM (fCons (fVar 0) fNil)) (fVar 1)) (fNot (fTest (fAllG [2] (iSeqT (fVar 0)) (setN 2) (fCallP 1 F_is_integer (fCons (fVar 2) fNil))))))) (sRet (fC (.v (.bl false)))) sNil) (sRet (fB allM (fCons (fLc [2] (iSeqT (fVar 0)) (setN 2) fYes (fBin leM (fB absM (fCons (fVar 2) fNil)) (fC (.v (.int 1000000))))) fNil)))) 3
theorem has_is_row (h_is_integer : HasF P w K mg base G 1 "is_integer" ["value"] [] F_is_integer) (F : ∃ f fd, mg "is_row" = some (.ref f) ∧ FunD K "is_row" "is_row" (defArgs (top 21)) (defBody (top 21)) (defScope (top 21)) [] [] f fd ∧ ∃ cd Pt, fd.code = .ref cd ∧ GxR.TabB base mg cd Pt ∧ Pt ∈ G.T) : HasF P w K mg base G 3 "is_row" ["value", "size"] [] F_is_row := by
  obtain ⟨f, fd, hm, F, cdA, Pt, hcA, TB, hP⟩ := F
  have hN : (["value", "size", "one"] : List Str).Nodup := by decide
  refine HasF.of2 (N := ["value", "size", "one"]) F hm (C8.fnScope_by (by decide +kernel)) (by decide) (fun kV doc pm an cdv ct us hl => match us, hl with | [u0, u1], _ => rfl) (fun p hp => nomatch hp) (fun cd A_ outer s H E hcd hr => ?_)
  have HU : (cxF P w K mg base ["value", "size", "one"] "is_row" (defScope (top 21)) f cd A_ outer s H E).A.units + 65 < cLine := by have := hr.un; omega
  have hcode : (cxF P w K mg base ["value", "size", "one"] "is_row" (defScope (top 21)) f cd A_ outer s H E).env.code = .ref cdA := hcd.symm.trans hcA
  have v_size : (defScope (top 21)).names.lookup ("size" : Str) = some .local := by decide +kernel
  have v_value : (defScope (top 21)).names.lookup ("value" : Str) = some .local := by decide +kernel
  have g_all : (defScope (top 21)).names.lookup ("all" : Str) = some .globalImplicit := by decide +kernel
  have g_isinstance : (defScope (top 21)).names.lookup ("isinstance" : Str) = some .globalImplicit := by decide +kernel
  have g_len : (defScope (top 21)).names.lookup ("len" : Str) = some .globalImplicit := by decide +kernel
  have g_tuple : (defScope (top 21)).names.lookup ("tuple" : Str) = some .globalImplicit := by decide +kernel
  have hdot : (".0" : Str) ∉ (["value", "size", "one"] : List Str) := by decide
  have hD : NoDbg (["value", "size", "one"] : List Str) = true := by decide +kernel
  exact (pss_seq (psd_if (PW.pt (pdw_or (pdt_not (pdt_val (q_isi ty_tuple g_isinstance B.isinstance g_tuple B.tuple bb_tuple (qv 0 hD rfl (.inl v_value)) rfl) (fun _ => rfl))) (pdw_or (pdt_cmp (op_neM (by exact HU)) (q_callB cr_len g_len B.len bb_len (pda_cons (qv 0 hD rfl (.inl v_value)) pda_nil rfl) rfl rfl) (qv 1 hD rfl (.inl v_size)) rfl) (pdw_or1 (pdt_not (pdt_val (q_allG [("one", 2)] rfl (by exact hr) rfl hN g_all B.all TB hP hcode (blkOk_by (by rfl)) (by decide) hdot rfl rfl (pid_tup (qv 0 hD rfl (.inl v_value))) (fun _ _ _ _ _ _ _ => (pgd_name 2 hN rfl (.inl rfl) (.inr rfl) (by decide))) (fun _ _ _ _ _ _ _ HR => (q_callP "is_integer" 1 ["value"] [] rfl h_is_integer (by exact HR.mono (by decide)) (by exact rfl) passF (pda_cons (qv 2 hD rfl (.inl rfl)) pda_nil rfl) (by decide) rfl rfl)) (fun _ => rfl) rfl) (fun _ => rfl))))))) (pss_of (psd_ret pd_bl)) pssd_nil)
  (pss_of (psd_ret (q_callB (crd_all rfl) g_all B.all bb_all (pda_cons (q_lc [("one", 2)] rfl rfl hN (pid_tup (qv 0 hD rfl (.inl v_value))) (blkOk_by (by rfl)) (fun _ _ _ _ _ => (pgd_name 2 hN rfl (.inl rfl) (.inr rfl) (by decide))) (fun _ _ _ _ _ => ptsd_nil)
  (fun _ _ _ _ _ => (pd_cmp op_leM (q_callB cr_abs (by exact rfl) B.abs bb_abs (pda_cons (qv 2 hD rfl (.inl rfl)) pda_nil rfl) rfl rfl) (pd_gint (by exact rfl) C.MOST_NUMBER (by decide)) rfl)) (fun _ => rfl)) pda_nil rfl) rfl rfl))))
def F_is_wall_of : List MV → M MV := runB (sSeq (sIf (fOr (fNot (fTest (fIsi "tuple" (fVar 0)))) (fOr (fCmpT neM (fB lenM (fCons (fVar 0) fNil)) (fC (.v (.int 2)))) (fNot (fTest (fCallP 2 F_is_row (fCons (fBin ixM (fVar 0) (fC (.v (.int 0)))) (fCons (fVar 1) fNil))))))) (sRet (fC (.v (.bl false)))) sNil) (sRet (fAndV (fCallP 1 F_is_integer (fCons (fBin ixM (fVar 0) (fC (.v (.int 1)))) fNil)) (fBin leM (fB absM (fCons (fBin ixM (fVar 0) (fC (.v (.int 1)))) fNil)) (fC (.v (.int 1000000))))))) 2
theorem has_is_wall_of (h_is_row : HasF P w K mg base G 3 "is_row" ["value", "size"] [] F_is_row) (h_is_integer : HasF P w K mg base G 1 "is_integer" ["value"] [] F_is_integer) (F : ∃ f fd, mg "is_wall_of" = some (.ref f) ∧ FunD K "is_wall_of" "is_wall_of" (defArgs (top 22)) (defBody (top 22)) (defScope (top 22)) [] [] f fd) : HasF P w K mg base G 4 "is_wall_of" ["value", "size"] [] F_is_wall_of := by
  obtain ⟨f, fd, hm, F⟩ := F
  have hN : (["value", "size"] : List Str).Nodup := by decide
  refine HasF.of2 (N := ["value", "size"]) F hm (C8.fnScope_by (by decide +kernel)) (by decide) (fun kV doc pm an cdv ct us hl => match us, hl with | [u0, u1], _ => rfl) (fun p hp => nomatch hp) (fun cd A_ outer s H E hcd hr => ?_)
  have HU : (cxF P w K mg base ["value", "size"] "is_wall_of" (defScope (top 22)) f cd A_ outer s H E).A.units + 65 < cLine := by have := hr.un; omega
  have v_size : (defScope (top 22)).names.lookup ("size" : Str) = some .local := by decide +kernel
  have v_value : (defScope (top 22)).names.lookup ("value" : Str) = some .local := by decide +kernel
  have g_MOST_NUMBER : (defScope (top 22)).names.lookup ("MOST_NUMBER" : Str) = some .globalImplicit := by decide +kernel
  have g_abs : (defScope (top 22)).names.lookup ("abs" : Str) = some .globalImplicit := by decide +kernel
  have g_is_integer : (defScope (top 22)).names.lookup ("is_integer" : Str) = some .globalImplicit := by decide +kernel
  have g_is_row : (defScope (top 22)).names.lookup ("is_row" : Str) = some .globalImplicit := by decide +kernel
  have g_isinstance : (defScope (top 22)).names.lookup ("isinstance" : Str) = some .globalImplicit := by decide +kernel
  have g_len : (defScope (top 22)).names.lookup ("len" : Str) = some .globalImplicit := by decide +kernel
  have g_tuple : (defScope (top 22)).names.lookup ("tuple" : Str) = some .globalImplicit := by decide +kernel
  have hD : NoDbg (["value", "size"] : List Str) = true := by decide +kernel
  exact (pss_seq (psd_if (PW.pt (pdw_or (pdt_not (pdt_val (q_isi ty_tuple g_isinstance B.isinstance g_tuple B.tuple bb_tuple (qv 0 hD rfl (.inl v_value)) rfl) (fun _ => rfl))) (pdw_or (pdt_cmp (op_neM (by exact HU)) (q_callB cr_len g_len B.len bb_len (pda_cons (qv 0 hD rfl (.inl v_value)) pda_nil rfl) rfl rfl) pd_int rfl) (pdw_or1 (pdt_not (pdt_val (q_callP "is_row" 3 ["value", "size"] [] rfl h_is_row (by exact hr.mono (by decide)) g_is_row cx_passes (pda_cons (pd_ix (by exact HU) (qv 0 hD rfl (.inl v_value)) pd_int (fun _ _ => rfl)) (pda_cons (qv 1 hD rfl (.inl v_size)) pda_nil rfl) rfl) (by decide) rfl rfl) (fun _ => rfl))))))) (pss_of (psd_ret pd_bl)) pssd_nil)
  (pss_of (psd_ret (pd_and (q_callP "is_integer" 1 ["value"] [] rfl h_is_integer (by exact hr.mono (by decide)) g_is_integer cx_passes (pda_cons (pd_ix (by exact HU) (qv 0 hD rfl (.inl v_value)) pd_int (fun _ _ => rfl)) pda_nil rfl) (by decide) rfl rfl) (pd_and1 (pd_cmp op_leM (q_callB cr_abs g_abs B.abs bb_abs (pda_cons (pd_ix (by exact HU) (qv 0 hD rfl (.inl v_value)) pd_int (fun _ _ => rfl)) pda_nil rfl) rfl rfl) (pd_gint g_MOST_NUMBER C.MOST_NUMBER (by decide)) rfl))))))
def F_is_some : List MV → M MV := runB (sRet (fAndV (fIsi "tuple" (fVar 0)) (fBin leM (fB lenM (fCons (fVar 0) fNil)) (fC (.v (.int 100)))))) 1
theorem has_is_some (F : ∃ f fd, mg "is_some" = some (.ref f) ∧ FunD K "is_some" "is_some" (defArgs (top 23)) (defBody (top 23)) (defScope (top 23)) [] [] f fd) : HasF P w K mg base G 1 "is_some" ["value"] [] F_is_some := by
  obtain ⟨f, fd, hm, F⟩ := F
  have hN : (["value"] : List Str).Nodup := by decide
  refine HasF.of2 (N := ["value"]) F hm (C8.fnScope_by (by decide +kernel)) (by decide) (fun kV doc pm an cdv ct us hl => match us, hl with | [u0], _ => rfl) (fun p hp => nomatch hp) (fun cd A_ outer s H E hcd hr => ?_)
  have HU : (cxF P w K mg base ["value"] "is_some" (defScope (top 23)) f cd A_ outer s H E).A.units + 65 < cLine := by have := hr.un; omega
  have v_value : (defScope (top 23)).names.lookup ("value" : Str) = some .local := by decide +kernel
  have g_MOST_ROWS : (defScope (top 23)).names.lookup ("MOST_ROWS" : Str) = some .globalImplicit := by decide +kernel
  have g_isinstance : (defScope (top 23)).names.lookup ("isinstance" : Str) = some .globalImplicit := by decide +kernel
  have g_len : (defScope (top 23)).names.lookup ("len" : Str) = some .globalImplicit := by decide +kernel
  have g_tuple : (defScope (top 23)).names.lookup ("tuple" : Str) = some .globalImplicit := by decide +kernel
  have hD : NoDbg (["value"] : List Str) = true := by decide +kernel
  exact (pss_of (psd_ret (pd_and (q_isi ty_tuple g_isinstance B.isinstance g_tuple B.tuple bb_tuple (qv 0 hD rfl (.inl v_value)) rfl) (pd_and1 (pd_cmp op_leM (q_callB cr_len g_len B.len bb_len (pda_cons (qv 0 hD rfl (.inl v_value)) pda_nil rfl) rfl rfl) (pd_gint g_MOST_ROWS C.MOST_ROWS (by decide)) rfl)))))
def F_is_held : List MV → M MV := runB (sSeq (sIf (fOr (fNot (fTest (fIsi "tuple" (fVar 0)))) (fOr (fCmpT neM (fB lenM (fCons (fVar 0) fNil)) (fC (.v (.int 3)))) (fOr (fNot (fTest (fCallP 1 F_is_integer (fCons (fBin ixM (fVar 0) (fC (.v (.int 0)))) fNil)))) (fNot (fChT leM leM (fC (.v (.int 1))) (fBin ixM (fVar 0) (fC (.v (.int 0)))) (fC (.v (.int 4)))))))) (sRet (fC (.v (.bl false)))) sNil) (sSeq (sAsg (fVar 0) (setTup 3 (setCons (setN 1) (setCons (setN 2) (setCons (setN 3) setNil))))) (sSeq (sIf (fOr (fNot (fTest (fCallP 1 F_is_some (fCons (fVar 2) fNil)))) (fNot (fTest (fCallP 1 F_is_some (fCons (fVar 3) fNil))))) (sRet (fC (.v (.bl false)))) sNil) (sRet (fAndV (fAllG [4] (iSeqT (fVar 2)) (setN 4) (fCallP 2 F_is_wall_of (fCons (fVar 4) (fCons (fVar 1) fNil)))) (fAllG [4] (iSeqT (fVar 3)) (setN 4) (fCallP 2 F_is_wall_of (fCons (fVar 4) (fCons (fVar 1) fNil))))))))) 5
theorem has_is_held (h_is_integer : HasF P w K mg base G 1 "is_integer" ["value"] [] F_is_integer) (h_is_some : HasF P w K mg base G 1 "is_some" ["value"] [] F_is_some) (h_is_wall_of : HasF P w K mg base G 4 "is_wall_of" ["value", "size"] [] F_is_wall_of) (F : ∃ f fd, mg "is_held" = some (.ref f) ∧ FunD K "is_held" "is_held" (defArgs (top 24)) (defBody (top 24)) (defScope (top 24)) [] [] f fd ∧ ∃ cd Pt, fd.code = .ref cd ∧ GxR.TabB base mg cd Pt ∧ Pt ∈ G.T) : HasF P w K mg base G 6 "is_held" ["value"] [] F_is_held := by
  obtain ⟨f, fd, hm, F, cdA, Pt, hcA, TB, hP⟩ := F
  have hN : (["value", "size", "rows", "flats", "one"] : List Str).Nodup := by decide
  refine HasF.of2 (N := ["value", "size", "rows", "flats", "one"]) F hm (C8.fnScope_by (by decide +kernel)) (by decide) (fun kV doc pm an cdv ct us hl => match us, hl with | [u0], _ => rfl) (fun p hp => nomatch hp) (fun cd A_ outer s H E hcd hr => ?_)
  have HU : (cxF P w K mg base ["value", "size", "rows", "flats", "one"] "is_held" (defScope (top 24)) f cd A_ outer s H E).A.units + 65 < cLine := by have := hr.un; omega
  have hcode : (cxF P w K mg base ["value", "size", "rows", "flats", "one"] "is_held" (defScope (top 24)) f cd A_ outer s H E).env.code = .ref cdA := hcd.symm.trans hcA
  have v_flats : (defScope (top 24)).names.lookup ("flats" : Str) = some .local := by decide +kernel
  have v_rows : (defScope (top 24)).names.lookup ("rows" : Str) = some .local := by decide +kernel
  have v_size : (defScope (top 24)).names.lookup ("size" : Str) = some .cell := by decide +kernel
  have v_value : (defScope (top 24)).names.lookup ("value" : Str) = some .local := by decide +kernel
  have g_MOST_SIZE : (defScope (top 24)).names.lookup ("MOST_SIZE" : Str) = some .globalImplicit := by decide +kernel
  have g_all : (defScope (top 24)).names.lookup ("all" : Str) = some .globalImplicit := by decide +kernel
  have g_is_integer : (defScope (top 24)).names.lookup ("is_integer" : Str) = some .globalImplicit := by decide +kernel
  have g_is_some : (defScope (top 24)).names.lookup ("is_some" : Str) = some .globalImplicit := by decide +kernel
  have g_isinstance : (defScope (top 24)).names.lookup ("isinstance" : Str) = some .globalImplicit := by decide +kernel
  have g_len : (defScope (top 24)).names.lookup ("len" : Str) = some .globalImplicit := by decide +kernel
  have g_tuple : (defScope (top 24)).names.lookup ("tuple" : Str) = some .globalImplicit := by decide +kernel
  have hdot : (".0" : Str) ∉ (["value", "size", "rows", "flats", "one"] : List Str) := by decide
  have hD : NoDbg (["value", "size", "rows", "flats", "one"] : List Str) = true := by decide +kernel
  exact (pss_seq (psd_if (PW.pt (pdw_or (pdt_not (pdt_val (q_isi ty_tuple g_isinstance B.isinstance g_tuple B.tuple bb_tuple (qv 0 hD rfl (.inl v_value)) rfl) (fun _ => rfl))) (pdw_or (pdt_cmp (op_neM (by exact HU)) (q_callB cr_len g_len B.len bb_len (pda_cons (qv 0 hD rfl (.inl v_value)) pda_nil rfl) rfl rfl) pd_int rfl) (pdw_or (pdt_not (pdt_val (q_callP "is_integer" 1 ["value"] [] rfl h_is_integer (by exact hr.mono (by decide)) g_is_integer cx_passes (pda_cons (pd_ix (by exact HU) (qv 0 hD rfl (.inl v_value)) pd_int (fun _ _ => rfl)) pda_nil rfl) (by decide) rfl rfl) (fun _ => rfl))) (pdw_or1 (pdt_not (pdt_chain op_leM op_leM pd_int (pd_ix (by exact HU) (qv 0 hD rfl (.inl v_value)) pd_int (fun _ _ => rfl)) (pd_gint g_MOST_SIZE C.MOST_SIZE (by decide)) (by with_unfolding_all rfl)))))))) (pss_of (psd_ret pd_bl)) pssd_nil)
  (pss_seq (psd_asg [1, 2, 3] (qv 0 hD rfl (.inl v_value)) (pgd_tup rfl (pgsd_cons (pgd_name 1 hN rfl (.inr v_size) (.inl rfl) (by decide)) (pgsd_cons (pgd_name 2 hN rfl (.inl v_rows) (.inl rfl) (by decide)) (pgsd_cons (pgd_name 3 hN rfl (.inl v_flats) (.inl rfl) (by decide)) pgsd_nil rfl) rfl) rfl) rfl rfl) rfl rfl rfl)
  (pss_seq (psd_if (PW.pt (pdw_or (pdt_not (pdt_val (q_callP "is_some" 1 ["value"] [] rfl h_is_some (by exact hr.mono (by decide)) g_is_some cx_passes (pda_cons (qv 2 hD rfl (.inl v_rows)) pda_nil rfl) (by decide) rfl rfl) (fun _ => rfl))) (pdw_or1 (pdt_not (pdt_val (q_callP "is_some" 1 ["value"] [] rfl h_is_some (by exact hr.mono (by decide)) g_is_some cx_passes (pda_cons (qv 3 hD rfl (.inl v_flats)) pda_nil rfl) (by decide) rfl rfl) (fun _ => rfl)))))) (pss_of (psd_ret pd_bl)) pssd_nil)
  (pss_of (psd_ret (pd_and (q_allG [("one", 4)] rfl (by exact hr) rfl hN g_all B.all TB hP hcode (blkOk_by (by rfl)) (by decide) hdot rfl rfl (pid_tup (qv 2 hD rfl (.inl v_rows))) (fun _ _ _ _ _ _ _ => (pgd_name 4 hN rfl (.inl rfl) (.inr rfl) (by decide))) (fun _ _ _ _ _ _ _ HR => (q_callP "is_wall_of" 4 ["value", "size"] [] rfl h_is_wall_of (by exact HR.mono (by decide)) (by exact rfl) passF (pda_cons (qv 4 hD rfl (.inl rfl)) (pda_cons (qv 1 hD rfl (.inr (.inr rfl))) pda_nil rfl) rfl) (by decide) rfl rfl)) (fun _ => rfl) rfl) (pd_and1 (q_allG [("one", 4)] rfl (by exact hr) rfl hN g_all B.all TB hP hcode (blkOk_by (by rfl)) (by decide) hdot rfl rfl (pid_tup (qv 3 hD rfl (.inl v_flats))) (fun _ _ _ _ _ _ _ => (pgd_name 4 hN rfl (.inl rfl) (.inr rfl) (by decide))) (fun _ _ _ _ _ _ _ HR => (q_callP "is_wall_of" 4 ["value", "size"] [] rfl h_is_wall_of (by exact HR.mono (by decide)) (by exact rfl) passF (pda_cons (qv 4 hD rfl (.inl rfl)) (pda_cons (qv 1 hD rfl (.inr (.inr rfl))) pda_nil rfl) rfl) (by decide) rfl rfl)) (fun _ => rfl) rfl))))))))
def F_need_held : List MV → M MV := runB (sIf (fNot (fTest (fCallP 1 F_is_held (fCons (fVar 0) fNil)))) (sRaise (fVar 1)) sNil) 2
theorem has_need_held (hX : HasX P w K mg base G) (h_is_held : HasF P w K mg base G 6 "is_held" ["value"] [] F_is_held) (F : ∃ f fd, mg "need_held" = some (.ref f) ∧ FunD K "need_held" "need_held" (defArgs (top 25)) (defBody (top 25)) (defScope (top 25)) [] [] f fd) : HasF P w K mg base G 7 "need_held" ["value", "name"] [] F_need_held := by
  obtain ⟨f, fd, hm, F⟩ := F
  have hN : (["value", "name"] : List Str).Nodup := by decide
  refine HasF.of2 (N := ["value", "name"]) F hm (C8.fnScope_by (by decide +kernel)) (by decide) (fun kV doc pm an cdv ct us hl => match us, hl with | [u0, u1], _ => rfl) (fun p hp => nomatch hp) (fun cd A_ outer s H E hcd hr => ?_)
  have HU : (cxF P w K mg base ["value", "name"] "need_held" (defScope (top 25)) f cd A_ outer s H E).A.units + 65 < cLine := by have := hr.un; omega
  have v_name : (defScope (top 25)).names.lookup ("name" : Str) = some .local := by decide +kernel
  have v_value : (defScope (top 25)).names.lookup ("value" : Str) = some .local := by decide +kernel
  have g_BadArgument : (defScope (top 25)).names.lookup ("BadArgument" : Str) = some .globalImplicit := by decide +kernel
  have g_is_held : (defScope (top 25)).names.lookup ("is_held" : Str) = some .globalImplicit := by decide +kernel
  have hD : NoDbg (["value", "name"] : List Str) = true := by decide +kernel
  exact (pss_of (psd_if (pdt_not (pdt_val (q_callP "is_held" 6 ["value"] [] rfl h_is_held (by exact hr.mono (by decide)) g_is_held cx_passes (pda_cons (qv 0 hD rfl (.inl v_value)) pda_nil rfl) (by decide) rfl rfl) (fun _ => rfl))) (pss_of (psd_raise hX (by exact hr.mono (by decide)) rfl cx_takes g_BadArgument (qv 1 hD rfl (.inl v_name)) rfl rfl)) pssd_nil))
def F_wall_rows : List MV → M MV := runB (sSeq (sAsg (fVar 0) (setTup 3 (setCons (setN 1) (setCons (setN 2) (setCons (setN 3) setNil))))) (sSeq (sOwn 4 (fCons (fBin addM (fTup (fCons (fC (.v (.int 1))) fNil)) (fBin mulM (fTup (fCons (fC (.v (.int 0))) fNil)) (fVar 1))) fNil)) (sSeq (sFor (iSeqT (fVar 3)) (setTup 2 (setCons (setN 5) (setCons (setN 6) setNil))) (sExt 4 (fLst (fCons (fBin addM (fTup (fCons (fVar 6) fNil)) (fCallP 1 F_opposite (fCons (fVar 5) fNil))) (fCons (fBin addM (fTup (fCons (fBin subM (fC (.v (.int 0))) (fVar 6)) fNil)) (fVar 5)) fNil))))) (fun ρ => (sRet (fBin addM (fVar 4) (fLc [5, 6] (iSeqT (fVar 2)) (setTup 2 (setCons (setN 5) (setCons (setN 6) setNil))) fYes (fBin addM (fTup (fCons (fVar 6) fNil)) (fCallP 1 F_opposite (fCons (fVar 5) fNil)))))) (frz 4 ρ))))) 7
theorem has_wall_rows (h_opposite : HasF P w K mg base G 1 "opposite" ["row"] [] F_opposite) (F : ∃ f fd, mg "wall_rows" = some (.ref f) ∧ FunD K "wall_rows" "wall_rows" (defArgs (top 26)) (defBody (top 26)) (defScope (top 26)) [] [] f fd) : HasF P w K mg base G 2 "wall_rows" ["held"] [] F_wall_rows := by
  obtain ⟨f, fd, hm, F⟩ := F
  have hN : (["held", "size", "rows", "flats", "found", "row", "bound"] : List Str).Nodup := by decide
  refine HasF.of2 (N := ["held", "size", "rows", "flats", "found", "row", "bound"]) F hm (C8.fnScope_by (by decide +kernel)) (by decide) (fun kV doc pm an cdv ct us hl => match us, hl with | [u0], _ => rfl) (fun p hp => nomatch hp) (fun cd A_ outer s H E hcd hr => ?_)
  have HU : (cxF P w K mg base ["held", "size", "rows", "flats", "found", "row", "bound"] "wall_rows" (defScope (top 26)) f cd A_ outer s H E).A.units + 65 < cLine := by have := hr.un; omega
  have v_bound : (defScope (top 26)).names.lookup ("bound" : Str) = some .local := by decide +kernel
  have v_flats : (defScope (top 26)).names.lookup ("flats" : Str) = some .local := by decide +kernel
  have v_found : (defScope (top 26)).names.lookup ("found" : Str) = some .local := by decide +kernel
  have v_held : (defScope (top 26)).names.lookup ("held" : Str) = some .local := by decide +kernel
  have v_row : (defScope (top 26)).names.lookup ("row" : Str) = some .local := by decide +kernel
  have v_rows : (defScope (top 26)).names.lookup ("rows" : Str) = some .local := by decide +kernel
  have v_size : (defScope (top 26)).names.lookup ("size" : Str) = some .local := by decide +kernel
  have g_opposite : (defScope (top 26)).names.lookup ("opposite" : Str) = some .globalImplicit := by decide +kernel
  have hD : NoDbg (["held", "size", "rows", "flats", "found", "row", "bound"] : List Str) = true := by decide +kernel
  exact (pss_seq (psd_asg [1, 2, 3] (qv 0 hD rfl (.inl v_held)) (pgd_tup rfl (pgsd_cons (pgd_name 1 hN rfl (.inl v_size) (.inl rfl) (by decide)) (pgsd_cons (pgd_name 2 hN rfl (.inl v_rows) (.inl rfl) (by decide)) (pgsd_cons (pgd_name 3 hN rfl (.inl v_flats) (.inl rfl) (by decide)) pgsd_nil rfl) rfl) rfl) rfl rfl) rfl rfl rfl)
  (pss_seq (psd_own 4 hN rfl (.inl v_found) (pda_cons (pd_bin op_addM (pd_tup (pda_cons pd_int pda_nil rfl)) (pd_bin op_mulM (pd_tup (pda_cons pd_int pda_nil rfl)) (qv 1 hD rfl (.inl v_size)))) pda_nil rfl) rfl (.inl rfl))
  (pss_seq (psd_for [5, 6] cx_own rfl (pid_tup (qv 3 hD rfl (.inl v_flats))) (pgd_tup rfl (pgsd_cons (pgd_name 5 hN rfl (.inl v_row) (.inl rfl) (by decide)) (pgsd_cons (pgd_name 6 hN rfl (.inl v_bound) (.inl rfl) (by decide)) pgsd_nil rfl) rfl) rfl rfl)
  (pss_of (psd_ext 4 rfl (.inl v_found) (pd_lst (pda_cons (pd_bin op_addM (pd_tup (pda_cons (qv 6 hD rfl (.inl v_bound)) pda_nil rfl)) (q_callP "opposite" 1 ["row"] [] rfl h_opposite (by exact hr.mono (by decide)) g_opposite cx_passes (pda_cons (qv 5 hD rfl (.inl v_row)) pda_nil rfl) (by decide) rfl rfl)) (pda_cons (pd_bin op_addM (pd_tup (pda_cons (pd_bin op_subM pd_int (qv 6 hD rfl (.inl v_bound))) pda_nil rfl)) (qv 5 hD rfl (.inl v_row))) pda_nil rfl) rfl)))) (fun _ => rfl))
  (pssd_frz 4 (pss_of (psd_ret (pd_bin op_addM (qv 4 hD rfl (.inl v_found)) (q_lc [("row", 5), ("bound", 6)] rfl rfl hN (pid_tup (qv 2 hD rfl (.inl v_rows))) (blkOk_by (by rfl)) (fun _ _ _ _ _ => (pgd_tup rfl (pgsd_cons (pgd_name 5 hN rfl (.inl rfl) (.inr rfl) (by decide)) (pgsd_cons (pgd_name 6 hN rfl (.inl rfl) (.inr rfl) (by decide)) pgsd_nil rfl) rfl) rfl rfl)) (fun _ _ _ _ _ => ptsd_nil)
  (fun _ _ _ _ _ => (pd_bin op_addM (pd_tup (pda_cons (qv 6 hD rfl (.inl rfl)) pda_nil rfl)) (q_callP "opposite" 1 ["row"] [] rfl h_opposite (by exact hr.mono (by decide)) (by exact rfl) passF (pda_cons (qv 5 hD rfl (.inl rfl)) pda_nil rfl) (by decide) rfl rfl))) (fun _ => rfl)))))))))
def F_span_of (c : Cs) : List MV → M MV := runB (sSeq (sAsg (fBin ixM (fVar 0) (fC (.v (.int 0)))) (setN 1)) (sSeq (sAsg (fCallP 2 (F_cone_of c) (fCons (fCallP 1 F_wall_rows (fCons (fVar 0) fNil)) (fCons (fBin addM (fVar 1) (fC (.v (.int 1)))) fNil))) (setTup 2 (setCons (setN 2) (setCons (setN 3) setNil)))) (sSeq (sAsg (fCallP 3 F_tidy (fCons (fVar 2) (fCons (fVar 3) (fCons (fBin addM (fListR2 (fC (.v (.int 1))) (fBin addM (fVar 1) (fC (.v (.int 1))))) (fLst (fCons (fC (.v (.int 0))) fNil))) fNil)))) (setTup 2 (setCons (setN 2) (setCons (setN 3) setNil)))) (sSeq (sAsg (fLc [6] (iSeqL (fVar 2)) (setN 6) (fCmpT gtM (fBin ixM (fVar 6) (fC (.v (.int 0)))) (fC (.v (.int 0)))) (fTup (fCons (fSl (fVar 6) (fPart (fC (.v (.int 1)))) fNoPart) (fCons (fBin ixM (fVar 6) (fC (.v (.int 0)))) fNil)))) (setN 4)) (sSeq (sIf (fCmpT eqM (fB lenM (fCons (fVar 4) fNil)) (fC (.v (.int 0)))) (sRet (fTup (fCons (fVar 1) (fCons (fTup fNil) (fCons (fTup fNil) (fCons (fTup fNil) fNil)))))) sNil) (sSeq (sAsg (fB tupleM (fCons (fLc [6] (iSeqL (fVar 2)) (setN 6) (fCmpT eqM (fBin ixM (fVar 6) (fC (.v (.int 0)))) (fC (.v (.int 0)))) (fSl (fVar 6) (fPart (fC (.v (.int 1)))) fNoPart)) fNil)) (setN 5)) (sRet (fTup (fCons (fVar 1) (fCons (fB tupleM (fCons (fVar 4) fNil)) (fCons (fVar 5) (fCons (fB tupleM (fCons (fLc [7] (iSeqL (fVar 3)) (setN 7) fYes (fSl (fVar 7) (fPart (fC (.v (.int 1)))) fNoPart)) fNil)) fNil)))))))))))) 8
theorem has_span_of (h_cone_of : HasF P w K mg base G 6 "cone_of" ["rows", "size"] [] (F_cone_of c)) (h_wall_rows : HasF P w K mg base G 2 "wall_rows" ["held"] [] F_wall_rows) (h_tidy : HasF P w K mg base G 6 "tidy" ["rays", "lines", "columns"] [] F_tidy) (F : ∃ f fd, mg "span_of" = some (.ref f) ∧ FunD K "span_of" "span_of" (defArgs (top 27)) (defBody (top 27)) (defScope (top 27)) [] [] f fd) : HasF P w K mg base G 7 "span_of" ["held"] [] (F_span_of c) := by
  obtain ⟨f, fd, hm, F⟩ := F
  have hN : (["held", "size", "rays", "lines", "points", "beams", "ray", "line"] : List Str).Nodup := by decide
  refine HasF.of2 (N := ["held", "size", "rays", "lines", "points", "beams", "ray", "line"]) F hm (C8.fnScope_by (by decide +kernel)) (by decide) (fun kV doc pm an cdv ct us hl => match us, hl with | [u0], _ => rfl) (fun p hp => nomatch hp) (fun cd A_ outer s H E hcd hr => ?_)
  have HU : (cxF P w K mg base ["held", "size", "rays", "lines", "points", "beams", "ray", "line"] "span_of" (defScope (top 27)) f cd A_ outer s H E).A.units + 65 < cLine := by have := hr.un; omega
  have v_beams : (defScope (top 27)).names.lookup ("beams" : Str) = some .local := by decide +kernel
  have v_held : (defScope (top 27)).names.lookup ("held" : Str) = some .local := by decide +kernel
  have v_lines : (defScope (top 27)).names.lookup ("lines" : Str) = some .local := by decide +kernel
  have v_points : (defScope (top 27)).names.lookup ("points" : Str) = some .local := by decide +kernel
  have v_rays : (defScope (top 27)).names.lookup ("rays" : Str) = some .local := by decide +kernel
  have v_size : (defScope (top 27)).names.lookup ("size" : Str) = some .local := by decide +kernel
  have g_cone_of : (defScope (top 27)).names.lookup ("cone_of" : Str) = some .globalImplicit := by decide +kernel
  have g_len : (defScope (top 27)).names.lookup ("len" : Str) = some .globalImplicit := by decide +kernel
  have g_list : (defScope (top 27)).names.lookup ("list" : Str) = some .globalImplicit := by decide +kernel
  have g_range : (defScope (top 27)).names.lookup ("range" : Str) = some .globalImplicit := by decide +kernel
  have g_tidy : (defScope (top 27)).names.lookup ("tidy" : Str) = some .globalImplicit := by decide +kernel
  have g_tuple : (defScope (top 27)).names.lookup ("tuple" : Str) = some .globalImplicit := by decide +kernel
  have g_wall_rows : (defScope (top 27)).names.lookup ("wall_rows" : Str) = some .globalImplicit := by decide +kernel
  have hD : NoDbg (["held", "size", "rays", "lines", "points", "beams", "ray", "line"] : List Str) = true := by decide +kernel
  exact (pss_seq (psd_asg [1] (pd_ix (by exact HU) (qv 0 hD rfl (.inl v_held)) pd_int (fun _ _ => rfl)) (pgd_name 1 hN rfl (.inl v_size) (.inl rfl) (by decide)) rfl rfl rfl)
  (pss_seq (psd_asg [2, 3] (q_callP "cone_of" 6 ["rows", "size"] [] rfl h_cone_of (by exact hr.mono (by decide)) g_cone_of cx_passes (pda_cons (q_callP "wall_rows" 2 ["held"] [] rfl h_wall_rows (by exact hr.mono (by decide)) g_wall_rows cx_passes (pda_cons (qv 0 hD rfl (.inl v_held)) pda_nil rfl) (by decide) rfl rfl) (pda_cons (pd_bin op_addM (qv 1 hD rfl (.inl v_size)) pd_int) pda_nil rfl) rfl) (by decide) rfl rfl) (pgd_tup rfl (pgsd_cons (pgd_name 2 hN rfl (.inl v_rays) (.inl rfl) (by decide)) (pgsd_cons (pgd_name 3 hN rfl (.inl v_lines) (.inl rfl) (by decide)) pgsd_nil rfl) rfl) rfl rfl) rfl rfl rfl)
  (pss_seq (psd_asg [2, 3] (q_callP "tidy" 6 ["rays", "lines", "columns"] [] rfl h_tidy (by exact hr.mono (by decide)) g_tidy cx_passes (pda_cons (qv 2 hD rfl (.inl v_rays)) (pda_cons (qv 3 hD rfl (.inl v_lines)) (pda_cons (pd_bin op_addM (pd_listR2 rfl g_list B.list g_range B.range pd_int (pd_bin op_addM (qv 1 hD rfl (.inl v_size)) pd_int) rfl rfl rfl rfl) (pd_lst (pda_cons pd_int pda_nil rfl))) pda_nil rfl) rfl) rfl) (by decide) rfl rfl) (pgd_tup rfl (pgsd_cons (pgd_name 2 hN rfl (.inl v_rays) (.inl rfl) (by decide)) (pgsd_cons (pgd_name 3 hN rfl (.inl v_lines) (.inl rfl) (by decide)) pgsd_nil rfl) rfl) rfl rfl) rfl rfl rfl)
  (pss_seq (q_setLc 4 [("ray", 6)] rfl rfl hN rfl v_points rfl (pid_list (qv 2 hD rfl (.inl v_rays))) (blkOk_by (by rfl)) (fun _ _ _ _ _ => (pgd_name 6 hN rfl (.inl rfl) (.inr rfl) (by decide))) (fun _ _ _ _ _ => (ptsd_one (pdt_cmp op_gtM (pd_ix (by exact HU) (qv 6 hD rfl (.inl rfl)) pd_int (fun _ _ => rfl)) pd_int rfl)))
  (fun _ _ _ _ _ => (pd_tup (pda_cons (pd_sl (qv 6 hD rfl (.inl rfl)) (pdo_some pd_int) pdo_none) (pda_cons (pd_ix (by exact HU) (qv 6 hD rfl (.inl rfl)) pd_int (fun _ _ => rfl)) pda_nil rfl) rfl))) (fun _ => rfl))
  (pss_seq (psd_if (pdt_cmp (op_eqM (by exact HU)) (q_callB cr_len g_len B.len bb_len (pda_cons (qv 4 hD rfl (.inl v_points)) pda_nil rfl) rfl rfl) pd_int rfl) (pss_of (psd_ret (pd_tup (pda_cons (qv 1 hD rfl (.inl v_size)) (pda_cons (pd_tup pda_nil) (pda_cons (pd_tup pda_nil) (pda_cons (pd_tup pda_nil) pda_nil rfl) rfl) rfl) rfl)))) pssd_nil)
  (pss_seq (psd_asg [5] (q_callTy cr_tuple g_tuple B.tuple bb_tuple (pda_cons (q_lc [("ray", 6)] rfl rfl hN (pid_list (qv 2 hD rfl (.inl v_rays))) (blkOk_by (by rfl)) (fun _ _ _ _ _ => (pgd_name 6 hN rfl (.inl rfl) (.inr rfl) (by decide))) (fun _ _ _ _ _ => (ptsd_one (pdt_cmp (op_eqM (by exact HU)) (pd_ix (by exact HU) (qv 6 hD rfl (.inl rfl)) pd_int (fun _ _ => rfl)) pd_int rfl)))
  (fun _ _ _ _ _ => (pd_sl (qv 6 hD rfl (.inl rfl)) (pdo_some pd_int) pdo_none)) (fun _ => rfl)) pda_nil rfl) rfl rfl) (pgd_name 5 hN rfl (.inl v_beams) (.inl rfl) (by decide)) rfl rfl rfl)
  (pss_of (psd_ret (pd_tup (pda_cons (qv 1 hD rfl (.inl v_size)) (pda_cons (q_callTy cr_tuple g_tuple B.tuple bb_tuple (pda_cons (qv 4 hD rfl (.inl v_points)) pda_nil rfl) rfl rfl) (pda_cons (qv 5 hD rfl (.inl v_beams)) (pda_cons (q_callTy cr_tuple g_tuple B.tuple bb_tuple (pda_cons (q_lc [("line", 7)] rfl rfl hN (pid_list (qv 3 hD rfl (.inl v_lines))) (blkOk_by (by rfl)) (fun _ _ _ _ _ => (pgd_name 7 hN rfl (.inl rfl) (.inr rfl) (by decide))) (fun _ _ _ _ _ => ptsd_nil)
  (fun _ _ _ _ _ => (pd_sl (qv 7 hD rfl (.inl rfl)) (pdo_some pd_int) pdo_none)) (fun _ => rfl)) pda_nil rfl) rfl rfl) pda_nil rfl) rfl) rfl) rfl))))))))))
def F_corners (c : Cs) : List MV → M MV := runB (sSeq (sDrop (fCallP 2 F_need_held (fCons (fVar 0) (fCons (fC (.v (.str "held"))) fNil)))) (sRet (fCallP 1 (F_span_of c) (fCons (fVar 0) fNil)))) 1
theorem has_corners (h_need_held : HasF P w K mg base G 7 "need_held" ["value", "name"] [] F_need_held) (h_span_of : HasF P w K mg base G 7 "span_of" ["held"] [] (F_span_of c)) (F : ∃ f fd, mg "corners" = some (.ref f) ∧ FunD K "corners" "corners" (defArgs (top 28)) (defBody (top 28)) (defScope (top 28)) [] [] f fd) : HasF P w K mg base G 8 "corners" ["held"] [] (F_corners c) := by
  obtain ⟨f, fd, hm, F⟩ := F
  have hN : (["held"] : List Str).Nodup := by decide
  refine HasF.of2 (N := ["held"]) F hm (C8.fnScope_by (by decide +kernel)) (by decide) (fun kV doc pm an cdv ct us hl => match us, hl with | [u0], _ => rfl) (fun p hp => nomatch hp) (fun cd A_ outer s H E hcd hr => ?_)
  have HU : (cxF P w K mg base ["held"] "corners" (defScope (top 28)) f cd A_ outer s H E).A.units + 65 < cLine := by have := hr.un; omega
  have v_held : (defScope (top 28)).names.lookup ("held" : Str) = some .local := by decide +kernel
  have g_need_held : (defScope (top 28)).names.lookup ("need_held" : Str) = some .globalImplicit := by decide +kernel
  have g_span_of : (defScope (top 28)).names.lookup ("span_of" : Str) = some .globalImplicit := by decide +kernel
  have hD : NoDbg (["held"] : List Str) = true := by decide +kernel
  exact (pss_seq (psd_drop (q_callP "need_held" 7 ["value", "name"] [] rfl h_need_held (by exact hr.mono (by decide)) g_need_held cx_passes (pda_cons (qv 0 hD rfl (.inl v_held)) (pda_cons pd_str pda_nil rfl) rfl) (by decide) rfl rfl) rfl)
  (pss_of (psd_ret (q_callP "span_of" 7 ["held"] [] rfl h_span_of (by exact hr.mono (by decide)) g_span_of cx_passes (pda_cons (qv 0 hD rfl (.inl v_held)) pda_nil rfl) (by decide) rfl rfl))))
def F_Growing_first_cone (c : Cs) : List MV → M MV := runB (sSeq (sAsg (fMake c.Cone 2 (F_Cone___init__ c) (fCons (fBin addM (fAttr c.Growing "size" (fVar 0)) (fC (.v (.int 1)))) fNil)) (setN 1)) (sSeq (sDrop (fMeth c.Cone "narrow" 2 (F_Cone_narrow c) (fVar 1) (fCons (fBin addM (fTup (fCons (fC (.v (.int 1))) fNil)) (fBin mulM (fTup (fCons (fC (.v (.int 0))) fNil)) (fAttr c.Growing "size" (fVar 0)))) fNil))) (sRet (fVar 1)))) 2
theorem has_Growing_first_cone (h_Cone___init__ : HasK P w K mg base G c.Cone 1 "Cone" ["self", "size"] [] (F_Cone___init__ c)) (h_Cone_narrow : HasM P w K mg base G c.Cone 5 "narrow" ["self", "row"] [] (F_Cone_narrow c)) (F : ∃ f fd, Meth K c.Growing "first_cone" f ∧ FunD K "first_cone" "Growing.first_cone" (defArgs (inClass (top 31) 1)) (defBody (inClass (top 31) 1)) (defScope (inClass (top 31) 1)) [] [] f fd) : HasM P w K mg base G c.Growing 6 "first_cone" ["self"] [] (F_Growing_first_cone c) := by
  obtain ⟨f, fd, hm, F⟩ := F
  have hN : (["self", "found"] : List Str).Nodup := by decide
  refine HasM.of (N := ["self", "found"]) F A.Growing hm (C8.fnScope_by (by decide +kernel)) (by decide) (fun kV doc pm an cdv ct us hl => match us, hl with | [u0], _ => rfl) (fun p hp => nomatch hp) (fun cd A_ outer s H E hcd hr => ?_)
  have HU : (cxF P w K mg base ["self", "found"] "Growing.first_cone" (defScope (inClass (top 31) 1)) f cd A_ outer s H E).A.units + 65 < cLine := by have := hr.un; omega
  have v_found : (defScope (inClass (top 31) 1)).names.lookup ("found" : Str) = some .local := by decide +kernel
  have v_self : (defScope (inClass (top 31) 1)).names.lookup ("self" : Str) = some .local := by decide +kernel
  have g_Cone : (defScope (inClass (top 31) 1)).names.lookup ("Cone" : Str) = some .globalImplicit := by decide +kernel
  have hD : NoDbg (["self", "found"] : List Str) = true := by decide +kernel
  exact (pss_seq (psd_asg [1] (q_make "Cone" 1 c.Cone ["self", "size"] [] rfl h_Cone___init__ (by exact hr.mono (by decide)) g_Cone cx_passes (pda_cons (pd_bin op_addM (pd_attr A.Growing N.Growing_size (qv 0 hD rfl (.inl v_self)) rfl) pd_int) pda_nil rfl) (by decide) rfl rfl) (pgd_name 1 hN rfl (.inl v_found) (.inl rfl) (by decide)) rfl rfl rfl)
  (pss_seq (psd_drop (q_meth "narrow" 5 c.Cone ["self", "row"] [] rfl h_Cone_narrow (by exact hr.mono (by decide)) cx_passes (qv 1 hD rfl (.inl v_found)) (pda_cons (pd_bin op_addM (pd_tup (pda_cons pd_int pda_nil rfl)) (pd_bin op_mulM (pd_tup (pda_cons pd_int pda_nil rfl)) (pd_attr A.Growing N.Growing_size (qv 0 hD rfl (.inl v_self)) rfl))) pda_nil rfl) rfl rfl rfl) rfl)
  (pss_of (psd_ret (qv 1 hD rfl (.inl v_found))))))
def F_Growing___init__ (c : Cs) : List MV → M MV := runB (sSeq (sIf (fOr (fNot (fTest (fCallP 1 F_is_integer (fCons (fVar 1) fNil)))) (fNot (fChT leM leM (fC (.v (.int 1))) (fVar 1) (fC (.v (.int 4)))))) (sRaise (fC (.v (.str "size")))) sNil) (sSeq (sAttr c.Growing "size" (fVar 0) (fVar 1)) (sSeq (sAttr c.Growing "table" (fVar 0) fNewD) (sSeq (sAttr c.Growing "last" (fVar 0) (fC (.v (.int 0)))) (sSeq (sAttr c.Growing "cone" (fVar 0) (fMeth c.Growing "first_cone" 1 (F_Growing_first_cone c) (fVar 0) fNil)) (sAttr c.Growing "earlier" (fVar 0) (fLst fNil))))))) 2
theorem has_Growing___init__ (hX : HasX P w K mg base G) (h_is_integer : HasF P w K mg base G 1 "is_integer" ["value"] [] F_is_integer) (h_Growing_first_cone : HasM P w K mg base G c.Growing 6 "first_cone" ["self"] [] (F_Growing_first_cone c)) (F : ∃ f fd, Mk K c.Growing f ∧ mg "Growing" = some (.ref c.Growing) ∧ FunD K "__init__" "Growing.__init__" (defArgs (inClass (top 31) 0)) (defBody (inClass (top 31) 0)) (defScope (inClass (top 31) 0)) [] [] f fd) : HasK P w K mg base G c.Growing 7 "Growing" ["self", "size"] [] (F_Growing___init__ c) := by
  obtain ⟨f, fd, hC, hm, F⟩ := F
  have hN : (["self", "size"] : List Str).Nodup := by decide
  refine HasK.of (N := ["self", "size"]) F hC hm (C8.fnScope_by (by decide +kernel)) (by decide) (fun kV doc pm an cdv ct us hl => match us, hl with | [u0, u1], _ => rfl) (fun p hp => nomatch hp) (fun cd A_ outer s H E hcd hr => ?_)
  have HU : (cxF P w K mg base ["self", "size"] "Growing.__init__" (defScope (inClass (top 31) 0)) f cd A_ outer s H E).A.units + 65 < cLine := by have := hr.un; omega
  have v_self : (defScope (inClass (top 31) 0)).names.lookup ("self" : Str) = some .local := by decide +kernel
  have v_size : (defScope (inClass (top 31) 0)).names.lookup ("size" : Str) = some .local := by decide +kernel
  have g_BadArgument : (defScope (inClass (top 31) 0)).names.lookup ("BadArgument" : Str) = some .globalImplicit := by decide +kernel
  have g_is_integer : (defScope (inClass (top 31) 0)).names.lookup ("is_integer" : Str) = some .globalImplicit := by decide +kernel
  have hD : NoDbg (["self", "size"] : List Str) = true := by decide +kernel
  exact (pss_seq (psd_if (PW.pt (pdw_or (pdt_not (pdt_val (q_callP "is_integer" 1 ["value"] [] rfl h_is_integer (by exact hr.mono (by decide)) g_is_integer cx_passes (pda_cons (qv 1 hD rfl (.inl v_size)) pda_nil rfl) (by decide) rfl rfl) (fun _ => rfl))) (pdw_or1 (pdt_not (pdt_chain op_leM op_leM pd_int (qv 1 hD rfl (.inl v_size)) pd_int (by with_unfolding_all rfl)))))) (pss_of (psd_raise hX (by exact hr.mono (by decide)) rfl cx_takes g_BadArgument pd_str rfl rfl)) pssd_nil)
  (pss_seq (psd_attr A.Growing N.Growing_size (qv 0 hD rfl (.inl v_self)) (qv 1 hD rfl (.inl v_size)) rfl)
  (pss_seq (psd_attr A.Growing N.Growing_table (qv 0 hD rfl (.inl v_self)) pd_newD rfl)
  (pss_seq (psd_attr A.Growing N.Growing_last (qv 0 hD rfl (.inl v_self)) pd_int rfl)
  (pss_seq (psd_attr A.Growing N.Growing_cone (qv 0 hD rfl (.inl v_self)) (q_meth0 "first_cone" 6 c.Growing ["self"] [] rfl h_Growing_first_cone (by exact hr.mono (by decide)) cx_passes (qv 0 hD rfl (.inl v_self)) rfl) rfl)
  (pss_of (psd_attr A.Growing N.Growing_earlier (qv 0 hD rfl (.inl v_self)) (pd_lst pda_nil) rfl)))))))
def F_Growing_held (c : Cs) : List MV → M MV := runB (sRet (fTup (fCons (fAttr c.Growing "size" (fVar 0)) (fCons (fB tupleM (fCons (fLc [1] (iSeqL (fB sortedM (fCons (fAttr c.Growing "table" (fVar 0)) fNil))) (setN 1) fYes (fBin ixM (fAttr c.Growing "table" (fVar 0)) (fVar 1))) fNil)) (fCons (fTup fNil) fNil))))) 2
theorem has_Growing_held (F : ∃ f fd, Meth K c.Growing "held" f ∧ FunD K "held" "Growing.held" (defArgs (inClass (top 31) 2)) (defBody (inClass (top 31) 2)) (defScope (inClass (top 31) 2)) [] [] f fd) : HasM P w K mg base G c.Growing 1 "held" ["self"] [] (F_Growing_held c) := by
  obtain ⟨f, fd, hm, F⟩ := F
  have hN : (["self", "number"] : List Str).Nodup := by decide
  refine HasM.of (N := ["self", "number"]) F A.Growing hm (C8.fnScope_by (by decide +kernel)) (by decide) (fun kV doc pm an cdv ct us hl => match us, hl with | [u0], _ => rfl) (fun p hp => nomatch hp) (fun cd A_ outer s H E hcd hr => ?_)
  have HU : (cxF P w K mg base ["self", "number"] "Growing.held" (defScope (inClass (top 31) 2)) f cd A_ outer s H E).A.units + 65 < cLine := by have := hr.un; omega
  have v_self : (defScope (inClass (top 31) 2)).names.lookup ("self" : Str) = some .cell := by decide +kernel
  have g_sorted : (defScope (inClass (top 31) 2)).names.lookup ("sorted" : Str) = some .globalImplicit := by decide +kernel
  have g_tuple : (defScope (inClass (top 31) 2)).names.lookup ("tuple" : Str) = some .globalImplicit := by decide +kernel
  have hD : NoDbg (["self", "number"] : List Str) = true := by decide +kernel
  exact (pss_of (psd_ret (pd_tup (pda_cons (pd_attr A.Growing N.Growing_size (qv 0 hD rfl (.inr (.inl v_self))) rfl) (pda_cons (q_callTy cr_tuple g_tuple B.tuple bb_tuple (pda_cons (q_lc [("number", 1)] rfl rfl hN (pid_list (q_callB (crd_sorted rfl) g_sorted B.sorted bb_sorted (pda_cons (pd_attr A.Growing N.Growing_table (qv 0 hD rfl (.inr (.inl v_self))) rfl) pda_nil rfl) rfl rfl)) (blkOk_by (by rfl)) (fun _ _ _ _ _ => (pgd_name 1 hN rfl (.inl rfl) (.inr rfl) (by decide))) (fun _ _ _ _ _ => ptsd_nil)
  (fun _ _ _ _ _ => (pd_ix (by exact HU) (pd_attr A.Growing N.Growing_table (qv 0 hD rfl (.inr (.inl rfl))) rfl) (qv 1 hD rfl (.inl rfl)) (fun _ _ => rfl))) (fun _ => rfl)) pda_nil rfl) rfl rfl) (pda_cons (pd_tup pda_nil) pda_nil rfl) rfl) rfl))))
def F_Growing_span (c : Cs) : List MV → M MV := runB (sSeq (sAsg (fBin addM (fListR2 (fC (.v (.int 1))) (fBin addM (fAttr c.Growing "size" (fVar 0)) (fC (.v (.int 1))))) (fLst (fCons (fC (.v (.int 0))) fNil))) (setN 1)) (sSeq (sAsg (fCallP 3 F_tidy (fCons (fLc [6, 7] (iSeqL (fAttr c.Cone "rays" (fAttr c.Growing "cone" (fVar 0)))) (setTup 2 (setCons (setN 6) (setCons (setN 7) setNil))) fYes (fVar 6)) (fCons (fAttr c.Cone "lines" (fAttr c.Growing "cone" (fVar 0))) (fCons (fVar 1) fNil)))) (setTup 2 (setCons (setN 2) (setCons (setN 3) setNil)))) (sSeq (sAsg (fB tupleM (fCons (fLc [6] (iSeqL (fVar 2)) (setN 6) (fCmpT gtM (fBin ixM (fVar 6) (fC (.v (.int 0)))) (fC (.v (.int 0)))) (fTup (fCons (fSl (fVar 6) (fPart (fC (.v (.int 1)))) fNoPart) (fCons (fBin ixM (fVar 6) (fC (.v (.int 0)))) fNil)))) fNil)) (setN 4)) (sSeq (sIf (fCmpT eqM (fB lenM (fCons (fVar 4) fNil)) (fC (.v (.int 0)))) (sRet (fTup (fCons (fAttr c.Growing "size" (fVar 0)) (fCons (fTup fNil) (fCons (fTup fNil) (fCons (fTup fNil) fNil)))))) sNil) (sSeq (sAsg (fB tupleM (fCons (fLc [6] (iSeqL (fVar 2)) (setN 6) (fCmpT eqM (fBin ixM (fVar 6) (fC (.v (.int 0)))) (fC (.v (.int 0)))) (fSl (fVar 6) (fPart (fC (.v (.int 1)))) fNoPart)) fNil)) (setN 5)) (sRet (fTup (fCons (fAttr c.Growing "size" (fVar 0)) (fCons (fVar 4) (fCons (fVar 5) (fCons (fB tupleM (fCons (fLc [8] (iSeqL (fVar 3)) (setN 8) fYes (fSl (fVar 8) (fPart (fC (.v (.int 1)))) fNoPart)) fNil)) fNil))))))))))) 9
theorem has_Growing_span (h_tidy : HasF P w K mg base G 6 "tidy" ["rays", "lines", "columns"] [] F_tidy) (F : ∃ f fd, Meth K c.Growing "span" f ∧ FunD K "span" "Growing.span" (defArgs (inClass (top 31) 3)) (defBody (inClass (top 31) 3)) (defScope (inClass (top 31) 3)) [] [] f fd) : HasM P w K mg base G c.Growing 7 "span" ["self"] [] (F_Growing_span c) := by
  obtain ⟨f, fd, hm, F⟩ := F
  have hN : (["self", "columns", "rays", "lines", "points", "beams", "ray", "zeros", "line"] : List Str).Nodup := by decide
  refine HasM.of (N := ["self", "columns", "rays", "lines", "points", "beams", "ray", "zeros", "line"]) F A.Growing hm (C8.fnScope_by (by decide +kernel)) (by decide) (fun kV doc pm an cdv ct us hl => match us, hl with | [u0], _ => rfl) (fun p hp => nomatch hp) (fun cd A_ outer s H E hcd hr => ?_)
  have HU : (cxF P w K mg base ["self", "columns", "rays", "lines", "points", "beams", "ray", "zeros", "line"] "Growing.span" (defScope (inClass (top 31) 3)) f cd A_ outer s H E).A.units + 65 < cLine := by have := hr.un; omega
  have v_beams : (defScope (inClass (top 31) 3)).names.lookup ("beams" : Str) = some .local := by decide +kernel
  have v_columns : (defScope (inClass (top 31) 3)).names.lookup ("columns" : Str) = some .local := by decide +kernel
  have v_lines : (defScope (inClass (top 31) 3)).names.lookup ("lines" : Str) = some .local := by decide +kernel
  have v_points : (defScope (inClass (top 31) 3)).names.lookup ("points" : Str) = some .local := by decide +kernel
  have v_rays : (defScope (inClass (top 31) 3)).names.lookup ("rays" : Str) = some .local := by decide +kernel
  have v_self : (defScope (inClass (top 31) 3)).names.lookup ("self" : Str) = some .local := by decide +kernel
  have g_len : (defScope (inClass (top 31) 3)).names.lookup ("len" : Str) = some .globalImplicit := by decide +kernel
  have g_list : (defScope (inClass (top 31) 3)).names.lookup ("list" : Str) = some .globalImplicit := by decide +kernel
  have g_range : (defScope (inClass (top 31) 3)).names.lookup ("range" : Str) = some .globalImplicit := by decide +kernel
  have g_tidy : (defScope (inClass (top 31) 3)).names.lookup ("tidy" : Str) = some .globalImplicit := by decide +kernel
  have g_tuple : (defScope (inClass (top 31) 3)).names.lookup ("tuple" : Str) = some .globalImplicit := by decide +kernel
  have hD : NoDbg (["self", "columns", "rays", "lines", "points", "beams", "ray", "zeros", "line"] : List Str) = true := by decide +kernel
  exact (pss_seq (psd_asg [1] (pd_bin op_addM (pd_listR2 rfl g_list B.list g_range B.range pd_int (pd_bin op_addM (pd_attr A.Growing N.Growing_size (qv 0 hD rfl (.inl v_self)) rfl) pd_int) rfl rfl rfl rfl) (pd_lst (pda_cons pd_int pda_nil rfl))) (pgd_name 1 hN rfl (.inl v_columns) (.inl rfl) (by decide)) rfl rfl rfl)
  (pss_seq (psd_asg [2, 3] (q_callP "tidy" 6 ["rays", "lines", "columns"] [] rfl h_tidy (by exact hr.mono (by decide)) g_tidy cx_passes (pda_cons (q_lc [("ray", 6), ("zeros", 7)] rfl rfl hN (pid_list (pd_attr A.Cone N.Cone_rays (pd_attr A.Growing N.Growing_cone (qv 0 hD rfl (.inl v_self)) rfl) rfl)) (blkOk_by (by rfl)) (fun _ _ _ _ _ => (pgd_tup rfl (pgsd_cons (pgd_name 6 hN rfl (.inl rfl) (.inr rfl) (by decide)) (pgsd_cons (pgd_name 7 hN rfl (.inl rfl) (.inr rfl) (by decide)) pgsd_nil rfl) rfl) rfl rfl)) (fun _ _ _ _ _ => ptsd_nil)
  (fun _ _ _ _ _ => (qv 6 hD rfl (.inl rfl))) (fun _ => rfl)) (pda_cons (pd_attr A.Cone N.Cone_lines (pd_attr A.Growing N.Growing_cone (qv 0 hD rfl (.inl v_self)) rfl) rfl) (pda_cons (qv 1 hD rfl (.inl v_columns)) pda_nil rfl) rfl) rfl) (by decide) rfl rfl) (pgd_tup rfl (pgsd_cons (pgd_name 2 hN rfl (.inl v_rays) (.inl rfl) (by decide)) (pgsd_cons (pgd_name 3 hN rfl (.inl v_lines) (.inl rfl) (by decide)) pgsd_nil rfl) rfl) rfl rfl) rfl rfl rfl)
  (pss_seq (psd_asg [4] (q_callTy cr_tuple g_tuple B.tuple bb_tuple (pda_cons (q_lc [("ray", 6)] rfl rfl hN (pid_list (qv 2 hD rfl (.inl v_rays))) (blkOk_by (by rfl)) (fun _ _ _ _ _ => (pgd_name 6 hN rfl (.inl rfl) (.inr rfl) (by decide))) (fun _ _ _ _ _ => (ptsd_one (pdt_cmp op_gtM (pd_ix (by exact HU) (qv 6 hD rfl (.inl rfl)) pd_int (fun _ _ => rfl)) pd_int rfl)))
  (fun _ _ _ _ _ => (pd_tup (pda_cons (pd_sl (qv 6 hD rfl (.inl rfl)) (pdo_some pd_int) pdo_none) (pda_cons (pd_ix (by exact HU) (qv 6 hD rfl (.inl rfl)) pd_int (fun _ _ => rfl)) pda_nil rfl) rfl))) (fun _ => rfl)) pda_nil rfl) rfl rfl) (pgd_name 4 hN rfl (.inl v_points) (.inl rfl) (by decide)) rfl rfl rfl)
  (pss_seq (psd_if (pdt_cmp (op_eqM (by exact HU)) (q_callB cr_len g_len B.len bb_len (pda_cons (qv 4 hD rfl (.inl v_points)) pda_nil rfl) rfl rfl) pd_int rfl) (pss_of (psd_ret (pd_tup (pda_cons (pd_attr A.Growing N.Growing_size (qv 0 hD rfl (.inl v_self)) rfl) (pda_cons (pd_tup pda_nil) (pda_cons (pd_tup pda_nil) (pda_cons (pd_tup pda_nil) pda_nil rfl) rfl) rfl) rfl)))) pssd_nil)
  (pss_seq (psd_asg [5] (q_callTy cr_tuple g_tuple B.tuple bb_tuple (pda_cons (q_lc [("ray", 6)] rfl rfl hN (pid_list (qv 2 hD rfl (.inl v_rays))) (blkOk_by (by rfl)) (fun _ _ _ _ _ => (pgd_name 6 hN rfl (.inl rfl) (.inr rfl) (by decide))) (fun _ _ _ _ _ => (ptsd_one (pdt_cmp (op_eqM (by exact HU)) (pd_ix (by exact HU) (qv 6 hD rfl (.inl rfl)) pd_int (fun _ _ => rfl)) pd_int rfl)))
  (fun _ _ _ _ _ => (pd_sl (qv 6 hD rfl (.inl rfl)) (pdo_some pd_int) pdo_none)) (fun _ => rfl)) pda_nil rfl) rfl rfl) (pgd_name 5 hN rfl (.inl v_beams) (.inl rfl) (by decide)) rfl rfl rfl)
  (pss_of (psd_ret (pd_tup (pda_cons (pd_attr A.Growing N.Growing_size (qv 0 hD rfl (.inl v_self)) rfl) (pda_cons (qv 4 hD rfl (.inl v_points)) (pda_cons (qv 5 hD rfl (.inl v_beams)) (pda_cons (q_callTy cr_tuple g_tuple B.tuple bb_tuple (pda_cons (q_lc [("line", 8)] rfl rfl hN (pid_list (qv 3 hD rfl (.inl v_lines))) (blkOk_by (by rfl)) (fun _ _ _ _ _ => (pgd_name 8 hN rfl (.inl rfl) (.inr rfl) (by decide))) (fun _ _ _ _ _ => ptsd_nil)
  (fun _ _ _ _ _ => (pd_sl (qv 8 hD rfl (.inl rfl)) (pdo_some pd_int) pdo_none)) (fun _ => rfl)) pda_nil rfl) rfl rfl) pda_nil rfl) rfl) rfl) rfl)))))))))
def F_Growing_change (c : Cs) : List MV → M MV := runB (sSeq (sAsg (fBin ixM (fMeth c.Growing "span" 1 (F_Growing_span c) (fVar 0) fNil) (fC (.v (.int 1)))) (setN 2)) (sSeq (sAsg (fB tupleM (fCons (fLc [4] (iSeqT (fVar 2)) (setN 4) (fCmpT notInM (fVar 4) (fVar 1)) (fVar 4)) fNil)) (setN 3)) (sRet (fTup (fCons (fVar 3) (fCons (fB tupleM (fCons (fLc [4] (iSeqT (fVar 1)) (setN 4) (fCmpT notInM (fVar 4) (fVar 2)) (fVar 4)) fNil)) fNil)))))) 5
theorem has_Growing_change (h_Growing_span : HasM P w K mg base G c.Growing 7 "span" ["self"] [] (F_Growing_span c)) (F : ∃ f fd, Meth K c.Growing "change" f ∧ FunD K "change" "Growing.change" (defArgs (inClass (top 31) 4)) (defBody (inClass (top 31) 4)) (defScope (inClass (top 31) 4)) [] [] f fd) : HasM P w K mg base G c.Growing 8 "change" ["self", "before"] [] (F_Growing_change c) := by
  obtain ⟨f, fd, hm, F⟩ := F
  have hN : (["self", "before", "after", "came", "point"] : List Str).Nodup := by decide
  refine HasM.of (N := ["self", "before", "after", "came", "point"]) F A.Growing hm (C8.fnScope_by (by decide +kernel)) (by decide) (fun kV doc pm an cdv ct us hl => match us, hl with | [u0, u1], _ => rfl) (fun p hp => nomatch hp) (fun cd A_ outer s H E hcd hr => ?_)
  have HU : (cxF P w K mg base ["self", "before", "after", "came", "point"] "Growing.change" (defScope (inClass (top 31) 4)) f cd A_ outer s H E).A.units + 65 < cLine := by have := hr.un; omega
  have v_after : (defScope (inClass (top 31) 4)).names.lookup ("after" : Str) = some .cell := by decide +kernel
  have v_before : (defScope (inClass (top 31) 4)).names.lookup ("before" : Str) = some .cell := by decide +kernel
  have v_came : (defScope (inClass (top 31) 4)).names.lookup ("came" : Str) = some .local := by decide +kernel
  have v_self : (defScope (inClass (top 31) 4)).names.lookup ("self" : Str) = some .local := by decide +kernel
  have g_tuple : (defScope (inClass (top 31) 4)).names.lookup ("tuple" : Str) = some .globalImplicit := by decide +kernel
  have hD : NoDbg (["self", "before", "after", "came", "point"] : List Str) = true := by decide +kernel
  exact (pss_seq (psd_asg [2] (pd_ix (by exact HU) (q_meth0 "span" 7 c.Growing ["self"] [] rfl h_Growing_span (by exact hr.mono (by decide)) cx_passes (qv 0 hD rfl (.inl v_self)) rfl) pd_int (fun _ _ => rfl)) (pgd_name 2 hN rfl (.inr v_after) (.inl rfl) (by decide)) rfl rfl rfl)
  (pss_seq (psd_asg [3] (q_callTy cr_tuple g_tuple B.tuple bb_tuple (pda_cons (q_lc [("point", 4)] rfl rfl hN (pid_tup (qv 2 hD rfl (.inr (.inl v_after)))) (blkOk_by (by rfl)) (fun _ _ _ _ _ => (pgd_name 4 hN rfl (.inl rfl) (.inr rfl) (by decide))) (fun _ _ _ _ _ => (ptsd_one (pdt_cmp (op_notInM (by exact HU)) (qv 4 hD rfl (.inl rfl)) (qv 1 hD rfl (.inr (.inl rfl))) rfl)))
  (fun _ _ _ _ _ => (qv 4 hD rfl (.inl rfl))) (fun _ => rfl)) pda_nil rfl) rfl rfl) (pgd_name 3 hN rfl (.inl v_came) (.inl rfl) (by decide)) rfl rfl rfl)
  (pss_of (psd_ret (pd_tup (pda_cons (qv 3 hD rfl (.inl v_came)) (pda_cons (q_callTy cr_tuple g_tuple B.tuple bb_tuple (pda_cons (q_lc [("point", 4)] rfl rfl hN (pid_tup (qv 1 hD rfl (.inr (.inl v_before)))) (blkOk_by (by rfl)) (fun _ _ _ _ _ => (pgd_name 4 hN rfl (.inl rfl) (.inr rfl) (by decide))) (fun _ _ _ _ _ => (ptsd_one (pdt_cmp (op_notInM (by exact HU)) (qv 4 hD rfl (.inl rfl)) (qv 2 hD rfl (.inr (.inl rfl))) rfl)))
  (fun _ _ _ _ _ => (qv 4 hD rfl (.inl rfl))) (fun _ => rfl)) pda_nil rfl) rfl rfl) pda_nil rfl) rfl))))))
def F_Growing_keep (c : Cs) : List MV → M MV := runB (sAttr c.Growing "earlier" (fVar 0) (fBin addM (fAttr c.Growing "earlier" (fVar 0)) (fLst (fCons (fDictO (fCons (fAttr c.Growing "table" (fVar 0)) fNil)) fNil)))) 1
theorem has_Growing_keep (F : ∃ f fd, Meth K c.Growing "keep" f ∧ FunD K "keep" "Growing.keep" (defArgs (inClass (top 31) 5)) (defBody (inClass (top 31) 5)) (defScope (inClass (top 31) 5)) [] [] f fd) : HasM P w K mg base G c.Growing 1 "keep" ["self"] [] (F_Growing_keep c) := by
  obtain ⟨f, fd, hm, F⟩ := F
  have hN : (["self"] : List Str).Nodup := by decide
  refine HasM.of (N := ["self"]) F A.Growing hm (C8.fnScope_by (by decide +kernel)) (by decide) (fun kV doc pm an cdv ct us hl => match us, hl with | [u0], _ => rfl) (fun p hp => nomatch hp) (fun cd A_ outer s H E hcd hr => ?_)
  have HU : (cxF P w K mg base ["self"] "Growing.keep" (defScope (inClass (top 31) 5)) f cd A_ outer s H E).A.units + 65 < cLine := by have := hr.un; omega
  have v_self : (defScope (inClass (top 31) 5)).names.lookup ("self" : Str) = some .local := by decide +kernel
  have g_dict : (defScope (inClass (top 31) 5)).names.lookup ("dict" : Str) = some .globalImplicit := by decide +kernel
  have hD : NoDbg (["self"] : List Str) = true := by decide +kernel
  exact (pss_of (psd_attr A.Growing N.Growing_earlier (qv 0 hD rfl (.inl v_self)) (pd_bin op_addM (pd_attr A.Growing N.Growing_earlier (qv 0 hD rfl (.inl v_self)) rfl) (pd_lst (pda_cons (q_dictO rfl g_dict B.dict bb_dict (pda_cons (pd_attr A.Growing N.Growing_table (qv 0 hD rfl (.inl v_self)) rfl) pda_nil rfl) rfl rfl) pda_nil rfl))) rfl))
def F_Growing_put (c : Cs) : List MV → M MV := runB (sSeq (sIf (fOr (fNot (fTest (fCallP 2 F_is_wall_of (fCons (fVar 1) (fCons (fAttr c.Growing "size" (fVar 0)) fNil))))) (fCmpT eqM (fB lenM (fCons (fAttr c.Growing "table" (fVar 0)) fNil)) (fC (.v (.int 100))))) (sRaise (fC (.v (.str "wall")))) sNil) (sSeq (sAsg (fBin ixM (fMeth c.Growing "span" 1 (F_Growing_span c) (fVar 0) fNil) (fC (.v (.int 1)))) (setN 2)) (sSeq (sDrop (fMeth c.Growing "keep" 1 (F_Growing_keep c) (fVar 0) fNil)) (sSeq (sAttrAug c.Growing "last" (fVar 0) (fC (.v (.int 1)))) (sSeq (sPutD (fAttr c.Growing "table" (fVar 0)) (fAttr c.Growing "last" (fVar 0)) (fVar 1)) (sSeq (sDrop (fMeth c.Cone "narrow" 2 (F_Cone_narrow c) (fAttr c.Growing "cone" (fVar 0)) (fCons (fBin addM (fTup (fCons (fBin ixM (fVar 1) (fC (.v (.int 1)))) fNil)) (fCallP 1 F_opposite (fCons (fBin ixM (fVar 1) (fC (.v (.int 0)))) fNil))) fNil))) (sRet (fBin addM (fTup (fCons (fAttr c.Growing "last" (fVar 0)) fNil)) (fMeth c.Growing "change" 2 (F_Growing_change c) (fVar 0) (fCons (fVar 2) fNil)))))))))) 3
theorem has_Growing_put (hX : HasX P w K mg base G) (h_is_wall_of : HasF P w K mg base G 4 "is_wall_of" ["value", "size"] [] F_is_wall_of) (h_Growing_span : HasM P w K mg base G c.Growing 7 "span" ["self"] [] (F_Growing_span c)) (h_Growing_keep : HasM P w K mg base G c.Growing 1 "keep" ["self"] [] (F_Growing_keep c)) (h_Cone_narrow : HasM P w K mg base G c.Cone 5 "narrow" ["self", "row"] [] (F_Cone_narrow c)) (h_opposite : HasF P w K mg base G 1 "opposite" ["row"] [] F_opposite) (h_Growing_change : HasM P w K mg base G c.Growing 8 "change" ["self", "before"] [] (F_Growing_change c)) (F : ∃ f fd, Meth K c.Growing "put" f ∧ FunD K "put" "Growing.put" (defArgs (inClass (top 31) 6)) (defBody (inClass (top 31) 6)) (defScope (inClass (top 31) 6)) [] [] f fd) : HasM P w K mg base G c.Growing 9 "put" ["self", "wall"] [(1, ["wall"])] (F_Growing_put c) := by
  obtain ⟨f, fd, hm, F⟩ := F
  have hN : (["self", "wall", "before"] : List Str).Nodup := by decide
  refine HasM.of (N := ["self", "wall", "before"]) F A.Growing hm (C8.fnScope_by (by decide +kernel)) (by decide) (fun kV doc pm an cdv ct us hl => match us, hl with | [u0, u1], _ => rfl) (fun p hp kV doc pm an cdv ct us ws h1 h2 => ?_) (fun cd A_ outer s H E hcd hr => ?_)
  · rcases (by simpa using hp : p = (1, [("wall" : Str)])) with rfl
    · match us, ws, h1, h2 with | [u0], [w0], _, _ => rfl
  have HU : (cxF P w K mg base ["self", "wall", "before"] "Growing.put" (defScope (inClass (top 31) 6)) f cd A_ outer s H E).A.units + 65 < cLine := by have := hr.un; omega
  have v_before : (defScope (inClass (top 31) 6)).names.lookup ("before" : Str) = some .local := by decide +kernel
  have v_self : (defScope (inClass (top 31) 6)).names.lookup ("self" : Str) = some .local := by decide +kernel
  have v_wall : (defScope (inClass (top 31) 6)).names.lookup ("wall" : Str) = some .local := by decide +kernel
  have g_BadArgument : (defScope (inClass (top 31) 6)).names.lookup ("BadArgument" : Str) = some .globalImplicit := by decide +kernel
  have g_MOST_ROWS : (defScope (inClass (top 31) 6)).names.lookup ("MOST_ROWS" : Str) = some .globalImplicit := by decide +kernel
  have g_is_wall_of : (defScope (inClass (top 31) 6)).names.lookup ("is_wall_of" : Str) = some .globalImplicit := by decide +kernel
  have g_len : (defScope (inClass (top 31) 6)).names.lookup ("len" : Str) = some .globalImplicit := by decide +kernel
  have g_opposite : (defScope (inClass (top 31) 6)).names.lookup ("opposite" : Str) = some .globalImplicit := by decide +kernel
  have hD : NoDbg (["self", "wall", "before"] : List Str) = true := by decide +kernel
  exact (pss_seq (psd_if (PW.pt (pdw_or (pdt_not (pdt_val (q_callP "is_wall_of" 4 ["value", "size"] [] rfl h_is_wall_of (by exact hr.mono (by decide)) g_is_wall_of cx_passes (pda_cons (qv 1 hD rfl (.inl v_wall)) (pda_cons (pd_attr A.Growing N.Growing_size (qv 0 hD rfl (.inl v_self)) rfl) pda_nil rfl) rfl) (by decide) rfl rfl) (fun _ => rfl))) (pdw_or1 (pdt_cmp (op_eqM (by exact HU)) (q_callB cr_len g_len B.len bb_len (pda_cons (pd_attr A.Growing N.Growing_table (qv 0 hD rfl (.inl v_self)) rfl) pda_nil rfl) rfl rfl) (pd_gint g_MOST_ROWS C.MOST_ROWS (by decide)) rfl)))) (pss_of (psd_raise hX (by exact hr.mono (by decide)) rfl cx_takes g_BadArgument pd_str rfl rfl)) pssd_nil)
  (pss_seq (psd_asg [2] (pd_ix (by exact HU) (q_meth0 "span" 7 c.Growing ["self"] [] rfl h_Growing_span (by exact hr.mono (by decide)) cx_passes (qv 0 hD rfl (.inl v_self)) rfl) pd_int (fun _ _ => rfl)) (pgd_name 2 hN rfl (.inl v_before) (.inl rfl) (by decide)) rfl rfl rfl)
  (pss_seq (psd_drop (q_meth0 "keep" 1 c.Growing ["self"] [] rfl h_Growing_keep (by exact hr.mono (by decide)) cx_passes (qv 0 hD rfl (.inl v_self)) rfl) rfl)
  (pss_seq (psd_attrAug A.Growing N.Growing_last (qv 0 hD rfl (.inl v_self)) pd_int)
  (pss_seq (psd_putD (by exact HU) (pd_attr A.Growing N.Growing_table (qv 0 hD rfl (.inl v_self)) rfl) (pd_attr A.Growing N.Growing_last (qv 0 hD rfl (.inl v_self)) rfl) (qv 1 hD rfl (.inl v_wall)) rfl)
  (pss_seq (psd_drop (q_meth "narrow" 5 c.Cone ["self", "row"] [] rfl h_Cone_narrow (by exact hr.mono (by decide)) cx_passes (pd_attr A.Growing N.Growing_cone (qv 0 hD rfl (.inl v_self)) rfl) (pda_cons (pd_bin op_addM (pd_tup (pda_cons (pd_ix (by exact HU) (qv 1 hD rfl (.inl v_wall)) pd_int (fun _ _ => rfl)) pda_nil rfl)) (q_callP "opposite" 1 ["row"] [] rfl h_opposite (by exact hr.mono (by decide)) g_opposite cx_passes (pda_cons (pd_ix (by exact HU) (qv 1 hD rfl (.inl v_wall)) pd_int (fun _ _ => rfl)) pda_nil rfl) (by decide) rfl rfl)) pda_nil rfl) rfl rfl rfl) rfl)
  (pss_of (psd_ret (pd_bin op_addM (pd_tup (pda_cons (pd_attr A.Growing N.Growing_last (qv 0 hD rfl (.inl v_self)) rfl) pda_nil rfl)) (q_meth "change" 8 c.Growing ["self", "before"] [] rfl h_Growing_change (by exact hr.mono (by decide)) cx_passes (qv 0 hD rfl (.inl v_self)) (pda_cons (qv 2 hD rfl (.inl v_before)) pda_nil rfl) rfl rfl rfl))))))))))
def F_Growing_again (c : Cs) : List MV → M MV := runB (sSeq (sAttr c.Growing "table" (fVar 0) (fVar 1)) (sSeq (sAttr c.Growing "cone" (fVar 0) (fMeth c.Growing "first_cone" 1 (F_Growing_first_cone c) (fVar 0) fNil)) (sFor (iSeqL (fB sortedM (fCons (fVar 1) fNil))) (setN 2) (sSeq (sAsg (fBin ixM (fVar 1) (fVar 2)) (setTup 2 (setCons (setN 3) (setCons (setN 4) setNil)))) (sDrop (fMeth c.Cone "narrow" 2 (F_Cone_narrow c) (fAttr c.Growing "cone" (fVar 0)) (fCons (fBin addM (fTup (fCons (fVar 4) fNil)) (fCallP 1 F_opposite (fCons (fVar 3) fNil))) fNil))))))) 5
theorem has_Growing_again (h_Growing_first_cone : HasM P w K mg base G c.Growing 6 "first_cone" ["self"] [] (F_Growing_first_cone c)) (h_Cone_narrow : HasM P w K mg base G c.Cone 5 "narrow" ["self", "row"] [] (F_Cone_narrow c)) (h_opposite : HasF P w K mg base G 1 "opposite" ["row"] [] F_opposite) (F : ∃ f fd, Meth K c.Growing "again" f ∧ FunD K "again" "Growing.again" (defArgs (inClass (top 31) 7)) (defBody (inClass (top 31) 7)) (defScope (inClass (top 31) 7)) [] [] f fd) : HasM P w K mg base G c.Growing 7 "again" ["self", "table"] [] (F_Growing_again c) := by
  obtain ⟨f, fd, hm, F⟩ := F
  have hN : (["self", "table", "number", "row", "bound"] : List Str).Nodup := by decide
  refine HasM.of (N := ["self", "table", "number", "row", "bound"]) F A.Growing hm (C8.fnScope_by (by decide +kernel)) (by decide) (fun kV doc pm an cdv ct us hl => match us, hl with | [u0, u1], _ => rfl) (fun p hp => nomatch hp) (fun cd A_ outer s H E hcd hr => ?_)
  have HU : (cxF P w K mg base ["self", "table", "number", "row", "bound"] "Growing.again" (defScope (inClass (top 31) 7)) f cd A_ outer s H E).A.units + 65 < cLine := by have := hr.un; omega
  have v_bound : (defScope (inClass (top 31) 7)).names.lookup ("bound" : Str) = some .local := by decide +kernel
  have v_number : (defScope (inClass (top 31) 7)).names.lookup ("number" : Str) = some .local := by decide +kernel
  have v_row : (defScope (inClass (top 31) 7)).names.lookup ("row" : Str) = some .local := by decide +kernel
  have v_self : (defScope (inClass (top 31) 7)).names.lookup ("self" : Str) = some .local := by decide +kernel
  have v_table : (defScope (inClass (top 31) 7)).names.lookup ("table" : Str) = some .local := by decide +kernel
  have g_opposite : (defScope (inClass (top 31) 7)).names.lookup ("opposite" : Str) = some .globalImplicit := by decide +kernel
  have g_sorted : (defScope (inClass (top 31) 7)).names.lookup ("sorted" : Str) = some .globalImplicit := by decide +kernel
  have hD : NoDbg (["self", "table", "number", "row", "bound"] : List Str) = true := by decide +kernel
  exact (pss_seq (psd_attr A.Growing N.Growing_table (qv 0 hD rfl (.inl v_self)) (qv 1 hD rfl (.inl v_table)) rfl)
  (pss_seq (psd_attr A.Growing N.Growing_cone (qv 0 hD rfl (.inl v_self)) (q_meth0 "first_cone" 6 c.Growing ["self"] [] rfl h_Growing_first_cone (by exact hr.mono (by decide)) cx_passes (qv 0 hD rfl (.inl v_self)) rfl) rfl)
  (pss_of (psd_for [2] cx_own rfl (pid_list (q_callB (crd_sorted rfl) g_sorted B.sorted bb_sorted (pda_cons (qv 1 hD rfl (.inl v_table)) pda_nil rfl) rfl rfl)) (pgd_name 2 hN rfl (.inl v_number) (.inl rfl) (by decide))
  (pss_seq (psd_asg [3, 4] (pd_ix (by exact HU) (qv 1 hD rfl (.inl v_table)) (qv 2 hD rfl (.inl v_number)) (fun _ _ => rfl)) (pgd_tup rfl (pgsd_cons (pgd_name 3 hN rfl (.inl v_row) (.inl rfl) (by decide)) (pgsd_cons (pgd_name 4 hN rfl (.inl v_bound) (.inl rfl) (by decide)) pgsd_nil rfl) rfl) rfl rfl) rfl rfl rfl)
  (pss_of (psd_drop (q_meth "narrow" 5 c.Cone ["self", "row"] [] rfl h_Cone_narrow (by exact hr.mono (by decide)) cx_passes (pd_attr A.Growing N.Growing_cone (qv 0 hD rfl (.inl v_self)) rfl) (pda_cons (pd_bin op_addM (pd_tup (pda_cons (qv 4 hD rfl (.inl v_bound)) pda_nil rfl)) (q_callP "opposite" 1 ["row"] [] rfl h_opposite (by exact hr.mono (by decide)) g_opposite cx_passes (pda_cons (qv 3 hD rfl (.inl v_row)) pda_nil rfl) (by decide) rfl rfl)) pda_nil rfl) rfl rfl rfl) rfl))) (fun _ => rfl)))))
def F_Growing_take (c : Cs) : List MV → M MV := runB (sSeq (sIf (fOr (fNot (fTest (fCallP 1 F_is_integer (fCons (fVar 1) fNil)))) (fCmpT notInM (fVar 1) (fAttr c.Growing "table" (fVar 0)))) (sRaise (fC (.v (.str "number")))) sNil) (sSeq (sAsg (fBin ixM (fMeth c.Growing "span" 1 (F_Growing_span c) (fVar 0) fNil) (fC (.v (.int 1)))) (setN 2)) (sSeq (sDrop (fMeth c.Growing "keep" 1 (F_Growing_keep c) (fVar 0) fNil)) (sSeq (sDrop (fMeth c.Growing "again" 2 (F_Growing_again c) (fVar 0) (fCons (fDictO (fCons (fLockE (fAttr c.Growing "table" (fVar 0)) (fLc [3] (iKeyO (fAttr c.Growing "table" (fVar 0))) (setN 3) (fCmpT neM (fVar 3) (fVar 1)) (fTup (fCons (fVar 3) (fCons (fBin ixM (fAttr c.Growing "table" (fVar 0)) (fVar 3)) fNil))))) fNil)) fNil))) (sRet (fMeth c.Growing "change" 2 (F_Growing_change c) (fVar 0) (fCons (fVar 2) fNil))))))) 4
theorem has_Growing_take (hX : HasX P w K mg base G) (h_is_integer : HasF P w K mg base G 1 "is_integer" ["value"] [] F_is_integer) (h_Growing_span : HasM P w K mg base G c.Growing 7 "span" ["self"] [] (F_Growing_span c)) (h_Growing_keep : HasM P w K mg base G c.Growing 1 "keep" ["self"] [] (F_Growing_keep c)) (h_Growing_again : HasM P w K mg base G c.Growing 7 "again" ["self", "table"] [] (F_Growing_again c)) (h_Growing_change : HasM P w K mg base G c.Growing 8 "change" ["self", "before"] [] (F_Growing_change c)) (F : ∃ f fd, Meth K c.Growing "take" f ∧ FunD K "take" "Growing.take" (defArgs (inClass (top 31) 8)) (defBody (inClass (top 31) 8)) (defScope (inClass (top 31) 8)) [] [] f fd) : HasM P w K mg base G c.Growing 9 "take" ["self", "number"] [(1, ["number"])] (F_Growing_take c) := by
  obtain ⟨f, fd, hm, F⟩ := F
  have hN : (["self", "number", "before", "own"] : List Str).Nodup := by decide
  refine HasM.of (N := ["self", "number", "before", "own"]) F A.Growing hm (C8.fnScope_by (by decide +kernel)) (by decide) (fun kV doc pm an cdv ct us hl => match us, hl with | [u0, u1], _ => rfl) (fun p hp kV doc pm an cdv ct us ws h1 h2 => ?_) (fun cd A_ outer s H E hcd hr => ?_)
  · rcases (by simpa using hp : p = (1, [("number" : Str)])) with rfl
    · match us, ws, h1, h2 with | [u0], [w0], _, _ => rfl
  have HU : (cxF P w K mg base ["self", "number", "before", "own"] "Growing.take" (defScope (inClass (top 31) 8)) f cd A_ outer s H E).A.units + 65 < cLine := by have := hr.un; omega
  have v_before : (defScope (inClass (top 31) 8)).names.lookup ("before" : Str) = some .local := by decide +kernel
  have v_number : (defScope (inClass (top 31) 8)).names.lookup ("number" : Str) = some .cell := by decide +kernel
  have v_self : (defScope (inClass (top 31) 8)).names.lookup ("self" : Str) = some .cell := by decide +kernel
  have g_BadArgument : (defScope (inClass (top 31) 8)).names.lookup ("BadArgument" : Str) = some .globalImplicit := by decide +kernel
  have g_dict : (defScope (inClass (top 31) 8)).names.lookup ("dict" : Str) = some .globalImplicit := by decide +kernel
  have g_is_integer : (defScope (inClass (top 31) 8)).names.lookup ("is_integer" : Str) = some .globalImplicit := by decide +kernel
  have hD : NoDbg (["self", "number", "before", "own"] : List Str) = true := by decide +kernel
  exact (pss_seq (psd_if (PW.pt (pdw_or (pdt_not (pdt_val (q_callP "is_integer" 1 ["value"] [] rfl h_is_integer (by exact hr.mono (by decide)) g_is_integer cx_passes (pda_cons (qv 1 hD rfl (.inr (.inl v_number))) pda_nil rfl) (by decide) rfl rfl) (fun _ => rfl))) (pdw_or1 (pdt_cmp (op_notInM (by exact HU)) (qv 1 hD rfl (.inr (.inl v_number))) (pd_attr A.Growing N.Growing_table (qv 0 hD rfl (.inr (.inl v_self))) rfl) rfl)))) (pss_of (psd_raise hX (by exact hr.mono (by decide)) rfl cx_takes g_BadArgument pd_str rfl rfl)) pssd_nil)
  (pss_seq (psd_asg [2] (pd_ix (by exact HU) (q_meth0 "span" 7 c.Growing ["self"] [] rfl h_Growing_span (by exact hr.mono (by decide)) cx_passes (qv 0 hD rfl (.inr (.inl v_self))) rfl) pd_int (fun _ _ => rfl)) (pgd_name 2 hN rfl (.inl v_before) (.inl rfl) (by decide)) rfl rfl rfl)
  (pss_seq (psd_drop (q_meth0 "keep" 1 c.Growing ["self"] [] rfl h_Growing_keep (by exact hr.mono (by decide)) cx_passes (qv 0 hD rfl (.inr (.inl v_self))) rfl) rfl)
  (pss_seq (psd_drop (q_meth "again" 7 c.Growing ["self", "table"] [] rfl h_Growing_again (by exact hr.mono (by decide)) cx_passes (qv 0 hD rfl (.inr (.inl v_self))) (pda_cons (q_dictO rfl g_dict B.dict bb_dict (pda_cons (pd_lockE (fo := (fAttr c.Growing "table" (fVar 0))) (q_lc [("own", 3)] rfl rfl hN (pid_keys (pd_attr A.Growing N.Growing_table (qv 0 hD rfl (.inr (.inl v_self))) rfl)) (blkOk_by (by rfl)) (fun _ _ _ _ _ => (pgd_name 3 hN rfl (.inl rfl) (.inr rfl) (by decide))) (fun _ _ _ _ _ => (ptsd_one (pdt_cmp (op_neM (by exact HU)) (qv 3 hD rfl (.inl rfl)) (qv 1 hD rfl (.inr (.inl rfl))) rfl)))
  (fun _ _ _ _ _ => (pd_tup (pda_cons (qv 3 hD rfl (.inl rfl)) (pda_cons (pd_ix (by exact HU) (pd_attr A.Growing N.Growing_table (qv 0 hD rfl (.inr (.inl rfl))) rfl) (qv 3 hD rfl (.inl rfl)) (fun _ _ => rfl)) pda_nil rfl) rfl))) (fun _ => rfl))) pda_nil rfl) rfl rfl) pda_nil rfl) rfl rfl rfl) rfl)
  (pss_of (psd_ret (q_meth "change" 8 c.Growing ["self", "before"] [] rfl h_Growing_change (by exact hr.mono (by decide)) cx_passes (qv 0 hD rfl (.inr (.inl v_self))) (pda_cons (qv 2 hD rfl (.inl v_before)) pda_nil rfl) rfl rfl rfl)))))))
def F_Growing_undo (c : Cs) : List MV → M MV := runB (sSeq (sIf (fCmpT eqM (fB lenM (fCons (fAttr c.Growing "earlier" (fVar 0)) fNil)) (fC (.v (.int 0)))) (sRet (fC (.v (.bl false)))) sNil) (sSeq (sAsg (fBin ixM (fAttr c.Growing "earlier" (fVar 0)) (fBin subM (fB lenM (fCons (fAttr c.Growing "earlier" (fVar 0)) fNil)) (fC (.v (.int 1))))) (setN 1)) (sSeq (sAttr c.Growing "earlier" (fVar 0) (fSl (fAttr c.Growing "earlier" (fVar 0)) fNoPart (fPart (fUn negM (fC (.v (.int 1))))))) (sSeq (sDrop (fMeth c.Growing "again" 2 (F_Growing_again c) (fVar 0) (fCons (fVar 1) fNil))) (sRet (fC (.v (.bl true)))))))) 2
theorem has_Growing_undo (h_Growing_again : HasM P w K mg base G c.Growing 7 "again" ["self", "table"] [] (F_Growing_again c)) (F : ∃ f fd, Meth K c.Growing "undo" f ∧ FunD K "undo" "Growing.undo" (defArgs (inClass (top 31) 9)) (defBody (inClass (top 31) 9)) (defScope (inClass (top 31) 9)) [] [] f fd) : HasM P w K mg base G c.Growing 8 "undo" ["self"] [] (F_Growing_undo c) := by
  obtain ⟨f, fd, hm, F⟩ := F
  have hN : (["self", "table"] : List Str).Nodup := by decide
  refine HasM.of (N := ["self", "table"]) F A.Growing hm (C8.fnScope_by (by decide +kernel)) (by decide) (fun kV doc pm an cdv ct us hl => match us, hl with | [u0], _ => rfl) (fun p hp => nomatch hp) (fun cd A_ outer s H E hcd hr => ?_)
  have HU : (cxF P w K mg base ["self", "table"] "Growing.undo" (defScope (inClass (top 31) 9)) f cd A_ outer s H E).A.units + 65 < cLine := by have := hr.un; omega
  have v_self : (defScope (inClass (top 31) 9)).names.lookup ("self" : Str) = some .local := by decide +kernel
  have v_table : (defScope (inClass (top 31) 9)).names.lookup ("table" : Str) = some .local := by decide +kernel
  have g_len : (defScope (inClass (top 31) 9)).names.lookup ("len" : Str) = some .globalImplicit := by decide +kernel
  have hD : NoDbg (["self", "table"] : List Str) = true := by decide +kernel
  exact (pss_seq (psd_if (pdt_cmp (op_eqM (by exact HU)) (q_callB cr_len g_len B.len bb_len (pda_cons (pd_attr A.Growing N.Growing_earlier (qv 0 hD rfl (.inl v_self)) rfl) pda_nil rfl) rfl rfl) pd_int rfl) (pss_of (psd_ret pd_bl)) pssd_nil)
  (pss_seq (psd_asg [1] (pd_ix (by exact HU) (pd_attr A.Growing N.Growing_earlier (qv 0 hD rfl (.inl v_self)) rfl) (pd_bin op_subM (q_callB cr_len g_len B.len bb_len (pda_cons (pd_attr A.Growing N.Growing_earlier (qv 0 hD rfl (.inl v_self)) rfl) pda_nil rfl) rfl rfl) pd_int) (fun _ _ => rfl)) (pgd_name 1 hN rfl (.inl v_table) (.inl rfl) (by decide)) rfl rfl rfl)
  (pss_seq (psd_attr A.Growing N.Growing_earlier (qv 0 hD rfl (.inl v_self)) (pd_sl (pd_attr A.Growing N.Growing_earlier (qv 0 hD rfl (.inl v_self)) rfl) pdo_none (pdo_some (pd_neg pd_int))) rfl)
  (pss_seq (psd_drop (q_meth "again" 7 c.Growing ["self", "table"] [] rfl h_Growing_again (by exact hr.mono (by decide)) cx_passes (qv 0 hD rfl (.inl v_self)) (pda_cons (qv 1 hD rfl (.inl v_table)) pda_nil rfl) rfl rfl rfl) rfl)
  (pss_of (psd_ret pd_bl))))))
def F_Growing_numbers (c : Cs) : List MV → M MV := runB (sRet (fB tupleM (fCons (fB sortedM (fCons (fAttr c.Growing "table" (fVar 0)) fNil)) fNil))) 1
theorem has_Growing_numbers (F : ∃ f fd, Meth K c.Growing "numbers" f ∧ FunD K "numbers" "Growing.numbers" (defArgs (inClass (top 31) 10)) (defBody (inClass (top 31) 10)) (defScope (inClass (top 31) 10)) [] [] f fd) : HasM P w K mg base G c.Growing 1 "numbers" ["self"] [] (F_Growing_numbers c) := by
  obtain ⟨f, fd, hm, F⟩ := F
  have hN : (["self"] : List Str).Nodup := by decide
  refine HasM.of (N := ["self"]) F A.Growing hm (C8.fnScope_by (by decide +kernel)) (by decide) (fun kV doc pm an cdv ct us hl => match us, hl with | [u0], _ => rfl) (fun p hp => nomatch hp) (fun cd A_ outer s H E hcd hr => ?_)
  have HU : (cxF P w K mg base ["self"] "Growing.numbers" (defScope (inClass (top 31) 10)) f cd A_ outer s H E).A.units + 65 < cLine := by have := hr.un; omega
  have v_self : (defScope (inClass (top 31) 10)).names.lookup ("self" : Str) = some .local := by decide +kernel
  have g_sorted : (defScope (inClass (top 31) 10)).names.lookup ("sorted" : Str) = some .globalImplicit := by decide +kernel
  have g_tuple : (defScope (inClass (top 31) 10)).names.lookup ("tuple" : Str) = some .globalImplicit := by decide +kernel
  have hD : NoDbg (["self"] : List Str) = true := by decide +kernel
  exact (pss_of (psd_ret (q_callTy cr_tuple g_tuple B.tuple bb_tuple (pda_cons (q_callB (crd_sorted rfl) g_sorted B.sorted bb_sorted (pda_cons (pd_attr A.Growing N.Growing_table (qv 0 hD rfl (.inl v_self)) rfl) pda_nil rfl) rfl rfl) pda_nil rfl) rfl rfl)))
def F_is_deed : List MV → M MV := runB (sSeq (sIf (fCmpT eqM (fVar 0) (fTup (fCons (fC (.v (.str "undo"))) fNil))) (sRet (fC (.v (.bl true)))) sNil) (sSeq (sIf (fOr (fNot (fTest (fIsi "tuple" (fVar 0)))) (fOr (fCmpT neM (fB lenM (fCons (fVar 0) fNil)) (fC (.v (.int 2)))) (fNot (fTest (fIsi "str" (fBin ixM (fVar 0) (fC (.v (.int 0))))))))) (sRet (fC (.v (.bl false)))) sNil) (sRet (fOrV (fAndV (fBin eqM (fBin ixM (fVar 0) (fC (.v (.int 0)))) (fC (.v (.str "put")))) (fCallP 2 F_is_wall_of (fCons (fBin ixM (fVar 0) (fC (.v (.int 1)))) (fCons (fVar 1) fNil)))) (fAndV (fBin eqM (fBin ixM (fVar 0) (fC (.v (.int 0)))) (fC (.v (.str "take")))) (fCallP 1 F_is_integer (fCons (fBin ixM (fVar 0) (fC (.v (.int 1)))) fNil))))))) 2
theorem has_is_deed (h_is_wall_of : HasF P w K mg base G 4 "is_wall_of" ["value", "size"] [] F_is_wall_of) (h_is_integer : HasF P w K mg base G 1 "is_integer" ["value"] [] F_is_integer) (F : ∃ f fd, mg "is_deed" = some (.ref f) ∧ FunD K "is_deed" "is_deed" (defArgs (top 32)) (defBody (top 32)) (defScope (top 32)) [] [] f fd) : HasF P w K mg base G 5 "is_deed" ["value", "size"] [] F_is_deed := by
  obtain ⟨f, fd, hm, F⟩ := F
  have hN : (["value", "size"] : List Str).Nodup := by decide
  refine HasF.of2 (N := ["value", "size"]) F hm (C8.fnScope_by (by decide +kernel)) (by decide) (fun kV doc pm an cdv ct us hl => match us, hl with | [u0, u1], _ => rfl) (fun p hp => nomatch hp) (fun cd A_ outer s H E hcd hr => ?_)
  have HU : (cxF P w K mg base ["value", "size"] "is_deed" (defScope (top 32)) f cd A_ outer s H E).A.units + 65 < cLine := by have := hr.un; omega
  have v_size : (defScope (top 32)).names.lookup ("size" : Str) = some .local := by decide +kernel
  have v_value : (defScope (top 32)).names.lookup ("value" : Str) = some .local := by decide +kernel
  have g_is_integer : (defScope (top 32)).names.lookup ("is_integer" : Str) = some .globalImplicit := by decide +kernel
  have g_is_wall_of : (defScope (top 32)).names.lookup ("is_wall_of" : Str) = some .globalImplicit := by decide +kernel
  have g_isinstance : (defScope (top 32)).names.lookup ("isinstance" : Str) = some .globalImplicit := by decide +kernel
  have g_len : (defScope (top 32)).names.lookup ("len" : Str) = some .globalImplicit := by decide +kernel
  have g_str : (defScope (top 32)).names.lookup ("str" : Str) = some .globalImplicit := by decide +kernel
  have g_tuple : (defScope (top 32)).names.lookup ("tuple" : Str) = some .globalImplicit := by decide +kernel
  have hD : NoDbg (["value", "size"] : List Str) = true := by decide +kernel
  exact (pss_seq (psd_if (pdt_cmp (op_eqM (by exact HU)) (qv 0 hD rfl (.inl v_value)) (pd_tup (pda_cons pd_str pda_nil rfl)) rfl) (pss_of (psd_ret pd_bl)) pssd_nil)
  (pss_seq (psd_if (PW.pt (pdw_or (pdt_not (pdt_val (q_isi ty_tuple g_isinstance B.isinstance g_tuple B.tuple bb_tuple (qv 0 hD rfl (.inl v_value)) rfl) (fun _ => rfl))) (pdw_or (pdt_cmp (op_neM (by exact HU)) (q_callB cr_len g_len B.len bb_len (pda_cons (qv 0 hD rfl (.inl v_value)) pda_nil rfl) rfl rfl) pd_int rfl) (pdw_or1 (pdt_not (pdt_val (q_isi ty_str g_isinstance B.isinstance g_str B.str bb_str (pd_ix (by exact HU) (qv 0 hD rfl (.inl v_value)) pd_int (fun _ _ => rfl)) rfl) (fun _ => rfl))))))) (pss_of (psd_ret pd_bl)) pssd_nil)
  (pss_of (psd_ret (pd_or (pd_and (pd_cmp (op_eqM (by exact HU)) (pd_ix (by exact HU) (qv 0 hD rfl (.inl v_value)) pd_int (fun _ _ => rfl)) pd_str rfl) (pd_and1 (q_callP "is_wall_of" 4 ["value", "size"] [] rfl h_is_wall_of (by exact hr.mono (by decide)) g_is_wall_of cx_passes (pda_cons (pd_ix (by exact HU) (qv 0 hD rfl (.inl v_value)) pd_int (fun _ _ => rfl)) (pda_cons (qv 1 hD rfl (.inl v_size)) pda_nil rfl) rfl) (by decide) rfl rfl))) (pd_or1 (pd_and (pd_cmp (op_eqM (by exact HU)) (pd_ix (by exact HU) (qv 0 hD rfl (.inl v_value)) pd_int (fun _ _ => rfl)) pd_str rfl) (pd_and1 (q_callP "is_integer" 1 ["value"] [] rfl h_is_integer (by exact hr.mono (by decide)) g_is_integer cx_passes (pda_cons (pd_ix (by exact HU) (qv 0 hD rfl (.inl v_value)) pd_int (fun _ _ => rfl)) pda_nil rfl) (by decide) rfl rfl)))))))))
def F_points_through (c : Cs) : List MV → M MV := runB (sSeq (sAsg (fMake c.Growing 2 (F_Growing___init__ c) (fCons (fVar 0) fNil)) (setN 2)) (sSeq (sIf (fOr (fNot (fTest (fIsi "tuple" (fVar 1)))) (fOr (fCmpT gtM (fB lenM (fCons (fVar 1) fNil)) (fC (.v (.int 60)))) (fNot (fTest (fAllG [4] (iSeqT (fVar 1)) (setN 4) (fCallP 2 F_is_deed (fCons (fVar 4) (fCons (fVar 0) fNil)))))))) (sRaise (fC (.v (.str "deeds")))) sNil) (sSeq (sOwn 3 fNil) (sSeq (sFor (iSeqT (fVar 1)) (setN 4) (sSeq (sIf (fCmpT eqM (fBin ixM (fVar 4) (fC (.v (.int 0)))) (fC (.v (.str "put")))) (sDrop (fMeth c.Growing "put" 2 (F_Growing_put c) (fVar 2) (fCons (fBin ixM (fVar 4) (fC (.v (.int 1)))) fNil))) (sIf (fCmpT eqM (fBin ixM (fVar 4) (fC (.v (.int 0)))) (fC (.v (.str "undo")))) (sDrop (fMeth c.Growing "undo" 1 (F_Growing_undo c) (fVar 2) fNil)) (sIf (fCmpT inM (fBin ixM (fVar 4) (fC (.v (.int 1)))) (fMeth c.Growing "numbers" 1 (F_Growing_numbers c) (fVar 2) fNil)) (sDrop (fMeth c.Growing "take" 2 (F_Growing_take c) (fVar 2) (fCons (fBin ixM (fVar 4) (fC (.v (.int 1)))) fNil))) sNil))) (sApp 3 (fB lenM (fCons (fBin ixM (fMeth c.Growing "span" 1 (F_Growing_span c) (fVar 2) fNil) (fC (.v (.int 1)))) fNil))))) (fun ρ => (sRet (fB tupleM (fCons (fVar 3) fNil))) (frz 3 ρ)))))) 5
theorem has_points_through (hX : HasX P w K mg base G) (h_Growing___init__ : HasK P w K mg base G c.Growing 7 "Growing" ["self", "size"] [] (F_Growing___init__ c)) (h_is_deed : HasF P w K mg base G 5 "is_deed" ["value", "size"] [] F_is_deed) (h_Growing_put : HasM P w K mg base G c.Growing 9 "put" ["self", "wall"] [(1, ["wall"])] (F_Growing_put c)) (h_Growing_undo : HasM P w K mg base G c.Growing 8 "undo" ["self"] [] (F_Growing_undo c)) (h_Growing_numbers : HasM P w K mg base G c.Growing 1 "numbers" ["self"] [] (F_Growing_numbers c)) (h_Growing_take : HasM P w K mg base G c.Growing 9 "take" ["self", "number"] [(1, ["number"])] (F_Growing_take c)) (h_Growing_span : HasM P w K mg base G c.Growing 7 "span" ["self"] [] (F_Growing_span c)) (F : ∃ f fd, mg "points_through" = some (.ref f) ∧ FunD K "points_through" "points_through" (defArgs (top 33)) (defBody (top 33)) (defScope (top 33)) [] [] f fd ∧ ∃ cd Pt, fd.code = .ref cd ∧ GxR.TabB base mg cd Pt ∧ Pt ∈ G.T) : HasF P w K mg base G 11 "points_through" ["size", "deeds"] [(1, ["deeds"])] (F_points_through c) := by
  obtain ⟨f, fd, hm, F, cdA, Pt, hcA, TB, hP⟩ := F
  have hN : (["size", "deeds", "body", "found", "deed"] : List Str).Nodup := by decide
  refine HasF.of2 (N := ["size", "deeds", "body", "found", "deed"]) F hm (C8.fnScope_by (by decide +kernel)) (by decide) (fun kV doc pm an cdv ct us hl => match us, hl with | [u0, u1], _ => rfl) (fun p hp kV doc pm an cdv ct us ws h1 h2 => ?_) (fun cd A_ outer s H E hcd hr => ?_)
  · rcases (by simpa using hp : p = (1, [("deeds" : Str)])) with rfl
    · match us, ws, h1, h2 with | [u0], [w0], _, _ => rfl
  have HU : (cxF P w K mg base ["size", "deeds", "body", "found", "deed"] "points_through" (defScope (top 33)) f cd A_ outer s H E).A.units + 65 < cLine := by have := hr.un; omega
  have hcode : (cxF P w K mg base ["size", "deeds", "body", "found", "deed"] "points_through" (defScope (top 33)) f cd A_ outer s H E).env.code = .ref cdA := hcd.symm.trans hcA
  have v_body : (defScope (top 33)).names.lookup ("body" : Str) = some .local := by decide +kernel
  have v_deed : (defScope (top 33)).names.lookup ("deed" : Str) = some .local := by decide +kernel
  have v_deeds : (defScope (top 33)).names.lookup ("deeds" : Str) = some .local := by decide +kernel
  have v_found : (defScope (top 33)).names.lookup ("found" : Str) = some .local := by decide +kernel
  have v_size : (defScope (top 33)).names.lookup ("size" : Str) = some .cell := by decide +kernel
  have g_BadArgument : (defScope (top 33)).names.lookup ("BadArgument" : Str) = some .globalImplicit := by decide +kernel
  have g_Growing : (defScope (top 33)).names.lookup ("Growing" : Str) = some .globalImplicit := by decide +kernel
  have g_MOST_CHANGES : (defScope (top 33)).names.lookup ("MOST_CHANGES" : Str) = some .globalImplicit := by decide +kernel
  have g_all : (defScope (top 33)).names.lookup ("all" : Str) = some .globalImplicit := by decide +kernel
  have g_isinstance : (defScope (top 33)).names.lookup ("isinstance" : Str) = some .globalImplicit := by decide +kernel
  have g_len : (defScope (top 33)).names.lookup ("len" : Str) = some .globalImplicit := by decide +kernel
  have g_tuple : (defScope (top 33)).names.lookup ("tuple" : Str) = some .globalImplicit := by decide +kernel
  have hdot : (".0" : Str) ∉ (["size", "deeds", "body", "found", "deed"] : List Str) := by decide
  have hD : NoDbg (["size", "deeds", "body", "found", "deed"] : List Str) = true := by decide +kernel
  exact (pss_seq (psd_asg [2] (q_make "Growing" 7 c.Growing ["self", "size"] [] rfl h_Growing___init__ (by exact hr.mono (by decide)) g_Growing cx_passes (pda_cons (qv 0 hD rfl (.inr (.inl v_size))) pda_nil rfl) (by decide) rfl rfl) (pgd_name 2 hN rfl (.inl v_body) (.inl rfl) (by decide)) rfl rfl rfl)
  (pss_seq (psd_if (PW.pt (pdw_or (pdt_not (pdt_val (q_isi ty_tuple g_isinstance B.isinstance g_tuple B.tuple bb_tuple (qv 1 hD rfl (.inl v_deeds)) rfl) (fun _ => rfl))) (pdw_or (pdt_cmp op_gtM (q_callB cr_len g_len B.len bb_len (pda_cons (qv 1 hD rfl (.inl v_deeds)) pda_nil rfl) rfl rfl) (pd_gint g_MOST_CHANGES C.MOST_CHANGES (by decide)) rfl) (pdw_or1 (pdt_not (pdt_val (q_allG [("deed", 4)] rfl (by exact hr) rfl hN g_all B.all TB hP hcode (blkOk_by (by rfl)) (by decide) hdot rfl rfl (pid_tup (qv 1 hD rfl (.inl v_deeds))) (fun _ _ _ _ _ _ _ => (pgd_name 4 hN rfl (.inl rfl) (.inr rfl) (by decide))) (fun _ _ _ _ _ _ _ HR => (q_callP "is_deed" 5 ["value", "size"] [] rfl h_is_deed (by exact HR.mono (by decide)) (by exact rfl) passF (pda_cons (qv 4 hD rfl (.inl rfl)) (pda_cons (qv 0 hD rfl (.inr (.inr rfl))) pda_nil rfl) rfl) (by decide) rfl rfl)) (fun _ => rfl) rfl) (fun _ => rfl))))))) (pss_of (psd_raise hX (by exact hr.mono (by decide)) rfl cx_takes g_BadArgument pd_str rfl rfl)) pssd_nil)
  (pss_seq (psd_own 3 hN rfl (.inl v_found) pda_nil rfl (.inl rfl))
  (pss_seq (psd_for [4] cx_own rfl (pid_tup (qv 1 hD rfl (.inl v_deeds))) (pgd_name 4 hN rfl (.inl v_deed) (.inl rfl) (by decide))
  (pss_seq (psd_if (pdt_cmp (op_eqM (by exact HU)) (pd_ix (by exact HU) (qv 4 hD rfl (.inl v_deed)) pd_int (fun _ _ => rfl)) pd_str rfl) (pss_of (psd_drop (q_meth "put" 9 c.Growing ["self", "wall"] [(1, ["wall"])] rfl h_Growing_put (by exact hr.mono (by decide)) cx_passes (qv 2 hD rfl (.inl v_body)) (pda_cons (pd_ix (by exact HU) (qv 4 hD rfl (.inl v_deed)) pd_int (fun _ _ => rfl)) pda_nil rfl) rfl rfl rfl) rfl)) (pss_of (psd_if (pdt_cmp (op_eqM (by exact HU)) (pd_ix (by exact HU) (qv 4 hD rfl (.inl v_deed)) pd_int (fun _ _ => rfl)) pd_str rfl) (pss_of (psd_drop (q_meth0 "undo" 8 c.Growing ["self"] [] rfl h_Growing_undo (by exact hr.mono (by decide)) cx_passes (qv 2 hD rfl (.inl v_body)) rfl) rfl)) (pss_of (psd_if (pdt_cmp (op_inM (by exact HU)) (pd_ix (by exact HU) (qv 4 hD rfl (.inl v_deed)) pd_int (fun _ _ => rfl)) (q_meth0 "numbers" 1 c.Growing ["self"] [] rfl h_Growing_numbers (by exact hr.mono (by decide)) cx_passes (qv 2 hD rfl (.inl v_body)) rfl) rfl) (pss_of (psd_drop (q_meth "take" 9 c.Growing ["self", "number"] [(1, ["number"])] rfl h_Growing_take (by exact hr.mono (by decide)) cx_passes (qv 2 hD rfl (.inl v_body)) (pda_cons (pd_ix (by exact HU) (qv 4 hD rfl (.inl v_deed)) pd_int (fun _ _ => rfl)) pda_nil rfl) rfl rfl rfl) rfl)) pssd_nil)))))
  (pss_of (psd_app 3 rfl (.inl v_found) (q_callB cr_len g_len B.len bb_len (pda_cons (pd_ix (by exact HU) (q_meth0 "span" 7 c.Growing ["self"] [] rfl h_Growing_span (by exact hr.mono (by decide)) cx_passes (qv 2 hD rfl (.inl v_body)) rfl) pd_int (fun _ _ => rfl)) pda_nil rfl) rfl rfl)))) (fun _ => rfl))
  (pssd_frz 3 (pss_of (psd_ret (q_callTy cr_tuple g_tuple B.tuple bb_tuple (pda_cons (qv 3 hD rfl (.inl v_found)) pda_nil rfl) rfl rfl))))))))
def F_is_followed (c : Cs) : List MV → M MV := runB (sSeq (sIf (fNot (fTest (fIsC c.Growing (fVar 0)))) (sRaise (fC (.v (.str "body")))) sNil) (sRet (fBin eqM (fMeth c.Growing "span" 1 (F_Growing_span c) (fVar 0) fNil) (fCallP 1 (F_span_of c) (fCons (fMeth c.Growing "held" 1 (F_Growing_held c) (fVar 0) fNil) fNil))))) 1
theorem has_is_followed (hX : HasX P w K mg base G) (h_Growing_span : HasM P w K mg base G c.Growing 7 "span" ["self"] [] (F_Growing_span c)) (h_span_of : HasF P w K mg base G 7 "span_of" ["held"] [] (F_span_of c)) (h_Growing_held : HasM P w K mg base G c.Growing 1 "held" ["self"] [] (F_Growing_held c)) (F : ∃ f fd, mg "is_followed" = some (.ref f) ∧ FunD K "is_followed" "is_followed" (defArgs (top 34)) (defBody (top 34)) (defScope (top 34)) [] [] f fd) : HasF P w K mg base G 8 "is_followed" ["body"] [(0, ["body"])] (F_is_followed c) := by
  obtain ⟨f, fd, hm, F⟩ := F
  have hN : (["body"] : List Str).Nodup := by decide
  refine HasF.of2 (N := ["body"]) F hm (C8.fnScope_by (by decide +kernel)) (by decide) (fun kV doc pm an cdv ct us hl => match us, hl with | [u0], _ => rfl) (fun p hp kV doc pm an cdv ct us ws h1 h2 => ?_) (fun cd A_ outer s H E hcd hr => ?_)
  · rcases (by simpa using hp : p = (0, [("body" : Str)])) with rfl
    · match us, ws, h1, h2 with | [], [w0], _, _ => rfl
  have HU : (cxF P w K mg base ["body"] "is_followed" (defScope (top 34)) f cd A_ outer s H E).A.units + 65 < cLine := by have := hr.un; omega
  have v_body : (defScope (top 34)).names.lookup ("body" : Str) = some .local := by decide +kernel
  have g_BadArgument : (defScope (top 34)).names.lookup ("BadArgument" : Str) = some .globalImplicit := by decide +kernel
  have g_Growing : (defScope (top 34)).names.lookup ("Growing" : Str) = some .globalImplicit := by decide +kernel
  have g_isinstance : (defScope (top 34)).names.lookup ("isinstance" : Str) = some .globalImplicit := by decide +kernel
  have g_span_of : (defScope (top 34)).names.lookup ("span_of" : Str) = some .globalImplicit := by decide +kernel
  have hD : NoDbg (["body"] : List Str) = true := by decide +kernel
  exact (pss_seq (psd_if (pdt_not (pdt_val (pd_isC I.Growing g_isinstance B.isinstance g_Growing A.g_Growing (qv 0 hD rfl (.inl v_body)) (by decide) rfl rfl rfl) (fun _ => rfl))) (pss_of (psd_raise hX (by exact hr.mono (by decide)) rfl cx_takes g_BadArgument pd_str rfl rfl)) pssd_nil)
  (pss_of (psd_ret (pd_cmp (op_eqM (by exact HU)) (q_meth0 "span" 7 c.Growing ["self"] [] rfl h_Growing_span (by exact hr.mono (by decide)) cx_passes (qv 0 hD rfl (.inl v_body)) rfl) (q_callP "span_of" 7 ["held"] [] rfl h_span_of (by exact hr.mono (by decide)) g_span_of cx_passes (pda_cons (q_meth0 "held" 1 c.Growing ["self"] [] rfl h_Growing_held (by exact hr.mono (by decide)) cx_passes (qv 0 hD rfl (.inl v_body)) rfl) pda_nil rfl) (by decide) rfl rfl) rfl))))
def F__law_dice : List MV → M MV := runB (sSeq (sAsg (fIf (fCmpT ltM (fVar 1) (fB lenM (fCons (fVar 0) fNil))) (fBin ixM (fVar 0) (fVar 1)) (fBin addM (fBin mulM (fC (.v (.int 733))) (fVar 1)) (fC (.v (.int 29))))) (setN 2)) (sSeq (sAsg (fBin addM (fC (.v (.int 940031))) (fBin mulM (fC (.v (.int 7907))) (fVar 1))) (setN 3)) (sSeq (sFor (iSeqL (fBin addM (fSl (fVar 0) fNoPart (fPart (fC (.v (.int 6))))) (fLst (fCons (fVar 2) fNil)))) (setN 4) (sAsg (fBin modM (fB intM (fCons (fBin addM (fBin mulM (fVar 3) (fC (.v (.int 48271)))) (fBin modM (fB intM (fCons (fVar 4) fNil)) (fC (.v (.int 2147480009))))) fNil)) (fC (.v (.int 2147480009)))) (setN 3))) (sRet (fLstO (fCons (fIf (fOr (fCmpT ltM (fVar 2) (fC (.v (.int 0)))) (fCmpT geM (fVar 2) (fBin powM (fC (.v (.int 10))) (fC (.v (.int 16)))))) (fB absM (fCons (fVar 2) fNil)) (fC (.v (.int 0)))) (fCons (fVar 3) (fCons (fC (.v (.int 0))) fNil)))))))) 5
theorem has__law_dice (F : ∃ f fd, mg "_law_dice" = some (.ref f) ∧ FunD K "_law_dice" "_law_dice" (defArgs (top 36)) (defBody (top 36)) (defScope (top 36)) [] [] f fd) : HasF P w K mg base G 1 "_law_dice" ["script", "spot"] [] F__law_dice := by
  obtain ⟨f, fd, hm, F⟩ := F
  have hN : (["script", "spot", "own", "mixed", "cell"] : List Str).Nodup := by decide
  refine HasF.of2 (N := ["script", "spot", "own", "mixed", "cell"]) F hm (C8.fnScope_by (by decide +kernel)) (by decide) (fun kV doc pm an cdv ct us hl => match us, hl with | [u0, u1], _ => rfl) (fun p hp => nomatch hp) (fun cd A_ outer s H E hcd hr => ?_)
  have HU : (cxF P w K mg base ["script", "spot", "own", "mixed", "cell"] "_law_dice" (defScope (top 36)) f cd A_ outer s H E).A.units + 65 < cLine := by have := hr.un; omega
  have v_cell : (defScope (top 36)).names.lookup ("cell" : Str) = some .local := by decide +kernel
  have v_mixed : (defScope (top 36)).names.lookup ("mixed" : Str) = some .local := by decide +kernel
  have v_own : (defScope (top 36)).names.lookup ("own" : Str) = some .local := by decide +kernel
  have v_script : (defScope (top 36)).names.lookup ("script" : Str) = some .local := by decide +kernel
  have v_spot : (defScope (top 36)).names.lookup ("spot" : Str) = some .local := by decide +kernel
  have g_abs : (defScope (top 36)).names.lookup ("abs" : Str) = some .globalImplicit := by decide +kernel
  have g_int : (defScope (top 36)).names.lookup ("int" : Str) = some .globalImplicit := by decide +kernel
  have g_len : (defScope (top 36)).names.lookup ("len" : Str) = some .globalImplicit := by decide +kernel
  have hD : NoDbg (["script", "spot", "own", "mixed", "cell"] : List Str) = true := by decide +kernel
  exact (pss_seq (psd_asg [2] (pd_if (pdt_cmp op_ltM (qv 1 hD rfl (.inl v_spot)) (q_callB cr_len g_len B.len bb_len (pda_cons (qv 0 hD rfl (.inl v_script)) pda_nil rfl) rfl rfl) rfl) (pd_ix (by exact HU) (qv 0 hD rfl (.inl v_script)) (qv 1 hD rfl (.inl v_spot)) (fun _ _ => rfl)) (pd_bin op_addM (pd_bin op_mulM pd_int (qv 1 hD rfl (.inl v_spot))) pd_int)) (pgd_name 2 hN rfl (.inl v_own) (.inl rfl) (by decide)) rfl rfl rfl)
  (pss_seq (psd_asg [3] (pd_bin op_addM pd_int (pd_bin op_mulM pd_int (qv 1 hD rfl (.inl v_spot)))) (pgd_name 3 hN rfl (.inl v_mixed) (.inl rfl) (by decide)) rfl rfl rfl)
  (pss_seq (psd_for [4] cx_own rfl (pid_list (pd_bin op_addM (pd_sl (qv 0 hD rfl (.inl v_script)) pdo_none (pdo_some pd_int)) (pd_lst (pda_cons (qv 2 hD rfl (.inl v_own)) pda_nil rfl)))) (pgd_name 4 hN rfl (.inl v_cell) (.inl rfl) (by decide))
  (pss_of (psd_asg [3] (pd_bin op_modM (q_callTy cr_int g_int B.int bb_int (pda_cons (pd_bin op_addM (pd_bin op_mulM (qv 3 hD rfl (.inl v_mixed)) pd_int) (pd_bin op_modM (q_callTy cr_int g_int B.int bb_int (pda_cons (qv 4 hD rfl (.inl v_cell)) pda_nil rfl) rfl rfl) pd_int)) pda_nil rfl) rfl rfl) pd_int) (pgd_name 3 hN rfl (.inl v_mixed) (.inl rfl) (by decide)) rfl rfl rfl)) (fun _ => rfl))
  (pss_of (psd_ret (pd_lstO (pda_cons (pd_if (PW.pt (pdw_or (pdt_cmp op_ltM (qv 2 hD rfl (.inl v_own)) pd_int rfl) (pdw_or1 (pdt_cmp op_geM (qv 2 hD rfl (.inl v_own)) (pd_bin op_powM pd_int pd_int) rfl)))) (q_callB cr_abs g_abs B.abs bb_abs (pda_cons (qv 2 hD rfl (.inl v_own)) pda_nil rfl) rfl rfl) pd_int) (pda_cons (qv 3 hD rfl (.inl v_mixed)) (pda_cons pd_int pda_nil rfl) rfl) rfl)))))))
def F__law_roll : List MV → M MV := runB (sSeq (sIf (fCmpT gtM (fBin ixM (fVar 0) (fC (.v (.int 0)))) (fC (.v (.int 0)))) (sSeq (sAsg (fBin modM (fB intM (fCons (fBin ixM (fVar 0) (fC (.v (.int 0)))) fNil)) (fVar 1)) (setN 2)) (sSeq (sPutL (fVar 0) (fC (.v (.int 0))) (fBin fdivM (fBin ixM (fVar 0) (fC (.v (.int 0)))) (fVar 1))) (sRet (fVar 2)))) sNil) (sSeq (sPutL (fVar 0) (fC (.v (.int 2))) (fBin addM (fBin ixM (fVar 0) (fC (.v (.int 2)))) (fC (.v (.int 1))))) (sSeq (sPutL (fVar 0) (fC (.v (.int 1))) (fBin modM (fB intM (fCons (fBin addM (fBin addM (fBin mulM (fBin ixM (fVar 0) (fC (.v (.int 1)))) (fC (.v (.int 52501)))) (fBin mulM (fBin mulM (fBin ixM (fVar 0) (fC (.v (.int 2)))) (fBin ixM (fVar 0) (fC (.v (.int 2))))) (fC (.v (.int 1009))))) (fC (.v (.int 77)))) fNil)) (fC (.v (.int 2147480009))))) (sRet (fBin modM (fB intM (fCons (fBin fdivM (fBin ixM (fVar 0) (fC (.v (.int 1)))) (fC (.v (.int 211)))) fNil)) (fVar 1)))))) 3
theorem has__law_roll (F : ∃ f fd, mg "_law_roll" = some (.ref f) ∧ FunD K "_law_roll" "_law_roll" (defArgs (top 37)) (defBody (top 37)) (defScope (top 37)) [] [] f fd) : HasF P w K mg base G 1 "_law_roll" ["dice", "many"] [] F__law_roll := by
  obtain ⟨f, fd, hm, F⟩ := F
  have hN : (["dice", "many", "found"] : List Str).Nodup := by decide
  refine HasF.of2 (N := ["dice", "many", "found"]) F hm (C8.fnScope_by (by decide +kernel)) (by decide) (fun kV doc pm an cdv ct us hl => match us, hl with | [u0, u1], _ => rfl) (fun p hp => nomatch hp) (fun cd A_ outer s H E hcd hr => ?_)
  have HU : (cxF P w K mg base ["dice", "many", "found"] "_law_roll" (defScope (top 37)) f cd A_ outer s H E).A.units + 65 < cLine := by have := hr.un; omega
  have v_dice : (defScope (top 37)).names.lookup ("dice" : Str) = some .local := by decide +kernel
  have v_found : (defScope (top 37)).names.lookup ("found" : Str) = some .local := by decide +kernel
  have v_many : (defScope (top 37)).names.lookup ("many" : Str) = some .local := by decide +kernel
  have g_int : (defScope (top 37)).names.lookup ("int" : Str) = some .globalImplicit := by decide +kernel
  have hD : NoDbg (["dice", "many", "found"] : List Str) = true := by decide +kernel
  exact (pss_seq (psd_if (pdt_cmp op_gtM (pd_ix (by exact HU) (qv 0 hD rfl (.inl v_dice)) pd_int (fun _ _ => rfl)) pd_int rfl) (pss_seq (psd_asg [2] (pd_bin op_modM (q_callTy cr_int g_int B.int bb_int (pda_cons (pd_ix (by exact HU) (qv 0 hD rfl (.inl v_dice)) pd_int (fun _ _ => rfl)) pda_nil rfl) rfl rfl) (qv 1 hD rfl (.inl v_many))) (pgd_name 2 hN rfl (.inl v_found) (.inl rfl) (by decide)) rfl rfl rfl)
  (pss_seq (psd_putL (qv 0 hD rfl (.inl v_dice)) pd_int (pd_bin op_fdivM (pd_ix (by exact HU) (qv 0 hD rfl (.inl v_dice)) pd_int (fun _ _ => rfl)) (qv 1 hD rfl (.inl v_many))) rfl rfl rfl (fun _ => rfl))
  (pss_of (psd_ret (qv 2 hD rfl (.inl v_found)))))) pssd_nil)
  (pss_seq (psd_putL (qv 0 hD rfl (.inl v_dice)) pd_int (pd_bin op_addM (pd_ix (by exact HU) (qv 0 hD rfl (.inl v_dice)) pd_int (fun _ _ => rfl)) pd_int) rfl rfl rfl (fun _ => rfl))
  (pss_seq (psd_putL (qv 0 hD rfl (.inl v_dice)) pd_int (pd_bin op_modM (q_callTy cr_int g_int B.int bb_int (pda_cons (pd_bin op_addM (pd_bin op_addM (pd_bin op_mulM (pd_ix (by exact HU) (qv 0 hD rfl (.inl v_dice)) pd_int (fun _ _ => rfl)) pd_int) (pd_bin op_mulM (pd_bin op_mulM (pd_ix (by exact HU) (qv 0 hD rfl (.inl v_dice)) pd_int (fun _ _ => rfl)) (pd_ix (by exact HU) (qv 0 hD rfl (.inl v_dice)) pd_int (fun _ _ => rfl))) pd_int)) pd_int) pda_nil rfl) rfl rfl) pd_int) rfl rfl rfl (fun _ => rfl))
  (pss_of (psd_ret (pd_bin op_modM (q_callTy cr_int g_int B.int bb_int (pda_cons (pd_bin op_fdivM (pd_ix (by exact HU) (qv 0 hD rfl (.inl v_dice)) pd_int (fun _ _ => rfl)) pd_int) pda_nil rfl) rfl rfl) (qv 1 hD rfl (.inl v_many))))))))
def F__law_pick : List MV → M MV := runB (sRet (fBin ixM (fVar 1) (fCallS 2 F__law_roll (fCons (fVar 0) (fCons (fB lenM (fCons (fVar 1) fNil)) fNil))))) 2
theorem has__law_pick (h__law_roll : HasF P w K mg base G 1 "_law_roll" ["dice", "many"] [] F__law_roll) (F : ∃ f fd, mg "_law_pick" = some (.ref f) ∧ FunD K "_law_pick" "_law_pick" (defArgs (top 38)) (defBody (top 38)) (defScope (top 38)) [] [] f fd) : HasF P w K mg base G 2 "_law_pick" ["dice", "things"] [] F__law_pick := by
  obtain ⟨f, fd, hm, F⟩ := F
  have hN : (["dice", "things"] : List Str).Nodup := by decide
  refine HasF.of2 (N := ["dice", "things"]) F hm (C8.fnScope_by (by decide +kernel)) (by decide) (fun kV doc pm an cdv ct us hl => match us, hl with | [u0, u1], _ => rfl) (fun p hp => nomatch hp) (fun cd A_ outer s H E hcd hr => ?_)
  have HU : (cxF P w K mg base ["dice", "things"] "_law_pick" (defScope (top 38)) f cd A_ outer s H E).A.units + 65 < cLine := by have := hr.un; omega
  have v_dice : (defScope (top 38)).names.lookup ("dice" : Str) = some .local := by decide +kernel
  have v_things : (defScope (top 38)).names.lookup ("things" : Str) = some .local := by decide +kernel
  have g__law_roll : (defScope (top 38)).names.lookup ("_law_roll" : Str) = some .globalImplicit := by decide +kernel
  have g_len : (defScope (top 38)).names.lookup ("len" : Str) = some .globalImplicit := by decide +kernel
  have hD : NoDbg (["dice", "things"] : List Str) = true := by decide +kernel
  exact (pss_of (psd_ret (pd_ix (by exact HU) (qv 1 hD rfl (.inl v_things)) (q_callS "_law_roll" 1 ["dice", "many"] [] rfl h__law_roll (by exact hr.mono (by decide)) g__law_roll cx_passes (pda_cons (qv 0 hD rfl (.inl v_dice)) (pda_cons (q_callB cr_len g_len B.len bb_len (pda_cons (qv 1 hD rfl (.inl v_things)) pda_nil rfl) rfl rfl) pda_nil rfl) rfl) (by decide) rfl rfl) (fun _ _ => rfl))))
def F__law_row : List MV → M MV := runB (sRet (fB tupleM (fCons (fLc [3] (iRange1 (fVar 1)) (setN 3) fYes (fBin subM (fCallS 2 F__law_roll (fCons (fVar 0) (fCons (fBin addM (fBin mulM (fC (.v (.int 2))) (fVar 2)) (fC (.v (.int 1)))) fNil))) (fVar 2))) fNil))) 4
theorem has__law_row (h__law_roll : HasF P w K mg base G 1 "_law_roll" ["dice", "many"] [] F__law_roll) (F : ∃ f fd, mg "_law_row" = some (.ref f) ∧ FunD K "_law_row" "_law_row" (defArgs (top 40)) (defBody (top 40)) (defScope (top 40)) [] [] f fd) : HasF P w K mg base G 2 "_law_row" ["dice", "size", "most"] [] F__law_row := by
  obtain ⟨f, fd, hm, F⟩ := F
  have hN : (["dice", "size", "most", "at"] : List Str).Nodup := by decide
  refine HasF.of2 (N := ["dice", "size", "most", "at"]) F hm (C8.fnScope_by (by decide +kernel)) (by decide) (fun kV doc pm an cdv ct us hl => match us, hl with | [u0, u1, u2], _ => rfl) (fun p hp => nomatch hp) (fun cd A_ outer s H E hcd hr => ?_)
  have HU : (cxF P w K mg base ["dice", "size", "most", "at"] "_law_row" (defScope (top 40)) f cd A_ outer s H E).A.units + 65 < cLine := by have := hr.un; omega
  have v_size : (defScope (top 40)).names.lookup ("size" : Str) = some .local := by decide +kernel
  have g_range : (defScope (top 40)).names.lookup ("range" : Str) = some .globalImplicit := by decide +kernel
  have g_tuple : (defScope (top 40)).names.lookup ("tuple" : Str) = some .globalImplicit := by decide +kernel
  have hD : NoDbg (["dice", "size", "most", "at"] : List Str) = true := by decide +kernel
  exact (pss_of (psd_ret (q_callTy cr_tuple g_tuple B.tuple bb_tuple (pda_cons (q_lc [("at", 3)] rfl rfl hN (pid_range1 g_range B.range (qv 1 hD rfl (.inl v_size)) rfl rfl) (blkOk_by (by rfl)) (fun _ _ _ _ _ => (pgd_name 3 hN rfl (.inl rfl) (.inr rfl) (by decide))) (fun _ _ _ _ _ => ptsd_nil)
  (fun _ _ _ _ _ => (pd_bin op_subM (q_callS "_law_roll" 1 ["dice", "many"] [] rfl h__law_roll (by exact hr.mono (by decide)) (by exact rfl) passF (pda_cons (qv 0 hD rfl (.inr (.inl rfl))) (pda_cons (pd_bin op_addM (pd_bin op_mulM pd_int (qv 2 hD rfl (.inr (.inl rfl)))) pd_int) pda_nil rfl) rfl) (by decide) rfl rfl) (qv 2 hD rfl (.inr (.inl rfl))))) (fun _ => rfl)) pda_nil rfl) rfl rfl)))
def F__law_unit : List MV → M MV := runB (sRet (fB tupleM (fCons (fLc [2] (iRange1 (fVar 0)) (setN 2) fYes (fIf (fCmpT eqM (fVar 1) (fVar 2)) (fC (.v (.int 1))) (fC (.v (.int 0))))) fNil))) 3
theorem has__law_unit (F : ∃ f fd, mg "_law_unit" = some (.ref f) ∧ FunD K "_law_unit" "_law_unit" (defArgs (top 41)) (defBody (top 41)) (defScope (top 41)) [] [] f fd) : HasF P w K mg base G 1 "_law_unit" ["size", "at"] [] F__law_unit := by
  obtain ⟨f, fd, hm, F⟩ := F
  have hN : (["size", "at", "place"] : List Str).Nodup := by decide
  refine HasF.of2 (N := ["size", "at", "place"]) F hm (C8.fnScope_by (by decide +kernel)) (by decide) (fun kV doc pm an cdv ct us hl => match us, hl with | [u0, u1], _ => rfl) (fun p hp => nomatch hp) (fun cd A_ outer s H E hcd hr => ?_)
  have HU : (cxF P w K mg base ["size", "at", "place"] "_law_unit" (defScope (top 41)) f cd A_ outer s H E).A.units + 65 < cLine := by have := hr.un; omega
  have v_size : (defScope (top 41)).names.lookup ("size" : Str) = some .local := by decide +kernel
  have g_range : (defScope (top 41)).names.lookup ("range" : Str) = some .globalImplicit := by decide +kernel
  have g_tuple : (defScope (top 41)).names.lookup ("tuple" : Str) = some .globalImplicit := by decide +kernel
  have hD : NoDbg (["size", "at", "place"] : List Str) = true := by decide +kernel
  exact (pss_of (psd_ret (q_callTy cr_tuple g_tuple B.tuple bb_tuple (pda_cons (q_lc [("place", 2)] rfl rfl hN (pid_range1 g_range B.range (qv 0 hD rfl (.inl v_size)) rfl rfl) (blkOk_by (by rfl)) (fun _ _ _ _ _ => (pgd_name 2 hN rfl (.inl rfl) (.inr rfl) (by decide))) (fun _ _ _ _ _ => ptsd_nil)
  (fun _ _ _ _ _ => (pd_if (pdt_cmp (op_eqM (by exact HU)) (qv 1 hD rfl (.inr (.inl rfl))) (qv 2 hD rfl (.inl rfl)) rfl) pd_int pd_int)) (fun _ => rfl)) pda_nil rfl) rfl rfl)))
def F__law_right (c : Cs) : List MV → M MV := runB (sSeq (sAsg (fBin addM (fC (.v (.int 1))) (fCallS 2 F__law_roll (fCons (fVar 0) (fCons (fC (.v (.int 3))) fNil)))) (setN 1)) (sSeq (sAsg (fTup (fCons (fMake c.Growing 2 (F_Growing___init__ c) (fCons (fVar 1) fNil)) (fCons fNewD (fCons (fLst fNil) (fCons (fC (.v (.int 0))) (fCons (fLstO fNil) (fCons (fLstO fNil) fNil))))))) (setTup 6 (setCons (setN 2) (setCons (setN 3) (setCons (setN 4) (setCons (setN 5) (setCons (setN 6) (setCons (setN 7) setNil)))))))) (sSeq (sFor (iRange1 (fCallS 2 F__law_roll (fCons (fVar 0) (fCons (fC (.v (.int 12))) fNil)))) (setN 8) (sSeq (sAsg (fTup (fCons (fCallP 1 (F_corners c) (fCons (fTup (fCons (fVar 1) (fCons (fB tupleM (fCons (fLc [19] (iSeqL (fB sortedM (fCons (fVar 3) fNil))) (setN 19) fYes (fBin ixM (fVar 3) (fVar 19))) fNil)) (fCons (fTup fNil) fNil)))) fNil)) (fCons (fCallS 2 F__law_roll (fCons (fVar 0) (fCons (fC (.v (.int 6))) fNil))) fNil))) (setTup 2 (setCons (setN 9) (setCons (setN 10) setNil)))) (sSeq (sIf (fCmpT ltM (fVar 10) (fC (.v (.int 4)))) (sSeq (sAsg (fCallS 2 F__law_pick (fCons (fVar 0) (fCons (fLst (fCons (fTup (fCons (fCallS 3 F__law_row (fCons (fVar 0) (fCons (fVar 1) (fCons (fC (.v (.int 2))) fNil)))) (fCons (fBin subM (fCallS 2 F__law_roll (fCons (fVar 0) (fCons (fC (.v (.int 6))) fNil))) (fC (.v (.int 1)))) fNil))) (fCons (fTup (fCons (fCallP 2 F__law_unit (fCons (fVar 1) (fCons (fCallS 2 F__law_roll (fCons (fVar 0) (fCons (fVar 1) fNil))) fNil))) (fCons (fC (.v (.int 2))) fNil))) fNil))) fNil))) (setN 11)) (sSeq (sPar 5 4 (fCons (fBin addM (fVar 5) (fC (.v (.int 1)))) (fCons (fBin addM (fVar 4) (fLst (fCons (fVar 3) fNil))) fNil))) (sSeq (sAsg (fDictO (fCons (fVar 3) fNil)) (setN 3)) (sSeq (sPutD (fVar 3) (fVar 5) (fVar 11)) (sSeq (sPar 12 13 (fCons (fTup (fCons (fC (.v (.str "put"))) (fCons (fVar 11) fNil))) (fCons (fMeth c.Growing "put" 2 (F_Growing_put c) (fVar 2) (fLen 1 (fCons (fVar 11) fNil))) fNil))) (sIf (fCmpT neM (fBin ixM (fVar 13) (fC (.v (.int 0)))) (fVar 5)) (sRet (fC (.v (.bl false)))) sNil)))))) (sIf (fAnd (fCmpT eqM (fVar 10) (fC (.v (.int 4)))) (fCmpT gtM (fB lenM (fCons (fVar 3) fNil)) (fC (.v (.int 0))))) (sSeq (sAsg (fCallS 2 F__law_pick (fCons (fVar 0) (fCons (fB sortedM (fCons (fVar 3) fNil)) fNil))) (setN 14)) (sSeq (sAsg (fBin addM (fVar 4) (fLst (fCons (fVar 3) fNil))) (setN 4)) (sSeq (sAsg (fDictO (fCons (fLockE (fVar 3) (fLc [19] (iKeyO (fVar 3)) (setN 19) (fCmpT neM (fVar 19) (fVar 14)) (fTup (fCons (fVar 19) (fCons (fBin ixM (fVar 3) (fVar 19)) fNil))))) fNil)) (setN 3)) (sPar 12 13 (fCons (fTup (fCons (fC (.v (.str "take"))) (fCons (fVar 14) fNil))) (fCons (fBin addM (fTup (fCons (fC (.v (.int 0))) fNil)) (fMeth c.Growing "take" 2 (F_Growing_take c) (fVar 2) (fLen 1 (fCons (fVar 14) fNil)))) fNil)))))) (sSeq (sAsg (fTup (fCons (fTup (fCons (fC (.v (.str "undo"))) fNil)) (fCons (fC (.v .non)) fNil))) (setTup 2 (setCons (setN 12) (setCons (setN 13) setNil)))) (sSeq (sIf (fCmpT neM (fMeth c.Growing "undo" 1 (F_Growing_undo c) (fVar 2) fNil) (fBin gtM (fB lenM (fCons (fVar 4) fNil)) (fC (.v (.int 0))))) (sRet (fC (.v (.bl false)))) sNil) (sIf (fCmpT gtM (fB lenM (fCons (fVar 4) fNil)) (fC (.v (.int 0)))) (sSeq (sAsg (fBin ixM (fVar 4) (fUn negM (fC (.v (.int 1))))) (setN 3)) (sAsg (fSl (fVar 4) fNoPart (fPart (fUn negM (fC (.v (.int 1)))))) (setN 4))) sNil))))) (sSeq (sAsg (fTup (fCons (fVar 1) (fCons (fB tupleM (fCons (fLc [19] (iSeqL (fB sortedM (fCons (fVar 3) fNil))) (setN 19) fYes (fBin ixM (fVar 3) (fVar 19))) fNil)) (fCons (fTup fNil) fNil)))) (setN 15)) (sSeq (sAsg (fCallP 1 (F_corners c) (fCons (fVar 15) fNil)) (setN 16)) (sSeq (sIf (fOr (fCmpT neM (fMeth c.Growing "held" 1 (F_Growing_held c) (fVar 2) fNil) (fVar 15)) (fOr (fCmpT neM (fMeth c.Growing "span" 1 (F_Growing_span c) (fVar 2) fNil) (fVar 16)) (fOr (fNot (fTest (fCallS 1 (F_is_followed c) (fKw 0 1 fNil (fCons (fVar 2) fNil))))) (fCmpT neM (fMeth c.Growing "numbers" 1 (F_Growing_numbers c) (fVar 2) fNil) (fB tupleM (fCons (fB sortedM (fCons (fVar 3) fNil)) fNil)))))) (sRet (fC (.v (.bl false)))) sNil) (sSeq (sAsg (fB tupleM (fCons (fLc [20] (iSeqT (fBin ixM (fVar 16) (fC (.v (.int 1))))) (setN 20) (fCmpT notInM (fVar 20) (fBin ixM (fVar 9) (fC (.v (.int 1))))) (fVar 20)) fNil)) (setN 17)) (sSeq (sIf (fAnd (fCmpT (isNM true) (fVar 13) (fC (.v .non))) (fCmpT neM (fSl (fVar 13) (fPart (fC (.v (.int 1)))) fNoPart) (fTup (fCons (fVar 17) (fCons (fB tupleM (fCons (fLc [20] (iSeqT (fBin ixM (fVar 9) (fC (.v (.int 1))))) (setN 20) (fCmpT notInM (fVar 20) (fBin ixM (fVar 16) (fC (.v (.int 1))))) (fVar 20)) fNil)) fNil))))) (sRet (fC (.v (.bl false)))) sNil) (sSeq (sApO (fVar 6) (fVar 12)) (sApO (fVar 7) (fB lenM (fCons (fBin ixM (fVar 16) (fC (.v (.int 1)))) fNil)))))))))))) (sSeq (sIf (fCmpT neM (fCallP 2 (F_points_through c) (fKw 1 1 (fCons (fVar 1) fNil) (fCons (fB tupleM (fCons (fVar 6) fNil)) fNil))) (fB tupleM (fCons (fVar 7) fNil))) (sRet (fC (.v (.bl false)))) sNil) (sSeq (sAsg (fLst (fCons (fRef (fMake c.Growing 2 (F_Growing___init__ c) (fCons (fC (.v (.int 5))) fNil))) (fCons (fRef (fMeth c.Growing "put" 2 (F_Growing_put c) (fVar 2) (fCons (fC (.v .non)) fNil))) (fCons (fRef (fMeth c.Growing "put" 2 (F_Growing_put c) (fVar 2) (fCons (fTup (fCons (fBin mulM (fTup (fCons (fC (.v (.int 0))) fNil)) (fBin addM (fVar 1) (fC (.v (.int 1))))) (fCons (fC (.v (.int 1))) fNil))) fNil))) (fCons (fRef (fMeth c.Growing "take" 2 (F_Growing_take c) (fVar 2) (fCons (fC (.v (.int 0))) fNil))) (fCons (fRef (fCallP 2 (F_points_through c) (fCons (fC (.v (.int 0))) (fCons (fC (.v .non)) fNil)))) (fCons (fRef (fCallP 2 (F_points_through c) (fCons (fVar 1) (fCons (fTup (fCons (fTup (fCons (fC (.v (.str "put"))) fNil)) fNil)) fNil)))) (fCons (fRef (fCallP 2 (F_points_through c) (fCons (fVar 1) (fCons (fLst (fCons (fTup (fCons (fC (.v (.str "undo"))) fNil)) fNil)) fNil)))) (fCons (fRef (fCallS 1 (F_is_followed c) (fCons (fC (.v .non)) fNil))) fNil))))))))) (setN 18)) (sRet (fBin eqM (fVar 18) (fLst (fCons (fC (.v (.str "size"))) (fCons (fC (.v (.str "wall"))) (fCons (fC (.v (.str "wall"))) (fCons (fC (.v (.str "number"))) (fCons (fC (.v (.str "size"))) (fCons (fC (.v (.str "deeds"))) (fCons (fC (.v (.str "deeds"))) (fCons (fC (.v (.str "body"))) fNil)))))))))))))))) 21
theorem has__law_right (hRef : HasR P w K mg "_law_refused" G.cb) (h__law_roll : HasF P w K mg base G 1 "_law_roll" ["dice", "many"] [] F__law_roll) (h_Growing___init__ : HasK P w K mg base G c.Growing 7 "Growing" ["self", "size"] [] (F_Growing___init__ c)) (h_corners : HasF P w K mg base G 8 "corners" ["held"] [] (F_corners c)) (h__law_pick : HasF P w K mg base G 2 "_law_pick" ["dice", "things"] [] F__law_pick) (h__law_unit : HasF P w K mg base G 1 "_law_unit" ["size", "at"] [] F__law_unit) (h__law_row : HasF P w K mg base G 2 "_law_row" ["dice", "size", "most"] [] F__law_row) (h_Growing_put : HasM P w K mg base G c.Growing 9 "put" ["self", "wall"] [(1, ["wall"])] (F_Growing_put c)) (h_Growing_take : HasM P w K mg base G c.Growing 9 "take" ["self", "number"] [(1, ["number"])] (F_Growing_take c)) (h_Growing_undo : HasM P w K mg base G c.Growing 8 "undo" ["self"] [] (F_Growing_undo c)) (h_Growing_held : HasM P w K mg base G c.Growing 1 "held" ["self"] [] (F_Growing_held c)) (h_Growing_span : HasM P w K mg base G c.Growing 7 "span" ["self"] [] (F_Growing_span c)) (h_is_followed : HasF P w K mg base G 8 "is_followed" ["body"] [(0, ["body"])] (F_is_followed c)) (h_Growing_numbers : HasM P w K mg base G c.Growing 1 "numbers" ["self"] [] (F_Growing_numbers c)) (h_points_through : HasF P w K mg base G 11 "points_through" ["size", "deeds"] [(1, ["deeds"])] (F_points_through c)) (F : ∃ f fd, mg "_law_right" = some (.ref f) ∧ FunD K "_law_right" "_law_right" (defArgs (top 42)) (defBody (top 42)) (defScope (top 42)) [] [] f fd ∧ ∃ cd Pt, fd.code = .ref cd ∧ GxR.TabB base mg cd Pt ∧ (Pt, ("_law_right.<locals>.<lambda>" : Str)) ∈ lamT ∧ ∀ p ∈ lamT, p.1 = Pt → p.2 = "_law_right.<locals>.<lambda>") : HasF P w K mg base G 14 "_law_right" ["dice"] [] (F__law_right c) := by
  obtain ⟨f, fd, hm, F, cdA, Pt, hcA, TB, hmT, huT⟩ := F
  have hN : (["dice", "size", "body", "table", "earlier", "last", "deeds", "counts", "turn", "before", "kind", "wall", "deed", "told", "number", "held", "span", "came", "names", "own", "point"] : List Str).Nodup := by decide
  refine HasF.of2 (N := ["dice", "size", "body", "table", "earlier", "last", "deeds", "counts", "turn", "before", "kind", "wall", "deed", "told", "number", "held", "span", "came", "names", "own", "point"]) F hm (C8.fnScope_by (by decide +kernel)) (by decide) (fun kV doc pm an cdv ct us hl => match us, hl with | [u0], _ => rfl) (fun p hp => nomatch hp) (fun cd A_ outer s H E hcd hr => ?_)
  have HU : (cxF P w K mg base ["dice", "size", "body", "table", "earlier", "last", "deeds", "counts", "turn", "before", "kind", "wall", "deed", "told", "number", "held", "span", "came", "names", "own", "point"] "_law_right" (defScope (top 42)) f cd A_ outer s H E).A.units + 65 < cLine := by have := hr.un; omega
  have hcode : (cxF P w K mg base ["dice", "size", "body", "table", "earlier", "last", "deeds", "counts", "turn", "before", "kind", "wall", "deed", "told", "number", "held", "span", "came", "names", "own", "point"] "_law_right" (defScope (top 42)) f cd A_ outer s H E).env.code = .ref cdA := hcd.symm.trans hcA
  have hqT : (cxF P w K mg base ["dice", "size", "body", "table", "earlier", "last", "deeds", "counts", "turn", "before", "kind", "wall", "deed", "told", "number", "held", "span", "came", "names", "own", "point"] "_law_right" (defScope (top 42)) f cd A_ outer s H E).env.qual ++ ("<lambda>" : Str) = ("_law_right.<locals>.<lambda>" : Str) := by kernel_rfl
  have v_before : (defScope (top 42)).names.lookup ("before" : Str) = some .cell := by decide +kernel
  have v_body : (defScope (top 42)).names.lookup ("body" : Str) = some .cell := by decide +kernel
  have v_came : (defScope (top 42)).names.lookup ("came" : Str) = some .local := by decide +kernel
  have v_counts : (defScope (top 42)).names.lookup ("counts" : Str) = some .local := by decide +kernel
  have v_deed : (defScope (top 42)).names.lookup ("deed" : Str) = some .local := by decide +kernel
  have v_deeds : (defScope (top 42)).names.lookup ("deeds" : Str) = some .local := by decide +kernel
  have v_dice : (defScope (top 42)).names.lookup ("dice" : Str) = some .local := by decide +kernel
  have v_earlier : (defScope (top 42)).names.lookup ("earlier" : Str) = some .local := by decide +kernel
  have v_held : (defScope (top 42)).names.lookup ("held" : Str) = some .local := by decide +kernel
  have v_kind : (defScope (top 42)).names.lookup ("kind" : Str) = some .local := by decide +kernel
  have v_last : (defScope (top 42)).names.lookup ("last" : Str) = some .local := by decide +kernel
  have v_names : (defScope (top 42)).names.lookup ("names" : Str) = some .local := by decide +kernel
  have v_number : (defScope (top 42)).names.lookup ("number" : Str) = some .cell := by decide +kernel
  have v_size : (defScope (top 42)).names.lookup ("size" : Str) = some .cell := by decide +kernel
  have v_span : (defScope (top 42)).names.lookup ("span" : Str) = some .cell := by decide +kernel
  have v_table : (defScope (top 42)).names.lookup ("table" : Str) = some .cell := by decide +kernel
  have v_told : (defScope (top 42)).names.lookup ("told" : Str) = some .local := by decide +kernel
  have v_turn : (defScope (top 42)).names.lookup ("turn" : Str) = some .local := by decide +kernel
  have v_wall : (defScope (top 42)).names.lookup ("wall" : Str) = some .local := by decide +kernel
  have g_Growing : (defScope (top 42)).names.lookup ("Growing" : Str) = some .globalImplicit := by decide +kernel
  have g__law_pick : (defScope (top 42)).names.lookup ("_law_pick" : Str) = some .globalImplicit := by decide +kernel
  have g__law_refused : (defScope (top 42)).names.lookup ("_law_refused" : Str) = some .globalImplicit := by decide +kernel
  have g__law_roll : (defScope (top 42)).names.lookup ("_law_roll" : Str) = some .globalImplicit := by decide +kernel
  have g__law_row : (defScope (top 42)).names.lookup ("_law_row" : Str) = some .globalImplicit := by decide +kernel
  have g__law_unit : (defScope (top 42)).names.lookup ("_law_unit" : Str) = some .globalImplicit := by decide +kernel
  have g_corners : (defScope (top 42)).names.lookup ("corners" : Str) = some .globalImplicit := by decide +kernel
  have g_dict : (defScope (top 42)).names.lookup ("dict" : Str) = some .globalImplicit := by decide +kernel
  have g_is_followed : (defScope (top 42)).names.lookup ("is_followed" : Str) = some .globalImplicit := by decide +kernel
  have g_len : (defScope (top 42)).names.lookup ("len" : Str) = some .globalImplicit := by decide +kernel
  have g_points_through : (defScope (top 42)).names.lookup ("points_through" : Str) = some .globalImplicit := by decide +kernel
  have g_range : (defScope (top 42)).names.lookup ("range" : Str) = some .globalImplicit := by decide +kernel
  have g_sorted : (defScope (top 42)).names.lookup ("sorted" : Str) = some .globalImplicit := by decide +kernel
  have g_tuple : (defScope (top 42)).names.lookup ("tuple" : Str) = some .globalImplicit := by decide +kernel
  have hD : NoDbg (["dice", "size", "body", "table", "earlier", "last", "deeds", "counts", "turn", "before", "kind", "wall", "deed", "told", "number", "held", "span", "came", "names", "own", "point"] : List Str) = true := by decide +kernel
  exact (pss_seq (psd_asg [1] (pd_bin op_addM pd_int (q_callS "_law_roll" 1 ["dice", "many"] [] rfl h__law_roll (by exact hr.mono (by decide)) g__law_roll cx_passes (pda_cons (qv 0 hD rfl (.inl v_dice)) (pda_cons pd_int pda_nil rfl) rfl) (by decide) rfl rfl)) (pgd_name 1 hN rfl (.inr v_size) (.inl rfl) (by decide)) rfl rfl rfl)
  (pss_seq (psd_asg [2, 3, 4, 5, 6, 7] (pd_tup (pda_cons (q_make "Growing" 7 c.Growing ["self", "size"] [] rfl h_Growing___init__ (by exact hr.mono (by decide)) g_Growing cx_passes (pda_cons (qv 1 hD rfl (.inr (.inl v_size))) pda_nil rfl) (by decide) rfl rfl) (pda_cons pd_newD (pda_cons (pd_lst pda_nil) (pda_cons pd_int (pda_cons (pd_lstO pda_nil) (pda_cons (pd_lstO pda_nil) pda_nil rfl) rfl) rfl) rfl) rfl) rfl)) (pgd_tup rfl (pgsd_cons (pgd_name 2 hN rfl (.inr v_body) (.inl rfl) (by decide)) (pgsd_cons (pgd_name 3 hN rfl (.inr v_table) (.inl rfl) (by decide)) (pgsd_cons (pgd_name 4 hN rfl (.inl v_earlier) (.inl rfl) (by decide)) (pgsd_cons (pgd_name 5 hN rfl (.inl v_last) (.inl rfl) (by decide)) (pgsd_cons (pgd_name 6 hN rfl (.inl v_deeds) (.inl rfl) (by decide)) (pgsd_cons (pgd_name 7 hN rfl (.inl v_counts) (.inl rfl) (by decide)) pgsd_nil rfl) rfl) rfl) rfl) rfl) rfl) rfl rfl) rfl rfl rfl)
  (pss_seq (psd_for [8] cx_own rfl (pid_range1 g_range B.range (q_callS "_law_roll" 1 ["dice", "many"] [] rfl h__law_roll (by exact hr.mono (by decide)) g__law_roll cx_passes (pda_cons (qv 0 hD rfl (.inl v_dice)) (pda_cons pd_int pda_nil rfl) rfl) (by decide) rfl rfl) rfl rfl) (pgd_name 8 hN rfl (.inl v_turn) (.inl rfl) (by decide))
  (pss_seq (psd_asg [9, 10] (pd_tup (pda_cons (q_callP "corners" 8 ["held"] [] rfl h_corners (by exact hr.mono (by decide)) g_corners cx_passes (pda_cons (pd_tup (pda_cons (qv 1 hD rfl (.inr (.inl v_size))) (pda_cons (q_callTy cr_tuple g_tuple B.tuple bb_tuple (pda_cons (q_lc [("own", 19)] rfl rfl hN (pid_list (q_callB (crd_sorted rfl) g_sorted B.sorted bb_sorted (pda_cons (qv 3 hD rfl (.inr (.inl v_table))) pda_nil rfl) rfl rfl)) (blkOk_by (by rfl)) (fun _ _ _ _ _ => (pgd_name 19 hN rfl (.inl rfl) (.inr rfl) (by decide))) (fun _ _ _ _ _ => ptsd_nil)
  (fun _ _ _ _ _ => (pd_ix (by exact HU) (qv 3 hD rfl (.inr (.inl rfl))) (qv 19 hD rfl (.inl rfl)) (fun _ _ => rfl))) (fun _ => rfl)) pda_nil rfl) rfl rfl) (pda_cons (pd_tup pda_nil) pda_nil rfl) rfl) rfl)) pda_nil rfl) (by decide) rfl rfl) (pda_cons (q_callS "_law_roll" 1 ["dice", "many"] [] rfl h__law_roll (by exact hr.mono (by decide)) g__law_roll cx_passes (pda_cons (qv 0 hD rfl (.inl v_dice)) (pda_cons pd_int pda_nil rfl) rfl) (by decide) rfl rfl) pda_nil rfl) rfl)) (pgd_tup rfl (pgsd_cons (pgd_name 9 hN rfl (.inr v_before) (.inl rfl) (by decide)) (pgsd_cons (pgd_name 10 hN rfl (.inl v_kind) (.inl rfl) (by decide)) pgsd_nil rfl) rfl) rfl rfl) rfl rfl rfl)
  (pss_seq (psd_if (pdt_cmp op_ltM (qv 10 hD rfl (.inl v_kind)) pd_int rfl) (pss_seq (psd_asg [11] (q_callS "_law_pick" 2 ["dice", "things"] [] rfl h__law_pick (by exact hr.mono (by decide)) g__law_pick cx_passes (pda_cons (qv 0 hD rfl (.inl v_dice)) (pda_cons (pd_lst (pda_cons (pd_tup (pda_cons (q_callS "_law_row" 2 ["dice", "size", "most"] [] rfl h__law_row (by exact hr.mono (by decide)) g__law_row cx_passes (pda_cons (qv 0 hD rfl (.inl v_dice)) (pda_cons (qv 1 hD rfl (.inr (.inl v_size))) (pda_cons pd_int pda_nil rfl) rfl) rfl) (by decide) rfl rfl) (pda_cons (pd_bin op_subM (q_callS "_law_roll" 1 ["dice", "many"] [] rfl h__law_roll (by exact hr.mono (by decide)) g__law_roll cx_passes (pda_cons (qv 0 hD rfl (.inl v_dice)) (pda_cons pd_int pda_nil rfl) rfl) (by decide) rfl rfl) pd_int) pda_nil rfl) rfl)) (pda_cons (pd_tup (pda_cons (q_callP "_law_unit" 1 ["size", "at"] [] rfl h__law_unit (by exact hr.mono (by decide)) g__law_unit cx_passes (pda_cons (qv 1 hD rfl (.inr (.inl v_size))) (pda_cons (q_callS "_law_roll" 1 ["dice", "many"] [] rfl h__law_roll (by exact hr.mono (by decide)) g__law_roll cx_passes (pda_cons (qv 0 hD rfl (.inl v_dice)) (pda_cons (qv 1 hD rfl (.inr (.inl v_size))) pda_nil rfl) rfl) (by decide) rfl rfl) pda_nil rfl) rfl) (by decide) rfl rfl) (pda_cons pd_int pda_nil rfl) rfl)) pda_nil rfl) rfl)) pda_nil rfl) rfl) (by decide) rfl rfl) (pgd_name 11 hN rfl (.inl v_wall) (.inl rfl) (by decide)) rfl rfl rfl)
  (pss_seq (psd_par 5 4 rfl hN rfl rfl (by decide) rfl rfl (pda_cons (pd_bin op_addM (qv 5 hD rfl (.inl v_last)) pd_int) (pda_cons (pd_bin op_addM (qv 4 hD rfl (.inl v_earlier)) (pd_lst (pda_cons (qv 3 hD rfl (.inr (.inl v_table))) pda_nil rfl))) pda_nil rfl) rfl) rfl)
  (pss_seq (psd_asg [3] (q_dictO rfl g_dict B.dict bb_dict (pda_cons (qv 3 hD rfl (.inr (.inl v_table))) pda_nil rfl) rfl rfl) (pgd_name 3 hN rfl (.inr v_table) (.inl rfl) (by decide)) rfl rfl rfl)
  (pss_seq (psd_putD (by exact HU) (qv 3 hD rfl (.inr (.inl v_table))) (qv 5 hD rfl (.inl v_last)) (qv 11 hD rfl (.inl v_wall)) rfl)
  (pss_seq (psd_par 12 13 rfl hN rfl rfl (by decide) rfl rfl (pda_cons (pd_tup (pda_cons pd_str (pda_cons (qv 11 hD rfl (.inl v_wall)) pda_nil rfl) rfl)) (pda_cons (q_methK0 "put" 9 c.Growing ["self", "wall"] [(1, ["wall"])] ["wall"] rfl h_Growing_put (by exact hr.mono (by decide)) cx_passes (by decide) (qv 2 hD rfl (.inr (.inl v_body))) (pkd_cons (qv 11 hD rfl (.inl v_wall)) pkd_nil) rfl rfl rfl rfl) pda_nil rfl) rfl) rfl)
  (pss_of (psd_if (pdt_cmp (op_neM (by exact HU)) (pd_ix (by exact HU) (qv 13 hD rfl (.inl v_told)) pd_int (fun _ _ => rfl)) (qv 5 hD rfl (.inl v_last)) rfl) (pss_of (psd_ret pd_bl)) pssd_nil))))))) (pss_of (psd_if (PW.pt (pdw_and (pdt_cmp (op_eqM (by exact HU)) (qv 10 hD rfl (.inl v_kind)) pd_int rfl) (pdw_and1 (pdt_cmp op_gtM (q_callB cr_len g_len B.len bb_len (pda_cons (qv 3 hD rfl (.inr (.inl v_table))) pda_nil rfl) rfl rfl) pd_int rfl)))) (pss_seq (psd_asg [14] (q_callS "_law_pick" 2 ["dice", "things"] [] rfl h__law_pick (by exact hr.mono (by decide)) g__law_pick cx_passes (pda_cons (qv 0 hD rfl (.inl v_dice)) (pda_cons (q_callB (crd_sorted rfl) g_sorted B.sorted bb_sorted (pda_cons (qv 3 hD rfl (.inr (.inl v_table))) pda_nil rfl) rfl rfl) pda_nil rfl) rfl) (by decide) rfl rfl) (pgd_name 14 hN rfl (.inr v_number) (.inl rfl) (by decide)) rfl rfl rfl)
  (pss_seq (psd_asg [4] (pd_bin op_addM (qv 4 hD rfl (.inl v_earlier)) (pd_lst (pda_cons (qv 3 hD rfl (.inr (.inl v_table))) pda_nil rfl))) (pgd_name 4 hN rfl (.inl v_earlier) (.inl rfl) (by decide)) rfl rfl rfl)
  (pss_seq (psd_asg [3] (q_dictO rfl g_dict B.dict bb_dict (pda_cons (pd_lockE (fo := (fVar 3)) (q_lc [("own", 19)] rfl rfl hN (pid_keys (qv 3 hD rfl (.inr (.inl v_table)))) (blkOk_by (by rfl)) (fun _ _ _ _ _ => (pgd_name 19 hN rfl (.inl rfl) (.inr rfl) (by decide))) (fun _ _ _ _ _ => (ptsd_one (pdt_cmp (op_neM (by exact HU)) (qv 19 hD rfl (.inl rfl)) (qv 14 hD rfl (.inr (.inl rfl))) rfl)))
  (fun _ _ _ _ _ => (pd_tup (pda_cons (qv 19 hD rfl (.inl rfl)) (pda_cons (pd_ix (by exact HU) (qv 3 hD rfl (.inr (.inl rfl))) (qv 19 hD rfl (.inl rfl)) (fun _ _ => rfl)) pda_nil rfl) rfl))) (fun _ => rfl))) pda_nil rfl) rfl rfl) (pgd_name 3 hN rfl (.inr v_table) (.inl rfl) (by decide)) rfl rfl rfl)
  (pss_of (psd_par 12 13 rfl hN rfl rfl (by decide) rfl rfl (pda_cons (pd_tup (pda_cons pd_str (pda_cons (qv 14 hD rfl (.inr (.inl v_number))) pda_nil rfl) rfl)) (pda_cons (pd_bin op_addM (pd_tup (pda_cons pd_int pda_nil rfl)) (q_methK0 "take" 9 c.Growing ["self", "number"] [(1, ["number"])] ["number"] rfl h_Growing_take (by exact hr.mono (by decide)) cx_passes (by decide) (qv 2 hD rfl (.inr (.inl v_body))) (pkd_cons (qv 14 hD rfl (.inr (.inl v_number))) pkd_nil) rfl rfl rfl rfl)) pda_nil rfl) rfl) rfl))))) (pss_seq (psd_asg [12, 13] (pd_tup (pda_cons (pd_tup (pda_cons pd_str pda_nil rfl)) (pda_cons pd_non pda_nil rfl) rfl)) (pgd_tup rfl (pgsd_cons (pgd_name 12 hN rfl (.inl v_deed) (.inl rfl) (by decide)) (pgsd_cons (pgd_name 13 hN rfl (.inl v_told) (.inl rfl) (by decide)) pgsd_nil rfl) rfl) rfl rfl) rfl rfl rfl)
  (pss_seq (psd_if (pdt_cmp (op_neM (by exact HU)) (q_meth0 "undo" 8 c.Growing ["self"] [] rfl h_Growing_undo (by exact hr.mono (by decide)) cx_passes (qv 2 hD rfl (.inr (.inl v_body))) rfl) (pd_cmp op_gtM (q_callB cr_len g_len B.len bb_len (pda_cons (qv 4 hD rfl (.inl v_earlier)) pda_nil rfl) rfl rfl) pd_int rfl) rfl) (pss_of (psd_ret pd_bl)) pssd_nil)
  (pss_of (psd_if (pdt_cmp op_gtM (q_callB cr_len g_len B.len bb_len (pda_cons (qv 4 hD rfl (.inl v_earlier)) pda_nil rfl) rfl rfl) pd_int rfl) (pss_seq (psd_asg [3] (pd_ix (by exact HU) (qv 4 hD rfl (.inl v_earlier)) (pd_neg pd_int) (fun _ _ => rfl)) (pgd_name 3 hN rfl (.inr v_table) (.inl rfl) (by decide)) rfl rfl rfl)
  (pss_of (psd_asg [4] (pd_sl (qv 4 hD rfl (.inl v_earlier)) pdo_none (pdo_some (pd_neg pd_int))) (pgd_name 4 hN rfl (.inl v_earlier) (.inl rfl) (by decide)) rfl rfl rfl))) pssd_nil)))))))
  (pss_seq (psd_asg [15] (pd_tup (pda_cons (qv 1 hD rfl (.inr (.inl v_size))) (pda_cons (q_callTy cr_tuple g_tuple B.tuple bb_tuple (pda_cons (q_lc [("own", 19)] rfl rfl hN (pid_list (q_callB (crd_sorted rfl) g_sorted B.sorted bb_sorted (pda_cons (qv 3 hD rfl (.inr (.inl v_table))) pda_nil rfl) rfl rfl)) (blkOk_by (by rfl)) (fun _ _ _ _ _ => (pgd_name 19 hN rfl (.inl rfl) (.inr rfl) (by decide))) (fun _ _ _ _ _ => ptsd_nil)
  (fun _ _ _ _ _ => (pd_ix (by exact HU) (qv 3 hD rfl (.inr (.inl rfl))) (qv 19 hD rfl (.inl rfl)) (fun _ _ => rfl))) (fun _ => rfl)) pda_nil rfl) rfl rfl) (pda_cons (pd_tup pda_nil) pda_nil rfl) rfl) rfl)) (pgd_name 15 hN rfl (.inl v_held) (.inl rfl) (by decide)) rfl rfl rfl)
  (pss_seq (psd_asg [16] (q_callP "corners" 8 ["held"] [] rfl h_corners (by exact hr.mono (by decide)) g_corners cx_passes (pda_cons (qv 15 hD rfl (.inl v_held)) pda_nil rfl) (by decide) rfl rfl) (pgd_name 16 hN rfl (.inr v_span) (.inl rfl) (by decide)) rfl rfl rfl)
  (pss_seq (psd_if (PW.pt (pdw_or (pdt_cmp (op_neM (by exact HU)) (q_meth0 "held" 1 c.Growing ["self"] [] rfl h_Growing_held (by exact hr.mono (by decide)) cx_passes (qv 2 hD rfl (.inr (.inl v_body))) rfl) (qv 15 hD rfl (.inl v_held)) rfl) (pdw_or (pdt_cmp (op_neM (by exact HU)) (q_meth0 "span" 7 c.Growing ["self"] [] rfl h_Growing_span (by exact hr.mono (by decide)) cx_passes (qv 2 hD rfl (.inr (.inl v_body))) rfl) (qv 16 hD rfl (.inr (.inl v_span))) rfl) (pdw_or (pdt_not (pdt_val (q_callSK0 "is_followed" 8 ["body"] [(0, ["body"])] ["body"] rfl h_is_followed (by exact hr.mono (by decide)) g_is_followed cx_passes (by decide) (pkd_cons (qv 2 hD rfl (.inr (.inl v_body))) pkd_nil) rfl rfl rfl rfl) (fun _ => rfl))) (pdw_or1 (pdt_cmp (op_neM (by exact HU)) (q_meth0 "numbers" 1 c.Growing ["self"] [] rfl h_Growing_numbers (by exact hr.mono (by decide)) cx_passes (qv 2 hD rfl (.inr (.inl v_body))) rfl) (q_callTy cr_tuple g_tuple B.tuple bb_tuple (pda_cons (q_callB (crd_sorted rfl) g_sorted B.sorted bb_sorted (pda_cons (qv 3 hD rfl (.inr (.inl v_table))) pda_nil rfl) rfl rfl) pda_nil rfl) rfl rfl) rfl)))))) (pss_of (psd_ret pd_bl)) pssd_nil)
  (pss_seq (psd_asg [17] (q_callTy cr_tuple g_tuple B.tuple bb_tuple (pda_cons (q_lc [("point", 20)] rfl rfl hN (pid_tup (pd_ix (by exact HU) (qv 16 hD rfl (.inr (.inl v_span))) pd_int (fun _ _ => rfl))) (blkOk_by (by rfl)) (fun _ _ _ _ _ => (pgd_name 20 hN rfl (.inl rfl) (.inr rfl) (by decide))) (fun _ _ _ _ _ => (ptsd_one (pdt_cmp (op_notInM (by exact HU)) (qv 20 hD rfl (.inl rfl)) (pd_ix (by exact HU) (qv 9 hD rfl (.inr (.inl rfl))) pd_int (fun _ _ => rfl)) rfl)))
  (fun _ _ _ _ _ => (qv 20 hD rfl (.inl rfl))) (fun _ => rfl)) pda_nil rfl) rfl rfl) (pgd_name 17 hN rfl (.inl v_came) (.inl rfl) (by decide)) rfl rfl rfl)
  (pss_seq (psd_if (PW.pt (pdw_and (pdt_cmp op_notNM (qv 13 hD rfl (.inl v_told)) pd_non rfl) (pdw_and1 (pdt_cmp (op_neM (by exact HU)) (pd_sl (qv 13 hD rfl (.inl v_told)) (pdo_some pd_int) pdo_none) (pd_tup (pda_cons (qv 17 hD rfl (.inl v_came)) (pda_cons (q_callTy cr_tuple g_tuple B.tuple bb_tuple (pda_cons (q_lc [("point", 20)] rfl rfl hN (pid_tup (pd_ix (by exact HU) (qv 9 hD rfl (.inr (.inl v_before))) pd_int (fun _ _ => rfl))) (blkOk_by (by rfl)) (fun _ _ _ _ _ => (pgd_name 20 hN rfl (.inl rfl) (.inr rfl) (by decide))) (fun _ _ _ _ _ => (ptsd_one (pdt_cmp (op_notInM (by exact HU)) (qv 20 hD rfl (.inl rfl)) (pd_ix (by exact HU) (qv 16 hD rfl (.inr (.inl rfl))) pd_int (fun _ _ => rfl)) rfl)))
  (fun _ _ _ _ _ => (qv 20 hD rfl (.inl rfl))) (fun _ => rfl)) pda_nil rfl) rfl rfl) pda_nil rfl) rfl)) rfl)))) (pss_of (psd_ret pd_bl)) pssd_nil)
  (pss_seq (psd_apO (qv 6 hD rfl (.inl v_deeds)) (qv 12 hD rfl (.inl v_deed)) rfl rfl rfl rfl rfl)
  (pss_of (psd_apO (qv 7 hD rfl (.inl v_counts)) (q_callB cr_len g_len B.len bb_len (pda_cons (pd_ix (by exact HU) (qv 16 hD rfl (.inr (.inl v_span))) pd_int (fun _ _ => rfl)) pda_nil rfl) rfl rfl) rfl rfl rfl rfl rfl)))))))))) (fun _ => rfl))
  (pss_seq (psd_if (pdt_cmp (op_neM (by exact HU)) (q_callPK "points_through" 11 ["size", "deeds"] [(1, ["deeds"])] 1 ["deeds"] rfl h_points_through (by exact hr.mono (by decide)) g_points_through cx_passes (by decide) (pda_cons (qv 1 hD rfl (.inr (.inl v_size))) pda_nil rfl) (pkd_cons (q_callTy cr_tuple g_tuple B.tuple bb_tuple (pda_cons (qv 6 hD rfl (.inl v_deeds)) pda_nil rfl) rfl rfl) pkd_nil) rfl rfl rfl rfl rfl) (q_callTy cr_tuple g_tuple B.tuple bb_tuple (pda_cons (qv 7 hD rfl (.inl v_counts)) pda_nil rfl) rfl rfl) rfl) (pss_of (psd_ret pd_bl)) pssd_nil)
  (pss_seq (psd_asg [18] (pd_lst (pda_cons (q_ref (k := 8) hRef g__law_refused TB hcode hqT hmT huT (by exact hr.mono (by decide)) (LamX.lamS_by (by kernel_rfl)) rfl (fun _ _ _ _ _ => rfl) (fun _ _ _ _ _ _ _ HR HX => (q_make "Growing" 7 c.Growing ["self", "size"] [] rfl h_Growing___init__ (by exact HR.mono (by decide)) (by exact rfl) HX (pda_cons pd_int pda_nil rfl) (by decide) rfl rfl)) rfl) (pda_cons (q_ref (k := 9) hRef g__law_refused TB hcode hqT hmT huT (by exact hr.mono (by decide)) (LamX.lamS_by (by kernel_rfl)) rfl (fun _ _ _ _ _ => rfl) (fun _ _ _ _ _ _ _ HR HX => (q_meth "put" 9 c.Growing ["self", "wall"] [(1, ["wall"])] rfl h_Growing_put (by exact HR.mono (by decide)) HX (qv 2 hD rfl (.inr (.inr rfl))) (pda_cons pd_non pda_nil rfl) rfl rfl rfl)) rfl) (pda_cons (q_ref (k := 9) hRef g__law_refused TB hcode hqT hmT huT (by exact hr.mono (by decide)) (LamX.lamS_by (by kernel_rfl)) rfl (fun _ _ _ _ _ => rfl) (fun _ _ _ _ _ _ _ HR HX => (q_meth "put" 9 c.Growing ["self", "wall"] [(1, ["wall"])] rfl h_Growing_put (by exact HR.mono (by decide)) HX (qv 2 hD rfl (.inr (.inr rfl))) (pda_cons (pd_tup (pda_cons (pd_bin op_mulM (pd_tup (pda_cons pd_int pda_nil rfl)) (pd_bin op_addM (qv 1 hD rfl (.inr (.inr rfl))) pd_int)) (pda_cons pd_int pda_nil rfl) rfl)) pda_nil rfl) rfl rfl rfl)) rfl) (pda_cons (q_ref (k := 9) hRef g__law_refused TB hcode hqT hmT huT (by exact hr.mono (by decide)) (LamX.lamS_by (by kernel_rfl)) rfl (fun _ _ _ _ _ => rfl) (fun _ _ _ _ _ _ _ HR HX => (q_meth "take" 9 c.Growing ["self", "number"] [(1, ["number"])] rfl h_Growing_take (by exact HR.mono (by decide)) HX (qv 2 hD rfl (.inr (.inr rfl))) (pda_cons pd_int pda_nil rfl) rfl rfl rfl)) rfl) (pda_cons (q_ref (k := 11) hRef g__law_refused TB hcode hqT hmT huT (by exact hr.mono (by decide)) (LamX.lamS_by (by kernel_rfl)) rfl (fun _ _ _ _ _ => rfl) (fun _ _ _ _ _ _ _ HR HX => (q_callP "points_through" 11 ["size", "deeds"] [(1, ["deeds"])] rfl h_points_through (by exact HR.mono (by decide)) (by exact rfl) HX (pda_cons pd_int (pda_cons pd_non pda_nil rfl) rfl) (by decide) rfl rfl)) rfl) (pda_cons (q_ref (k := 11) hRef g__law_refused TB hcode hqT hmT huT (by exact hr.mono (by decide)) (LamX.lamS_by (by kernel_rfl)) rfl (fun _ _ _ _ _ => rfl) (fun _ _ _ _ _ _ _ HR HX => (q_callP "points_through" 11 ["size", "deeds"] [(1, ["deeds"])] rfl h_points_through (by exact HR.mono (by decide)) (by exact rfl) HX (pda_cons (qv 1 hD rfl (.inr (.inr rfl))) (pda_cons (pd_tup (pda_cons (pd_tup (pda_cons pd_str pda_nil rfl)) pda_nil rfl)) pda_nil rfl) rfl) (by decide) rfl rfl)) rfl) (pda_cons (q_ref (k := 11) hRef g__law_refused TB hcode hqT hmT huT (by exact hr.mono (by decide)) (LamX.lamS_by (by kernel_rfl)) rfl (fun _ _ _ _ _ => rfl) (fun _ _ _ _ _ _ _ HR HX => (q_callP "points_through" 11 ["size", "deeds"] [(1, ["deeds"])] rfl h_points_through (by exact HR.mono (by decide)) (by exact rfl) HX (pda_cons (qv 1 hD rfl (.inr (.inr rfl))) (pda_cons (pd_lst (pda_cons (pd_tup (pda_cons pd_str pda_nil rfl)) pda_nil rfl)) pda_nil rfl) rfl) (by decide) rfl rfl)) rfl) (pda_cons (q_ref (k := 8) hRef g__law_refused TB hcode hqT hmT huT (by exact hr.mono (by decide)) (LamX.lamS_by (by kernel_rfl)) rfl (fun _ _ _ _ _ => rfl) (fun _ _ _ _ _ _ _ HR HX => (q_callS "is_followed" 8 ["body"] [(0, ["body"])] rfl h_is_followed (by exact HR.mono (by decide)) (by exact rfl) HX (pda_cons pd_non pda_nil rfl) (by decide) rfl rfl)) rfl) pda_nil rfl) rfl) rfl) rfl) rfl) rfl) rfl) rfl)) (pgd_name 18 hN rfl (.inl v_names) (.inl rfl) (by decide)) rfl rfl rfl)
  (pss_of (psd_ret (pd_cmp (op_eqM (by exact HU)) (qv 18 hD rfl (.inl v_names)) (pd_lst (pda_cons pd_str (pda_cons pd_str (pda_cons pd_str (pda_cons pd_str (pda_cons pd_str (pda_cons pd_str (pda_cons pd_str (pda_cons pd_str pda_nil rfl) rfl) rfl) rfl) rfl) rfl) rfl) rfl)) rfl))))))))
def F_law (c : Cs) : List MV → M MV := runB (sSeq (sFor (iRange1 (fB maxM (fCons (fC (.v (.int 1))) (fCons (fB minM (fCons (fC (.v (.int 3))) (fCons (fB lenM (fCons (fVar 0) fNil)) fNil))) fNil)))) (setN 1) (sIf (fNot (fTest (fCallS 1 (F__law_right c) (fCons (fCallS 2 F__law_dice (fCons (fVar 0) (fCons (fVar 1) fNil))) fNil)))) (sRet (fC (.v (.bl false)))) sNil)) (sRet (fC (.v (.bl true))))) 2
theorem has_law (h__law_right : HasF P w K mg base G 14 "_law_right" ["dice"] [] (F__law_right c)) (h__law_dice : HasF P w K mg base G 1 "_law_dice" ["script", "spot"] [] F__law_dice) (F : ∃ f fd, mg "law" = some (.ref f) ∧ FunD K "law" "law" (defArgs (top 43)) (defBody (top 43)) (defScope (top 43)) [] [] f fd) : HasF P w K mg base G 15 "law" ["script"] [] (F_law c) := by
  obtain ⟨f, fd, hm, F⟩ := F
  have hN : (["script", "spot"] : List Str).Nodup := by decide
  refine HasF.of2 (N := ["script", "spot"]) F hm (C8.fnScope_by (by decide +kernel)) (by decide) (fun kV doc pm an cdv ct us hl => match us, hl with | [u0], _ => rfl) (fun p hp => nomatch hp) (fun cd A_ outer s H E hcd hr => ?_)
  have HU : (cxF P w K mg base ["script", "spot"] "law" (defScope (top 43)) f cd A_ outer s H E).A.units + 65 < cLine := by have := hr.un; omega
  have v_script : (defScope (top 43)).names.lookup ("script" : Str) = some .local := by decide +kernel
  have v_spot : (defScope (top 43)).names.lookup ("spot" : Str) = some .local := by decide +kernel
  have g__law_dice : (defScope (top 43)).names.lookup ("_law_dice" : Str) = some .globalImplicit := by decide +kernel
  have g__law_right : (defScope (top 43)).names.lookup ("_law_right" : Str) = some .globalImplicit := by decide +kernel
  have g_len : (defScope (top 43)).names.lookup ("len" : Str) = some .globalImplicit := by decide +kernel
  have g_max : (defScope (top 43)).names.lookup ("max" : Str) = some .globalImplicit := by decide +kernel
  have g_min : (defScope (top 43)).names.lookup ("min" : Str) = some .globalImplicit := by decide +kernel
  have g_range : (defScope (top 43)).names.lookup ("range" : Str) = some .globalImplicit := by decide +kernel
  have hD : NoDbg (["script", "spot"] : List Str) = true := by decide +kernel
  exact (pss_seq (psd_for [1] cx_own rfl (pid_range1 g_range B.range (q_callB (cr_max2 rfl) g_max B.max bb_max (pda_cons pd_int (pda_cons (q_callB (cr_min2 rfl) g_min B.min bb_min (pda_cons pd_int (pda_cons (q_callB cr_len g_len B.len bb_len (pda_cons (qv 0 hD rfl (.inl v_script)) pda_nil rfl) rfl rfl) pda_nil rfl) rfl) rfl rfl) pda_nil rfl) rfl) rfl rfl) rfl rfl) (pgd_name 1 hN rfl (.inl v_spot) (.inl rfl) (by decide))
  (pss_of (psd_if (pdt_not (pdt_val (q_callS "_law_right" 14 ["dice"] [] rfl h__law_right (by exact hr.mono (by decide)) g__law_right cx_passes (pda_cons (q_callS "_law_dice" 1 ["script", "spot"] [] rfl h__law_dice (by exact hr.mono (by decide)) g__law_dice cx_passes (pda_cons (qv 0 hD rfl (.inl v_script)) (pda_cons (qv 1 hD rfl (.inl v_spot)) pda_nil rfl) rfl) (by decide) rfl rfl) pda_nil rfl) (by decide) rfl rfl) (fun _ => rfl))) (pss_of (psd_ret pd_bl)) pssd_nil)) (fun _ => rfl))
  (pss_of (psd_ret pd_bl)))
end
end CD

set_option Elab.async false
set_option linter.all false
set_option maxRecDepth 100000
set_option maxHeartbeats 400000
namespace CD
open PySem PySem.Spec PyProof.Rows L2
/-! ### the plain level: reckoning with the combinators -/
theorem m_bind {α β : Type} (a : α) (f : α → M β) : M.bind (M.pure a) f = f a := rfl
theorem m_of {α : Type} (a : α) : M.of (some a) = M.pure a := rfl
theorem m_rd {α : Type} (a : α) : M.rd (fun _ => some a) = M.pure a := rfl
theorem e_0 (x : MV) (ρ : Env) : fVar 0 (some (.m x) :: ρ) = M.pure x := rfl
theorem e_1 (a : Option SV) (x : MV) (ρ : Env) : fVar 1 (a :: some (.m x) :: ρ) = M.pure x := rfl
theorem gt_i (i j : Int) (st : List O) : gtM st (.v (.int i)) (.v (.int j)) = some (.v (.bl (decide (j < i)))) := rfl
theorem mod_i {i j : Int} (h : 0 < j) (st : List O) : modM st (.v (.int i)) (.v (.int j)) = some (.v (.int (i % j))) := by
  show (if decide (0 < j) = true then some (MV.v (D.int (i % j))) else none) = _
  rw [if_pos (by simpa using h)]
theorem asB_bl (b : Bool) : asB (.v (.bl b)) = some b := rfl
theorem p_is_integer (d : D) : F_is_integer [.v d] = M.pure (.v (.bl (match d with | .int _ => true | _ => false))) := by
  cases d <;> rfl
abbrev cmnT : Env → M Bool := fCmpT gtM (fVar 1) (fC (.v (.int 0)))
abbrev cmnB : Env → M Fl := sPar 0 1 (fCons (fVar 1) (fCons (fBin modM (fVar 0) (fVar 1)) fNil))
theorem cmn_t (a : Option SV) (i : Int) : cmnT [a, some (.m (.v (.int i)))] = M.pure (decide (0 < i)) := rfl
theorem cmn_b (i j : Int) (h : 0 < j) : cmnB [some (.m (.v (.int i))), some (.m (.v (.int j)))] = M.pure (.nx [some (.m (.v (.int j))), some (.m (.v (.int (i % j))))]) := by
  simp only [cmnB, sPar, fCons, fBin, fNil, e_0, e_1, m_bind, mod_i h, m_rd]
  rfl
theorem common_loop : ∀ (n : Nat) (a b : Nat), b ≤ n → whileS cmnT cmnB (n + 1) [some (.m (.v (.int a))), some (.m (.v (.int b)))] = M.pure (.nx [some (.m (.v (.int (Nat.gcd a b : Nat)))), some (.m (.v (.int 0)))]) := by
  intro n
  induction n with
  | zero =>
    intro a b hb
    obtain rfl : b = 0 := by omega
    rw [Nat.gcd_zero_right]
    rfl
  | succ n ih =>
    intro a b hb
    by_cases h : b = 0
    · subst h; rw [Nat.gcd_zero_right]; rfl
    · have hp : (0 : Int) < b := by omega
      rw [whileS, cmn_t, m_bind, if_pos (by simpa using hp), cmn_b _ _ hp, m_bind]
      have e := ih b (a % b) (by have := Nat.mod_lt a (Nat.pos_of_ne_zero h); omega)
      rw [Int.natCast_emod] at e
      refine e.trans ?_
      rw [Nat.gcd_comm b, ← Nat.gcd_rec, Nat.gcd_comm]
theorem p_common (i j : Int) : F_common [.v (.int i), .v (.int j)] = M.pure (.v (.int (Nat.gcd i.natAbs j.natAbs : Nat))) := by
  have h := common_loop j.natAbs i.natAbs j.natAbs (Nat.le_refl _)
  have hf : fuelN 1 [some (.m (.v (.int (i.natAbs : Int)))), some (.m (.v (.int (j.natAbs : Int))))] = j.natAbs + 1 := by simp [fuelN]
  have e1 : (sWhile (fuelN 1) cmnT cmnB) [some (.m (.v (.int (i.natAbs : Int)))), some (.m (.v (.int (j.natAbs : Int))))] = M.pure (.nx [some (.m (.v (.int (Nat.gcd i.natAbs j.natAbs : Nat)))), some (.m (.v (.int 0)))]) := by
    unfold sWhile
    rw [hf, h]
  funext st
  have ai : ∀ i : Int, (if i < 0 then -i else i) = (i.natAbs : Int) := fun i => by split <;> omega
  have e2 : F_common [.v (.int i), .v (.int j)] st = M.bind (sSeq (sWhile (fuelN 1) cmnT cmnB) (sRet (fVar 0)) [some (.m (.v (.int (if i < 0 then -i else i)))), some (.m (.v (.int (if j < 0 then -j else j))))]) (fun fl => match fl with
      | .rt x => M.pure x
      | .nx _ => M.pure (.v .non)
      | .bk _ => M.of none) st := rfl
  rw [e2, ai i, ai j]
  unfold sSeq
  rw [e1, m_bind]
  rfl
end CD

set_option linter.all false
namespace CD
/-! ### rows of ints, cones: in plain Lean -/
abbrev Row := List Int
def dot (a b : Row) : Int := (List.zipWith (· * ·) a b).sum
def gcdR (v : Row) : Nat := v.foldl (fun g x => Nat.gcd g x.natAbs) 0
def prim (v : Row) : Row := if 1 < gcdR v then v.map (· / (gcdR v : Int)) else v
def joinR (a : Row) (t : Int) (b : Row) (m : Int) : Row := List.zipWith (fun x y => t * x + m * y) a b
def oppR (v : Row) : Row := v.map (0 - ·)
structure CS where
  lines : List Row
  rays : List (Row × Nat)
  count : Nat
def upL (r l : Row) : Row := if 0 < dot r l then l else oppR l
def cutLines (r l0 : Row) (s : CS) : CS :=
  ⟨(s.lines.filter fun o => !(decide (o = upL r l0) || decide (o = oppR (upL r l0)))).map fun o => prim (joinR o (dot r (upL r l0)) (upL r l0) (0 - dot r o)),
   (s.rays.map fun p => (prim (joinR p.1 (dot r (upL r l0)) (upL r l0) (0 - dot r p.1)), p.2 ||| 1 <<< s.count)) ++ [(upL r l0, 1 <<< s.count - 1)], s.count⟩
def isEdge (rays : List (Row × Nat)) (z : Nat) (f g : Row) : Bool := rays.all fun p => (decide (p.1 = f) || decide (p.1 = g)) || decide (p.2 &&& z ≠ z)
def aboveR (r : Row) (s : CS) := s.rays.filter fun p => decide (0 < dot r p.1)
def onR (r : Row) (s : CS) := s.rays.filter fun p => decide (dot r p.1 = 0)
def belowR (r : Row) (s : CS) := s.rays.filter fun p => decide (dot r p.1 < 0)
def mixR (r : Row) (a b : Row × Nat) (n : Nat) : Row × Nat := (prim (joinR a.1 (0 - dot r b.1) b.1 (dot r a.1)), (a.2 &&& b.2) ||| 1 <<< n)
def freshR (r : Row) (s : CS) : List (Row × Nat) := (aboveR r s).flatMap fun a => ((belowR r s).filter fun b => isEdge s.rays (a.2 &&& b.2) a.1 b.1).map fun b => mixR r a b s.count
def cutRays (r : Row) (s : CS) : CS := ⟨s.lines, aboveR r s ++ (onR r s).map (fun p => (p.1, p.2 ||| 1 <<< s.count)) ++ freshR r s, s.count⟩
def narrowC (r : Row) (s : CS) : CS :=
  let t := match s.lines.filter fun l => decide (dot r l ≠ 0) with
    | l :: _ => cutLines r l s
    | [] => cutRays r s
  ⟨t.lines, t.rays, t.count + 1⟩

/-! products -/
theorem dot_join (r : Row) : ∀ (a b : Row) (t m : Int), a.length = b.length → dot r (joinR a t b m) = t * dot r a + m * dot r b := by
  unfold dot joinR
  induction r with
  | nil => intro a b t m _; simp
  | cons x r ih =>
    intro a b t m h
    cases a with
    | nil => cases b with
      | nil => simp
      | cons _ _ => cases h
    | cons y a => cases b with
      | nil => cases h
      | cons z b =>
        simp only [List.zipWith_cons_cons, List.sum_cons, ih a b t m (by simpa using h)]
        simp only [Int.mul_add, Int.mul_left_comm]
        omega
theorem dot_opp (r v : Row) : dot r (oppR v) = - dot r v := by
  unfold dot oppR
  induction r generalizing v with
  | nil => simp
  | cons x r ih =>
    cases v with
    | nil => simp
    | cons y v =>
      rw [List.map_cons, List.zipWith_cons_cons, List.zipWith_cons_cons, List.sum_cons, List.sum_cons, ih v, Int.zero_sub, Int.mul_neg]
      omega
theorem dot_map (r v : Row) (d : Int) : dot r (v.map (d * ·)) = d * dot r v := by
  unfold dot
  induction r generalizing v with
  | nil => simp
  | cons x r ih =>
    cases v with
    | nil => simp
    | cons y v => simp only [List.map_cons, List.zipWith_cons_cons, List.sum_cons, ih v, Int.mul_add, Int.mul_left_comm]
theorem foldg (v : Row) (g : Nat) : v.foldl (fun g x => Nat.gcd g x.natAbs) g ∣ g ∧ ∀ x ∈ v, ((v.foldl (fun g x => Nat.gcd g x.natAbs) g : Nat) : Int) ∣ x := by
  induction v generalizing g with
  | nil => exact ⟨Nat.dvd_refl _, fun x h => by cases h⟩
  | cons y v ih =>
    obtain ⟨h1, h2⟩ := ih (Nat.gcd g y.natAbs)
    rw [List.foldl_cons]
    refine ⟨Nat.dvd_trans h1 (Nat.gcd_dvd_left _ _), fun x hx => ?_⟩
    rcases List.mem_cons.mp hx with rfl | hx
    · exact Int.ofNat_dvd_left.mpr (Nat.dvd_trans h1 (Nat.gcd_dvd_right _ _))
    · exact h2 x hx
theorem gcd_dvd (v : Row) : ∀ x ∈ v, (gcdR v : Int) ∣ x := (foldg v 0).2
theorem prim_mul (v : Row) : ∃ d : Int, 0 < d ∧ v = (prim v).map (d * ·) := by
  unfold prim
  split
  · rename_i h
    refine ⟨(gcdR v : Int), by omega, ?_⟩
    rw [List.map_map]
    refine (List.map_id v).symm.trans (List.map_congr_left fun x hx => ?_)
    have := Int.mul_ediv_cancel' (gcd_dvd v x hx)
    exact this.symm
  · exact ⟨1, by omega, by simp⟩
theorem prim_len (v : Row) : (prim v).length = v.length := by
  unfold prim
  split
  · rw [List.length_map]
  · rfl
theorem join_len {a b : Row} {t m : Int} (h : a.length = b.length) : (joinR a t b m).length = a.length := by
  unfold joinR
  rw [List.length_zipWith, h, Nat.min_self]
theorem opp_len (v : Row) : (oppR v).length = v.length := List.length_map _
theorem opp_opp (v : Row) : oppR (oppR v) = v := by
  unfold oppR
  rw [List.map_map]
  refine Eq.trans (List.map_congr_left fun x _ => ?_) (List.map_id v)
  show 0 - (0 - x) = x
  omega
theorem upL_len (r l : Row) : (upL r l).length = l.length := by
  unfold upL
  split
  · rfl
  · exact opp_len l
theorem upL_dot (r q l : Row) : dot q (upL r l) = dot q l ∨ dot q (upL r l) = - dot q l := by
  unfold upL
  split
  · exact .inl rfl
  · exact .inr (dot_opp q l)
theorem upL_pos (r l : Row) (h : dot r l ≠ 0) : 0 < dot r (upL r l) := by
  unfold upL
  split
  · assumption
  · rw [dot_opp]; omega
/-- a row's product with what is made of two, up to a factor -/
theorem dot_prim_join (q a b : Row) (t m : Int) (h : a.length = b.length) : ∃ d : Int, 0 < d ∧ t * dot q a + m * dot q b = d * dot q (prim (joinR a t b m)) := by
  obtain ⟨d, hd, e⟩ := prim_mul (joinR a t b m)
  refine ⟨d, hd, ?_⟩
  rw [← dot_join q a b t m h]
  have := congrArg (dot q) e
  rw [dot_map] at this
  exact this

/-! what a cone keeps -/
structure CInv (d : Nat) (rows : List Row) (s : CS) : Prop where
  cnt : s.count = rows.length
  ll : ∀ l ∈ s.lines, l.length = d
  rl : ∀ p ∈ s.rays, p.1.length = d
  l0 : ∀ l ∈ s.lines, ∀ r ∈ rows, dot r l = 0
  rz : ∀ p ∈ s.rays, ∀ i r, rows[i]? = some r → 0 ≤ dot r p.1 ∧ (p.2.testBit i = true ↔ dot r p.1 = 0)
  rm : ∀ p ∈ s.rays, p.2 < 2 ^ rows.length
  nd : s.rays.Pairwise fun p q => p.2 ≠ q.2
theorem CInv.same {d : Nat} {rows : List Row} {s : CS} (I : CInv d rows s) {p q : Row × Nat} (hp : p ∈ s.rays) (hq : q ∈ s.rays) (h : p.1 = q.1) : p.2 = q.2 := by
  apply Nat.eq_of_testBit_eq
  intro i
  cases e : rows[i]? with
  | none =>
    have hi : rows.length ≤ i := List.getElem?_eq_none_iff.mp e
    have a1 := Nat.lt_of_lt_of_le (I.rm p hp) (Nat.pow_le_pow_right (by omega) hi)
    have a2 := Nat.lt_of_lt_of_le (I.rm q hq) (Nat.pow_le_pow_right (by omega) hi)
    rw [Nat.testBit_lt_two_pow a1, Nat.testBit_lt_two_pow a2]
  | some r =>
    have h1 := (I.rz p hp i r e).2
    have h2 := (I.rz q hq i r e).2
    rw [h] at h1
    exact Bool.eq_iff_iff.mpr (h1.trans h2.symm)
theorem bit_top {z n : Nat} (h : z < 2 ^ n) : (z ||| 1 <<< n).testBit n = true := by
  simp [Nat.testBit_or, Nat.testBit_shiftLeft]
theorem bit_low {z n i : Nat} (h : i < n) : (z ||| 1 <<< n).testBit i = z.testBit i := by
  rw [Nat.testBit_or, Nat.testBit_shiftLeft]
  simp
  intro h'; omega
theorem or_lt {z n : Nat} (h : z < 2 ^ n) : z ||| 1 <<< n < 2 ^ (n + 1) := by
  apply Nat.or_lt_two_pow
  · exact Nat.lt_of_lt_of_le h (Nat.pow_le_pow_right (by omega) (by omega))
  · rw [Nat.shiftLeft_eq, Nat.one_mul]; exact Nat.pow_lt_pow_right (by omega) (by omega)
theorem or_inj {z z' n : Nat} (h : z < 2 ^ n) (h' : z' < 2 ^ n) (e : z ||| 1 <<< n = z' ||| 1 <<< n) : z = z' := by
  apply Nat.eq_of_testBit_eq
  intro i
  by_cases hi : i < n
  · rw [← bit_low (z := z) hi, ← bit_low (z := z') hi, e]
  · have a1 := Nat.lt_of_lt_of_le h (Nat.pow_le_pow_right (by omega) (show n ≤ i by omega))
    have a2 := Nat.lt_of_lt_of_le h' (Nat.pow_le_pow_right (by omega) (show n ≤ i by omega))
    rw [Nat.testBit_lt_two_pow a1, Nat.testBit_lt_two_pow a2]
theorem ne_top {z z' n : Nat} (h : z < 2 ^ n) (h' : z' < 2 ^ n) : z ≠ z' ||| 1 <<< n := fun e => by
  have a1 := bit_top h'
  rw [← e, Nat.testBit_lt_two_pow h] at a1
  cases a1
theorem app_get {rows : List Row} {r q : Row} {i : Nat} (h : (rows ++ [r])[i]? = some q) : (rows[i]? = some q ∧ i < rows.length) ∨ (i = rows.length ∧ q = r) := by
  by_cases hi : i < rows.length
  · rw [List.getElem?_append_left hi] at h
    exact .inl ⟨h, hi⟩
  · rw [List.getElem?_append_right (by omega)] at h
    have : i - rows.length = 0 := by
      cases e : i - rows.length with
      | zero => rfl
      | succ k => rw [e] at h; simp at h
    rw [this] at h
    exact .inr ⟨by omega, by simpa using h.symm⟩
theorem sgn_mul {d x y : Int} (hd : 0 < d) (e : x = d * y) : (0 ≤ x → 0 ≤ y) ∧ (x = 0 ↔ y = 0) := by
  subst e
  refine ⟨fun h => ?_, ?_⟩
  · rcases Int.lt_or_le y 0 with h' | h'
    · have := Int.mul_neg_of_pos_of_neg hd h'
      omega
    · exact h'
  · rw [Int.mul_eq_zero]
    constructor
    · rintro (h | h)
      · omega
      · exact h
    · exact .inr
theorem CInv.cutL {d : Nat} {rows : List Row} {s : CS} (I : CInv d rows s) {r l : Row} (hl : l ∈ s.lines) (h0 : dot r l ≠ 0) : CInv d (rows ++ [r]) ⟨(cutLines r l s).lines, (cutLines r l s).rays, s.count + 1⟩ := by
  have hw := upL_pos r l h0
  have hu : (upL r l).length = d := (upL_len r l).trans (I.ll l hl)
  have hz : ∀ q ∈ rows, dot q (upL r l) = 0 := fun q hq => by
    have := I.l0 l hl q hq
    rcases upL_dot r q l with e | e <;> omega
  have hn := I.cnt
  refine ⟨by rw [List.length_append, hn]; rfl, ?_, ?_, ?_, ?_, ?_, ?_⟩
  · intro o ho
    obtain ⟨o', ho', rfl⟩ := List.mem_map.mp ho
    have := I.ll o' (List.mem_filter.mp ho').1
    rw [prim_len, join_len (this.trans hu.symm), this]
  · intro p hp
    rcases List.mem_append.mp hp with hp | hp
    · obtain ⟨p', hp', rfl⟩ := List.mem_map.mp hp
      have := I.rl p' hp'
      show (prim _).length = d
      rw [prim_len, join_len (this.trans hu.symm), this]
    · rw [List.mem_singleton.mp hp]; exact hu
  · intro o ho q hq
    obtain ⟨o', ho', rfl⟩ := List.mem_map.mp ho
    have ho' := (List.mem_filter.mp ho').1
    obtain ⟨e, he, hj⟩ := dot_prim_join q o' (upL r l) (dot r (upL r l)) (0 - dot r o') ((I.ll o' ho').trans hu.symm)
    refine ((sgn_mul he hj).2.mp ?_)
    rcases List.mem_append.mp hq with hq | hq
    · rw [I.l0 o' ho' q hq, hz q hq]; simp
    · rw [List.mem_singleton.mp hq, Int.sub_mul, Int.zero_mul, Int.mul_comm (dot r o')]; omega
  · intro p hp i q hq
    rcases List.mem_append.mp hp with hp | hp
    · obtain ⟨p', hp', rfl⟩ := List.mem_map.mp hp
      obtain ⟨e, he, hj⟩ := dot_prim_join q p'.1 (upL r l) (dot r (upL r l)) (0 - dot r p'.1) ((I.rl p' hp').trans hu.symm)
      rcases app_get hq with ⟨hq, hi⟩ | ⟨rfl, rfl⟩
      · have hz' := hz q (List.mem_of_getElem? hq)
        rw [hz', Int.mul_zero, Int.add_zero] at hj
        obtain ⟨a1, a2⟩ := I.rz p' hp' i q hq
        have b := sgn_mul he hj
        refine ⟨b.1 (Int.mul_nonneg (by omega) a1), ?_⟩
        show (p'.2 ||| 1 <<< s.count).testBit i = true ↔ _
        rw [hn, bit_low hi, a2, ← b.2, Int.mul_eq_zero]
        constructor
        · exact .inr
        · rintro (h | h)
          · omega
          · exact h
      · have e0 : dot q (upL q l) * dot q p'.1 + (0 - dot q p'.1) * dot q (upL q l) = 0 := by
          rw [Int.sub_mul, Int.zero_mul, Int.mul_comm (dot q p'.1)]; omega
        have b := (sgn_mul he hj).2.mp e0
        refine ⟨?_, ?_⟩
        · show 0 ≤ dot q (prim _)
          rw [b]; omega
        · show (p'.2 ||| 1 <<< s.count).testBit rows.length = true ↔ dot q (prim _) = 0
          rw [hn, bit_top (I.rm p' hp'), b]
          simp
    · rw [List.mem_singleton.mp hp]
      show 0 ≤ dot q (upL r l) ∧ ((1 <<< s.count - 1).testBit i = true ↔ dot q (upL r l) = 0)
      rw [hn, Nat.shiftLeft_eq, Nat.one_mul, Nat.testBit_two_pow_sub_one]
      rcases app_get hq with ⟨hq, hi⟩ | ⟨rfl, rfl⟩
      · rw [hz q (List.mem_of_getElem? hq)]
        simp [hi]
      · refine ⟨by omega, ?_⟩
        simp
        omega
  · intro p hp
    rw [List.length_append]
    rcases List.mem_append.mp hp with hp | hp
    · obtain ⟨p', hp', rfl⟩ := List.mem_map.mp hp
      show p'.2 ||| 1 <<< s.count < _
      rw [hn]
      exact or_lt (I.rm p' hp')
    · rw [List.mem_singleton.mp hp]
      show 1 <<< s.count - 1 < _
      rw [hn, Nat.shiftLeft_eq, Nat.one_mul]
      have : 2 ^ rows.length < 2 ^ (rows.length + [r].length) := Nat.pow_lt_pow_right (by omega) (by simp)
      exact Nat.lt_of_le_of_lt (Nat.sub_le _ _) this
  · show List.Pairwise _ (_ ++ _)
    rw [List.pairwise_append]
    refine ⟨?_, List.pairwise_singleton _ _, ?_⟩
    · rw [List.pairwise_map]
      refine (List.Pairwise.and_mem.mp I.nd).imp fun {p q} h e => ?_
      obtain ⟨hp, hq, h⟩ := h
      rw [hn] at e
      exact h (or_inj (I.rm p hp) (I.rm q hq) e)
    · intro p hp q hq
      obtain ⟨p', hp', rfl⟩ := List.mem_map.mp hp
      rw [List.mem_singleton.mp hq]
      show p'.2 ||| 1 <<< s.count ≠ 1 <<< s.count - 1
      rw [hn]
      have : 1 <<< rows.length - 1 < 2 ^ rows.length := by
        rw [Nat.shiftLeft_eq, Nat.one_mul]
        have := Nat.two_pow_pos rows.length
        omega
      exact fun e => ne_top this (I.rm p' hp') e.symm
theorem mem_above {r : Row} {s : CS} {p : Row × Nat} : p ∈ aboveR r s ↔ p ∈ s.rays ∧ 0 < dot r p.1 := by simp [aboveR]
theorem mem_on {r : Row} {s : CS} {p : Row × Nat} : p ∈ onR r s ↔ p ∈ s.rays ∧ dot r p.1 = 0 := by simp [onR]
theorem mem_below {r : Row} {s : CS} {p : Row × Nat} : p ∈ belowR r s ↔ p ∈ s.rays ∧ dot r p.1 < 0 := by simp [belowR]
theorem edge_of {rays : List (Row × Nat)} {z : Nat} {f g : Row} (h : isEdge rays z f g = true) {p : Row × Nat} (hp : p ∈ rays) (hz : p.2 &&& z = z) : p.1 = f ∨ p.1 = g := by
  have := List.all_eq_true.mp h p hp
  simp only [Bool.or_eq_true, decide_eq_true_eq] at this
  rcases this with h | h
  · exact h
  · exact absurd hz h
theorem mem_fresh {r : Row} {s : CS} {p : Row × Nat} (h : p ∈ freshR r s) : ∃ a b, a ∈ s.rays ∧ 0 < dot r a.1 ∧ b ∈ s.rays ∧ dot r b.1 < 0 ∧ isEdge s.rays (a.2 &&& b.2) a.1 b.1 = true ∧ p = mixR r a b s.count := by
  unfold freshR at h
  rw [List.mem_flatMap] at h
  obtain ⟨a, ha, h⟩ := h
  obtain ⟨b, hb, rfl⟩ := List.mem_map.mp h
  obtain ⟨hb, he⟩ := List.mem_filter.mp hb
  obtain ⟨a1, a2⟩ := mem_above.mp ha
  obtain ⟨b1, b2⟩ := mem_below.mp hb
  exact ⟨a, b, a1, a2, b1, b2, he, rfl⟩
theorem and_lt {a b n : Nat} (h : a < 2 ^ n) : a &&& b < 2 ^ n := Nat.lt_of_le_of_lt Nat.and_le_left h
theorem and_self' (a b : Nat) : a &&& (a &&& b) = a &&& b := by rw [← Nat.and_assoc, Nat.and_self]
theorem and_self2 (a b : Nat) : b &&& (a &&& b) = a &&& b := by rw [Nat.and_comm a b]; exact and_self' b a
theorem CInv.cutR {d : Nat} {rows : List Row} {s : CS} (I : CInv d rows s) {r : Row} (h0 : ∀ l ∈ s.lines, dot r l = 0) : CInv d (rows ++ [r]) ⟨(cutRays r s).lines, (cutRays r s).rays, s.count + 1⟩ := by
  have hn := I.cnt
  have fz : ∀ a b, a ∈ s.rays → 0 < dot r a.1 → b ∈ s.rays → dot r b.1 < 0 → ∀ i q, (rows ++ [r])[i]? = some q → 0 ≤ dot q (mixR r a b s.count).1 ∧ ((mixR r a b s.count).2.testBit i = true ↔ dot q (mixR r a b s.count).1 = 0) := by
    intro a b ha pa hb nb i q hq
    obtain ⟨e, he, hj⟩ := dot_prim_join q a.1 b.1 (0 - dot r b.1) (dot r a.1) ((I.rl a ha).trans (I.rl b hb).symm)
    have hs := sgn_mul he hj
    show 0 ≤ dot q (prim _) ∧ (((a.2 &&& b.2) ||| 1 <<< s.count).testBit i = true ↔ dot q (prim _) = 0)
    rcases app_get hq with ⟨hq, hi⟩ | ⟨rfl, rfl⟩
    · obtain ⟨a1, a2⟩ := I.rz a ha i q hq
      obtain ⟨b1, b2⟩ := I.rz b hb i q hq
      have c1 : 0 ≤ (0 - dot r b.1) * dot q a.1 := Int.mul_nonneg (by omega) a1
      have c2 : 0 ≤ dot r a.1 * dot q b.1 := Int.mul_nonneg (by omega) b1
      refine ⟨hs.1 (by omega), ?_⟩
      rw [hn, bit_low hi, Nat.testBit_and, Bool.and_eq_true, a2, b2, ← hs.2]
      constructor
      · rintro ⟨e1, e2⟩
        rw [e1, e2]; simp
      · intro e0
        have e1 : (0 - dot r b.1) * dot q a.1 = 0 := by omega
        have e2 : dot r a.1 * dot q b.1 = 0 := by omega
        rw [Int.mul_eq_zero] at e1 e2
        constructor
        · rcases e1 with h | h
          · omega
          · exact h
        · rcases e2 with h | h
          · omega
          · exact h
    · have e0 : (0 - dot q b.1) * dot q a.1 + dot q a.1 * dot q b.1 = 0 := by
        rw [Int.sub_mul, Int.zero_mul, Int.mul_comm (dot q b.1)]; omega
      have e1 := hs.2.mp e0
      refine ⟨by rw [e1]; omega, ?_⟩
      rw [hn, bit_top (and_lt (I.rm a ha)), e1]
      simp
  refine ⟨by rw [List.length_append, hn]; rfl, I.ll, ?_, ?_, ?_, ?_, ?_⟩
  · intro p hp
    rcases List.mem_append.mp hp with hp | hp
    · rcases List.mem_append.mp hp with hp | hp
      · exact I.rl p (mem_above.mp hp).1
      · obtain ⟨p', hp', rfl⟩ := List.mem_map.mp hp
        exact I.rl p' (mem_on.mp hp').1
    · obtain ⟨a, b, ha, _, hb, _, _, rfl⟩ := mem_fresh hp
      show (prim _).length = d
      rw [prim_len, join_len ((I.rl a ha).trans (I.rl b hb).symm), I.rl a ha]
  · intro l hl q hq
    rcases List.mem_append.mp hq with hq | hq
    · exact I.l0 l hl q hq
    · rw [List.mem_singleton.mp hq]; exact h0 l hl
  · intro p hp i q hq
    rcases List.mem_append.mp hp with hp | hp
    · rcases List.mem_append.mp hp with hp | hp
      · obtain ⟨h1, h2⟩ := mem_above.mp hp
        rcases app_get hq with ⟨hq, hi⟩ | ⟨rfl, rfl⟩
        · exact I.rz p h1 i q hq
        · refine ⟨by omega, ?_⟩
          rw [Nat.testBit_lt_two_pow (I.rm p h1)]
          simp
          omega
      · obtain ⟨p', hp', rfl⟩ := List.mem_map.mp hp
        obtain ⟨h1, h2⟩ := mem_on.mp hp'
        rcases app_get hq with ⟨hq, hi⟩ | ⟨rfl, rfl⟩
        · show 0 ≤ dot q p'.1 ∧ ((p'.2 ||| 1 <<< s.count).testBit i = true ↔ dot q p'.1 = 0)
          rw [hn, bit_low hi]
          exact I.rz p' h1 i q hq
        · show 0 ≤ dot q p'.1 ∧ ((p'.2 ||| 1 <<< s.count).testBit rows.length = true ↔ dot q p'.1 = 0)
          rw [hn, bit_top (I.rm p' h1), h2]
          simp
    · obtain ⟨a, b, ha, pa, hb, nb, _, rfl⟩ := mem_fresh hp
      exact fz a b ha pa hb nb i q hq
  · intro p hp
    have up : ∀ z, z < 2 ^ rows.length → z < 2 ^ (rows ++ [r]).length := fun z h => Nat.lt_of_lt_of_le h (Nat.pow_le_pow_right (by omega) (by simp))
    rcases List.mem_append.mp hp with hp | hp
    · rcases List.mem_append.mp hp with hp | hp
      · exact up _ (I.rm p (mem_above.mp hp).1)
      · obtain ⟨p', hp', rfl⟩ := List.mem_map.mp hp
        show p'.2 ||| 1 <<< s.count < _
        rw [hn, List.length_append]
        exact or_lt (I.rm p' (mem_on.mp hp').1)
    · obtain ⟨a, b, ha, _, hb, _, _, rfl⟩ := mem_fresh hp
      show (a.2 &&& b.2) ||| 1 <<< s.count < _
      rw [hn, List.length_append]
      exact or_lt (and_lt (I.rm a ha))
  · show List.Pairwise _ (aboveR r s ++ (onR r s).map (fun p => (p.1, p.2 ||| 1 <<< s.count)) ++ freshR r s)
    have ndm := List.Pairwise.and_mem.mp I.nd
    rw [List.pairwise_append, List.pairwise_append]
    refine ⟨⟨I.nd.sublist List.filter_sublist, ?_, ?_⟩, ?_, ?_⟩
    · rw [List.pairwise_map]
      refine (ndm.sublist List.filter_sublist).imp fun {p q} h e => ?_
      rw [hn] at e
      exact h.2.2 (or_inj (I.rm p h.1) (I.rm q h.2.1) e)
    · intro p hp q hq
      obtain ⟨q', hq', rfl⟩ := List.mem_map.mp hq
      show p.2 ≠ q'.2 ||| 1 <<< s.count
      rw [hn]
      exact ne_top (I.rm p (mem_above.mp hp).1) (I.rm q' (mem_on.mp hq').1)
    · unfold freshR
      rw [List.pairwise_flatMap]
      refine ⟨fun a ha => ?_, ?_⟩
      · obtain ⟨a1, a2⟩ := mem_above.mp ha
        rw [List.pairwise_map]
        refine (List.Pairwise.and_mem.mp ((ndm.sublist (List.filter_sublist (l := s.rays) (p := fun p => decide (dot r p.1 < 0)))).sublist (List.filter_sublist (p := fun b => isEdge s.rays (a.2 &&& b.2) a.1 b.1)))).imp fun {b c} h => ?_
        intro e
        obtain ⟨hb, hc, h1, h2, h3⟩ := h
        have hb' := mem_below.mp (List.mem_filter.mp hb).1
        have hc' := mem_below.mp (List.mem_filter.mp hc).1
        have e : (a.2 &&& b.2) ||| 1 <<< s.count = (a.2 &&& c.2) ||| 1 <<< s.count := e
        rw [hn] at e
        have e := or_inj (and_lt (I.rm a a1)) (and_lt (I.rm a a1)) e
        rcases edge_of (List.mem_filter.mp hb).2 h2 (by rw [e]; exact and_self2 _ _) with z | z
        · have := hc'.2
          rw [z] at this
          omega
        · exact h3 (I.same h1 h2 z.symm)
      · refine (List.Pairwise.and_mem.mp (ndm.sublist (List.filter_sublist (l := s.rays) (p := fun p => decide (0 < dot r p.1))))).imp fun {a c} h => ?_
        intro x hx y hy e
        obtain ⟨ha, hc, h1, h2, h3⟩ := h
        obtain ⟨b, hb, rfl⟩ := List.mem_map.mp hx
        obtain ⟨b', hb', rfl⟩ := List.mem_map.mp hy
        have ha' := (mem_above.mp ha).2
        have hc' := (mem_above.mp hc).2
        have hb1 := mem_below.mp (List.mem_filter.mp hb).1
        have e : (a.2 &&& b.2) ||| 1 <<< s.count = (c.2 &&& b'.2) ||| 1 <<< s.count := e
        rw [hn] at e
        have e := or_inj (and_lt (I.rm a h1)) (and_lt (I.rm c h2)) e
        rcases edge_of (List.mem_filter.mp hb).2 h2 (by rw [e]; exact and_self' _ _) with z | z
        · exact h3 (I.same h1 h2 z.symm)
        · have := hb1.2
          rw [← z] at this
          omega
    · intro p hp q hq
      obtain ⟨a, b, ha, pa, hb, nb, he, rfl⟩ := mem_fresh hq
      show p.2 ≠ (a.2 &&& b.2) ||| 1 <<< s.count
      rw [hn]
      rcases List.mem_append.mp hp with hp | hp
      · exact ne_top (I.rm p (mem_above.mp hp).1) (and_lt (I.rm a ha))
      · obtain ⟨p', hp', rfl⟩ := List.mem_map.mp hp
        obtain ⟨h1, h2⟩ := mem_on.mp hp'
        intro e
        have e : p'.2 ||| 1 <<< s.count = (a.2 &&& b.2) ||| 1 <<< rows.length := e
        rw [hn] at e
        have e := or_inj (I.rm p' h1) (and_lt (I.rm a ha)) e
        rcases edge_of he h1 (by rw [e]; exact Nat.and_self _) with z | z <;> rw [z] at h2 <;> omega
theorem CInv.narrow {d : Nat} {rows : List Row} {s : CS} (I : CInv d rows s) (r : Row) : CInv d (rows ++ [r]) (narrowC r s) := by
  have hc : ∀ l, (cutLines r l s).count = s.count := fun _ => rfl
  unfold narrowC
  split
  · rename_i l ls e
    have hm : l ∈ s.lines.filter fun l => decide (dot r l ≠ 0) := by rw [e]; exact List.mem_cons_self
    obtain ⟨h1, h2⟩ := List.mem_filter.mp hm
    exact I.cutL h1 (of_decide_eq_true h2)
  · rename_i e
    refine I.cutR fun l hl => ?_
    by_cases h : dot r l = 0
    · exact h
    · have hm : l ∈ s.lines.filter fun l => decide (dot r l ≠ 0) := List.mem_filter.mpr ⟨hl, decide_eq_true h⟩
      rw [e] at hm
      cases hm
/-- so the rays are few -/
theorem nd_len : ∀ (n : Nat) (l : List Nat), l.Nodup → (∀ x ∈ l, x < n) → l.length ≤ n
  | 0, l, _, b => by
    cases l with
    | nil => exact Nat.le_refl _
    | cons x l => exact absurd (b x List.mem_cons_self) (Nat.not_lt_zero _)
  | n + 1, l, h, b => by
    have h1 := nd_len n (l.erase n) (h.erase n) fun x hx => by
      rw [h.mem_erase_iff] at hx
      have := b x hx.2
      have := hx.1
      omega
    rw [List.length_erase] at h1
    split at h1 <;> omega
theorem few {l : List (Row × Nat)} {n : Nat} (h : l.Pairwise fun p q => p.2 ≠ q.2) (b : ∀ p ∈ l, p.2 < n) : l.length ≤ n := by
  have h1 : (l.map (·.2)).Nodup := by
    unfold List.Nodup
    rw [List.pairwise_map]
    exact h
  have := nd_len n _ h1 fun x hx => by
    obtain ⟨p, hp, rfl⟩ := List.mem_map.mp hx
    exact b p hp
  simpa using this
theorem CInv.few {d : Nat} {rows : List Row} {s : CS} (I : CInv d rows s) : s.rays.length ≤ 2 ^ rows.length := CD.few I.nd I.rm

/-! sizes -/
def bd (N : Nat) (v : Row) : Prop := ∀ x ∈ v, x.natAbs ≤ N
def asum (v : Row) : Nat := (v.map Int.natAbs).sum
theorem bd.mono {N M : Nat} {v : Row} (h : bd N v) (l : N ≤ M) : bd M v := fun x hx => Nat.le_trans (h x hx) l
theorem dot_bd {N : Nat} (r : Row) : ∀ v : Row, bd N v → (dot r v).natAbs ≤ asum r * N := by
  unfold dot asum
  induction r with
  | nil => intro v _; simp
  | cons x r ih =>
    intro v h
    cases v with
    | nil => simp
    | cons y v =>
      rw [List.zipWith_cons_cons, List.sum_cons, List.map_cons, List.sum_cons, Nat.add_mul]
      refine Nat.le_trans (Int.natAbs_add_le _ _) (Nat.add_le_add ?_ (ih v fun z hz => h z (List.mem_cons_of_mem _ hz)))
      rw [Int.natAbs_mul]
      exact Nat.mul_le_mul_left _ (h y List.mem_cons_self)
theorem bd_prim {N : Nat} {v : Row} (h : bd N v) : bd N (prim v) := by
  unfold prim
  split
  · intro x hx
    obtain ⟨y, hy, rfl⟩ := List.mem_map.mp hx
    rw [Int.natAbs_ediv_of_dvd (gcd_dvd v y hy)]
    exact Nat.le_trans (Nat.div_le_self _ _) (h y hy)
  · exact h
theorem bd_opp {N : Nat} {v : Row} (h : bd N v) : bd N (oppR v) := fun x hx => by
  obtain ⟨y, hy, rfl⟩ := List.mem_map.mp hx
  have := h y hy
  omega
theorem bd_join {N M A B : Nat} {a b : Row} {t m : Int} (ha : bd N a) (hb : bd M b) (ht : t.natAbs ≤ A) (hm : m.natAbs ≤ B) : bd (A * N + B * M) (joinR a t b m) := by
  unfold joinR
  induction a generalizing b with
  | nil => intro x hx; cases hx
  | cons y a ih =>
    cases b with
    | nil => intro x hx; cases hx
    | cons z b =>
      rw [List.zipWith_cons_cons]
      intro x hx
      rcases List.mem_cons.mp hx with rfl | hx
      · refine Nat.le_trans (Int.natAbs_add_le _ _) ?_
        rw [Int.natAbs_mul, Int.natAbs_mul]
        exact Nat.add_le_add (Nat.mul_le_mul ht (ha y List.mem_cons_self)) (Nat.mul_le_mul hm (hb z List.mem_cons_self))
      · exact ih (fun x hx => ha x (List.mem_cons_of_mem _ hx)) (fun x hx => hb x (List.mem_cons_of_mem _ hx)) x hx
theorem bd_upL {N : Nat} {r v : Row} (h : bd N v) : bd N (upL r v) := by
  unfold upL
  split
  · exact h
  · exact bd_opp h
/-- of rows and rays -/
structure CBd (d L N : Nat) (s : CS) : Prop where
  ls : ∀ l ∈ s.lines, bd L l
  le : s.lines.length ≤ d
  rs : ∀ p ∈ s.rays, bd N p.1
  ll : L ≤ N
/-- the greatest entry after n steps -/
def NB : Nat → Nat
  | 0 => 1
  | 1 => 2
  | n + 1 => 20 * NB n * NB n
def LB : Nat → Nat
  | 0 => 1
  | n + 1 => 20 * LB n * LB n
theorem NB_s (n : Nat) : NB (n + 2) = 20 * NB (n + 1) * NB (n + 1) := rfl
theorem NB_pos : ∀ n, 1 ≤ NB n
  | 0 => Nat.le_refl _
  | 1 => by decide
  | n + 2 => by
    rw [NB_s]
    have := Nat.mul_le_mul (Nat.mul_le_mul_left 20 (NB_pos (n + 1))) (NB_pos (n + 1))
    omega
theorem LB_pos : ∀ n, 1 ≤ LB n
  | 0 => Nat.le_refl _
  | n + 1 => by
    rw [LB]
    have := Nat.mul_le_mul (Nat.mul_le_mul_left 20 (LB_pos n)) (LB_pos n)
    omega
theorem NB_le (n : Nat) : NB n ≤ NB (n + 1) := by
  cases n with
  | zero => decide
  | succ n =>
    rw [NB_s]
    have := Nat.mul_le_mul_left (20 * NB (n + 1)) (NB_pos (n + 1))
    omega
theorem NB_mono {n m : Nat} (h : n ≤ m) : NB n ≤ NB m := by
  induction h with
  | refl => exact Nat.le_refl _
  | step _ ih => exact Nat.le_trans ih (NB_le _)
theorem LB_mono {n m : Nat} (h : n ≤ m) : LB n ≤ LB m := by
  induction h with
  | refl => exact Nat.le_refl _
  | @step k _ ih =>
    refine Nat.le_trans ih ?_
    rw [LB]
    have := Nat.mul_le_mul_left (20 * LB k) (LB_pos k)
    omega
structure CSz (d : Nat) (rows : List Row) (s : CS) : Prop where
  le : s.lines.length ≤ d
  ls : ∀ l ∈ s.lines, bd (NB rows.length) l ∧ bd (LB (d - s.lines.length)) l
  rs : ∀ p ∈ s.rays, bd (NB rows.length) p.1
/-- the rows: the first is told apart -/
def RowsB (rows : List Row) : Prop := ∀ i r, rows[i]? = some r → asum r ≤ 10 ∧ (i = 0 → asum r ≤ 1)
theorem step_bd {n : Nat} {a : Nat} (h : a ≤ 10) (h0 : n = 0 → a ≤ 1) : a * NB n * NB n + a * NB n * NB n ≤ NB (n + 1) := by
  cases n with
  | zero =>
    have := h0 rfl
    have e : NB 0 = 1 := rfl
    have e2 : NB 1 = 2 := rfl
    rw [e2, e]
    omega
  | succ n =>
    rw [NB_s]
    have h1 := Nat.mul_le_mul_right (NB (n + 1)) (Nat.mul_le_mul_right (NB (n + 1)) h)
    have e : 20 * NB (n + 1) * NB (n + 1) = 10 * NB (n + 1) * NB (n + 1) + 10 * NB (n + 1) * NB (n + 1) := by
      rw [← Nat.add_mul, ← Nat.add_mul]
    omega
theorem stepL_bd {n a : Nat} (h : a ≤ 10) : a * LB n * LB n + a * LB n * LB n ≤ LB (n + 1) := by
  rw [LB]
  have h1 := Nat.mul_le_mul_right (LB n) (Nat.mul_le_mul_right (LB n) h)
  have e : 20 * LB n * LB n = 10 * LB n * LB n + 10 * LB n * LB n := by
    rw [← Nat.add_mul, ← Nat.add_mul]
  omega
theorem filter_lt {α : Type} {l : List α} {p : α → Bool} {x : α} (h : x ∈ l) (n : p x = false) : (l.filter p).length < l.length := by
  have h1 : (l.filter p).length ≤ l.length := List.length_filter_le _ _
  rcases Nat.lt_or_ge (l.filter p).length l.length with h2 | h2
  · exact h2
  · have h3 := List.length_filter_eq_length_iff.mp (Nat.le_antisymm h1 h2) x h
    rw [n] at h3
    cases h3
/-- entries before the last step of primitive, in a cone's step -/
structure StepB (r : Row) (n d : Nat) (s : CS) : Prop where
  a10 : asum r ≤ 10
  a1 : n = 0 → asum r ≤ 1
theorem CSz.narrow {d : Nat} {rows : List Row} {s : CS} (z : CSz d rows s) {r : Row} (h : asum r ≤ 10) (h0 : rows.length = 0 → asum r ≤ 1) : CSz d (rows ++ [r]) (narrowC r s) := by
  have hl : (rows ++ [r]).length = rows.length + 1 := by simp
  have up : ∀ {v : Row}, bd (NB rows.length) v → bd (NB (rows ++ [r]).length) v := fun h => h.mono (by rw [hl]; exact NB_le _)
  have sb := step_bd h h0
  have dn : ∀ {v : Row}, bd (NB rows.length) v → (dot r v).natAbs ≤ asum r * NB rows.length := fun h => dot_bd r _ h
  have jn : ∀ {a b : Row} {t m : Int}, bd (NB rows.length) a → bd (NB rows.length) b → t.natAbs ≤ asum r * NB rows.length → m.natAbs ≤ asum r * NB rows.length → bd (NB (rows ++ [r]).length) (prim (joinR a t b m)) := fun h1 h2 h3 h4 => bd_prim ((bd_join h1 h2 h3 h4).mono (by rw [hl]; exact sb))
  have ng : ∀ {i : Int}, (0 - i).natAbs = i.natAbs := by intro i; omega
  unfold narrowC
  split
  · rename_i l ls e
    have hm : l ∈ s.lines.filter fun l => decide (dot r l ≠ 0) := by rw [e]; exact List.mem_cons_self
    obtain ⟨h1, h2⟩ := List.mem_filter.mp hm
    have ul := bd_upL (r := r) (z.ls l h1).1
    have ul2 := bd_upL (r := r) (z.ls l h1).2
    have pos : 0 < s.lines.length := List.length_pos_of_mem h1
    have lt : (cutLines r l s).lines.length < s.lines.length := by
      show (List.map _ _).length < _
      rw [List.length_map]
      refine filter_lt h1 ?_
      unfold upL
      split
      · simp
      · rw [opp_opp]; simp
    refine ⟨by have := z.le; show (cutLines r l s).lines.length ≤ d; omega, fun o ho => ?_, fun p hp => ?_⟩
    · obtain ⟨o', ho', rfl⟩ := List.mem_map.mp ho
      obtain ⟨b1, b2⟩ := z.ls o' (List.mem_filter.mp ho').1
      refine ⟨jn b1 ul (dn ul) (by rw [ng]; exact dn b1), ?_⟩
      refine bd.mono (bd_prim ((bd_join b2 ul2 (dot_bd r _ ul2) (by rw [ng]; exact dot_bd r _ b2)).mono (stepL_bd h))) (LB_mono ?_)
      show d - s.lines.length + 1 ≤ d - (cutLines r l s).lines.length
      have := z.le
      omega
    · rcases List.mem_append.mp hp with hp | hp
      · obtain ⟨p', hp', rfl⟩ := List.mem_map.mp hp
        exact jn (z.rs p' hp') ul (dn ul) (by rw [ng]; exact dn (z.rs p' hp'))
      · rw [List.mem_singleton.mp hp]; exact up ul
  · refine ⟨z.le, fun l hl => ⟨up (z.ls l hl).1, (z.ls l hl).2⟩, fun p hp => ?_⟩
    rcases List.mem_append.mp hp with hp | hp
    · rcases List.mem_append.mp hp with hp | hp
      · exact up (z.rs p (mem_above.mp hp).1)
      · obtain ⟨p', hp', rfl⟩ := List.mem_map.mp hp
        exact up (z.rs p' (mem_on.mp hp').1)
    · obtain ⟨a, b, ha, _, hb, _, _, rfl⟩ := mem_fresh hp
      exact jn (z.rs a ha) (z.rs b hb) (by rw [ng]; exact dn (z.rs b hb)) (dn (z.rs a ha))
/-- the start -/
def unitR (d i : Nat) : Row := (List.range d).map fun j => if i = j then 1 else 0
def cone0 (d : Nat) : CS := ⟨(List.range d).map (unitR d), [], 0⟩
theorem cone0_inv (d : Nat) : CInv d [] (cone0 d) := ⟨rfl, fun l hl => by
  obtain ⟨i, _, rfl⟩ := List.mem_map.mp hl
  simp [unitR], fun p hp => (nomatch hp), fun l _ r hr => (nomatch hr), fun p hp => (nomatch hp), fun p hp => (nomatch hp), List.Pairwise.nil⟩
theorem cone0_sz (d : Nat) : CSz d [] (cone0 d) := ⟨by simp [cone0], fun l hl => by
  obtain ⟨i, _, rfl⟩ := List.mem_map.mp hl
  have : bd 1 (unitR d i) := fun x hx => by
    obtain ⟨j, _, rfl⟩ := List.mem_map.mp hx
    split <;> decide
  exact ⟨this, this.mono (LB_pos _)⟩, fun p hp => by cases hp⟩
def coneOf (d : Nat) (rows : List Row) : CS := rows.foldl (fun s r => narrowC r s) (cone0 d)
theorem coneOf_app (d : Nat) (rows : List Row) (r : Row) : coneOf d (rows ++ [r]) = narrowC r (coneOf d rows) := by
  unfold coneOf
  rw [List.foldl_append]
  rfl
theorem RowsB.init {rows : List Row} {r : Row} (h : RowsB (rows ++ [r])) : RowsB rows := fun i q hq => h i q (by
  have hi : i < rows.length := (List.getElem?_eq_some_iff.mp hq).1
  rw [List.getElem?_append_left hi]; exact hq)
theorem RowsB.last {rows : List Row} {r : Row} (h : RowsB (rows ++ [r])) : asum r ≤ 10 ∧ (rows.length = 0 → asum r ≤ 1) := h rows.length r (by simp)
theorem coneOf_inv (d : Nat) (rows : List Row) : RowsB rows → CInv d rows (coneOf d rows) ∧ CSz d rows (coneOf d rows) := by
  suffices ∀ n, ∀ rows : List Row, rows.length = n → RowsB rows → CInv d rows (coneOf d rows) ∧ CSz d rows (coneOf d rows) from this _ rows rfl
  intro n
  induction n with
  | zero =>
    intro rows h _
    rw [List.length_eq_zero_iff.mp h]
    exact ⟨cone0_inv d, cone0_sz d⟩
  | succ n ih =>
    intro rows h b
    have hne : rows ≠ [] := fun z => by rw [z] at h; cases h
    obtain ⟨rows', r, rfl⟩ : ∃ l x, rows = l ++ [x] := ⟨_, _, (List.dropLast_concat_getLast hne).symm⟩
    obtain ⟨h1, h2⟩ := ih rows' (by simpa using h) b.init
    rw [coneOf_app]
    exact ⟨h1.narrow r, h2.narrow b.last.1 b.last.2⟩
theorem NB12 : NB 12 < 2 ^ 10900 := by decide +kernel
theorem LB3 : LB 3 < 2 ^ 32 := by decide +kernel
end CD

set_option Elab.async false
set_option linter.all false
set_option maxRecDepth 100000
set_option maxHeartbeats 400000
namespace CD
open PySem PySem.Spec PyProof.Rows L2
/-! ### the plain level: rules -/
section
variable {α β : Type} {st st1 st2 : List O} {ρ ρ1 ρ2 : Env}
theorem ev_bind {x : M α} {f : α → M β} {a : α} {r : Out β} (h : x st = .val a st1) (k : f a st1 = r) : M.bind x f st = r := by
  unfold M.bind; rw [h]; exact k
theorem ev_noex {x : M α} {a : α} (h : x st = .val a st1) : M.noex x st = .val a st1 := by
  unfold M.noex; rw [h]
theorem run_rt {fb : Env → M Fl} {n : Nat} {ms : List MV} {x : MV} (h : fb (startE n ms) st = .val (.rt x) st1) : runB fb n ms st = .val x st1 := ev_bind h rfl
theorem run_nx {fb : Env → M Fl} {n : Nat} {ms : List MV} (h : fb (startE n ms) st = .val (.nx ρ1) st1) : runB fb n ms st = .val (.v .non) st1 := ev_bind h rfl
theorem run_ex {fb : Env → M Fl} {n : Nat} {ms : List MV} {e : Ex} (h : fb (startE n ms) st = .exc e st1) : runB fb n ms st = .exc e st1 := by
  unfold runB M.bind; rw [h]
theorem st_nx {f g : Env → M Fl} {r : Out Fl} (h : f ρ st = .val (.nx ρ1) st1) (k : g ρ1 st1 = r) : sSeq f g ρ st = r := ev_bind h k
theorem st_rt {f g : Env → M Fl} {x : MV} (h : f ρ st = .val (.rt x) st1) : sSeq f g ρ st = .val (.rt x) st1 := ev_bind h rfl
theorem st_ex {f g : Env → M Fl} {e : Ex} (h : f ρ st = .exc e st1) : sSeq f g ρ st = .exc e st1 := by
  unfold sSeq M.bind; rw [h]
theorem st_asg {f : Env → M MV} {g : MV → Env → Option Env} {x : MV} (h : f ρ st = .val x st1) (k : g x ρ = some ρ1) : sAsg f g ρ st = .val (.nx ρ1) st1 := ev_bind h (ev_bind (a := ρ1) (by rw [k]; rfl) rfl)
theorem st_ret {f : Env → M MV} {x : MV} (h : f ρ st = .val x st1) : sRet f ρ st = .val (.rt x) st1 := ev_bind h rfl
theorem st_drop {f : Env → M MV} {x : MV} (h : f ρ st = .val x st1) : sDrop f ρ st = .val (.nx ρ) st1 := ev_bind h rfl
theorem st_if {t : Env → M Bool} {f g : Env → M Fl} {b : Bool} {r : Out Fl} (h : t ρ st = .val b st1) (k : (if b = true then f ρ else g ρ) st1 = r) : sIf t f g ρ st = r := ev_bind h k
theorem st_if1 {t : Env → M Bool} {f g : Env → M Fl} {r : Out Fl} (h : t ρ st = .val true st1) (k : f ρ st1 = r) : sIf t f g ρ st = r := ev_bind h k
theorem st_if0 {t : Env → M Bool} {f g : Env → M Fl} {r : Out Fl} (h : t ρ st = .val false st1) (k : g ρ st1 = r) : sIf t f g ρ st = r := ev_bind h k
/-- a loop whose turns keep I; enc: how its things look -/
theorem loop_inv {γ : Type} (enc : γ → D) (I : List γ → Env → List O → Prop) {g : MV → Env → Option Env} {body : Env → M Fl} (xs : List γ)
    (h : ∀ pre x post ρ st, xs = pre ++ x :: post → I pre ρ st → ∃ ρ1 ρ2 st2, g (.v (enc x)) ρ = some ρ1 ∧ body ρ1 st = .val (.nx ρ2) st2 ∧ I (pre ++ [x]) ρ2 st2) (h0 : I [] ρ st) :
    ∃ ρ' st', loopS g body (xs.map enc) ρ st = .val (.nx ρ') st' ∧ I xs ρ' st' := by
  suffices ∀ post pre ρ st, xs = pre ++ post → I pre ρ st → ∃ ρ' st', loopS g body (post.map enc) ρ st = .val (.nx ρ') st' ∧ I xs ρ' st' from this xs [] ρ st rfl h0
  intro post
  induction post with
  | nil =>
    intro pre ρ st e i
    rw [List.append_nil] at e
    subst e
    exact ⟨ρ, st, rfl, i⟩
  | cons x post ih =>
    intro pre ρ st e i
    obtain ⟨ρ1, ρ2, st2, e1, e2, i2⟩ := h pre x post ρ st e i
    obtain ⟨ρ', st', e3, i3⟩ := ih (pre ++ [x]) ρ2 st2 (by rw [e]; simp) i2
    refine ⟨ρ', st', ?_, i3⟩
    rw [List.map_cons, loopS]
    exact ev_bind (a := ρ1) (by rw [e1]; rfl) (ev_bind e2 e3)
theorem st_for {γ : Type} (enc : γ → D) (I : List γ → Env → List O → Prop) {fi : Env → M (List D)} {g : MV → Env → Option Env} {body : Env → M Fl} {k : Env → M Fl} {r : Out Fl} (xs : List γ)
    (hi : fi ρ st = .val (xs.map enc) st1)
    (h : ∀ pre x post ρ st, xs = pre ++ x :: post → I pre ρ st → ∃ ρ1 ρ2 st2, g (.v (enc x)) ρ = some ρ1 ∧ body ρ1 st = .val (.nx ρ2) st2 ∧ I (pre ++ [x]) ρ2 st2) (h0 : I [] ρ st1)
    (hk : ∀ ρ' st', I xs ρ' st' → k ρ' st' = r) : sSeq (sFor fi g body) k ρ st = r := by
  obtain ⟨ρ', st', e, i⟩ := loop_inv enc I xs h h0
  exact st_nx (ev_bind hi e) (hk _ _ i)
theorem lc_loop {γ : Type} (enc : γ → D) {vs : List Nat} {g : MV → Env → Option Env} {ft : Env → M Bool} {fe : Env → M MV} (t : γ → Bool) (f : γ → D) : ∀ (xs : List γ),
    (∀ x ∈ xs, ∃ ρ1, g (.v (enc x)) (wipeE ρ vs) = some ρ1 ∧ ft ρ1 st = .val (t x) st ∧ (t x = true → fe ρ1 st = .val (.v (f x)) st)) → lcLoop vs g ft fe ρ (xs.map enc) st = .val ((xs.filter t).map f) st
  | [], _ => rfl
  | x :: xs, h => by
    obtain ⟨ρ1, e1, e2, e3⟩ := h x List.mem_cons_self
    have ih := lc_loop enc t f xs fun y hy => h y (List.mem_cons_of_mem _ hy)
    rw [List.map_cons, lcLoop]
    refine ev_bind (a := ρ1) (by rw [e1]; rfl) (ev_bind (ev_noex e2) ?_)
    cases ht : t x with
    | false =>
      rw [if_neg Bool.false_ne_true, List.filter_cons_of_neg (by rw [ht]; exact Bool.false_ne_true)]
      exact ih
    | true =>
      rw [if_pos rfl, List.filter_cons_of_pos ht, List.map_cons]
      exact ev_bind (ev_noex (e3 ht)) (ev_bind (a := f x) (st1 := st) rfl (ev_bind ih rfl))
/-- a list comprehension that only reads -/
theorem ev_lc {γ : Type} (enc : γ → D) {vs : List Nat} {fi : Env → M (List D)} {g : MV → Env → Option Env} {ft : Env → M Bool} {fe : Env → M MV} (xs : List γ) (t : γ → Bool) (f : γ → D) (hi : fi ρ st = .val (xs.map enc) st1) (hs : xs.length ≤ 1000000)
    (h : ∀ x ∈ xs, ∃ ρ1, g (.v (enc x)) (wipeE ρ vs) = some ρ1 ∧ ft ρ1 st1 = .val (t x) st1 ∧ (t x = true → fe ρ1 st1 = .val (.v (f x)) st1)) : fLc vs fi g ft fe ρ st = .val (.v (.lst ((xs.filter t).map f))) st1 := by
  refine ev_bind hi ?_
  have e := lc_loop enc t f xs h
  show (if szOk (xs.map enc).length = true then M.bind (lcLoop vs g ft fe ρ (xs.map enc)) (fun ds => M.pure (MV.v (.lst ds))) else M.of none) st1 = _
  rw [if_pos (by unfold szOk; rw [List.length_map]; exact decide_eq_true hs)]
  exact ev_bind e rfl
theorem ev_lcY {γ : Type} (enc : γ → D) {vs : List Nat} {fi : Env → M (List D)} {g : MV → Env → Option Env} {fe : Env → M MV} (xs : List γ) (f : γ → D) (hi : fi ρ st = .val (xs.map enc) st1) (hs : xs.length ≤ 1000000)
    (h : ∀ x ∈ xs, ∃ ρ1, g (.v (enc x)) (wipeE ρ vs) = some ρ1 ∧ fe ρ1 st1 = .val (.v (f x)) st1) : fLc vs fi g fYes fe ρ st = .val (.v (.lst (xs.map f))) st1 := by
  have := ev_lc (ρ := ρ) (vs := vs) (g := g) (ft := fYes) (fe := fe) enc xs (fun _ => true) f hi hs fun x hx => by
    obtain ⟨ρ1, e1, e2⟩ := h x hx
    exact ⟨ρ1, e1, rfl, fun _ => e2⟩
  rw [List.filter_eq_self.mpr (fun _ _ => rfl)] at this
  exact this
theorem ev_all {γ : Type} (enc : γ → D) {vs : List Nat} {fi : Env → M (List D)} {g : MV → Env → Option Env} {fe : Env → M MV} (xs : List γ) (t : γ → Bool) (hi : fi ρ st = .val (xs.map enc) st1)
    (h : ∀ x ∈ xs, ∃ ρ1, g (.v (enc x)) (wipeE ρ vs) = some ρ1 ∧ fe ρ1 st1 = .val (.v (.bl (t x))) st1) : fAllG vs fi g fe ρ st = .val (.v (.bl (xs.all t))) st1 := by
  refine ev_bind hi (ev_bind (a := xs.all t) (st1 := st1) ?_ rfl)
  clear hi
  induction xs with
  | nil => rfl
  | cons x xs ih =>
    obtain ⟨ρ1, e1, e2⟩ := h x List.mem_cons_self
    have ih := ih fun y hy => h y (List.mem_cons_of_mem _ hy)
    rw [List.map_cons, allLoop]
    refine ev_bind (a := ρ1) (by rw [e1]; rfl) (ev_bind (ev_noex e2) (ev_bind (a := t x) (st1 := st1) rfl ?_))
    rw [List.all_cons]
    cases t x with
    | false => rfl
    | true => rw [if_pos rfl, Bool.true_and]; exact ih
/-- calls -/
theorem ev_callP {n : Nat} {F : List MV → M MV} {fs : Env → M (List MV)} {ds : List D} {d : D} {st' : List O} (h : fs ρ st = .val (ds.map .v) st1) (hl : ds.length = n) (hF : F (ds.map .v) [] = .val (.v d) st') : fCallP n F fs ρ st = .val (.v d) st1 := by
  refine ev_bind h (ev_bind (a := ds) (st1 := st1) ?_ ?_)
  · rw [if_pos (by rw [List.length_map]; exact hl)]
    have : ∀ ds : List D, toDs (ds.map .v) = some ds := by
      intro ds
      induction ds with
      | nil => rfl
      | cons d ds ih => rw [List.map_cons, toDs, ih]; rfl
    rw [this]; rfl
  · unfold pureF; rw [hF]; rfl
theorem ex_callP {n : Nat} {F : List MV → M MV} {fs : Env → M (List MV)} {ds : List D} {e : Ex} {st' : List O} (h : fs ρ st = .val (ds.map .v) st1) (hl : ds.length = n) (hF : F (ds.map .v) [] = .exc e st') : fCallP n F fs ρ st = .exc e st1 := by
  refine ev_bind h (ev_bind (a := ds) (st1 := st1) ?_ ?_)
  · rw [if_pos (by rw [List.length_map]; exact hl)]
    have : ∀ ds : List D, toDs (ds.map .v) = some ds := by
      intro ds
      induction ds with
      | nil => rfl
      | cons d ds ih => rw [List.map_cons, toDs, ih]; rfl
    rw [this]; rfl
  · unfold pureF; rw [hF]; rfl
theorem ev_callS {n : Nat} {F : List MV → M MV} {fs : Env → M (List MV)} {ms : List MV} {r : Out MV} (h : fs ρ st = .val ms st1) (hl : ms.length = n) (hF : F ms st1 = r) : fCallS n F fs ρ st = r := by
  refine ev_bind h (ev_bind (a := ()) (st1 := st1) ?_ hF)
  rw [if_pos hl]; rfl
theorem ev_meth {C : Addr} {m : Str} {n : Nat} {F : List MV → M MV} {fo : Env → M MV} {fs : Env → M (List MV)} {j : Nat} {o : List (Str × MV)} {ms : List MV} {r : Out MV} (ho : fo ρ st = .val (.obj j) st) (hj : st[j]? = some (.ins C o)) (hm : o.lookup m = none) (h : fs ρ st = .val ms st1) (hl : ms.length + 1 = n) (hF : F (.obj j :: ms) st1 = r) : fMeth C m n F fo fs ρ st = r := by
  refine ev_bind ho (ev_bind (a := ()) (st1 := st) ?_ (ev_bind h (ev_bind (a := ()) (st1 := st1) ?_ hF)))
  · simp only [M.rd, insAt, hj]
    simp [hm]
  · rw [if_pos (by simpa using hl)]; rfl
theorem ev_make {C : Addr} {n : Nat} {F : List MV → M MV} {fs : Env → M (List MV)} {ms : List MV} (h : fs ρ st = .val ms st1) (hl : ms.length + 1 = n) (hF : F (.obj st1.length :: ms) (st1 ++ [.ins C []]) = .val (.v .non) st2) : fMake C n F fs ρ st = .val (.obj st1.length) st2 := by
  refine ev_bind h (ev_bind (a := ()) (st1 := st1) ?_ ?_)
  · rw [if_pos hl]; rfl
  · unfold M.new; rw [hF]
theorem ex_make {C : Addr} {n : Nat} {F : List MV → M MV} {fs : Env → M (List MV)} {ms : List MV} {e : Ex} (h : fs ρ st = .val ms st1) (hl : ms.length + 1 = n) (hF : F (.obj st1.length :: ms) (st1 ++ [.ins C []]) = .exc e st2) : fMake C n F fs ρ st = .exc e st2 := by
  refine ev_bind h (ev_bind (a := ()) (st1 := st1) ?_ ?_)
  · rw [if_pos hl]; rfl
  · unfold M.new; rw [hF]
theorem ev_attr {C : Addr} {nm : Str} {f : Env → M MV} {j : Nat} {o : List (Str × MV)} {y : MV} (hf : f ρ st = .val (.obj j) st1) (hj : st1[j]? = some (.ins C o)) (hl : o.lookup nm = some y) : fAttr C nm f ρ st = .val y st1 := by
  refine ev_bind hf ?_
  simp only [M.rd, insAt, hj]
  simp [hl]
theorem st_attr {C : Addr} {nm : Str} {fo fv : Env → M MV} {j : Nat} {o : List (Str × MV)} {y : MV} (hv : fv ρ st = .val y st1) (ho : fo ρ st1 = .val (.obj j) st1) (hj : st1[j]? = some (.ins C o)) (hs : o.length < 900) : sAttr C nm fo fv ρ st = .val (.nx ρ) (st1.set j (.ins C (putA nm y o))) := by
  refine ev_bind hv (ev_bind ho (ev_bind (a := (j, o)) (st1 := st1) ?_ (ev_bind (a := ()) (st1 := st1) ?_ rfl)))
  · simp only [M.rd, insAt, hj]
    simp
  · rw [if_pos hs]; rfl
theorem ev_cons {f : Env → M MV} {fs : Env → M (List MV)} {x : MV} {xs : List MV} (h : f ρ st = .val x st1) (k : fs ρ st1 = .val xs st2) : fCons f fs ρ st = .val (x :: xs) st2 := ev_bind h (ev_bind k rfl)
theorem ev_nil : fNil ρ st = .val [] st := rfl
theorem ev_c {x : MV} : fC x ρ st = .val x st := rfl
theorem ev_var {i : Nat} {x : MV} (h : ρ[i]? = some (some (.m x))) : fVar i ρ st = .val x st := by
  unfold fVar M.rd; rw [h]
theorem ev_B {o : List O → List MV → Option MV} {fs : Env → M (List MV)} {xs : List MV} {y : MV} (h : fs ρ st = .val xs st1) (k : o st1 xs = some y) : fB o fs ρ st = .val y st1 := ev_bind h (by simp only [M.rd, k])
theorem ev_bin {o : List O → MV → MV → Option MV} {f g : Env → M MV} {x y z : MV} (h : f ρ st = .val x st1) (k : g ρ st1 = .val y st2) (e : o st2 x y = some z) : fBin o f g ρ st = .val z st2 := ev_bind h (ev_bind k (by simp only [M.rd, e]))
theorem ev_cmp {o : List O → MV → MV → Option MV} {f g : Env → M MV} {x y : MV} {b : Bool} (h : f ρ st = .val x st1) (k : g ρ st1 = .val y st2) (e : o st2 x y = some (.v (.bl b))) : fCmpT o f g ρ st = .val b st2 := ev_bind h (ev_bind k (by simp only [M.rd, e]; rfl))
theorem ev_tup {fs : Env → M (List MV)} {xs : List MV} {y : MV} (h : fs ρ st = .val xs st1) (k : tupM xs = some y) : fTup fs ρ st = .val y st1 := ev_bind h (by rw [k]; rfl)
theorem ev_lst {fs : Env → M (List MV)} {xs : List MV} {y : MV} (h : fs ρ st = .val xs st1) (k : lstM xs = some y) : fLst fs ρ st = .val y st1 := ev_bind h (by rw [k]; rfl)
theorem ev_test {f : Env → M MV} {b : Bool} (h : f ρ st = .val (.v (.bl b)) st1) : fTest f ρ st = .val b st1 := ev_bind h rfl
theorem ev_not {t : Env → M Bool} {b : Bool} (h : t ρ st = .val b st1) : fNot t ρ st = .val (!b) st1 := ev_bind h rfl
theorem ev_if1 {t : Env → M Bool} {f g : Env → M MV} {r : Out MV} (h : t ρ st = .val true st1) (k : f ρ st1 = r) : fIf t f g ρ st = r := ev_bind h k
theorem ev_if0 {t : Env → M Bool} {f g : Env → M MV} {r : Out MV} (h : t ρ st = .val false st1) (k : g ρ st1 = r) : fIf t f g ρ st = r := ev_bind h k
theorem ev_and1 {t u : Env → M Bool} {b : Bool} (h : t ρ st = .val true st1) (k : u ρ st1 = .val b st2) : fAnd t u ρ st = .val b st2 := ev_bind h k
theorem ev_and0 {t u : Env → M Bool} (h : t ρ st = .val false st1) : fAnd t u ρ st = .val false st1 := ev_bind h rfl
theorem ev_or0 {t u : Env → M Bool} {b : Bool} (h : t ρ st = .val false st1) (k : u ρ st1 = .val b st2) : fOr t u ρ st = .val b st2 := ev_bind h k
theorem ev_or1 {t u : Env → M Bool} (h : t ρ st = .val true st1) : fOr t u ρ st = .val true st1 := ev_bind h rfl
theorem ev_seqL {f : Env → M MV} {ds : List D} (h : f ρ st = .val (.v (.lst ds)) st1) : iSeqL f ρ st = .val ds st1 := ev_bind h rfl
theorem ev_seqT {f : Env → M MV} {ds : List D} (h : f ρ st = .val (.v (.tup ds)) st1) : iSeqT f ρ st = .val ds st1 := ev_bind h rfl
theorem ev_part {f : Env → M MV} {i : Int} (h : f ρ st = .val (.v (.int i)) st1) : fPart f ρ st = .val (some i) st1 := ev_bind h rfl
theorem st_own {i : Nat} {fs : Env → M (List MV)} {ds : List D} (h : fs ρ st = .val (ds.map .v) st1) (hs : ds.length ≤ 1000000) : sOwn i fs ρ st = .val (.nx (ρ.set i (some (.own (.lst ds))))) st1 := by
  have e : ∀ ds : List D, toDs (ds.map .v) = some ds := by
    intro ds
    induction ds with
    | nil => rfl
    | cons d ds ih => rw [List.map_cons, toDs, ih]; rfl
  refine ev_bind h (ev_bind (a := ds) (st1 := st1) ?_ rfl)
  rw [if_pos (by unfold szOk; rw [List.length_map]; exact decide_eq_true hs), e]; rfl
theorem st_app {i : Nat} {f : Env → M MV} {ds : List D} {d : D} (ho : ρ[i]? = some (some (.own (.lst ds)))) (h : f ρ st = .val (.v d) st1) (hs : ds.length + 1 ≤ 1000000) : sApp i f ρ st = .val (.nx (ρ.set i (some (.own (.lst (ds ++ [d])))))) st1 := by
  refine ev_bind (a := ds) (st1 := st) (by unfold ownL; rw [ho]; rfl) (ev_bind h (ev_bind (a := d) (st1 := st1) rfl ?_))
  rw [if_pos (by unfold szOk; exact decide_eq_true hs)]; rfl
/-- how a body ends: by a value, or by its last line -/
def Ends (x : MV) (s : List O) (o : Out Fl) : Prop := o = .val (.rt x) s ∨ (x = .v .non ∧ ∃ ρ, o = .val (.nx ρ) s)
theorem run_e {fb : Env → M Fl} {n : Nat} {ms : List MV} {x : MV} (h : Ends x st1 (fb (startE n ms) st)) : runB fb n ms st = .val x st1 := by
  rcases h with h | ⟨rfl, ρ, h⟩
  · exact run_rt h
  · exact run_nx h
theorem e_rt {x : MV} {o : Out Fl} (h : o = .val (.rt x) st) : Ends x st o := .inl h
theorem e_nx {o : Out Fl} (h : o = .val (.nx ρ) st) : Ends (.v .non) st o := .inr ⟨rfl, ρ, h⟩
theorem e_seq {f g : Env → M Fl} {x : MV} {s : List O} (h : f ρ st = .val (.nx ρ1) st1) (k : Ends x s (g ρ1 st1)) : Ends x s (sSeq f g ρ st) := by
  have e : sSeq f g ρ st = g ρ1 st1 := ev_bind h rfl
  rw [e]; exact k
theorem e_for {γ : Type} (enc : γ → D) (I : List γ → Env → List O → Prop) {fi : Env → M (List D)} {g : MV → Env → Option Env} {body : Env → M Fl} {k : Env → M Fl} {x : MV} {s : List O} (xs : List γ)
    (hi : fi ρ st = .val (xs.map enc) st1)
    (h : ∀ pre x post ρ st, xs = pre ++ x :: post → I pre ρ st → ∃ ρ1 ρ2 st2, g (.v (enc x)) ρ = some ρ1 ∧ body ρ1 st = .val (.nx ρ2) st2 ∧ I (pre ++ [x]) ρ2 st2) (h0 : I [] ρ st1)
    (hk : ∀ ρ' st', I xs ρ' st' → Ends x s (k ρ' st')) : Ends x s (sSeq (sFor fi g body) k ρ st) := by
  obtain ⟨ρ', st', e, i⟩ := loop_inv enc I xs h h0
  exact e_seq (ev_bind hi e) (hk _ _ i)
theorem e_forL {γ : Type} (enc : γ → D) (I : List γ → Env → List O → Prop) {fi : Env → M (List D)} {g : MV → Env → Option Env} {body : Env → M Fl} {s : List O} (xs : List γ)
    (hi : fi ρ st = .val (xs.map enc) st1)
    (h : ∀ pre x post ρ st, xs = pre ++ x :: post → I pre ρ st → ∃ ρ1 ρ2 st2, g (.v (enc x)) ρ = some ρ1 ∧ body ρ1 st = .val (.nx ρ2) st2 ∧ I (pre ++ [x]) ρ2 st2) (h0 : I [] ρ st1)
    (hk : ∀ ρ' st', I xs ρ' st' → st' = s) : Ends (.v .non) s (sFor fi g body ρ st) := by
  obtain ⟨ρ', st', e, i⟩ := loop_inv enc I xs h h0
  have := hk _ _ i
  subst this
  exact e_nx (ev_bind hi e)
theorem e_if1 {t : Env → M Bool} {f g : Env → M Fl} {x : MV} {s : List O} (h : t ρ st = .val true st1) (k : Ends x s (f ρ st1)) : Ends x s (sIf t f g ρ st) := by
  have e : sIf t f g ρ st = f ρ st1 := ev_bind h rfl
  rw [e]; exact k
theorem e_if0 {t : Env → M Bool} {f g : Env → M Fl} {x : MV} {s : List O} (h : t ρ st = .val false st1) (k : Ends x s (g ρ st1)) : Ends x s (sIf t f g ρ st) := by
  have e : sIf t f g ρ st = g ρ st1 := ev_bind h rfl
  rw [e]; exact k
end
end CD

set_option Elab.async false
set_option linter.all false
set_option maxRecDepth 100000
set_option maxHeartbeats 400000
namespace CD
open PySem PySem.Spec PyProof.Rows L2
/-! ### the plain level: rows -/
def tI (v : Row) : D := .tup (v.map .int)
abbrev vI (v : Row) : MV := .v (tI v)
/-- so great that // goes its short way -/
def BIG : Nat := 2 ^ 13500
theorem log_lt {n k : Nat} (h : n < 2 ^ k) (hk : 0 < k) : n.log2 < k := by
  by_cases z : n = 0
  · rw [z]; exact hk
  · exact (Nat.log2_lt z).mpr h
theorem div_ok {i j : Int} (h : i.natAbs < BIG) (hj : 0 < j) : divOk i j = true := by
  unfold divOk
  rw [Bool.and_eq_true]
  refine ⟨decide_eq_true hj, ?_⟩
  unfold Builtin.divisionGoesByPylong
  have := log_lt h (by decide)
  simp only [Bool.not_eq_true', Bool.and_eq_false_iff, decide_eq_false_iff_not]
  by_cases q : (if (j == 0) = true then 0 else j.natAbs.log2 / 30 + 1) > 300
  · right
    split <;> omega
  · exact .inl q
theorem mul_ok {i j : Int} (h : i.natAbs < BIG) (hj : j.natAbs < BIG) : mulOk i j = true := by
  unfold mulOk
  have h1 := log_lt h (by decide)
  have h2 := log_lt hj (by decide)
  exact decide_eq_true (by omega)
theorem BIG_pos : 0 < BIG := Nat.two_pow_pos _
theorem mul_i {i j : Int} (h : i.natAbs < BIG) (hj : j.natAbs < BIG) (st : List O) : mulM st (.v (.int i)) (.v (.int j)) = some (.v (.int (i * j))) := by
  show (if mulOk i j = true then some (MV.v (.int (i * j))) else none) = _
  rw [if_pos (mul_ok h hj)]
theorem div_i {i j : Int} (h : i.natAbs < BIG) (hj : 0 < j) (st : List O) : fdivM st (.v (.int i)) (.v (.int j)) = some (.v (.int (i / j))) := by
  show (if divOk i j = true then some (MV.v (.int (i / j))) else none) = _
  rw [if_pos (div_ok h hj)]
theorem p_divisor_of (v : Row) (st : List O) : F_divisor_of [vI v] st = .val (.v (.int (gcdR v : Nat))) st := by
  refine run_rt (st_nx (st_asg ev_c rfl) (st_for (γ := Int) .int (fun pre ρ st' => st' = st ∧ ∃ s, ρ = [some (.m (vI v)), some (.m (.v (.int (gcdR pre : Nat)))), s]) v (ev_seqT (ev_var rfl)) ?_ ⟨rfl, _, rfl⟩ ?_))
  · rintro pre x post ρ st' e ⟨rfl, s, rfl⟩
    refine ⟨_, _, _, rfl, st_asg (ev_callP (ds := [.int _, .int _]) (ev_cons (ev_var rfl) (ev_cons (ev_var rfl) ev_nil)) rfl (congrFun (p_common _ _) _)) rfl, rfl, some (.m (.v (.int x))), ?_⟩
    have : gcdR (pre ++ [x]) = Nat.gcd (gcdR pre) x.natAbs := by unfold gcdR; rw [List.foldl_append]; rfl
    rw [this]
    rfl
  · rintro ρ' st' ⟨rfl, s, rfl⟩
    exact st_ret (ev_var rfl)
theorem tI_len (v : Row) : (v.map D.int).length = v.length := List.length_map _
theorem prim_pos {v : Row} (h : 1 < gcdR v) : prim v = v.map (· / (gcdR v : Int)) := if_pos h
theorem p_primitive (v : Row) (h : ∀ x ∈ v, x.natAbs < BIG) (hl : v.length ≤ 1000) (st : List O) : F_primitive [vI v] st = .val (vI (prim v)) st := by
  refine run_rt (st_nx (st_asg (ev_callP (ds := [tI v]) (ev_cons (ev_var rfl) ev_nil) rfl (p_divisor_of v [])) rfl) (st_ret ?_))
  by_cases g : 1 < gcdR v
  · refine ev_if1 (ev_cmp (ev_var rfl) ev_c (by rw [gt_i, decide_eq_true (by omega)])) (ev_B (ev_cons (ev_lcY (γ := Int) .int v (fun x => .int (x / (gcdR v : Int))) (ev_seqT (ev_var rfl)) (by omega) fun x hx => ⟨_, rfl, ev_bin (ev_var rfl) (ev_var rfl) (div_i (h x hx) (by omega) _)⟩) ev_nil) ?_)
    rw [prim_pos g]
    unfold vI tI
    rw [List.map_map]
    rfl
  · refine ev_if0 (ev_cmp (ev_var rfl) ev_c (by rw [gt_i, decide_eq_false (by omega)])) (ev_B (ev_cons (ev_var rfl) ev_nil) ?_)
    unfold prim
    rw [if_neg g]
    rfl
theorem toIs_map : ∀ v : Row, toIs (v.map D.int) = some v
  | [] => rfl
  | x :: v => by rw [List.map_cons, toIs, toIs_map v]; rfl
theorem zip_map (a b : Row) : zipD (a.map D.int) (b.map D.int) = (a.zip b).map fun p => D.tup [.int p.1, .int p.2] := by
  unfold zipD
  rw [List.zipWith_map, List.zip, List.map_zipWith]
theorem dot_zip (a b : Row) : ((a.zip b).map fun p => p.1 * p.2).sum = dot a b := by
  unfold dot
  rw [List.zip, List.map_zipWith]
theorem ev_zip {ρ : Env} {st st1 st2 : List O} {f g : Env → M MV} {a b : Row} (hf : f ρ st = .val (vI a) st1) (hg : g ρ st1 = .val (vI b) st2) : iZip f g ρ st = .val ((a.zip b).map fun p => D.tup [.int p.1, .int p.2]) st2 := by
  refine ev_bind hf (ev_bind hg ?_)
  rw [← zip_map]
  rfl
theorem p_product (a b : Row) (ha : ∀ x ∈ a, x.natAbs < BIG) (hb : ∀ x ∈ b, x.natAbs < BIG) (hl : a.length ≤ 1000) (st : List O) : F_product [vI a, vI b] st = .val (.v (.int (dot a b))) st := by
  refine run_rt (st_ret (ev_B (ev_cons (ev_lcY (γ := Int × Int) (fun p => D.tup [.int p.1, .int p.2]) (a.zip b) (fun p => .int (p.1 * p.2)) (ev_zip (ev_var rfl) (ev_var rfl)) ?_ fun p hp => ⟨_, rfl, ev_bin (ev_var rfl) (ev_var rfl) (mul_i (ha _ (List.of_mem_zip hp).1) (hb _ (List.of_mem_zip hp).2) _)⟩) ev_nil) ?_))
  · rw [List.length_zip]; omega
  · have e : (List.map (fun p : Int × Int => D.int (p.1 * p.2)) (a.zip b)) = ((a.zip b).map fun p => p.1 * p.2).map D.int := by rw [List.map_map]; rfl
    rw [e]
    show (toIs _).map _ = _
    rw [toIs_map]
    show some (MV.v (D.int ((a.zip b).map fun p => p.1 * p.2).sum)) = _
    rw [dot_zip]
theorem add_i (i j : Int) (st : List O) : addM st (.v (.int i)) (.v (.int j)) = some (.v (.int (i + j))) := rfl
theorem sub_i (i j : Int) (st : List O) : subM st (.v (.int i)) (.v (.int j)) = some (.v (.int (i - j))) := rfl
theorem p_joined (a b : Row) (t m : Int) (ha : ∀ x ∈ a, x.natAbs < BIG) (hb : ∀ x ∈ b, x.natAbs < BIG) (ht : t.natAbs < BIG) (hm : m.natAbs < BIG) (hl : a.length ≤ 1000) (st : List O) : F_joined [vI a, .v (.int t), vI b, .v (.int m)] st = .val (vI (joinR a t b m)) st := by
  refine run_rt (st_ret (ev_B (ev_cons (ev_lcY (γ := Int × Int) (fun p => D.tup [.int p.1, .int p.2]) (a.zip b) (fun p => .int (t * p.1 + m * p.2)) (ev_zip (ev_var rfl) (ev_var rfl)) ?_ fun p hp => ⟨_, rfl, ev_bin (ev_bin (ev_var rfl) (ev_var rfl) (mul_i ht (ha _ (List.of_mem_zip hp).1) _)) (ev_bin (ev_var rfl) (ev_var rfl) (mul_i hm (hb _ (List.of_mem_zip hp).2) _)) (add_i _ _ _)⟩) ev_nil) ?_))
  · rw [List.length_zip]; omega
  · unfold vI tI joinR
    rw [List.zip, List.map_zipWith, List.map_zipWith]
    rfl
theorem p_opposite (a : Row) (hl : a.length ≤ 1000) (st : List O) : F_opposite [vI a] st = .val (vI (oppR a)) st := by
  refine run_rt (st_ret (ev_B (ev_cons (ev_lcY (γ := Int) .int a (fun x => .int (0 - x)) (ev_seqT (ev_var rfl)) (by omega) fun x hx => ⟨_, rfl, ev_bin ev_c (ev_var rfl) (sub_i _ _ _)⟩) ev_nil) ?_))
  unfold vI tI oppR
  rw [List.map_map]
  rfl
/-- a row's entry -/
def at0 (v : Row) (c : Nat) : Int := v.getD c 0
theorem ix_t (v : Row) (c : Nat) (hc : c < v.length) (st : List O) : ixM st (vI v) (.v (.int c)) = some (.v (.int (at0 v c))) := by
  show (atD (v.map D.int) (c : Int)).map MV.v = _
  unfold atD atI ixN
  rw [if_pos (by omega), List.length_map, if_pos (by omega)]
  show ((v.map D.int)[((c : Int)).toNat]?).map MV.v = _
  rw [Int.toNat_natCast, List.getElem?_map]
  unfold at0
  rw [List.getD_eq_getElem?_getD, List.getElem?_eq_getElem hc]
  rfl
end CD

set_option Elab.async false
set_option linter.all false
set_option maxRecDepth 100000
set_option maxHeartbeats 400000
namespace CD
open PySem PySem.Spec PyProof.Rows L2
/-! ### the plain level: rows are cleared -/
def clearR (row other : Row) (c : Nat) : Row := if at0 row c = 0 then row else prim (joinR row (at0 other c) other (0 - at0 row c))
theorem clearR_len {row other : Row} {c : Nat} (h : row.length = other.length) : (clearR row other c).length = row.length := by
  unfold clearR
  split
  · rfl
  · rw [prim_len, join_len h]
theorem at0_bd {N : Nat} {v : Row} (h : bd N v) (c : Nat) : (at0 v c).natAbs ≤ N := by
  unfold at0
  rw [List.getD_eq_getElem?_getD]
  cases e : v[c]? with
  | none => exact Nat.zero_le _
  | some x => exact h x (List.mem_of_getElem? e)
theorem clear_join {N M : Nat} {row other : Row} {c : Nat} (h : bd N row) (k : bd M other) : bd (2 * N * M) (joinR row (at0 other c) other (0 - at0 row c)) := by
  have e : (0 - at0 row c).natAbs = (at0 row c).natAbs := by omega
  refine (bd_join (A := M) (B := N) h k (at0_bd k c) (by rw [e]; exact at0_bd h c)).mono ?_
  rw [Nat.mul_comm M N, Nat.mul_assoc, Nat.two_mul]
  exact Nat.le_refl _
theorem clearR_bd {N M : Nat} {row other : Row} {c : Nat} (h : bd N row) (k : bd M other) (m : 1 ≤ M) : bd (2 * N * M) (clearR row other c) := by
  unfold clearR
  split
  · refine h.mono ?_
    have := Nat.mul_le_mul_left (2 * N) m
    omega
  · exact bd_prim (clear_join h k)
theorem lt_BIG {N : Nat} {v : Row} (h : bd N v) (b : N < BIG) : ∀ x ∈ v, x.natAbs < BIG := fun x hx => Nat.lt_of_le_of_lt (h x hx) b
theorem eq_i (i j : Int) (st : List O) : eqM st (.v (.int i)) (.v (.int j)) = some (.v (.bl (i == j))) := rfl
theorem ne_i (i j : Int) (st : List O) : neM st (.v (.int i)) (.v (.int j)) = some (.v (.bl (!(i == j)))) := rfl
theorem p_cleared (row other : Row) (c : Nat) {N M : Nat} (h : bd N row) (k : bd M other) (m1 : 1 ≤ N) (m2 : 1 ≤ M) (b : 2 * N * M < BIG) (hl : row.length = other.length) (hc : c < row.length) (hk : row.length ≤ 1000) (st : List O) : F_cleared [vI row, vI other, .v (.int c)] st = .val (vI (clearR row other c)) st := by
  have a1 : N < BIG := by
    have := Nat.mul_le_mul_left (2 * N) m2
    omega
  have a2 : M < BIG := by
    have := Nat.mul_le_mul_right M (Nat.mul_le_mul_left 2 m1)
    omega
  refine run_rt ?_
  by_cases z : at0 row c = 0
  · refine st_rt (st_if1 (ev_cmp (ev_bin (ev_var rfl) (ev_var rfl) (ix_t _ _ hc _)) ev_c (by rw [eq_i, z]; rfl)) ?_)
    rw [show clearR row other c = row from if_pos z]
    exact st_ret (ev_var rfl)
  · refine st_nx (st_if0 (ev_cmp (ev_bin (ev_var rfl) (ev_var rfl) (ix_t _ _ hc _)) ev_c (by rw [eq_i, beq_eq_false_iff_ne.mpr z])) rfl) ?_
    rw [show clearR row other c = prim (joinR row (at0 other c) other (0 - at0 row c)) from if_neg z]
    have m4 : (0 - at0 row c).natAbs < BIG := by
      have := at0_bd h c
      omega
    refine st_ret (ev_callP (ds := [tI (joinR row (at0 other c) other (0 - at0 row c))]) (ev_cons (ev_callP (ds := [tI row, .int (at0 other c), tI other, .int (0 - at0 row c)]) (ev_cons (ev_var rfl) (ev_cons (ev_bin (ev_var rfl) (ev_var rfl) (ix_t _ _ (by omega) _)) (ev_cons (ev_var rfl) (ev_cons (ev_bin ev_c (ev_bin (ev_var rfl) (ev_var rfl) (ix_t _ _ hc _)) (sub_i _ _ _)) ev_nil)))) rfl
      (p_joined row other _ _ (lt_BIG h a1) (lt_BIG k a2) (Nat.lt_of_le_of_lt (at0_bd k c) a2) m4 hk [])) ev_nil) rfl (p_primitive _ (lt_BIG (clear_join h k) b) (by rw [join_len hl]; exact hk) []))
/-! in_steps -/
structure IS where
  left : List Row
  found : List Row
  places : List Nat
def ownR (p : Row) (c : Nat) : Row := prim (if 0 < at0 p c then p else oppR p)
def isStep (s : IS) (c : Nat) : IS := match s.left.filter fun r => decide (at0 r c ≠ 0) with
  | [] => s
  | p :: _ => ⟨(s.left.map fun r => clearR r (ownR p c) c).filter (fun r => r.any fun x => decide (x ≠ 0)), (s.found.map fun r => clearR r (ownR p c) c) ++ [ownR p c], s.places ++ [c]⟩
def inSteps (rows : List Row) (cols : List Nat) : IS := cols.foldl isStep ⟨rows, [], []⟩
structure ISB (d N n : Nat) (s : IS) : Prop where
  ll : ∀ r ∈ s.left, r.length = d ∧ bd N r
  fl : ∀ r ∈ s.found, r.length = d ∧ bd N r
  pl : ∀ c ∈ s.places, c < d
  le : s.found.length = s.places.length ∧ s.found.length ≤ n
  lle : s.left.length ≤ 1000
theorem ownR_len (p : Row) (c : Nat) : (ownR p c).length = p.length := by
  unfold ownR
  rw [prim_len]
  split
  · rfl
  · exact opp_len p
theorem ownR_bd {N : Nat} {p : Row} {c : Nat} (h : bd N p) : bd N (ownR p c) := by
  unfold ownR
  refine bd_prim ?_
  split
  · exact h
  · exact bd_opp h
theorem ISB.step {d N n : Nat} {s : IS} (I : ISB d N n s) {c : Nat} (hc : c < d) (m : 1 ≤ N) : ISB d (2 * N * N) (n + 1) (isStep s c) := by
  have up : ∀ {v : Row}, bd N v → bd (2 * N * N) v := fun h => h.mono (by have := Nat.mul_le_mul_left (2 * N) m; omega)
  unfold isStep
  split
  · exact ⟨fun r h => ⟨(I.ll r h).1, up (I.ll r h).2⟩, fun r h => ⟨(I.fl r h).1, up (I.fl r h).2⟩, I.pl, ⟨I.le.1, by have := I.le.2; omega⟩, I.lle⟩
  · rename_i p ps e
    have hp : p ∈ s.left := by
      have : p ∈ s.left.filter fun r => decide (at0 r c ≠ 0) := by rw [e]; exact List.mem_cons_self
      exact (List.mem_filter.mp this).1
    obtain ⟨p1, p2⟩ := I.ll p hp
    have o1 : (ownR p c).length = d := (ownR_len p c).trans p1
    have o2 : bd N (ownR p c) := ownR_bd p2
    refine ⟨fun r h => ?_, fun r h => ?_, fun x h => ?_, ?_, ?_⟩
    · obtain ⟨r', hr', rfl⟩ := List.mem_map.mp (List.mem_filter.mp h).1
      obtain ⟨q1, q2⟩ := I.ll r' hr'
      exact ⟨(clearR_len (q1.trans o1.symm)).trans q1, clearR_bd q2 o2 m⟩
    · rcases List.mem_append.mp h with h | h
      · obtain ⟨r', hr', rfl⟩ := List.mem_map.mp h
        obtain ⟨q1, q2⟩ := I.fl r' hr'
        exact ⟨(clearR_len (q1.trans o1.symm)).trans q1, clearR_bd q2 o2 m⟩
      · rw [List.mem_singleton.mp h]; exact ⟨o1, up o2⟩
    · rcases List.mem_append.mp h with h | h
      · exact I.pl x h
      · rw [List.mem_singleton.mp h]; exact hc
    · have := I.le
      simp only [List.length_append, List.length_map, List.length_singleton]
      omega
    · refine Nat.le_trans (List.length_filter_le _ _) ?_
      rw [List.length_map]
      exact I.lle
/-- bounds of so many steps -/
def SB (N : Nat) : Nat → Nat
  | 0 => N
  | n + 1 => 2 * SB N n * SB N n
theorem SB_pos {N : Nat} (h : 1 ≤ N) : ∀ n, 1 ≤ SB N n
  | 0 => h
  | n + 1 => by
    have := Nat.mul_le_mul (Nat.mul_le_mul_left 2 (SB_pos h n)) (SB_pos h n)
    unfold SB
    omega
theorem SB_le {N : Nat} (h : 1 ≤ N) (n : Nat) : SB N n ≤ SB N (n + 1) := by
  have := Nat.mul_le_mul_left (2 * SB N n) (SB_pos h n)
  rw [SB]
  omega
theorem SB_mono {N n m : Nat} (h : 1 ≤ N) (l : n ≤ m) : SB N n ≤ SB N m := by
  induction l with
  | refl => exact Nat.le_refl _
  | step _ ih => exact Nat.le_trans ih (SB_le h _)
theorem inSteps_b {d N : Nat} {rows : List Row} (h : ∀ r ∈ rows, r.length = d ∧ bd N r) (m : 1 ≤ N) (hl : rows.length ≤ 1000) (cols : List Nat) (hc : ∀ c ∈ cols, c < d) : ISB d (SB N cols.length) cols.length (inSteps rows cols) := by
  suffices ∀ n (cols : List Nat), cols.length = n → (∀ c ∈ cols, c < d) → ISB d (SB N n) n (inSteps rows cols) from this _ cols rfl hc
  intro n
  induction n with
  | zero =>
    intro cols e _
    rw [List.length_eq_zero_iff.mp e]
    exact ⟨h, fun r h => (nomatch h), fun r h => (nomatch h), ⟨rfl, Nat.zero_le _⟩, hl⟩
  | succ n ih =>
    intro cols e hc
    have hne : cols ≠ [] := fun z => by rw [z] at e; cases e
    obtain ⟨cs, c, rfl⟩ : ∃ l x, cols = l ++ [x] := ⟨_, _, (List.dropLast_concat_getLast hne).symm⟩
    have := (ih cs (by simpa using e) fun x hx => hc x (List.mem_append_left _ hx)).step (hc c (by simp)) (SB_pos m n)
    unfold inSteps at this ⊢
    rw [List.foldl_append]
    exact this
theorem filter_len {α : Type} (p : α → Bool) (l : List α) : (l.filter p).length ≤ l.length := List.length_filter_le _ _
abbrev mR (rows : List Row) : MV := .v (.lst (rows.map tI))
def cI (c : Nat) : D := .int c
theorem gt_t (x y : Int) (st : List O) : gtM st (.v (.int x)) (.v (.int y)) = some (.v (.bl (decide (y < x)))) := rfl
theorem any_ne (v : Row) (st : List O) : anyM st [.v (.lst (v.map fun x => D.bl (!(x == 0))))] = some (.v (.bl (v.any fun x => decide (x ≠ 0)))) := by
  have h1 : ∀ v : Row, toBs (v.map fun x => D.bl (!(x == 0))) = some (v.map fun x => !(x == 0)) := by
    intro v
    induction v with
    | nil => rfl
    | cons x v ih => rw [List.map_cons, toBs, ih]; rfl
  show (toBs _).map (fun ns => MV.v (.bl (ns.any id))) = _
  rw [h1, Option.map_some, List.any_map]
  congr 4
  funext x
  by_cases z : x = 0 <;> simp [z]
theorem ix_0 (ds : List D) (d : D) (st : List O) : ixM st (.v (.lst (d :: ds))) (.v (.int 0)) = some (.v d) := by
  show (atD (d :: ds) 0).map MV.v = _
  unfold atD atI ixN
  rw [if_pos (by omega), if_pos (by simp)]
  rfl
theorem add_l (xs ys : List D) (h : xs.length + ys.length ≤ 1000000) (st : List O) : addM st (.v (.lst xs)) (.v (.lst ys)) = some (.v (.lst (xs ++ ys))) := by
  show (if szOk (xs.length + ys.length) = true then some (MV.v (.lst (xs ++ ys))) else none) = _
  rw [if_pos (by unfold szOk; exact decide_eq_true h)]
theorem p_in_steps {d N : Nat} (rows : List Row) (cols : List Nat) (h : ∀ r ∈ rows, r.length = d ∧ bd N r) (hd : d ≤ 1000) (m : 1 ≤ N) (hl : rows.length ≤ 1000) (hn : cols.length ≤ 1000) (hc : ∀ c ∈ cols, c < d) (b : SB N cols.length < BIG) (st : List O) :
    F_in_steps [mR rows, .v (.lst (cols.map cI))] st = .val (.v (.tup [.lst ((inSteps rows cols).found.map tI), .lst ((inSteps rows cols).places.map cI)])) st := by
  refine run_rt (st_nx (st_asg (ev_lcY tI rows tI (ev_seqL (ev_var rfl)) (by omega) fun r hr => ⟨_, rfl, ev_B (ev_cons (ev_var rfl) ev_nil) rfl⟩) rfl) (st_nx (st_asg (ev_lst ev_nil rfl) rfl) (st_nx (st_own (ds := []) ev_nil (by simp)) ?_)))
  refine st_for cI (fun pre ρ st' => st' = st ∧ ∃ s5 s6 s7 s8 s9, ρ = [some (.m (mR rows)), some (.m (.v (.lst (cols.map cI)))), some (.m (mR (inSteps rows pre).left)), some (.m (mR (inSteps rows pre).found)), some (.own (.lst ((inSteps rows pre).places.map cI))), s5, s6, s7, s8, s9]) cols (ev_seqL (ev_var rfl)) ?_ ⟨rfl, none, none, none, none, none, rfl⟩ ?_
  · rintro pre c post ρ st' e ⟨rfl, s5, s6, s7, s8, s9, rfl⟩
    have hpre : ∀ c ∈ pre, c < d := fun x hx => hc x (by rw [e]; simp [hx])
    have hcd : c < d := hc c (by rw [e]; simp)
    have hle : pre.length + 1 ≤ cols.length := by rw [e]; simp
    have B := inSteps_b h m hl pre hpre
    have step : inSteps rows (pre ++ [c]) = isStep (inSteps rows pre) c := by unfold inSteps; rw [List.foldl_append]; rfl
    have bb : 2 * SB N pre.length * SB N pre.length < BIG := Nat.lt_of_le_of_lt (show SB N (pre.length + 1) ≤ _ from SB_mono m hle) b
    have b1 := SB_pos m pre.length
    have bN : SB N pre.length < BIG := by
      have := Nat.mul_le_mul_left (2 * SB N pre.length) b1
      omega
    generalize hs : inSteps rows pre = s at B step ⊢
    have pick : fLc [8] (iSeqL (fVar 2)) (setN 8) (fCmpT neM (fBin ixM (fVar 8) (fVar 5)) (fC (.v (.int 0)))) (fVar 8) [some (.m (mR rows)), some (.m (.v (.lst (cols.map cI)))), some (.m (mR s.left)), some (.m (mR s.found)), some (.own (.lst (s.places.map cI))), some (.m (.v (cI c))), s6, s7, s8, s9] st' = .val (mR (s.left.filter fun r => decide (at0 r c ≠ 0))) st' := by
      refine ev_lc tI s.left (fun r => decide (at0 r c ≠ 0)) tI (ev_seqL (ev_var rfl)) (by have := B.lle; omega) fun r hr => ⟨_, rfl, ev_cmp (ev_bin (ev_var rfl) (ev_var rfl) (ix_t r c (by rw [(B.ll r hr).1]; exact hcd) _)) ev_c ?_, fun _ => ev_var rfl⟩
      rw [ne_i]
      congr 4
      by_cases z : at0 r c = 0 <;> simp [z]
    cases hp : s.left.filter fun r => decide (at0 r c ≠ 0) with
    | nil =>
      have e1 : isStep s c = s := by unfold isStep; rw [hp]
      rw [hp] at pick
      exact ⟨_, _, _, rfl, st_nx (st_asg pick rfl) (st_if0 (ev_cmp (ev_B (ev_cons (ev_var rfl) ev_nil) rfl) ev_c rfl) rfl), rfl, some (.m (.v (cI c))), some (.m (mR [])), s7, s8, s9, by rw [step, e1]; rfl⟩
    | cons p ps =>
      rw [hp] at pick
      have hpm : p ∈ s.left := by
        have : p ∈ s.left.filter fun r => decide (at0 r c ≠ 0) := by rw [hp]; exact List.mem_cons_self
        exact (List.mem_filter.mp this).1
      obtain ⟨p1, p2⟩ := B.ll p hpm
      have o1 : (ownR p c).length = d := (ownR_len p c).trans p1
      have o2 : bd (SB N pre.length) (ownR p c) := ownR_bd p2
      have e1 : isStep s c = ⟨(s.left.map fun r => clearR r (ownR p c) c).filter (fun r => r.any fun x => decide (x ≠ 0)), (s.found.map fun r => clearR r (ownR p c) c) ++ [ownR p c], s.places ++ [c]⟩ := by unfold isStep; rw [hp]
      have own : ∀ ρ : Env, ρ[6]? = some (some (.m (mR (p :: ps)))) → ρ[5]? = some (some (.m (.v (cI c)))) → fCallP 1 F_primitive (fCons (fIf (fCmpT gtM (fBin ixM (fBin ixM (fVar 6) (fC (.v (.int 0)))) (fVar 5)) (fC (.v (.int 0)))) (fBin ixM (fVar 6) (fC (.v (.int 0)))) (fCallP 1 F_opposite (fCons (fBin ixM (fVar 6) (fC (.v (.int 0)))) fNil))) fNil) ρ st' = .val (vI (ownR p c)) st' := by
        intro ρ h6 h5
        have x0 : fBin ixM (fVar 6) (fC (.v (.int 0))) ρ st' = .val (vI p) st' := ev_bin (ev_var h6) ev_c (ix_0 _ _ _)
        have cmp : fCmpT gtM (fBin ixM (fBin ixM (fVar 6) (fC (.v (.int 0)))) (fVar 5)) (fC (.v (.int 0))) ρ st' = .val (decide (0 < at0 p c)) st' := ev_cmp (ev_bin x0 (ev_var h5) (ix_t p c (by omega) _)) ev_c (gt_t _ _ _)
        unfold ownR
        by_cases z : 0 < at0 p c
        · rw [if_pos z]
          rw [decide_eq_true z] at cmp
          exact ev_callP (ds := [tI p]) (ev_cons (ev_if1 cmp x0) ev_nil) rfl (p_primitive p (lt_BIG p2 bN) (by omega) [])
        · rw [if_neg z]
          rw [decide_eq_false z] at cmp
          exact ev_callP (ds := [tI (oppR p)]) (ev_cons (ev_if0 cmp (ev_callP (ds := [tI p]) (ev_cons x0 ev_nil) rfl (p_opposite p (by omega) []))) ev_nil) rfl (p_primitive (oppR p) (lt_BIG (bd_opp p2) bN) (by rw [opp_len]; omega) [])
      have clr : ∀ (r : Row), r.length = d → bd (SB N pre.length) r → ∀ st, F_cleared [vI r, vI (ownR p c), .v (.int c)] st = .val (vI (clearR r (ownR p c) c)) st := fun r hr hb st => p_cleared r (ownR p c) c hb o2 b1 b1 bb (hr.trans o1.symm) (by omega) (by omega) st
      refine ⟨_, _, _, rfl, st_nx (st_asg pick rfl) (st_if1 (ev_cmp (ev_B (ev_cons (ev_var rfl) ev_nil) rfl) ev_c (by rw [gt_t, decide_eq_true (by simp only [List.map_cons, List.length_cons]; omega)])) (st_nx (st_asg (own _ rfl rfl) rfl)
        (st_nx (st_asg (ev_lcY tI s.left (fun r => tI (clearR r (ownR p c) c)) (ev_seqL (ev_var rfl)) (by have := B.lle; omega) fun r hr => ⟨_, rfl, ev_callP (ds := [tI r, tI (ownR p c), cI c]) (ev_cons (ev_var rfl) (ev_cons (ev_var rfl) (ev_cons (ev_var rfl) ev_nil))) rfl (clr r (B.ll r hr).1 (B.ll r hr).2 [])⟩) rfl)
        (st_nx (st_asg (ev_lc tI (s.left.map fun r => clearR r (ownR p c) c) (fun r => r.any fun x => decide (x ≠ 0)) tI (ev_seqL (ev_var (by rw [List.map_map]; rfl))) (by rw [List.length_map]; have := B.lle; omega) fun r hr => ⟨_, rfl, ev_test (ev_B (ev_cons (ev_lcY (γ := Int) .int r (fun x => .bl (!(x == 0))) (ev_seqT (ev_var rfl)) ?_ fun x hx => ⟨_, rfl, ev_bin (ev_var rfl) ev_c (ne_i _ _ _)⟩) ev_nil) (any_ne _ _)), fun _ => ev_var rfl⟩) rfl)
        (st_nx (st_asg (ev_bin (ev_lcY tI s.found (fun r => tI (clearR r (ownR p c) c)) (ev_seqL (ev_var rfl)) (by have := B.le; omega) fun r hr => ⟨_, rfl, ev_callP (ds := [tI r, tI (ownR p c), cI c]) (ev_cons (ev_var rfl) (ev_cons (ev_var rfl) (ev_cons (ev_var rfl) ev_nil))) rfl (clr r (B.fl r hr).1 (B.fl r hr).2 [])⟩) (ev_lst (ev_cons (ev_var rfl) ev_nil) rfl) (add_l _ _ (by rw [List.length_map]; have := B.le; simp; omega) _)) rfl)
        (st_app (ds := s.places.map cI) rfl (ev_var rfl) (by rw [List.length_map]; have := B.le; omega))))))), rfl, some (.m (.v (cI c))), some (.m (mR (p :: ps))), some (.m (vI (ownR p c))), s8, s9, ?_⟩
      · have := hr
        obtain ⟨r', hr', rfl⟩ := List.mem_map.mp this
        rw [clearR_len ((B.ll r' hr').1.trans o1.symm), (B.ll r' hr').1]
        omega
      · rw [step, e1]
        simp only [mR, List.map_append, List.map_map]
        rfl
  · rintro ρ' st' ⟨rfl, s5, s6, s7, s8, s9, rfl⟩
    exact st_ret (ev_tup (ev_cons (ev_var rfl) (ev_cons (ev_var rfl) ev_nil)) rfl)
end CD

set_option Elab.async false
set_option linter.all false
set_option maxRecDepth 100000
set_option maxHeartbeats 400000
namespace CD
open PySem PySem.Spec PyProof.Rows L2
/-! ### the plain level: tidy -/
def clearAll (row : Row) (ps : List (Row × Nat)) : Row := ps.foldl (fun r p => clearR r p.1 p.2) row
def clearBy (row : Row) (steps : List Row) (places : List Nat) : Row := prim (clearAll row (steps.zip places))
theorem clearAll_b {d N M : Nat} {row : Row} (m : 1 ≤ M) (h : row.length = d ∧ bd N row) (ps : List (Row × Nat)) (hp : ∀ p ∈ ps, p.1.length = d ∧ bd M p.1) : (clearAll row ps).length = d ∧ bd (N * (2 * M) ^ ps.length) (clearAll row ps) := by
  suffices ∀ n (ps : List (Row × Nat)), ps.length = n → (∀ p ∈ ps, p.1.length = d ∧ bd M p.1) → (clearAll row ps).length = d ∧ bd (N * (2 * M) ^ n) (clearAll row ps) from this _ ps rfl hp
  intro n
  induction n with
  | zero =>
    intro ps e _
    rw [List.length_eq_zero_iff.mp e]
    exact ⟨h.1, by rw [Nat.pow_zero, Nat.mul_one]; exact h.2⟩
  | succ n ih =>
    intro ps e hp
    have hne : ps ≠ [] := fun z => by rw [z] at e; cases e
    obtain ⟨cs, c, rfl⟩ : ∃ l x, ps = l ++ [x] := ⟨_, _, (List.dropLast_concat_getLast hne).symm⟩
    obtain ⟨h1, h2⟩ := ih cs (by simpa using e) fun x hx => hp x (List.mem_append_left _ hx)
    obtain ⟨c1, c2⟩ := hp c (by simp)
    have e1 : clearAll row (cs ++ [c]) = clearR (clearAll row cs) c.1 c.2 := by unfold clearAll; rw [List.foldl_append]; rfl
    rw [e1]
    refine ⟨(clearR_len (h1.trans c1.symm)).trans h1, ?_⟩
    have := clearR_bd (c := c.2) h2 c2 m
    refine this.mono ?_
    rw [Nat.pow_succ, ← Nat.mul_assoc N, Nat.mul_comm 2 (N * _), Nat.mul_assoc (N * (2 * M) ^ n) 2 M]
    exact Nat.le_refl _
theorem zip_rc (steps : List Row) (places : List Nat) : zipD (steps.map tI) (places.map cI) = (steps.zip places).map fun p => D.tup [tI p.1, cI p.2] := by
  unfold zipD
  rw [List.zipWith_map, List.zip, List.map_zipWith]
theorem p_cleared_by {d N M : Nat} (row : Row) (steps : List Row) (places : List Nat) (h : row.length = d ∧ bd N row) (hs : ∀ r ∈ steps, r.length = d ∧ bd M r) (hp : ∀ c ∈ places, c < d) (hd : d ≤ 1000) (m1 : 1 ≤ N) (m2 : 1 ≤ M) (b : N * (2 * M) ^ steps.length < BIG) (st : List O) :
    F_cleared_by [vI row, mR steps, .v (.lst (places.map cI))] st = .val (vI (clearBy row steps places)) st := by
  have hz : ∀ p ∈ steps.zip places, p.1.length = d ∧ bd M p.1 := fun p hp => hs _ (List.of_mem_zip hp).1
  have hlen : (steps.zip places).length ≤ steps.length := by rw [List.length_zip]; omega
  have pw : ∀ n, n ≤ steps.length → N * (2 * M) ^ n ≤ N * (2 * M) ^ steps.length := fun n hn => Nat.mul_le_mul_left _ (Nat.pow_le_pow_right (by omega) hn)
  refine run_rt (st_for (fun p : Row × Nat => D.tup [tI p.1, cI p.2]) (fun pre ρ st' => st' = st ∧ ∃ s3 s4, ρ = [some (.m (vI (clearAll row pre))), some (.m (mR steps)), some (.m (.v (.lst (places.map cI)))), s3, s4]) (steps.zip places) (ev_bind (ev_var rfl) (ev_bind (ev_var rfl) (by rw [← zip_rc]; rfl))) ?_ ⟨rfl, none, none, rfl⟩ ?_)
  · rintro pre p post ρ st' e ⟨rfl, s3, s4, rfl⟩
    have hpre : ∀ q ∈ pre, q.1.length = d ∧ bd M q.1 := fun q hq => hz q (by rw [e]; simp [hq])
    have hpm : p ∈ steps.zip places := by rw [e]; simp
    have hn : pre.length + 1 ≤ steps.length := by have := congrArg List.length e; simp at this; omega
    obtain ⟨q1, q2⟩ := clearAll_b m2 h pre hpre
    obtain ⟨o1, o2⟩ := hz p hpm
    have hb : 2 * (N * (2 * M) ^ pre.length) * M < BIG := by
      have := pw _ hn
      rw [Nat.pow_succ, ← Nat.mul_assoc N, ← Nat.mul_assoc, Nat.mul_comm _ 2] at this
      omega
    refine ⟨_, _, _, rfl, st_asg (ev_callP (ds := [tI (clearAll row pre), tI p.1, cI p.2]) (ev_cons (ev_var rfl) (ev_cons (ev_var rfl) (ev_cons (ev_var rfl) ev_nil))) rfl (p_cleared _ _ _ q2 o2 (Nat.mul_pos m1 (Nat.pow_pos (by omega))) m2 hb (q1.trans o1.symm) (by rw [q1]; exact hp _ (List.of_mem_zip hpm).2) (by omega) [])) rfl, rfl, some (.m (vI p.1)), some (.m (.v (cI p.2))), ?_⟩
    have e1 : clearAll row (pre ++ [p]) = clearR (clearAll row pre) p.1 p.2 := by unfold clearAll; rw [List.foldl_append]; rfl
    rw [e1]
    rfl
  · rintro ρ' st' ⟨rfl, s3, s4, rfl⟩
    obtain ⟨q1, q2⟩ := clearAll_b m2 h _ hz
    exact st_ret (ev_callP (ds := [tI (clearAll row (steps.zip places))]) (ev_cons (ev_var rfl) ev_nil) rfl (p_primitive _ (lt_BIG q2 (Nat.lt_of_le_of_lt (pw _ hlen) b)) (by omega) []))
/-! a dict of rows, sorted -/
def uniqR (acc : List Row) : List Row → List Row
  | [] => acc
  | r :: l => uniqR (if r ∈ acc then acc else acc ++ [r]) l
theorem uniqR_mem {x : Row} : ∀ (l acc : List Row), x ∈ uniqR acc l → x ∈ acc ∨ x ∈ l
  | [], acc, h => .inl h
  | r :: l, acc, h => by
    rcases uniqR_mem l _ h with h | h
    · by_cases z : r ∈ acc
      · rw [if_pos z] at h; exact .inl h
      · rw [if_neg z] at h
        rcases List.mem_append.mp h with h | h
        · exact .inl h
        · rw [List.mem_singleton.mp h]; exact .inr List.mem_cons_self
    · exact .inr (List.mem_cons_of_mem _ h)
def kR (r : Row) : List L2.Key × D := (r.map Sum.inl, .bl true)
theorem inl_inj {β : Type} : ∀ {a b : Row}, a.map (Sum.inl : Int → Int ⊕ β) = b.map Sum.inl → a = b
  | [], [], _ => rfl
  | [], _ :: _, h => nomatch h
  | _ :: _, [], h => nomatch h
  | x :: a, y :: b, h => by
    rw [List.map_cons, List.map_cons] at h
    injection h with h1 h2
    injection h1 with h1
    rw [h1, inl_inj h2]
theorem put_kR (acc : List Row) (r : Row) : putKD (acc.map kR) (r.map Sum.inl) (.bl true) = (if r ∈ acc then acc else acc ++ [r]).map kR := by
  have key : ∀ a : Row, ((kR a).1 = r.map Sum.inl) ↔ a = r := fun a => ⟨fun h => inl_inj h, fun h => by rw [h]; rfl⟩
  unfold putKD
  by_cases z : r ∈ acc
  · rw [if_pos z, if_pos (List.any_eq_true.mpr ⟨kR r, List.mem_map_of_mem z, decide_eq_true rfl⟩), List.map_map]
    refine List.map_congr_left fun a ha => ?_
    show (if (kR a).1 = r.map Sum.inl then ((kR a).1, D.bl true) else kR a) = kR a
    split <;> rfl
  · rw [if_neg z, if_neg, List.map_append]
    · rfl
    · intro h
      obtain ⟨q, hq, e⟩ := List.any_eq_true.mp h
      obtain ⟨a, ha, rfl⟩ := List.mem_map.mp hq
      exact z ((key a).mp (of_decide_eq_true e) ▸ ha)
theorem merge_kR : ∀ (l acc : List Row), mergeKD (acc.map kR) (l.map kR) = (uniqR acc l).map kR
  | [], acc => rfl
  | r :: l, acc => by
    have := merge_kR l (if r ∈ acc then acc else acc ++ [r])
    rw [← put_kR] at this
    exact this
theorem keyInts_inl : ∀ r : Row, keyInts (r.map Sum.inl) = some r
  | [] => rfl
  | x :: r => by
    show (keyInts (r.map Sum.inl)).map (x :: ·) = _
    rw [keyInts_inl r]
    rfl
theorem keysInts_kR : ∀ l : List Row, keysInts (l.map kR) = some l
  | [] => rfl
  | r :: l => by
    rw [List.map_cons]
    show (match keyInts (r.map Sum.inl), keysInts (l.map kR) with
      | some ns, some l => some (ns :: l)
      | _, _ => none) = _
    rw [keyInts_inl, keysInts_kR l]
theorem dKeys_int : ∀ r : Row, dKeys (r.map D.int) = some (r.map Sum.inl)
  | [] => rfl
  | x :: r => by
    rw [List.map_cons, dKeys, dKeys_int r]
    rfl
def pR (r : Row) : D := .tup [tI r, .bl true]
theorem pairsT_kR : ∀ l : List Row, pairsT (l.map pR) = some (l.map kR)
  | [] => rfl
  | r :: l => by
    rw [List.map_cons]
    show (match dKeys (r.map D.int), pairsT (l.map pR) with
      | some k, some l => some ((k, D.bl true) :: l)
      | _, _ => none) = _
    rw [dKeys_int, pairsT_kR l]
    rfl
theorem sort_dict (l : List Row) (hl : l.length ≤ 1000000) (hn : ∀ r ∈ l, r ≠ []) (st : List O) : ∃ y, dictM st [.v (.lst (l.map pR))] = some y ∧ sortedM st [y] = some (.v (.lst ((sortK (uniqR [] l)).map tI))) := by
  have hz : szOk (l.map pR).length = true := by unfold szOk; rw [List.length_map]; exact decide_eq_true hl
  cases l with
  | nil =>
    refine ⟨.v (.dic []), rfl, ?_⟩
    show some (MV.v (.lst ((sortI []).map .int))) = some (MV.v (.lst ((sortK []).map tI)))
    simp [sortI, sortK]
  | cons r l =>
    have e : dictM st [.v (.lst ((r :: l).map pR))] = some (.v (.dit ((uniqR [] (r :: l)).map kR))) := by
      show (if szOk ((r :: l).map pR).length = true then (match pairsK ((r :: l).map pR) with
        | some l => some (MV.v (.dic (mergeKD [] l)))
        | none => (pairsT ((r :: l).map pR)).map fun l => MV.v (.dit (mergeKD [] l))) else none) = _
      rw [if_pos hz, pairsT_kR]
      have : pairsK ((r :: l).map pR) = none := rfl
      rw [this]
      show some (MV.v (.dit (mergeKD [] ((r :: l).map kR)))) = _
      rw [show ([] : List (List L2.Key × D)) = ([] : List Row).map kR from rfl, merge_kR]
    refine ⟨_, e, ?_⟩
    show (match keysInts ((uniqR [] (r :: l)).map kR) with
      | some l => if (l.all fun ns => !ns.isEmpty) = true then some (MV.v (.lst ((sortK l).map fun ns : List Int => D.tup (ns.map .int)))) else none
      | none => none) = _
    rw [keysInts_kR]
    show (if ((uniqR [] (r :: l)).all fun ns => !ns.isEmpty) = true then some (MV.v (.lst ((sortK (uniqR [] (r :: l))).map fun ns : List Int => D.tup (ns.map .int)))) else none) = _
    rw [if_pos]
    · rfl
    · refine List.all_eq_true.mpr fun x hx => ?_
      rcases uniqR_mem _ _ hx with h | h
      · cases h
      · have := hn x h
        cases x with
        | nil => exact absurd rfl this
        | cons _ _ => rfl
def tidyR (rays lines : List Row) (cols : List Nat) : List Row := sortK (uniqR [] (rays.map fun r => clearBy r (inSteps lines cols).found (inSteps lines cols).places))
theorem clearBy_len {d M : Nat} {row : Row} {steps : List Row} {places : List Nat} (m : 1 ≤ M) (h : row.length = d) (hs : ∀ r ∈ steps, r.length = d ∧ bd M r) : (clearBy row steps places).length = d := by
  unfold clearBy
  rw [prim_len]
  obtain ⟨N, hN⟩ : ∃ N, bd N row := by
    clear h hs
    induction row with
    | nil => exact ⟨0, fun x hx => nomatch hx⟩
    | cons y row ih =>
      obtain ⟨N, hN⟩ := ih
      refine ⟨N + y.natAbs, fun x hx => ?_⟩
      rcases List.mem_cons.mp hx with rfl | hx
      · omega
      · have := hN x hx; omega
  exact (clearAll_b m ⟨h, hN⟩ _ fun p hp => hs _ (List.of_mem_zip hp).1).1
theorem tidyR_len {d L : Nat} {rays lines : List Row} {cols : List Nat} (hr : ∀ r ∈ rays, r.length = d) (hlr : ∀ r ∈ lines, r.length = d ∧ bd L r) (m : 1 ≤ L) (hll : lines.length ≤ 1000) (hc : ∀ c ∈ cols, c < d) : ∀ r ∈ tidyR rays lines cols, r.length = d := by
  intro r hr'
  have h1 := (sortK_perm _).mem_iff.mp hr'
  rcases uniqR_mem _ _ h1 with h | h
  · cases h
  · obtain ⟨r', h2, rfl⟩ := List.mem_map.mp h
    exact clearBy_len (SB_pos m cols.length) (hr r' h2) (inSteps_b hlr m hll cols hc).fl
theorem p_tidy {d N L : Nat} (rays lines : List Row) (cols : List Nat) (hr : ∀ r ∈ rays, r.length = d ∧ bd N r) (hlr : ∀ r ∈ lines, r.length = d ∧ bd L r) (hd : 0 < d ∧ d ≤ 1000) (m1 : 1 ≤ N) (m2 : 1 ≤ L) (hl : rays.length ≤ 1000000) (hll : lines.length ≤ 1000) (hn : cols.length ≤ 1000) (hc : ∀ c ∈ cols, c < d)
    (b1 : SB L cols.length < BIG) (b2 : N * (2 * SB L cols.length) ^ cols.length < BIG) (st : List O) :
    F_tidy [mR rays, mR lines, .v (.lst (cols.map cI))] st = .val (.v (.tup [.lst ((tidyR rays lines cols).map tI), .lst ((inSteps lines cols).found.map tI)])) st := by
  have B := inSteps_b hlr m2 hll cols hc
  have hcl : ∀ r ∈ rays, (clearBy r (inSteps lines cols).found (inSteps lines cols).places).length = d := fun r h => clearBy_len (SB_pos m2 _) (hr r h).1 B.fl
  obtain ⟨y, e1, e2⟩ := sort_dict (rays.map fun r => clearBy r (inSteps lines cols).found (inSteps lines cols).places) (by rw [List.length_map]; exact hl) (fun r h => by
    obtain ⟨r', h', rfl⟩ := List.mem_map.mp h
    intro z
    have := hcl r' h'
    rw [z] at this
    simp at this
    omega) st
  have hb : N * (2 * SB L cols.length) ^ (inSteps lines cols).found.length < BIG := Nat.lt_of_le_of_lt (Nat.mul_le_mul_left _ (Nat.pow_le_pow_right (by have := SB_pos m2 cols.length; omega) B.le.2)) b2
  refine run_rt (st_nx (st_asg (ev_callP (ds := [.lst (lines.map tI), .lst (cols.map cI)]) (ev_cons (ev_var rfl) (ev_cons (ev_var rfl) ev_nil)) rfl (p_in_steps lines cols hlr hd.2 m2 hll hn hc b1 [])) rfl) (st_nx (st_asg (ev_B (ev_cons (ev_lcY tI rays (fun r => pR (clearBy r (inSteps lines cols).found (inSteps lines cols).places)) (ev_seqL (ev_var rfl)) hl fun r h => ⟨_, rfl, ev_tup (ev_cons (ev_callP (ds := [tI r, .lst ((inSteps lines cols).found.map tI), .lst ((inSteps lines cols).places.map cI)]) (ev_cons (ev_var rfl) (ev_cons (ev_var rfl) (ev_cons (ev_var rfl) ev_nil))) rfl (p_cleared_by r _ _ (hr r h) B.fl B.pl hd.2 m1 (SB_pos m2 _) hb [])) (ev_cons ev_c ev_nil)) rfl⟩) ev_nil) (by rw [List.map_map] at e1; exact e1)) rfl) (st_ret (ev_tup (ev_cons (ev_B (ev_cons (ev_var rfl) ev_nil) e2) (ev_cons (ev_var rfl) ev_nil)) rfl))))
end CD

set_option Elab.async false
set_option linter.all false
set_option maxRecDepth 100000
set_option maxHeartbeats 400000
namespace CD
open PySem PySem.Spec PyProof.Rows L2
/-! ### the plain level: cones -/
def rI (p : Row × Nat) : D := .tup [tI p.1, .int (p.2 : Nat)]
def coneO (C : Addr) (s : CS) : O := .ins C [("lines", mR s.lines), ("rays", .v (.lst (s.rays.map rI))), ("count", .v (.int (s.count : Nat)))]
theorem band_nat (a b : Nat) : Builtin.bitAnd (a : Int) (b : Int) = ((a &&& b : Nat) : Int) := by
  rw [bitAnd_pp (Int.natCast_nonneg a) (Int.natCast_nonneg b), Int.toNat_natCast, Int.toNat_natCast]
theorem bor_nat (a b : Nat) : Builtin.bitOr (a : Int) (b : Int) = ((a ||| b : Nat) : Int) := by
  have n : ∀ a : Nat, ¬ 0 ≤ Builtin.bitNot (a : Int) := fun a => by unfold Builtin.bitNot; omega
  have nn : ∀ i : Int, Builtin.bitNot (Builtin.bitNot i) = i := fun i => by unfold Builtin.bitNot; omega
  unfold Builtin.bitOr
  rw [bitAnd_nn (n a) (n b), nn, nn, nn, Int.toNat_natCast, Int.toNat_natCast]
theorem or_n (a b : Nat) (st : List O) : orM st (.v (.int a)) (.v (.int b)) = some (.v (.int ((a ||| b : Nat) : Int))) := by
  show some (MV.v (.int (Builtin.bitOr a b))) = _
  rw [bor_nat]
theorem and_n (a b : Nat) (st : List O) : andM st (.v (.int a)) (.v (.int b)) = some (.v (.int ((a &&& b : Nat) : Int))) := by
  show some (MV.v (.int (Builtin.bitAnd a b))) = _
  rw [band_nat]
theorem shl_1 (n : Nat) (h : n ≤ 1000) (st : List O) : shlM st (.v (.int 1)) (.v (.int n)) = some (.v (.int ((1 <<< n : Nat) : Int))) := by
  show (if powOk 1 n = true then some (MV.v (.int (1 * 2 ^ (n : Int).toNat))) else none) = _
  rw [if_pos]
  · rw [Int.toNat_natCast, Int.one_mul, Nat.shiftLeft_eq, Nat.one_mul, Int.natCast_pow]
    rfl
  · unfold powOk
    rw [Bool.and_eq_true, Bool.and_eq_true]
    exact ⟨⟨decide_eq_true (by omega), decide_eq_true (by omega)⟩, by decide⟩
theorem fits_int : ∀ (n : Nat) (v : Row), (v.map D.int).all (D.fits n) = true := fun n v => List.all_eq_true.mpr fun x hx => by
  obtain ⟨i, _, rfl⟩ := List.mem_map.mp hx
  cases n <;> rfl
theorem fits_tI (n : Nat) (v : Row) : D.fits (n + 1) (tI v) = true := fits_int n v
theorem eqbs_int : ∀ a b : Row, D.eqbs (a.map D.int) (b.map D.int) = decide (a = b)
  | [], [] => rfl
  | [], _ :: _ => rfl
  | _ :: _, [] => rfl
  | x :: a, y :: b => by
    show ((x == y) && D.eqbs (a.map D.int) (b.map D.int)) = _
    rw [eqbs_int a b]
    by_cases h : x = y <;> by_cases h' : a = b <;> simp [h, h']
theorem eqb_tI (a b : Row) : D.eqb (tI a) (tI b) = decide (a = b) := eqbs_int a b
theorem notin2 (v f g : Row) (st : List O) : notInM st (vI v) (.v (.tup [tI f, tI g])) = some (.v (.bl (!(decide (v = f) || decide (v = g))))) := by
  show (if (D.fits 20 (tI v) && D.fits 20 (.tup [tI f, tI g])) = true then some (([tI f, tI g].any fun z => D.eqb z (tI v))) else none).map _ = _
  rw [if_pos (by rw [fits_tI]; show (D.fits 19 (tI f) && (D.fits 19 (tI g) && true)) = true; rw [fits_tI, fits_tI]; rfl)]
  show some (MV.v (.bl (!(D.eqb (tI f) (tI v) || (D.eqb (tI g) (tI v) || false))))) = _
  rw [eqb_tI, eqb_tI, Bool.or_false]
  simp only [eq_comm]
structure Sm (d N : Nat) (r : Row) (s : CS) : Prop where
  d0 : 0 < d
  d1 : d ≤ 1000
  rl : r.length = d
  ra : asum r ≤ 10
  ls : ∀ l ∈ s.lines, l.length = d ∧ bd N l
  rs : ∀ p ∈ s.rays, p.1.length = d ∧ bd N p.1
  n1 : 1 ≤ N
  big : 20 * N * N < BIG
  ll : s.lines.length ≤ 1000
  cnt : s.count ≤ 1000
  rn : s.rays.length ≤ 100000
theorem filter_one {α : Type} {p : α → Bool} {x : α} (h : p x = true) : [x].filter p = [x] := by rw [List.filter_cons, if_pos h]; rfl
theorem filter_non {α : Type} {p : α → Bool} {x : α} (h : p x = false) : [x].filter p = [] := by rw [List.filter_cons, h]; rfl
theorem e_nxs {ρ : Env} {st s : List O} {o : Out Fl} (h : o = .val (.nx ρ) st) (e : st = s) : Ends (.v .non) s o := by subst e; exact e_nx h
theorem mem_asum : ∀ (v : Row) (x : Int), x ∈ v → x.natAbs ≤ asum v
  | y :: v, x, h => by
    unfold asum
    rw [List.map_cons, List.sum_cons]
    rcases List.mem_cons.mp h with rfl | h
    · omega
    · have := mem_asum v x h
      unfold asum at this
      omega
section
variable {d N : Nat} {r : Row} {s : CS} {ρ : Env} {st st1 st2 : List O} {c : Cs}
theorem Sm.N_big (z : Sm d N r s) : 10 * N < BIG := by
  have := Nat.mul_le_mul_left (20 * N) z.n1
  have := z.big
  omega
theorem Sm.r_big (z : Sm d N r s) : ∀ x ∈ r, x.natAbs < BIG := fun x hx => by
  have := mem_asum r x hx
  have := z.ra
  have := z.N_big
  have := z.n1
  omega
theorem Sm.dot (z : Sm d N r s) {a : Row} (h : bd N a) : (dot r a).natAbs ≤ 10 * N := Nat.le_trans (dot_bd r a h) (Nat.mul_le_mul_right N z.ra)
theorem Sm.prod (z : Sm d N r s) {a : Row} (h : bd N a) {fs : Env → M (List MV)} (hf : fs ρ st = .val [vI r, vI a] st1) : fCallP 2 F_product fs ρ st = .val (.v (.int (CD.dot r a))) st1 :=
  ev_callP (ds := [tI r, tI a]) hf rfl (p_product r a z.r_big (lt_BIG h (by have := z.N_big; omega)) (by rw [z.rl]; exact z.d1) [])
theorem Sm.mix (z : Sm d N r s) {a b : Row} {t m : Int} (ha : a.length = d ∧ bd N a) (hb : b.length = d ∧ bd N b) (ht : t.natAbs ≤ 10 * N) (hm : m.natAbs ≤ 10 * N) {fs : Env → M (List MV)} (hf : fs ρ st = .val [vI a, .v (.int t), vI b, .v (.int m)] st1) :
    fCallP 1 F_primitive (fCons (fCallP 4 F_joined fs) fNil) ρ st = .val (vI (prim (joinR a t b m))) st1 := by
  have nb := z.N_big
  have nn : N < BIG := by omega
  have jb : bd (20 * N * N) (joinR a t b m) := (bd_join ha.2 hb.2 ht hm).mono (by rw [← Nat.add_mul, ← Nat.add_mul]; exact Nat.le_refl _)
  exact ev_callP (ds := [tI (joinR a t b m)]) (ev_cons (ev_callP (ds := [tI a, .int t, tI b, .int m]) hf rfl (p_joined a b t m (lt_BIG ha.2 nn) (lt_BIG hb.2 nn) (by omega) (by omega) (by rw [ha.1]; exact z.d1) [])) ev_nil) rfl
    (p_primitive _ (lt_BIG jb z.big) (by rw [join_len (ha.1.trans hb.1.symm), ha.1]; exact z.d1) [])
theorem Sm.up (z : Sm d N r s) {l : Row} (h : l ∈ s.lines) : (upL r l).length = d ∧ bd N (upL r l) := ⟨(upL_len r l).trans (z.ls l h).1, bd_upL (z.ls l h).2⟩
theorem at_lines {C : Addr} {f : Env → M MV} {j : Nat} (hf : f ρ st = .val (.obj j) st) (h : st[j]? = some (coneO C s)) : fAttr C "lines" f ρ st = .val (mR s.lines) st := ev_attr hf h rfl
theorem at_rays {C : Addr} {f : Env → M MV} {j : Nat} (hf : f ρ st = .val (.obj j) st) (h : st[j]? = some (coneO C s)) : fAttr C "rays" f ρ st = .val (.v (.lst (s.rays.map rI))) st := ev_attr hf h rfl
theorem at_count {C : Addr} {f : Env → M MV} {j : Nat} (hf : f ρ st = .val (.obj j) st) (h : st[j]? = some (coneO C s)) : fAttr C "count" f ρ st = .val (.v (.int (s.count : Nat))) st := ev_attr hf h rfl
theorem set_lines (C : Addr) (s : CS) (ls : List Row) : O.ins C (putA "lines" (mR ls) [("lines", mR s.lines), ("rays", .v (.lst (s.rays.map rI))), ("count", .v (.int (s.count : Nat)))]) = coneO C ⟨ls, s.rays, s.count⟩ := rfl
theorem set_rays (C : Addr) (s : CS) (rs : List (Row × Nat)) : O.ins C (putA "rays" (.v (.lst (rs.map rI))) [("lines", mR s.lines), ("rays", .v (.lst (s.rays.map rI))), ("count", .v (.int (s.count : Nat)))]) = coneO C ⟨s.lines, rs, s.count⟩ := rfl
theorem neg_abs (i : Int) : (0 - i).natAbs = i.natAbs := by omega
/-- 1 << count -/
theorem ev_bit {C : Addr} {f : Env → M MV} {j : Nat} (hf : f ρ st = .val (.obj j) st) (h : st[j]? = some (coneO C s)) (hc : s.count ≤ 1000) : fBin shlM (fC (.v (.int 1))) (fAttr C "count" f) ρ st = .val (.v (.int ((1 <<< s.count : Nat) : Int))) st := ev_bin ev_c (at_count hf h) (shl_1 _ hc _)
theorem p_cut_lines (z : Sm d N r s) {j : Nat} (hj : st[j]? = some (coneO c.Cone s)) {l : Row} (hl : l ∈ s.lines) : F_Cone_cut_lines c [.obj j, vI r, vI l] st = .val (.v .non) (st.set j (coneO c.Cone (cutLines r l s))) := by
  obtain ⟨l1, l2⟩ := z.ls l hl
  obtain ⟨u1, u2⟩ := z.up hl
  have ud := z.dot u2
  refine run_e (e_seq (st1 := st) (st_asg (x := vI (upL r l)) ?_ rfl) (e_seq (st_asg (z.prod u2 (ev_cons (ev_var rfl) (ev_cons (ev_var rfl) ev_nil))) rfl) (e_seq (st_own (ds := []) ev_nil (by simp)) ?_)))
  · have cmp : ∀ ρ : Env, ρ[1]? = some (some (.m (vI r))) → ρ[2]? = some (some (.m (vI l))) → fCmpT gtM (fCallP 2 F_product (fCons (fVar 1) (fCons (fVar 2) fNil))) (fC (.v (.int 0))) ρ st = .val (decide (0 < CD.dot r l)) st := fun ρ h1 h2 => ev_cmp (z.prod l2 (ev_cons (ev_var h1) (ev_cons (ev_var h2) ev_nil))) ev_c (gt_t _ _ _)
    have cm := cmp (startE 10 [.obj j, vI r, vI l]) rfl rfl
    unfold upL
    by_cases q : 0 < CD.dot r l
    · rw [if_pos q]
      rw [decide_eq_true q] at cm
      exact ev_if1 cm (ev_var rfl)
    · rw [if_neg q]
      rw [decide_eq_false q] at cm
      exact ev_if0 cm (ev_callP (ds := [tI l]) (ev_cons (ev_var rfl) ev_nil) rfl (p_opposite l (by rw [l1]; exact z.d1) []))
  · refine e_for tI (fun pre ρ st' => st' = st ∧ ∃ s5, ρ = [some (.m (.obj j)), some (.m (vI r)), some (.m (vI (upL r l))), some (.m (.v (.int (CD.dot r (upL r l))))), some (.own (.lst (((pre.filter fun o => !(decide (o = upL r l) || decide (o = oppR (upL r l)))).map fun o => prim (joinR o (CD.dot r (upL r l)) (upL r l) (0 - CD.dot r o))).map tI))), s5, none, none, none, none]) s.lines (ev_seqL (at_lines (ev_var rfl) hj)) ?_ ⟨rfl, none, rfl⟩ ?_
    · rintro pre o post ρ st' e ⟨rfl, s5, rfl⟩
      have hom : o ∈ s.lines := by rw [e]; simp
      obtain ⟨o1, o2⟩ := z.ls o hom
      have hlen : pre.length + 1 ≤ 1000 := by have := z.ll; rw [e] at this; simp at this; omega
      have cm : ∀ ρ : Env, ρ[5]? = some (some (.m (vI o))) → ρ[2]? = some (some (.m (vI (upL r l)))) → fCmpT notInM (fVar 5) (fTup (fCons (fVar 2) (fCons (fCallP 1 F_opposite (fCons (fVar 2) fNil)) fNil))) ρ st' = .val (!(decide (o = upL r l) || decide (o = oppR (upL r l)))) st' := fun ρ h5 h2 => ev_cmp (ev_var h5) (ev_tup (ev_cons (ev_var h2) (ev_cons (ev_callP (ds := [tI (upL r l)]) (ev_cons (ev_var h2) ev_nil) rfl (p_opposite _ (by rw [u1]; exact z.d1) [])) ev_nil)) rfl) (notin2 _ _ _ _)
      rw [List.filter_append]
      cases q : (!(decide (o = upL r l) || decide (o = oppR (upL r l)))) with
      | true =>
        rw [q] at cm
        refine ⟨_, _, _, rfl, st_if1 (cm _ rfl rfl) (st_app rfl (z.mix ⟨o1, o2⟩ ⟨u1, u2⟩ ud (by rw [neg_abs]; exact z.dot o2) (ev_cons (ev_var rfl) (ev_cons (ev_var rfl) (ev_cons (ev_var rfl) (ev_cons (ev_bin ev_c (z.prod o2 (ev_cons (ev_var rfl) (ev_cons (ev_var rfl) ev_nil))) (sub_i _ _ _)) ev_nil))))) ?_), rfl, some (.m (vI o)), ?_⟩
        · rw [List.length_map, List.length_map]
          have := filter_len (fun o => !(decide (o = upL r l) || decide (o = oppR (upL r l)))) pre
          omega
        · rw [show ([o].filter fun o => !(decide (o = upL r l) || decide (o = oppR (upL r l)))) = [o] from filter_one (p := fun o => !(decide (o = upL r l) || decide (o = oppR (upL r l)))) q, List.map_append, List.map_append]
          rfl
      | false =>
        rw [q] at cm
        refine ⟨_, _, _, rfl, st_if0 (cm _ rfl rfl) rfl, rfl, some (.m (vI o)), ?_⟩
        rw [show ([o].filter fun o => !(decide (o = upL r l) || decide (o = oppR (upL r l)))) = [] from filter_non (p := fun o => !(decide (o = upL r l) || decide (o = oppR (upL r l)))) q, List.append_nil]
        rfl
    · rintro ρ' st' ⟨rfl, s5, rfl⟩
      refine e_seq (st_own (ds := []) ev_nil (by simp)) ?_
      refine e_for rI (fun pre ρ st'' => st'' = st' ∧ ∃ s7 s8 s9, ρ = [some (.m (.obj j)), some (.m (vI r)), some (.m (vI (upL r l))), some (.m (.v (.int (CD.dot r (upL r l))))), some (.m (mR (cutLines r l s).lines)), s5, some (.own (.lst ((pre.map fun p => (prim (joinR p.1 (CD.dot r (upL r l)) (upL r l) (0 - CD.dot r p.1)), p.2 ||| 1 <<< s.count)).map rI))), s7, s8, s9]) s.rays (ev_seqL (at_rays (ev_var rfl) hj)) ?_ ⟨rfl, none, none, none, rfl⟩ ?_
      · rintro pre p post ρ st'' e ⟨rfl, s7, s8, s9, rfl⟩
        have hpm : p ∈ s.rays := by rw [e]; simp
        obtain ⟨o1, o2⟩ := z.rs p hpm
        have hlen : pre.length + 1 ≤ 100000 := by have := z.rn; rw [e] at this; simp at this; omega
        refine ⟨_, _, _, rfl, st_nx (st_asg (z.mix ⟨o1, o2⟩ ⟨u1, u2⟩ ud (by rw [neg_abs]; exact z.dot o2) (ev_cons (ev_var rfl) (ev_cons (ev_var rfl) (ev_cons (ev_var rfl) (ev_cons (ev_bin ev_c (z.prod o2 (ev_cons (ev_var rfl) (ev_cons (ev_var rfl) ev_nil))) (sub_i _ _ _)) ev_nil))))) rfl)
          (st_app rfl (ev_tup (ev_cons (ev_var rfl) (ev_cons (ev_bin (ev_var rfl) (ev_bit (ev_var rfl) hj z.cnt) (or_n _ _ _)) ev_nil)) rfl) (by rw [List.length_map, List.length_map]; omega)), rfl, some (.m (vI p.1)), some (.m (.v (.int (p.2 : Nat)))), some (.m (vI (prim (joinR p.1 (CD.dot r (upL r l)) (upL r l) (0 - CD.dot r p.1))))), ?_⟩
        rw [List.map_append, List.map_append]
        rfl
      · rintro ρ'' st'' ⟨rfl, s7, s8, s9, rfl⟩
        have jl : j < st''.length := (List.getElem?_eq_some_iff.mp hj).1
        have h1 : (st''.set j (coneO c.Cone ⟨(cutLines r l s).lines, s.rays, s.count⟩))[j]? = some (coneO c.Cone ⟨(cutLines r l s).lines, s.rays, s.count⟩) := List.getElem?_set_self jl
        refine e_seq (st_attr (ev_var rfl) (ev_var rfl) hj (by show 3 < 900; decide)) ?_
        rw [set_lines]
        refine e_nxs (st_attr (y := .v (.lst ((cutLines r l s).rays.map rI))) (ev_bin (ev_var rfl) (ev_lst (ev_cons (ev_tup (ev_cons (ev_var rfl) (ev_cons (ev_bin (ev_bit (ev_var rfl) h1 z.cnt) ev_c (sub_i _ _ _)) ev_nil)) rfl) ev_nil) rfl) ?_) (ev_var rfl) h1 (by show 3 < 900; decide)) ?_
        · refine (add_l _ _ (by simp only [List.length_map, List.length_cons, List.length_nil]; have := z.rn; omega) _).trans ?_
          have e3 : (((1 <<< s.count : Nat) : Int) - 1) = ((1 <<< s.count - 1 : Nat) : Int) := by
            have : 0 < 1 <<< s.count := by rw [Nat.shiftLeft_eq, Nat.one_mul]; exact Nat.two_pow_pos _
            omega
          show some (MV.v (.lst ((s.rays.map fun p => (prim (joinR p.1 (CD.dot r (upL r l)) (upL r l) (0 - CD.dot r p.1)), p.2 ||| 1 <<< s.count)).map rI ++ [D.tup [tI (upL r l), .int (((1 <<< s.count : Nat) : Int) - 1)]]))) = some (MV.v (.lst (((s.rays.map fun p => (prim (joinR p.1 (CD.dot r (upL r l)) (upL r l) (0 - CD.dot r p.1)), p.2 ||| 1 <<< s.count)) ++ [(upL r l, 1 <<< s.count - 1)]).map rI)))
          rw [List.map_append]
          show some (MV.v (.lst (_ ++ [D.tup [tI (upL r l), .int (((1 <<< s.count : Nat) : Int) - 1)]]))) = some (MV.v (.lst (_ ++ [D.tup [tI (upL r l), .int ((1 <<< s.count - 1 : Nat) : Int)]])))
          rw [← e3]
          rfl
        · rw [set_rays, List.set_set]
          rfl
end
end CD

set_option Elab.async false
set_option linter.all false
set_option maxRecDepth 100000
set_option maxHeartbeats 400000
namespace CD
open PySem PySem.Spec PyProof.Rows L2
/-! ### the plain level: rays are cut -/
section
variable {ρ : Env} {st st1 : List O}
theorem for_all {γ : Type} (enc : γ → D) (J : Env → Prop) (t : γ → Bool) (xs : List γ) {r : MV} {fi : Env → M (List D)} {g : MV → Env → Option Env} {body : Env → M Fl} (hi : fi ρ st = .val (xs.map enc) st1)
    (h : ∀ x ∈ xs, ∀ ρ, J ρ → ∃ ρ1, g (.v (enc x)) ρ = some ρ1 ∧ (t x = true → ∃ ρ2, body ρ1 st1 = .val (.nx ρ2) st1 ∧ J ρ2) ∧ (t x = false → body ρ1 st1 = .val (.rt r) st1)) (h0 : J ρ) :
    (xs.all t = true → ∃ ρ', J ρ' ∧ sFor fi g body ρ st = .val (.nx ρ') st1) ∧ (xs.all t = false → sFor fi g body ρ st = .val (.rt r) st1) := by
  suffices (xs.all t = true → ∃ ρ', J ρ' ∧ loopS g body (xs.map enc) ρ st1 = .val (.nx ρ') st1) ∧ (xs.all t = false → loopS g body (xs.map enc) ρ st1 = .val (.rt r) st1) from
    ⟨fun e => (let ⟨ρ', j, k⟩ := this.1 e; ⟨ρ', j, ev_bind hi k⟩), fun e => ev_bind hi (this.2 e)⟩
  clear hi
  induction xs generalizing ρ with
  | nil => exact ⟨fun _ => ⟨ρ, h0, rfl⟩, fun e => (by cases e)⟩
  | cons x xs ih =>
    obtain ⟨ρ1, e1, e2, e3⟩ := h x List.mem_cons_self ρ h0
    rw [List.map_cons, loopS, List.all_cons]
    cases ht : t x with
    | false =>
      refine ⟨fun e => (by cases e), fun _ => ev_bind (a := ρ1) (by rw [e1]; rfl) (ev_bind (e3 ht) rfl)⟩
    | true =>
      obtain ⟨ρ2, e4, j2⟩ := e2 ht
      have := ih (fun y hy => h y (List.mem_cons_of_mem _ hy)) j2
      rw [Bool.true_and]
      exact ⟨fun e => (let ⟨ρ', j, k⟩ := this.1 e; ⟨ρ', j, ev_bind (a := ρ1) (by rw [e1]; rfl) (ev_bind e4 k)⟩), fun e => ev_bind (a := ρ1) (by rw [e1]; rfl) (ev_bind e4 (this.2 e))⟩
end
section
variable {d N : Nat} {r : Row} {s : CS} {ρ : Env} {st st1 st2 : List O} {c : Cs}
theorem p_is_edge {j : Nat} (hj : st[j]? = some (coneO c.Cone s)) (z : Nat) (f g : Row) : F_Cone_is_edge c [.obj j, .v (.int (z : Nat)), vI f, vI g] st = .val (.v (.bl (isEdge s.rays z f g))) st := by
  obtain ⟨h1, h2⟩ := for_all (st := st) (st1 := st) (ρ := startE 6 [.obj j, .v (.int (z : Nat)), vI f, vI g]) rI (fun ρ => ∃ s4 s5, ρ = [some (.m (.obj j)), some (.m (.v (.int (z : Nat)))), some (.m (vI f)), some (.m (vI g)), s4, s5]) (fun p => (decide (p.1 = f) || decide (p.1 = g)) || decide (p.2 &&& z ≠ z)) s.rays (r := .v (.bl false))
    (fi := iSeqL (fAttr c.Cone "rays" (fVar 0))) (g := setTup 2 (setCons (setN 4) (setCons (setN 5) setNil))) (body := sIf (fAnd (fCmpT notInM (fVar 4) (fTup (fCons (fVar 2) (fCons (fVar 3) fNil)))) (fCmpT eqM (fBin andM (fVar 5) (fVar 1)) (fVar 1))) (sRet (fC (.v (.bl false)))) sNil) (ev_seqL (at_rays (ev_var rfl) hj)) (by
      rintro p hp ρ ⟨s4, s5, rfl⟩
      refine ⟨_, rfl, ?_⟩
      have cm : ∀ ρ : Env, ρ[4]? = some (some (.m (vI p.1))) → ρ[2]? = some (some (.m (vI f))) → ρ[3]? = some (some (.m (vI g))) → fCmpT notInM (fVar 4) (fTup (fCons (fVar 2) (fCons (fVar 3) fNil))) ρ st = .val (!(decide (p.1 = f) || decide (p.1 = g))) st := fun ρ h4 h2 h3 => ev_cmp (ev_var h4) (ev_tup (ev_cons (ev_var h2) (ev_cons (ev_var h3) ev_nil)) rfl) (notin2 _ _ _ _)
      have cm2 : ∀ ρ : Env, ρ[5]? = some (some (.m (.v (.int (p.2 : Nat))))) → ρ[1]? = some (some (.m (.v (.int (z : Nat))))) → fCmpT eqM (fBin andM (fVar 5) (fVar 1)) (fVar 1) ρ st = .val (decide (p.2 &&& z = z)) st := fun ρ h5 h1 => ev_cmp (ev_bin (ev_var h5) (ev_var h1) (and_n _ _ _)) (ev_var h1) (by
        rw [eq_i]
        congr 3
        by_cases q : p.2 &&& z = z
        · rw [q]; simp
        · rw [decide_eq_false q]; exact beq_eq_false_iff_ne.mpr fun h => q (by exact_mod_cast h))
      have c1 := cm (setE (setE [some (.m (.obj j)), some (.m (.v (.int (z : Nat)))), some (.m (vI f)), some (.m (vI g)), s4, s5] 4 (vI p.1)) 5 (.v (.int (p.2 : Nat)))) rfl rfl rfl
      have c2 := cm2 (setE (setE [some (.m (.obj j)), some (.m (.v (.int (z : Nat)))), some (.m (vI f)), some (.m (vI g)), s4, s5] 4 (vI p.1)) 5 (.v (.int (p.2 : Nat)))) rfl rfl
      cases q : (decide (p.1 = f) || decide (p.1 = g)) with
      | true =>
        rw [q] at c1
        exact ⟨fun _ => ⟨_, st_if0 (ev_and0 c1) rfl, _, _, rfl⟩, fun e => (by simp at e)⟩
      | false =>
        rw [q] at c1
        refine ⟨fun e => ?_, fun e => ?_⟩
        · have : p.2 &&& z ≠ z := by simpa using e
          rw [decide_eq_false this] at c2
          exact ⟨_, st_if0 (ev_and1 c1 c2) rfl, _, _, rfl⟩
        · have : p.2 &&& z = z := by simpa using e
          rw [decide_eq_true this] at c2
          exact st_if1 (ev_and1 c1 c2) (st_ret ev_c)) ⟨none, none, rfl⟩
  unfold isEdge
  cases q : s.rays.all fun p => (decide (p.1 = f) || decide (p.1 = g)) || decide (p.2 &&& z ≠ z) with
  | true =>
    obtain ⟨ρ', _, e⟩ := h1 q
    exact run_rt (st_nx e (st_ret ev_c))
  | false => exact run_rt (st_rt (h2 q))
def aI (r : Row) (p : Row × Nat) : D := .tup [tI p.1, .int (p.2 : Nat), .int (dot r p.1)]
theorem p_cut_rays (z : Sm d N r s) (hf : (freshR r s).length ≤ 100000) {j : Nat} (hj : st[j]? = some (coneO c.Cone s)) : F_Cone_cut_rays c [.obj j, vI r] st = .val (.v .non) (st.set j (coneO c.Cone (cutRays r s))) := by
  refine run_e (e_seq (st_own (ds := []) ev_nil (by simp)) (e_seq (st_own (ds := []) ev_nil (by simp)) (e_seq (st_own (ds := []) ev_nil (by simp)) ?_)))
  refine e_for rI (fun pre ρ st' => st' = st ∧ ∃ s5 s6 s7, ρ = [some (.m (.obj j)), some (.m (vI r)), some (.own (.lst ((pre.filter fun p => decide (0 < dot r p.1)).map (aI r)))), some (.own (.lst (((pre.filter fun p => decide (dot r p.1 = 0)).map fun p => (p.1, p.2 ||| 1 <<< s.count)).map rI))), some (.own (.lst ((pre.filter fun p => decide (dot r p.1 < 0)).map (aI r)))), s5, s6, s7, none, none, none, none, none, none]) s.rays (ev_seqL (at_rays (ev_var rfl) hj)) ?_ ⟨rfl, none, none, none, rfl⟩ ?_
  · rintro pre p post ρ st' e ⟨rfl, s5, s6, s7, rfl⟩
    have hpm : p ∈ s.rays := by rw [e]; simp
    obtain ⟨o1, o2⟩ := z.rs p hpm
    have hlen : pre.length + 1 ≤ 100000 := by have := z.rn; rw [e] at this; simp at this; omega
    have hfl : ∀ q : Row × Nat → Bool, (pre.filter q).length ≤ pre.length := fun q => filter_len q pre
    rw [List.filter_append, List.filter_append, List.filter_append]
    rcases Int.lt_trichotomy (dot r p.1) 0 with h | h | h
    · refine ⟨_, _, _, rfl, st_nx (st_asg (z.prod o2 (ev_cons (ev_var rfl) (ev_cons (ev_var rfl) ev_nil))) rfl) (st_if0 (ev_cmp (ev_var rfl) ev_c (by rw [eq_i, beq_eq_false_iff_ne.mpr (by omega)])) (st_if0 (f := sApp 2 _) (g := sApp 4 _) (ev_cmp (ev_var rfl) ev_c (by rw [gt_t, decide_eq_false (by omega)])) (st_app rfl (ev_tup (ev_cons (ev_var rfl) (ev_cons (ev_var rfl) (ev_cons (ev_var rfl) ev_nil))) rfl) (by rw [List.length_map]; have := hfl fun p => decide (dot r p.1 < 0); omega)))), rfl, some (.m (vI p.1)), some (.m (.v (.int (p.2 : Nat)))), some (.m (.v (.int (dot r p.1)))), ?_⟩
      rw [filter_non (p := fun p : Row × Nat => decide (0 < dot r p.1)) (decide_eq_false (by omega)), filter_non (p := fun p : Row × Nat => decide (dot r p.1 = 0)) (decide_eq_false (by omega)), filter_one (p := fun p : Row × Nat => decide (dot r p.1 < 0)) (decide_eq_true h), List.append_nil, List.append_nil, List.map_append]
      rfl
    · refine ⟨_, _, _, rfl, st_nx (st_asg (z.prod o2 (ev_cons (ev_var rfl) (ev_cons (ev_var rfl) ev_nil))) rfl) (st_if1 (ev_cmp (ev_var rfl) ev_c (by rw [eq_i, h]; rfl)) (st_app rfl (ev_tup (ev_cons (ev_var rfl) (ev_cons (ev_bin (ev_var rfl) (ev_bit (ev_var rfl) hj z.cnt) (or_n _ _ _)) ev_nil)) rfl) (by rw [List.length_map, List.length_map]; have := hfl fun p => decide (dot r p.1 = 0); omega))), rfl, some (.m (vI p.1)), some (.m (.v (.int (p.2 : Nat)))), some (.m (.v (.int (dot r p.1)))), ?_⟩
      rw [filter_non (p := fun p : Row × Nat => decide (0 < dot r p.1)) (decide_eq_false (by omega)), filter_one (p := fun p : Row × Nat => decide (dot r p.1 = 0)) (decide_eq_true h), filter_non (p := fun p : Row × Nat => decide (dot r p.1 < 0)) (decide_eq_false (by omega)), List.append_nil, List.append_nil, List.map_append, List.map_append]
      rfl
    · refine ⟨_, _, _, rfl, st_nx (st_asg (z.prod o2 (ev_cons (ev_var rfl) (ev_cons (ev_var rfl) ev_nil))) rfl) (st_if0 (ev_cmp (ev_var rfl) ev_c (by rw [eq_i, beq_eq_false_iff_ne.mpr (by omega)])) (st_if1 (f := sApp 2 _) (g := sApp 4 _) (ev_cmp (ev_var rfl) ev_c (by rw [gt_t, decide_eq_true h])) (st_app rfl (ev_tup (ev_cons (ev_var rfl) (ev_cons (ev_var rfl) (ev_cons (ev_var rfl) ev_nil))) rfl) (by rw [List.length_map]; have := hfl fun p => decide (0 < dot r p.1); omega)))), rfl, some (.m (vI p.1)), some (.m (.v (.int (p.2 : Nat)))), some (.m (.v (.int (dot r p.1)))), ?_⟩
      rw [filter_one (p := fun p : Row × Nat => decide (0 < dot r p.1)) (decide_eq_true h), filter_non (p := fun p : Row × Nat => decide (dot r p.1 = 0)) (decide_eq_false (by omega)), filter_non (p := fun p : Row × Nat => decide (dot r p.1 < 0)) (decide_eq_false (by omega)), List.append_nil, List.append_nil, List.map_append]
      rfl
  · rintro ρ' st' ⟨rfl, s5, s6, s7, rfl⟩
    refine e_seq (st_own (ds := []) ev_nil (by simp)) ?_
    have G : ∀ a, (((belowR r s).filter fun b => isEdge s.rays (a.2 &&& b.2) a.1 b.1).map fun b => mixR r a b s.count) = (((belowR r s).filter fun b => isEdge s.rays (a.2 &&& b.2) a.1 b.1).map fun b => mixR r a b s.count) := fun _ => rfl
    refine e_for (aI r) (fun pre ρ st'' => st'' = st' ∧ ∃ s5 s6 s7 s9 s10 s11 s12 s13, ρ = [some (.m (.obj j)), some (.m (vI r)), some (.m (.v (.lst ((aboveR r s).map (aI r))))), some (.m (.v (.lst (((onR r s).map fun p => (p.1, p.2 ||| 1 <<< s.count)).map rI)))), some (.m (.v (.lst ((belowR r s).map (aI r))))), s5, s6, s7, some (.own (.lst ((pre.flatMap fun a => ((belowR r s).filter fun b => isEdge s.rays (a.2 &&& b.2) a.1 b.1).map fun b => mixR r a b s.count).map rI))), s9, s10, s11, s12, s13]) (aboveR r s) (ev_seqL (ev_var rfl)) ?_ ⟨rfl, s5, s6, s7, none, none, none, none, none, rfl⟩ ?_
    · rintro pre a post ρ st'' e ⟨rfl, s5, s6, s7, s9, s10, s11, s12, s13, rfl⟩
      have ham : a ∈ aboveR r s := by rw [e]; simp
      obtain ⟨a1, a2⟩ := mem_above.mp ham
      obtain ⟨al, ab⟩ := z.rs a a1
      obtain ⟨ρ', st3, el, he, s5', s11', s12', s13', hρ⟩ := loop_inv (ρ := [some (.m (.obj j)), some (.m (vI r)), some (.m (.v (.lst ((aboveR r s).map (aI r))))), some (.m (.v (.lst (((onR r s).map fun p => (p.1, p.2 ||| 1 <<< s.count)).map rI)))), some (.m (.v (.lst ((belowR r s).map (aI r))))), s5, s6, some (.m (.v (.int (dot r a.1)))), some (.own (.lst ((pre.flatMap fun a => ((belowR r s).filter fun b => isEdge s.rays (a.2 &&& b.2) a.1 b.1).map fun b => mixR r a b s.count).map rI))), some (.m (vI a.1)), some (.m (.v (.int (a.2 : Nat)))), s11, s12, s13]) (st := st'') (aI r)
        (fun preb ρ st3 => st3 = st'' ∧ ∃ s5 s11 s12 s13, ρ = [some (.m (.obj j)), some (.m (vI r)), some (.m (.v (.lst ((aboveR r s).map (aI r))))), some (.m (.v (.lst (((onR r s).map fun p => (p.1, p.2 ||| 1 <<< s.count)).map rI)))), some (.m (.v (.lst ((belowR r s).map (aI r))))), s5, s6, some (.m (.v (.int (dot r a.1)))), some (.own (.lst (((pre.flatMap fun a => ((belowR r s).filter fun b => isEdge s.rays (a.2 &&& b.2) a.1 b.1).map fun b => mixR r a b s.count) ++ (preb.filter fun b => isEdge s.rays (a.2 &&& b.2) a.1 b.1).map fun b => mixR r a b s.count).map rI))), some (.m (vI a.1)), some (.m (.v (.int (a.2 : Nat)))), s11, s12, s13])
        (g := setTup 3 (setCons (setN 11) (setCons (setN 12) (setCons (setN 13) setNil)))) (body := sIf (fTest (fMeth c.Cone "is_edge" 4 (F_Cone_is_edge c) (fVar 0) (fCons (fBin andM (fVar 10) (fVar 12)) (fCons (fVar 9) (fCons (fVar 11) fNil))))) (sSeq (sAsg (fCallP 1 F_primitive (fCons (fCallP 4 F_joined (fCons (fVar 9) (fCons (fBin subM (fC (.v (.int 0))) (fVar 13)) (fCons (fVar 11) (fCons (fVar 7) fNil))))) fNil)) (setN 5)) (sApp 8 (fTup (fCons (fVar 5) (fCons (fBin orM (fBin andM (fVar 10) (fVar 12)) (fBin shlM (fC (.v (.int 1))) (fAttr c.Cone "count" (fVar 0)))) fNil))))) sNil) (belowR r s) (by
          rintro preb b postb ρ st3 eb ⟨rfl, s5, s11, s12, s13, rfl⟩
          have hbm : b ∈ belowR r s := by rw [eb]; simp
          obtain ⟨b1, b2⟩ := mem_below.mp hbm
          obtain ⟨bl, bb⟩ := z.rs b b1
          have te : ∀ ρ : Env, ρ[0]? = some (some (.m (.obj j))) → ρ[10]? = some (some (.m (.v (.int (a.2 : Nat))))) → ρ[12]? = some (some (.m (.v (.int (b.2 : Nat))))) → ρ[9]? = some (some (.m (vI a.1))) → ρ[11]? = some (some (.m (vI b.1))) →
              fTest (fMeth c.Cone "is_edge" 4 (F_Cone_is_edge c) (fVar 0) (fCons (fBin andM (fVar 10) (fVar 12)) (fCons (fVar 9) (fCons (fVar 11) fNil)))) ρ st3 = .val (isEdge s.rays (a.2 &&& b.2) a.1 b.1) st3 := fun ρ h0 h10 h12 h9 h11 =>
            ev_test (ev_meth (ev_var h0) hj rfl (ev_cons (ev_bin (ev_var h10) (ev_var h12) (and_n _ _ _)) (ev_cons (ev_var h9) (ev_cons (ev_var h11) ev_nil))) rfl (p_is_edge hj _ _ _))
          rw [List.filter_append]
          cases q : isEdge s.rays (a.2 &&& b.2) a.1 b.1 with
          | false =>
            rw [q] at te
            refine ⟨_, _, _, rfl, st_if0 (te _ rfl rfl rfl rfl rfl) rfl, rfl, s5, some (.m (vI b.1)), some (.m (.v (.int (b.2 : Nat)))), some (.m (.v (.int (dot r b.1)))), ?_⟩
            rw [filter_non (p := fun b : Row × Nat => isEdge s.rays (a.2 &&& b.2) a.1 b.1) q, List.append_nil]
            rfl
          | true =>
            rw [q] at te
            have hlen : ((pre.flatMap fun a => ((belowR r s).filter fun b => isEdge s.rays (a.2 &&& b.2) a.1 b.1).map fun b => mixR r a b s.count) ++ (preb.filter fun b => isEdge s.rays (a.2 &&& b.2) a.1 b.1).map fun b => mixR r a b s.count).length + 1 ≤ 100000 := by
              have h1 := hf
              unfold freshR at h1
              rw [e, List.flatMap_append, List.flatMap_cons] at h1
              rw [show ((belowR r s).filter fun b => isEdge s.rays (a.2 &&& b.2) a.1 b.1) = (preb.filter fun b => isEdge s.rays (a.2 &&& b.2) a.1 b.1) ++ b :: (postb.filter fun b => isEdge s.rays (a.2 &&& b.2) a.1 b.1) from by rw [eb, List.filter_append, List.filter_cons, if_pos q]] at h1
              simp only [List.length_append, List.length_map, List.length_cons] at h1 ⊢
              omega
            refine ⟨_, _, _, rfl, st_if1 (te _ rfl rfl rfl rfl rfl) (st_nx (st_asg (z.mix ⟨al, ab⟩ ⟨bl, bb⟩ (by rw [neg_abs]; exact z.dot bb) (z.dot ab) (ev_cons (ev_var rfl) (ev_cons (ev_bin ev_c (ev_var rfl) (sub_i _ _ _)) (ev_cons (ev_var rfl) (ev_cons (ev_var rfl) ev_nil))))) rfl) (st_app rfl (ev_tup (ev_cons (ev_var rfl) (ev_cons (ev_bin (ev_bin (ev_var rfl) (ev_var rfl) (and_n _ _ _)) (ev_bit (ev_var rfl) hj z.cnt) (or_n _ _ _)) ev_nil)) rfl) (by rw [List.length_map]; omega))), rfl, some (.m (vI (mixR r a b s.count).1)), some (.m (vI b.1)), some (.m (.v (.int (b.2 : Nat)))), some (.m (.v (.int (dot r b.1)))), ?_⟩
            rw [filter_one (p := fun b : Row × Nat => isEdge s.rays (a.2 &&& b.2) a.1 b.1) q]
            simp only [List.map_append, List.append_assoc]
            rfl) ⟨rfl, s5, s11, s12, s13, by rw [List.filter_nil, List.map_nil, List.append_nil]⟩
      refine ⟨_, _, _, rfl, ev_bind (ev_seqL (ev_var rfl)) el, he, s5', s6, some (.m (.v (.int (dot r a.1)))), some (.m (vI a.1)), some (.m (.v (.int (a.2 : Nat)))), s11', s12', s13', ?_⟩
      rw [hρ, List.flatMap_append]
      simp only [List.flatMap_cons, List.flatMap_nil, List.append_nil]
    · rintro ρ' st'' ⟨rfl, s5, s6, s7, s9, s10, s11, s12, s13, rfl⟩
      have fl1 := filter_len (fun p => decide (0 < dot r p.1)) s.rays
      have fl2 := filter_len (fun p => decide (dot r p.1 = 0)) s.rays
      have hrn := z.rn
      refine e_nxs (st_attr (y := .v (.lst ((cutRays r s).rays.map rI))) (ev_bin (ev_bin (ev_lcY (aI r) (aboveR r s) rI (ev_seqL (ev_var rfl)) (by unfold aboveR; omega) fun p hp => ⟨_, rfl, ev_tup (ev_cons (ev_var rfl) (ev_cons (ev_var rfl) ev_nil)) rfl⟩) (ev_var rfl) (add_l _ _ (by simp only [List.length_map]; unfold aboveR onR; omega) _)) (ev_var rfl) ?_) (ev_var rfl) hj (by show 3 < 900; decide)) ?_
      · refine (add_l _ _ (by simp only [List.length_map, List.length_append]; unfold aboveR onR; unfold freshR at hf; unfold aboveR at hf; omega) _).trans ?_
        show _ = some (MV.v (.lst ((aboveR r s ++ (onR r s).map (fun p => (p.1, p.2 ||| 1 <<< s.count)) ++ freshR r s).map rI)))
        rw [List.map_append, List.map_append]
        rfl
      · rw [set_rays]
        rfl
end
end CD

set_option Elab.async false
set_option linter.all false
set_option maxRecDepth 100000
set_option maxHeartbeats 400000
namespace CD
open PySem PySem.Spec PyProof.Rows L2
/-! ### the plain level: a cone is made, narrowed -/
section
variable {d N : Nat} {r : Row} {s : CS} {ρ : Env} {st st1 st2 : List O} {c : Cs}
theorem st_aug {C : Addr} {nm : Str} {fo fv : Env → M MV} {j : Nat} {o : List (Str × MV)} {i k : Int} (ho : fo ρ st = .val (.obj j) st) (hj : st[j]? = some (.ins C o)) (hl : o.lookup nm = some (.v (.int i))) (hv : fv ρ st = .val (.v (.int k)) st) (hs : o.length < 900) :
    sAttrAug C nm fo fv ρ st = .val (.nx ρ) (st.set j (.ins C (putA nm (.v (.int (i + k))) o))) := by
  have hi : insAt C st (.obj j) = some (j, o) := by
    simp only [insAt, hj, if_true]
  refine ev_bind ho (ev_bind (a := .v (.int i)) (st1 := st) (by simp only [M.rd, hi, Option.bind_some, hl]) (ev_bind hv (ev_bind (a := .v (.int (i + k))) (st1 := st) rfl (ev_bind (a := (j, o)) (st1 := st) (by simp only [M.rd, hi]) (ev_bind (a := ()) (st1 := st) (by rw [if_pos hs]; rfl) rfl)))))
theorem set_count (C : Addr) (s : CS) : O.ins C (putA "count" (.v (.int ((s.count : Nat) + 1))) [("lines", mR s.lines), ("rays", .v (.lst (s.rays.map rI))), ("count", .v (.int (s.count : Nat)))]) = coneO C ⟨s.lines, s.rays, s.count + 1⟩ := rfl
theorem p_narrow0 (z : Sm d N r s) (hf : (s.lines.filter fun l => decide (dot r l ≠ 0)) = [] → (freshR r s).length ≤ 100000) {j : Nat} (hj : st[j]? = some (coneO c.Cone s)) : F_Cone_narrow c [.obj j, vI r] st = .val (.v .non) (st.set j (coneO c.Cone (narrowC r s))) := by
  have jl : j < st.length := (List.getElem?_eq_some_iff.mp hj).1
  have pick : fLc [3] (iSeqL (fAttr c.Cone "lines" (fVar 0))) (setN 3) (fCmpT neM (fCallP 2 F_product (fCons (fVar 1) (fCons (fVar 3) fNil))) (fC (.v (.int 0)))) (fVar 3) (startE 4 [.obj j, vI r]) st = .val (mR (s.lines.filter fun l => decide (dot r l ≠ 0))) st := by
    refine ev_lc tI s.lines (fun l => decide (dot r l ≠ 0)) tI (ev_seqL (at_lines (ev_var rfl) hj)) (by have := z.ll; omega) fun l hl => ⟨_, rfl, ev_cmp (z.prod (z.ls l hl).2 (ev_cons (ev_var rfl) (ev_cons (ev_var rfl) ev_nil))) ev_c ?_, fun _ => ev_var rfl⟩
    rw [ne_i]
    congr 4
    by_cases q : dot r l = 0 <;> simp [q]
  cases hp : s.lines.filter fun l => decide (dot r l ≠ 0) with
  | nil =>
    rw [hp] at pick
    have e1 : narrowC r s = ⟨(cutRays r s).lines, (cutRays r s).rays, s.count + 1⟩ := by unfold narrowC; rw [hp]; rfl
    have h1 : (st.set j (coneO c.Cone (cutRays r s)))[j]? = some (coneO c.Cone (cutRays r s)) := List.getElem?_set_self jl
    refine run_e (e_seq (st_asg pick rfl) (e_seq (st_if0 (ev_cmp (ev_B (ev_cons (ev_var rfl) ev_nil) rfl) ev_c rfl) (st_drop (ev_meth (ev_var rfl) hj rfl (ev_cons (ev_var rfl) ev_nil) rfl (p_cut_rays z (hf hp) hj)))) (e_nxs (st_aug (ev_var rfl) h1 rfl ev_c (by show 3 < 900; decide)) ?_)))
    rw [set_count, List.set_set, e1]
    rfl
  | cons l ls =>
    rw [hp] at pick
    have hlm : l ∈ s.lines := by
      have : l ∈ s.lines.filter fun l => decide (dot r l ≠ 0) := by rw [hp]; exact List.mem_cons_self
      exact (List.mem_filter.mp this).1
    have e1 : narrowC r s = ⟨(cutLines r l s).lines, (cutLines r l s).rays, s.count + 1⟩ := by unfold narrowC; rw [hp]; rfl
    have h1 : (st.set j (coneO c.Cone (cutLines r l s)))[j]? = some (coneO c.Cone (cutLines r l s)) := List.getElem?_set_self jl
    refine run_e (e_seq (st_asg pick rfl) (e_seq (st_if1 (ev_cmp (ev_B (ev_cons (ev_var rfl) ev_nil) rfl) ev_c (by rw [gt_t, decide_eq_true (by simp only [List.map_cons, List.length_cons]; omega)])) (st_drop (ev_meth (ev_var rfl) hj rfl (ev_cons (ev_var rfl) (ev_cons (ev_bin (ev_var rfl) ev_c (ix_0 _ _ _)) ev_nil)) rfl (p_cut_lines z hj hlm)))) (e_nxs (st_aug (ev_var rfl) h1 rfl ev_c (by show 3 < 900; decide)) ?_)))
    rw [set_count, List.set_set, e1]
    rfl
/-! sizes, once for all -/
theorem NB_step (n : Nat) (h : n ≤ 11) : 20 * NB n * NB n < BIG := by
  have hb : NB 12 < BIG := Nat.lt_of_lt_of_le NB12 (Nat.pow_le_pow_right (by decide) (by decide))
  cases n with
  | zero =>
    have : NB 0 = 1 := rfl
    have h2 : (2 : Nat) ^ 5 ≤ BIG := Nat.pow_le_pow_right (by decide) (by decide)
    rw [this]
    omega
  | succ n =>
    have : 20 * NB (n + 1) * NB (n + 1) = NB (n + 2) := rfl
    rw [this]
    exact Nat.lt_of_le_of_lt (NB_mono (by omega)) hb
/-- rows as they come -/
structure RowsK (d : Nat) (rows : List Row) : Prop where
  b : RowsB rows
  l : ∀ r ∈ rows, r.length = d
  n : rows.length ≤ 12
  d0 : 0 < d
  d4 : d ≤ 4
theorem RowsK.init {rows : List Row} (h : RowsK d (rows ++ [r])) : RowsK d rows := ⟨h.b.init, fun x hx => h.l x (List.mem_append_left _ hx), by have := h.n; rw [List.length_append] at this; omega, h.d0, h.d4⟩
theorem RowsK.left : ∀ {post pre : List Row}, RowsK d (pre ++ post) → RowsK d pre
  | [], pre, h => by rw [List.append_nil] at h; exact h
  | x :: post, pre, h => (RowsK.left (post := post) (pre := pre ++ [x]) (by rw [List.append_assoc]; exact h)).init
theorem RowsK.sm {rows : List Row} (h : RowsK d (rows ++ [r])) : Sm d (NB rows.length) r (coneOf d rows) := by
  obtain ⟨I, S⟩ := coneOf_inv d rows h.b.init
  have hn : rows.length + 1 ≤ 12 := by have := h.n; rw [List.length_append] at this; exact this
  have hd := h.d4
  refine ⟨h.d0, by omega, h.l r (by simp), h.b.last.1, fun l hl => ⟨I.ll l hl, (S.ls l hl).1⟩, fun p hp => ⟨I.rl p hp, S.rs p hp⟩, NB_pos _, NB_step _ (by omega), by have := S.le; omega, by rw [I.cnt]; omega, ?_⟩
  have h1 := I.few
  have h2 : 2 ^ rows.length ≤ 2 ^ 12 := Nat.pow_le_pow_right (by decide) (by omega)
  omega
theorem RowsK.fresh {rows : List Row} (h : RowsK d (rows ++ [r])) (e : ((coneOf d rows).lines.filter fun l => decide (dot r l ≠ 0)) = []) : (freshR r (coneOf d rows)).length ≤ 100000 := by
  obtain ⟨I, S⟩ := coneOf_inv d _ h.b
  rw [coneOf_app] at I
  have e1 : (narrowC r (coneOf d rows)).rays = (cutRays r (coneOf d rows)).rays := by unfold narrowC; rw [e]
  have h1 := I.few
  rw [e1] at h1
  have h3 : (freshR r (coneOf d rows)).length ≤ (cutRays r (coneOf d rows)).rays.length := by
    show _ ≤ (aboveR r (coneOf d rows) ++ (onR r (coneOf d rows)).map (fun p => (p.1, p.2 ||| 1 <<< (coneOf d rows).count)) ++ freshR r (coneOf d rows)).length
    rw [List.length_append]
    omega
  have h2 : 2 ^ (rows ++ [r]).length ≤ 2 ^ 12 := Nat.pow_le_pow_right (by decide) h.n
  omega
theorem p_narrow {rows : List Row} (h : RowsK d (rows ++ [r])) {j : Nat} (hj : st[j]? = some (coneO c.Cone (coneOf d rows))) : F_Cone_narrow c [.obj j, vI r] st = .val (.v .non) (st.set j (coneO c.Cone (coneOf d (rows ++ [r])))) := by
  rw [coneOf_app]
  exact p_narrow0 h.sm h.fresh hj
theorem ev_rng {f : Env → M MV} {d : Nat} (hf : f ρ st = .val (.v (.int (d : Nat))) st1) (hd : d ≤ 1000) : iRange1 f ρ st = .val ((List.range d).map cI) st1 := by
  refine ev_bind hf ?_
  show M.of (if rngOk 0 d = true then some (rngD 0 d) else none) st1 = _
  rw [if_pos (by unfold rngOk; simp only [Bool.and_eq_true]; exact ⟨⟨⟨by decide, by decide⟩, decide_eq_true (by omega)⟩, decide_eq_true (by omega)⟩)]
  unfold rngD
  rw [Int.sub_zero, Int.toNat_natCast]
  simp only [Int.zero_add]
  rfl
theorem cond_i (i k : Nat) (st : List O) : eqM st (.v (cI i)) (.v (cI k)) = some (.v (.bl (decide (i = k)))) := by
  show eqM st (.v (.int i)) (.v (.int k)) = _
  rw [eq_i]
  congr 3
  by_cases h : i = k
  · simp [h]
  · rw [decide_eq_false h]; exact beq_eq_false_iff_ne.mpr fun z => h (by exact_mod_cast z)
/-- tuple([1 if at == place else 0 for place in range(d)]) -/
theorem ev_unit {f : Env → M MV} {d i k m : Nat} {ρ : Env} (hf : f ρ st = .val (.v (.int (d : Nat))) st) (hd : d ≤ 1000) (hm : m < ρ.length) (hk : k ≠ m) (hi : ρ[k]? = some (some (.m (.v (cI i))))) :
    fB tupleM (fCons (fLc [m] (iRange1 f) (setN m) fYes (fIf (fCmpT eqM (fVar k) (fVar m)) (fC (.v (.int 1))) (fC (.v (.int 0))))) fNil) ρ st = .val (vI (unitR d i)) st := by
  refine ev_B (ev_cons (ev_lcY cI (List.range d) (fun p => .int (if i = p then 1 else 0)) (ev_rng hf hd) (by rw [List.length_range]; omega) fun p hp => ⟨_, rfl, ?_⟩) ev_nil) ?_
  · have h1 : (setE (wipeE ρ [m]) m (.v (cI p)))[k]? = some (some (.m (.v (cI i)))) := by
      show ((ρ.set m none).set m (some (.m (.v (cI p)))))[k]? = _
      rw [List.getElem?_set_ne (fun z => hk z.symm), List.getElem?_set_ne (fun z => hk z.symm), hi]
    have h2 : (setE (wipeE ρ [m]) m (.v (cI p)))[m]? = some (some (.m (.v (cI p)))) := by
      show ((ρ.set m none).set m (some (.m (.v (cI p)))))[m]? = _
      rw [List.getElem?_set_self (by rw [List.length_set]; exact hm)]
    have cm := ev_cmp (st := st) (ev_var h1) (ev_var h2) (cond_i i p st)
    by_cases q : i = p
    · rw [if_pos q]
      rw [decide_eq_true q] at cm
      exact ev_if1 cm ev_c
    · rw [if_neg q]
      rw [decide_eq_false q] at cm
      exact ev_if0 cm ev_c
  · unfold vI tI unitR
    rw [List.map_map]
    rfl
theorem p_init {d : Nat} (hd : d ≤ 1000) {j : Nat} (hj : st[j]? = some (.ins c.Cone [])) : F_Cone___init__ c [.obj j, .v (.int (d : Nat))] st = .val (.v .non) (st.set j (coneO c.Cone (cone0 d))) := by
  have jl : j < st.length := (List.getElem?_eq_some_iff.mp hj).1
  have h1 : ∀ o : O, (st.set j o)[j]? = some o := fun o => List.getElem?_set_self jl
  have ho : ∀ o o' : O, (st.set j o).set j o' = st.set j o' := fun o o' => List.set_set ..
  refine run_e (e_seq (st_attr (y := mR (cone0 d).lines) ?_ (ev_var rfl) hj (by show 0 < 900; decide)) ?_)
  · refine ev_lcY cI (List.range d) (fun i => tI (unitR d i)) (ev_rng (ev_var rfl) hd) (by rw [List.length_range]; omega) (fun i hi => ⟨_, rfl, ev_unit (ev_var rfl) hd (by show 3 < 4; decide) (by decide) rfl⟩) |>.trans ?_
    show _ = Out.val (MV.v (.lst (((List.range d).map (unitR d)).map tI))) st
    rw [List.map_map]
    rfl
  · refine e_seq (st_attr (ev_lst ev_nil rfl) (ev_var rfl) (h1 _) (by show 1 < 900; decide)) ?_
    rw [ho]
    refine e_nxs (st_attr ev_c (ev_var rfl) (h1 _) (by show 2 < 900; decide)) ?_
    rw [ho]
    rfl
theorem set_last {α : Type} (l : List α) (a b : α) : (l ++ [a]).set l.length b = l ++ [b] := by
  rw [List.set_append_right _ _ (Nat.le_refl _), Nat.sub_self]
  rfl
theorem get_last {α : Type} (l : List α) (a : α) : (l ++ [a])[l.length]? = some a := by
  rw [List.getElem?_append_right (Nat.le_refl _), Nat.sub_self]
  rfl
theorem ev_cone {fs : Env → M (List MV)} {d : Nat} (hd : d ≤ 1000) (h : fs ρ st = .val [.v (.int (d : Nat))] st1) : fMake c.Cone 2 (F_Cone___init__ c) fs ρ st = .val (.obj st1.length) (st1 ++ [coneO c.Cone (cone0 d)]) := by
  refine ev_make h rfl ?_
  rw [p_init hd (get_last _ _), set_last]
theorem p_cone_of {rows : List Row} (h : RowsK d rows) (st : List O) : F_cone_of c [mR rows, .v (.int (d : Nat))] st = .val (.v (.tup [.lst (((coneOf d rows).rays.map (·.1)).map tI), .lst ((coneOf d rows).lines.map tI)])) (st ++ [coneO c.Cone (coneOf d rows)]) := by
  refine run_e (e_seq (st_asg (ev_cone (by have := h.d4; omega) (ev_cons (ev_var rfl) ev_nil)) rfl) ?_)
  refine e_for tI (fun pre ρ st' => st' = st ++ [coneO c.Cone (coneOf d pre)] ∧ ∃ s3, ρ = [some (.m (mR rows)), some (.m (.v (.int (d : Nat)))), some (.m (.obj st.length)), s3, none, none]) rows (ev_seqL (ev_var rfl)) ?_ ⟨rfl, none, rfl⟩ ?_
  · rintro pre r post ρ st' e ⟨rfl, s3, rfl⟩
    have hk : RowsK d (pre ++ [r]) := RowsK.left (post := post) (by rw [List.append_assoc]; rw [e] at h; exact h)
    refine ⟨_, _, _, rfl, st_drop (ev_meth (ev_var rfl) (get_last _ _) rfl (ev_cons (ev_var rfl) ev_nil) rfl (p_narrow hk (get_last _ _))), set_last _ _ _, some (.m (vI r)), rfl⟩
  · rintro ρ' st' ⟨rfl, s3, rfl⟩
    refine e_rt (st_ret (ev_tup (ev_cons (ev_lcY rI (coneOf d rows).rays (fun p => tI p.1) (ev_seqL (at_rays (ev_var rfl) (get_last _ _))) ?_ fun p hp => ⟨_, rfl, ev_var rfl⟩) (ev_cons (at_lines (ev_var rfl) (get_last _ _)) ev_nil)) ?_))
    · have h1 := (coneOf_inv d rows h.b).1.few
      have h2 : 2 ^ rows.length ≤ 2 ^ 12 := Nat.pow_le_pow_right (by decide) h.n
      omega
    · show some (MV.v (.tup [.lst ((coneOf d rows).rays.map fun p => tI p.1), .lst ((coneOf d rows).lines.map tI)])) = _
      rw [List.map_map]
      rfl
end
end CD

set_option Elab.async false
set_option linter.all false
set_option maxRecDepth 100000
set_option maxHeartbeats 400000
namespace CD
open PySem PySem.Spec PyProof.Rows L2
/-! ### the plain level: bodies held by walls -/
abbrev Wall := Row × Int
def wI (w : Wall) : D := .tup [tI w.1, .int w.2]
def heldD (n : Nat) (ws : List Wall) : D := .tup [.int n, .tup (ws.map wI), .tup []]
/-- walls as the law draws them -/
structure WallOk (n : Nat) (w : Wall) : Prop where
  len : w.1.length = n
  ent : ∀ x ∈ w.1, x.natAbs ≤ 2
  bnd : w.2.natAbs ≤ 4
section
variable {ρ : Env} {st st1 st2 : List O} {c : Cs}
theorem ev_allT {γ : Type} (enc : γ → D) {vs : List Nat} {fi : Env → M (List D)} {g : MV → Env → Option Env} {fe : Env → M MV} (xs : List γ) (hi : fi ρ st = .val (xs.map enc) st1)
    (h : ∀ x ∈ xs, ∃ ρ1, g (.v (enc x)) (wipeE ρ vs) = some ρ1 ∧ fe ρ1 st1 = .val (.v (.bl true)) st1) : fAllG vs fi g fe ρ st = .val (.v (.bl true)) st1 := by
  have := ev_all (ρ := ρ) (vs := vs) (g := g) (fe := fe) enc xs (fun _ => true) hi h
  rw [List.all_eq_true.mpr fun _ _ => rfl] at this
  exact this
theorem ev_ch {o o' : List O → MV → MV → Option MV} {f g h : Env → M MV} {x y z : MV} {b : Bool} (hf : f ρ st = .val x st) (hg : g ρ st = .val y st) (e : o st x y = some (.v (.bl true))) (hh : h ρ st = .val z st) (e' : o' st y z = some (.v (.bl b))) : fChT o o' f g h ρ st = .val b st :=
  ev_bind hf (ev_bind hg (ev_bind (a := true) (st1 := st) (by simp only [M.rd, e]; rfl) (ev_bind hh (by simp only [M.rd, e']; rfl))))
theorem p_int (i : Int) (st : List O) : F_is_integer [.v (.int i)] st = .val (.v (.bl true)) st := congrFun (p_is_integer (.int i)) st
theorem abs_i (i : Int) (st : List O) : absM st [.v (.int i)] = some (.v (.int (i.natAbs : Nat))) := by
  show some (MV.v (.int (if i < 0 then -i else i))) = _
  congr 3
  split <;> omega
theorem le_i (i j : Int) (st : List O) : leM st (.v (.int i)) (.v (.int j)) = some (.v (.bl (decide (i ≤ j)))) := rfl
theorem ev_isT {f : Env → M MV} {ds : List D} (h : f ρ st = .val (.v (.tup ds)) st1) : fIsi "tuple" f ρ st = .val (.v (.bl true)) st1 := ev_bind h rfl
theorem ev_leA {i : Int} {f : Env → M MV} (hf : f ρ st = .val (.v (.int i)) st) (h : i.natAbs ≤ 1000000) : fBin leM (fB absM (fCons f fNil)) (fC (.v (.int 1000000))) ρ st = .val (.v (.bl true)) st := ev_bin (ev_B (ev_cons hf ev_nil) (abs_i _ _)) ev_c (by rw [le_i, decide_eq_true (by omega)])
theorem toBs_true {α : Type} : ∀ v : List α, toBs (v.map fun _ => D.bl true) = some (v.map fun _ => true)
  | [] => rfl
  | x :: v => by rw [List.map_cons, toBs, toBs_true v]; rfl
theorem p_is_row {v : Row} {n : Nat} (hl : v.length = n) (hn : n ≤ 1000) (hb : ∀ x ∈ v, x.natAbs ≤ 1000000) (st : List O) : F_is_row [vI v, .v (.int (n : Nat))] st = .val (.v (.bl true)) st := by
  refine run_e (e_seq (st_if0 (ev_or0 (ev_not (ev_test (ev_isT (ev_var rfl)))) (ev_or0 (ev_cmp (ev_B (ev_cons (ev_var rfl) ev_nil) rfl) (ev_var rfl) ?_) (ev_not (ev_test (ev_allT (γ := Int) .int v (ev_seqT (ev_var rfl)) fun x hx => ⟨_, rfl, ev_callP (ds := [.int x]) (ev_cons (ev_var rfl) ev_nil) rfl (p_int x [])⟩))))) rfl) (e_rt (st_ret (ev_B (ev_cons (ev_lcY (γ := Int) .int v (fun _ => .bl true) (ev_seqT (ev_var rfl)) (by omega) fun x hx => ⟨_, rfl, ev_leA (ev_var rfl) (hb x hx)⟩) ev_nil) ?_))))
  · rw [ne_i, List.length_map, hl]
    simp
  · show (toBs _).map (fun ns => MV.v (.bl (ns.all id))) = _
    rw [toBs_true]
    show some (MV.v (.bl ((v.map fun _ => true).all id))) = _
    rw [List.all_eq_true.mpr]
    intro b hb
    obtain ⟨_, _, rfl⟩ := List.mem_map.mp hb
    rfl
theorem ix_t0 (x : D) (xs : List D) (st : List O) : ixM st (.v (.tup (x :: xs))) (.v (.int 0)) = some (.v x) := by
  show (atD (x :: xs) 0).map MV.v = _
  unfold atD atI ixN
  rw [if_pos (by omega), if_pos (by simp)]
  rfl
theorem ix_t1 (x y : D) (xs : List D) (st : List O) : ixM st (.v (.tup (x :: y :: xs))) (.v (.int 1)) = some (.v y) := by
  show (atD (x :: y :: xs) 1).map MV.v = _
  unfold atD atI ixN
  rw [if_pos (by omega), if_pos (by simp; omega)]
  rfl
theorem WallOk.rowK {n : Nat} {w : Wall} (h : WallOk n w) : ∀ x ∈ w.1, x.natAbs ≤ 1000000 := fun x hx => by have := h.ent x hx; omega
theorem p_is_wall_of {w : Wall} {n : Nat} (h : WallOk n w) (hn : n ≤ 1000) (st : List O) : F_is_wall_of [.v (wI w), .v (.int (n : Nat))] st = .val (.v (.bl true)) st := by
  refine run_e (e_seq (st_if0 (ev_or0 (ev_not (ev_test (ev_isT (ev_var rfl)))) (ev_or0 (ev_cmp (ev_B (ev_cons (ev_var rfl) ev_nil) rfl) ev_c rfl) (ev_not (ev_test (ev_callP (ds := [tI w.1, .int n]) (ev_cons (ev_bin (ev_var rfl) ev_c (ix_t0 _ _ _)) (ev_cons (ev_var rfl) ev_nil)) rfl (p_is_row h.len hn h.rowK [])))))) rfl) (e_rt (st_ret (ev_bind (ev_callP (ds := [.int w.2]) (ev_cons (ev_bin (ev_var rfl) ev_c (ix_t1 _ _ _ _)) ev_nil) rfl (p_int _ [])) (ev_bind (a := true) rfl (ev_leA (ev_bin (ev_var rfl) ev_c (ix_t1 _ _ _ _)) (by have := h.bnd; omega)))))))
theorem p_is_some {ds : List D} (h : ds.length ≤ 100) (st : List O) : F_is_some [.v (.tup ds)] st = .val (.v (.bl true)) st :=
  run_e (e_rt (st_ret (ev_bind (ev_isT (ev_var rfl)) (ev_bind (a := true) rfl (ev_bin (ev_B (ev_cons (ev_var rfl) ev_nil) rfl) ev_c (by rw [le_i, decide_eq_true (by omega)]))))))
theorem p_is_held {n : Nat} {ws : List Wall} (h1 : 1 ≤ n) (h4 : n ≤ 4) (hw : ∀ w ∈ ws, WallOk n w) (hl : ws.length ≤ 100) (st : List O) : F_is_held [.v (heldD n ws)] st = .val (.v (.bl true)) st := by
  refine run_e (e_seq (st_if0 (ev_or0 (ev_not (ev_test (ev_isT (ev_var rfl)))) (ev_or0 (ev_cmp (ev_B (ev_cons (ev_var rfl) ev_nil) rfl) ev_c rfl) (ev_or0 (ev_not (ev_test (ev_callP (ds := [.int n]) (ev_cons (ev_bin (ev_var rfl) ev_c (ix_t0 _ _ _)) ev_nil) rfl (p_int _ [])))) (ev_not (b := true) (ev_ch ev_c (ev_bin (ev_var rfl) ev_c (ix_t0 _ _ _)) ?_ ev_c ?_))))) rfl) ?_)
  · rw [le_i, decide_eq_true (by omega)]
  · rw [le_i, decide_eq_true (by omega)]
  · refine e_seq (st_asg (ev_var rfl) rfl) (e_seq (st_if0 (ev_or0 (ev_not (ev_test (ev_callP (ds := [.tup (ws.map wI)]) (ev_cons (ev_var rfl) ev_nil) rfl (p_is_some (by rw [List.length_map]; exact hl) [])))) (ev_not (ev_test (ev_callP (ds := [.tup []]) (ev_cons (ev_var rfl) ev_nil) rfl (p_is_some (by simp) []))))) rfl) (e_rt (st_ret (ev_bind (ev_allT wI ws (ev_seqT (ev_var rfl)) fun w hm => ⟨_, rfl, ev_callP (ds := [wI w, .int n]) (ev_cons (ev_var rfl) (ev_cons (ev_var rfl) ev_nil)) rfl (p_is_wall_of (hw w hm) (by omega) [])⟩) (ev_bind (a := true) (st1 := st) rfl (ev_allT wI [] (ev_seqT (ev_var rfl)) fun w hm => nomatch hm))))))
theorem p_need_held {n : Nat} {ws : List Wall} (h1 : 1 ≤ n) (h4 : n ≤ 4) (hw : ∀ w ∈ ws, WallOk n w) (hl : ws.length ≤ 100) (x : D) (st : List O) : F_need_held [.v (heldD n ws), .v x] st = .val (.v .non) st :=
  run_e (e_nx (st_if0 (ev_not (ev_test (ev_callP (ds := [heldD n ws]) (ev_cons (ev_var rfl) ev_nil) rfl (p_is_held h1 h4 hw hl [])))) rfl))
def wallRow (w : Wall) : Row := w.2 :: oppR w.1
def firstRow (n : Nat) : Row := 1 :: List.replicate n 0
def rowsOf (n : Nat) (ws : List Wall) : List Row := firstRow n :: ws.map wallRow
theorem mul_rep (n : Nat) (h1 : 1 ≤ n) (hn : n ≤ 1000) (st : List O) : mulM st (.v (.tup [.int 0])) (.v (.int (n : Nat))) = some (.v (.tup ((List.replicate n (0 : Int)).map .int))) := by
  show (if (decide (1 ≤ (n : Int)) && decide ((n : Int) ≤ 1000) && decide (([.int 0] : List D).length ≤ 1000) && !([.int 0] : List D).isEmpty) = true then some (MV.v (.tup (List.replicate (n : Int).toNat [D.int 0]).flatten)) else none) = _
  rw [if_pos (by rw [decide_eq_true (by omega), decide_eq_true (by omega)]; rfl), Int.toNat_natCast, List.map_replicate]
  congr 3
  clear h1 hn
  induction n with
  | zero => rfl
  | succ n ih => rw [List.replicate_succ, List.flatten_cons, ih, List.replicate_succ]; rfl
theorem add_t (xs ys : List D) (h : xs.length + ys.length ≤ 1000000) (st : List O) : addM st (.v (.tup xs)) (.v (.tup ys)) = some (.v (.tup (xs ++ ys))) := by
  show (if szOk (xs.length + ys.length) = true then some (MV.v (.tup (xs ++ ys))) else none) = _
  rw [if_pos (by unfold szOk; exact decide_eq_true h)]
/-- (1,) + (0,) * n -/
theorem ev_first {f : Env → M MV} {n : Nat} (hf : f ρ st = .val (.v (.int (n : Nat))) st) (h1 : 1 ≤ n) (hn : n ≤ 1000) : fBin addM (fTup (fCons (fC (.v (.int 1))) fNil)) (fBin mulM (fTup (fCons (fC (.v (.int 0))) fNil)) f) ρ st = .val (vI (firstRow n)) st := by
  refine ev_bin (ev_tup (ev_cons ev_c ev_nil) rfl) (ev_bin (ev_tup (ev_cons ev_c ev_nil) rfl) hf (mul_rep n h1 hn st)) ((add_t _ _ (by simp; omega) st).trans ?_)
  rfl
theorem ev_wallR {f g : Env → M MV} {w : Wall} {n : Nat} (hf : f ρ st = .val (.v (.int w.2)) st) (hg : g ρ st = .val (vI w.1) st) (hl : w.1.length ≤ 1000) : fBin addM (fTup (fCons f fNil)) (fCallP 1 F_opposite (fCons g fNil)) ρ st = .val (vI (wallRow w)) st := by
  refine ev_bin (ev_tup (ev_cons hf ev_nil) rfl) (ev_callP (ds := [tI w.1]) (ev_cons hg ev_nil) rfl (p_opposite _ hl [])) ((add_t _ _ (by simp [oppR]; omega) st).trans ?_)
  rfl
theorem p_wall_rows {n : Nat} {ws : List Wall} (h1 : 1 ≤ n) (h4 : n ≤ 4) (hw : ∀ w ∈ ws, WallOk n w) (hl : ws.length ≤ 100) (st : List O) : F_wall_rows [.v (heldD n ws)] st = .val (mR (rowsOf n ws)) st := by
  refine run_e (e_seq (st_asg (ev_var rfl) rfl) (e_seq (st_own (ds := [tI (firstRow n)]) (ev_cons (ev_first (ev_var rfl) h1 (by omega)) ev_nil) (by simp)) ?_))
  refine e_for (γ := Wall) wI (fun pre ρ st' => st' = st ∧ ∃ s0 s5 s6, ρ = [s0, some (.m (.v (.int n))), some (.m (.v (.tup (ws.map wI)))), some (.m (.v (.tup []))), some (.own (.lst [tI (firstRow n)])), s5, s6]) [] (ev_seqT (ev_var rfl)) (fun pre x post ρ st e => by simp at e) ⟨rfl, _, none, none, rfl⟩ ?_
  rintro ρ' st' ⟨rfl, s0, s5, s6, rfl⟩
  refine e_rt (st_ret (ev_bin (ev_var rfl) (ev_lcY wI ws (fun w => tI (wallRow w)) (ev_seqT (ev_var rfl)) (by omega) fun w hm => ⟨_, rfl, ev_wallR (n := n) (ev_var rfl) (ev_var rfl) (by rw [(hw w hm).len]; omega)⟩) ((add_l _ _ (by simp; omega) _).trans ?_)))
  show some (MV.v (.lst (tI (firstRow n) :: ws.map fun w => tI (wallRow w)))) = some (MV.v (.lst (tI (firstRow n) :: (ws.map wallRow).map tI)))
  rw [List.map_map]
  rfl
/-! what is told of a body -/
def colsOf (n : Nat) : List Nat := (List.range n).map (· + 1) ++ [0]
def ptI (r : Row) : D := .tup [tI r.tail, .int (at0 r 0)]
abbrev CS.vecs (s : CS) : List Row := s.rays.map fun p => p.1
def tyR (n : Nat) (s : CS) : List Row := tidyR (s.rays.map (·.1)) s.lines (colsOf n)
def ptsD (n : Nat) (s : CS) : List D := ((tyR n s).filter fun r => decide (0 < at0 r 0)).map ptI
def spanD (n : Nat) (s : CS) : D := if ptsD n s = [] then .tup [.int n, .tup [], .tup [], .tup []] else .tup [.int n, .tup (ptsD n s), .tup (((tyR n s).filter fun r => decide (at0 r 0 = 0)).map fun r => tI r.tail), .tup ((inSteps s.lines (colsOf n)).found.map fun r => tI r.tail)]
theorem spanD_1 (n : Nat) (s : CS) : ∃ xs, spanD n s = .tup (.int n :: .tup (ptsD n s) :: xs) := by
  unfold spanD
  split
  · rename_i h; rw [h]; exact ⟨_, rfl⟩
  · exact ⟨_, rfl⟩
theorem cut_tail (v : Row) (hv : v ≠ []) : cutD (v.map D.int) (some 1) none = v.tail.map D.int := by
  cases v with
  | nil => exact absurd rfl hv
  | cons x v =>
    unfold cutD
    rw [show HT.sIx ((x :: v).map D.int).length 0 (some 1) = 1 from by rw [show (1 : Int) = ((1 : Nat) : Int) from rfl, HT.sIx_nat]; simp]
    rw [HT.sIx_none]
    show ((v.map D.int)).take _ = _
    rw [List.take_of_length_le (by simp)]
    rfl
theorem ev_tail {f : Env → M MV} {v : Row} (hf : f ρ st = .val (vI v) st1) (hv : v ≠ []) : fSl f (fPart (fC (.v (.int 1)))) fNoPart ρ st = .val (vI v.tail) st1 := by
  refine ev_bind hf (ev_bind (a := some 1) (st1 := st1) rfl (ev_bind (a := none) (st1 := st1) rfl ?_))
  show M.of (some (MV.v (.tup (cutD (v.map D.int) (some 1) none)))) st1 = _
  rw [cut_tail v hv]
  rfl
theorem ev_cols {f : Env → M MV} {n : Nat} (hf : f ρ st = .val (.v (.int (n : Nat))) st) (hn : n ≤ 1000) : fBin addM (fListR2 (fC (.v (.int 1))) (fBin addM f (fC (.v (.int 1))))) (fLst (fCons (fC (.v (.int 0))) fNil)) ρ st = .val (.v (.lst ((colsOf n).map cI))) st := by
  refine ev_bin (x := .v (.lst (rngD 1 (n + 1)))) (ev_bind ev_c (ev_bind (ev_bin hf ev_c (add_i _ _ _)) ?_)) (ev_lst (ev_cons ev_c ev_nil) rfl) ((add_l _ _ ?_ st).trans ?_)
  · show M.of (if rngOk 1 (n + 1) = true then some (MV.v (.lst (rngD 1 (n + 1)))) else none) st = _
    rw [if_pos (by unfold rngOk; simp only [Bool.and_eq_true]; exact ⟨⟨⟨by decide, by decide⟩, decide_eq_true (by omega)⟩, decide_eq_true (by omega)⟩)]
    rfl
  · unfold rngD
    simp
    omega
  · unfold rngD colsOf
    rw [List.map_append, List.map_map]
    congr 3
    congr 1
    rw [show ((n : Int) + 1 - 1).toNat = n from by omega]
    refine List.map_congr_left fun k _ => ?_
    show D.int (1 + (k : Int)) = D.int ((k + 1 : Nat) : Int)
    congr 1
    omega
/-- sizes of what is told -/
structure SpOk (n : Nat) (s : CS) : Prop where
  n1 : 1 ≤ n
  n3 : n ≤ 3
  rs : ∀ r ∈ s.rays.map (·.1), r.length = n + 1 ∧ bd (NB 12) r
  ls : ∀ r ∈ s.lines, r.length = n + 1 ∧ bd (LB 3) r
  rn : s.rays.length ≤ 100000
  ll : s.lines.length ≤ 1000
theorem cols_len (n : Nat) : (colsOf n).length = n + 1 := by simp [colsOf]
theorem cols_lt (n : Nat) : ∀ c ∈ colsOf n, c < n + 1 := by
  intro c hc
  rcases List.mem_append.mp hc with h | h
  · obtain ⟨k, hk, rfl⟩ := List.mem_map.mp h
    have := List.mem_range.mp hk
    omega
  · rw [List.mem_singleton.mp h]; omega
theorem big_ty : NB 12 * (2 * SB (LB 3) 4) ^ 4 < BIG := by decide +kernel
theorem big_sb : SB (LB 3) 4 < BIG := by decide +kernel
theorem SpOk.tidy {n : Nat} {s : CS} (h : SpOk n s) (st : List O) : F_tidy [mR (s.rays.map (·.1)), mR s.lines, .v (.lst ((colsOf n).map cI))] st = .val (.v (.tup [.lst ((tyR n s).map tI), .lst ((inSteps s.lines (colsOf n)).found.map tI)])) st := by
  have hn := h.n3
  have lp := LB_pos 3
  have mono := SB_mono (N := LB 3) lp (show (colsOf n).length ≤ 4 by rw [cols_len]; omega)
  refine p_tidy (d := n + 1) (N := NB 12) (L := LB 3) _ _ _ h.rs h.ls ⟨by omega, by omega⟩ (NB_pos 12) lp (by rw [List.length_map]; have := h.rn; omega) h.ll (by rw [cols_len]; omega) (cols_lt n) (Nat.lt_of_le_of_lt mono big_sb) (Nat.lt_of_le_of_lt (Nat.mul_le_mul_left _ ?_) big_ty) st
  refine Nat.le_trans (Nat.pow_le_pow_left (Nat.mul_le_mul_left 2 mono) _) (Nat.pow_le_pow_right ?_ (by rw [cols_len]; omega))
  have := SB_pos lp 4
  omega
theorem SpOk.ty {n : Nat} {s : CS} (h : SpOk n s) : ∀ r ∈ tyR n s, r.length = n + 1 := tidyR_len (fun r hr => (h.rs r hr).1) h.ls (LB_pos 3) h.ll (cols_lt n)
theorem SpOk.steps {n : Nat} {s : CS} (h : SpOk n s) : ISB (n + 1) (SB (LB 3) (colsOf n).length) (colsOf n).length (inSteps s.lines (colsOf n)) := inSteps_b h.ls (LB_pos 3) h.ll _ (cols_lt n)
theorem uniqR_len : ∀ (l acc : List Row), (uniqR acc l).length ≤ acc.length + l.length
  | [], acc => Nat.le_refl _
  | r :: l, acc => by
    rw [uniqR, List.length_cons]
    by_cases z : r ∈ acc
    · rw [if_pos z]
      have := uniqR_len l acc
      omega
    · rw [if_neg z]
      have := uniqR_len l (acc ++ [r])
      rw [List.length_append, List.length_singleton] at this
      omega
theorem SpOk.tn {n : Nat} {s : CS} (h : SpOk n s) : (tyR n s).length ≤ 100000 := by
  unfold tyR tidyR
  rw [(sortK_perm _).length_eq]
  have h1 := uniqR_len ((s.rays.map (·.1)).map fun r => clearBy r (inSteps s.lines (colsOf n)).found (inSteps s.lines (colsOf n)).places) []
  simp only [List.length_map, List.length_nil] at h1
  have := h.rn
  omega
theorem ne_nil {v : Row} {n : Nat} (h : v.length = n + 1) : v ≠ [] := fun z => by rw [z] at h; cases h
theorem ix_r0 {v : Row} {n : Nat} (h : v.length = n + 1) (st : List O) : ixM st (vI v) (.v (.int 0)) = some (.v (.int (at0 v 0))) := ix_t v 0 (by omega) st
/-- [(ray[1:], ray[0]) for ray in rays if ray[0] > 0] -/
theorem SpOk.pts {n : Nat} {s : CS} (h : SpOk n s) (hv : ρ[2]? = some (some (.m (mR (tyR n s))))) (hl : 7 ≤ ρ.length) : fLc [6] (iSeqL (fVar 2)) (setN 6) (fCmpT gtM (fBin ixM (fVar 6) (fC (.v (.int 0)))) (fC (.v (.int 0)))) (fTup (fCons (fSl (fVar 6) (fPart (fC (.v (.int 1)))) fNoPart) (fCons (fBin ixM (fVar 6) (fC (.v (.int 0)))) fNil))) ρ st = .val (.v (.lst (ptsD n s))) st := by
  refine ev_lc tI (tyR n s) (fun r => decide (0 < at0 r 0)) ptI (ev_seqL (ev_var hv)) (by have := h.tn; omega) fun r hr => ⟨_, rfl, ?_⟩
  have h6 : (setE (wipeE ρ [6]) 6 (vI r))[6]? = some (some (.m (vI r))) := by
    show ((ρ.set 6 none).set 6 (some (.m (vI r))))[6]? = _
    rw [List.getElem?_set_self (by rw [List.length_set]; omega)]
  exact ⟨ev_cmp (ev_bin (ev_var h6) ev_c (ix_r0 (h.ty r hr) _)) ev_c (gt_t _ _ _), fun _ => ev_tup (ev_cons (ev_tail (ev_var h6) (ne_nil (h.ty r hr))) (ev_cons (ev_bin (ev_var h6) ev_c (ix_r0 (h.ty r hr) _)) ev_nil)) rfl⟩
theorem SpOk.beams {n : Nat} {s : CS} (h : SpOk n s) (hv : ρ[2]? = some (some (.m (mR (tyR n s))))) (hl : 7 ≤ ρ.length) : fB tupleM (fCons (fLc [6] (iSeqL (fVar 2)) (setN 6) (fCmpT eqM (fBin ixM (fVar 6) (fC (.v (.int 0)))) (fC (.v (.int 0)))) (fSl (fVar 6) (fPart (fC (.v (.int 1)))) fNoPart)) fNil) ρ st = .val (.v (.tup (((tyR n s).filter fun r => decide (at0 r 0 = 0)).map fun r => tI r.tail))) st := by
  refine ev_B (ev_cons (ev_lc tI (tyR n s) (fun r => decide (at0 r 0 = 0)) (fun r => tI r.tail) (ev_seqL (ev_var hv)) (by have := h.tn; omega) fun r hr => ⟨_, rfl, ?_⟩) ev_nil) rfl
  have h6 : (setE (wipeE ρ [6]) 6 (vI r))[6]? = some (some (.m (vI r))) := by
    show ((ρ.set 6 none).set 6 (some (.m (vI r))))[6]? = _
    rw [List.getElem?_set_self (by rw [List.length_set]; omega)]
  refine ⟨ev_cmp (ev_bin (ev_var h6) ev_c (ix_r0 (h.ty r hr) _)) ev_c ?_, fun _ => ev_tail (ev_var h6) (ne_nil (h.ty r hr))⟩
  rw [eq_i]
  rfl
theorem SpOk.tails {n : Nat} {s : CS} (h : SpOk n s) {k m : Nat} (hv : ρ[k]? = some (some (.m (mR (inSteps s.lines (colsOf n)).found)))) (hl : m < ρ.length) : fB tupleM (fCons (fLc [m] (iSeqL (fVar k)) (setN m) fYes (fSl (fVar m) (fPart (fC (.v (.int 1)))) fNoPart)) fNil) ρ st = .val (.v (.tup ((inSteps s.lines (colsOf n)).found.map fun r => tI r.tail))) st := by
  have hB := h.steps
  refine ev_B (ev_cons (ev_lcY tI (inSteps s.lines (colsOf n)).found (fun r => tI r.tail) (ev_seqL (ev_var hv)) (by have := hB.le.2; rw [cols_len] at this; have := h.n3; omega) fun r hr => ⟨_, rfl, ?_⟩) ev_nil) rfl
  have h6 : (setE (wipeE ρ [m]) m (vI r))[m]? = some (some (.m (vI r))) := by
    show ((ρ.set m none).set m (some (.m (vI r))))[m]? = _
    rw [List.getElem?_set_self (by rw [List.length_set]; exact hl)]
  exact ev_tail (ev_var h6) (ne_nil (hB.fl r hr).1)
theorem len_0 (l : List D) (h : l ≠ []) : ((l.length : Int) == 0) = false := beq_eq_false_iff_ne.mpr fun z => h (List.length_eq_zero_iff.mp (by omega))
/-- the cone of so many rows, as it is told -/
theorem RowsK.sp {n : Nat} {rows : List Row} (h : RowsK (n + 1) rows) (h1 : 1 ≤ n) : SpOk n (coneOf (n + 1) rows) := by
  obtain ⟨I, S⟩ := coneOf_inv (n + 1) rows h.b
  have h4 := h.d4
  have hle := S.le
  refine ⟨h1, by omega, fun r hr => ?_, fun r hr => ⟨I.ll r hr, (S.ls r hr).2.mono (LB_mono ?_)⟩, ?_, by omega⟩
  · obtain ⟨p, hp, rfl⟩ := List.mem_map.mp hr
    exact ⟨I.rl p hp, (S.rs p hp).mono (NB_mono h.n)⟩
  · have : 0 < (coneOf (n + 1) rows).lines.length := List.length_pos_of_mem hr
    omega
  · have h1 := I.few
    have h2 : 2 ^ rows.length ≤ 2 ^ 12 := Nat.pow_le_pow_right (by decide) h.n
    omega
theorem asum_first (n : Nat) : asum (firstRow n) = 1 := by
  unfold asum firstRow
  rw [List.map_cons, List.sum_cons, List.map_replicate]
  have : ∀ n : Nat, (List.replicate n (Int.natAbs 0)).sum = 0 := by
    intro n
    induction n with
    | zero => rfl
    | succ n ih => rw [List.replicate_succ, List.sum_cons, ih]; rfl
  rw [this]
  rfl
theorem asum_le : ∀ (v : Row) (k : Nat), (∀ x ∈ v, x.natAbs ≤ k) → asum v ≤ v.length * k
  | [], k, _ => by simp [asum]
  | x :: v, k, h => by
    have h1 := asum_le v k fun y hy => h y (List.mem_cons_of_mem _ hy)
    have h2 := h x List.mem_cons_self
    unfold asum at h1 ⊢
    rw [List.map_cons, List.sum_cons, List.length_cons, Nat.add_mul]
    omega
theorem wallRow_asum {n : Nat} {w : Wall} (h : WallOk n w) (hn : n ≤ 3) : asum (wallRow w) ≤ 10 := by
  have h1 := asum_le (oppR w.1) 2 fun x hx => by
    obtain ⟨y, hy, rfl⟩ := List.mem_map.mp hx
    have := h.ent y hy
    omega
  rw [opp_len, h.len] at h1
  have h2 := h.bnd
  unfold wallRow asum
  rw [List.map_cons, List.sum_cons]
  unfold asum at h1
  omega
theorem rowsK {n : Nat} {ws : List Wall} (h1 : 1 ≤ n) (h3 : n ≤ 3) (hw : ∀ w ∈ ws, WallOk n w) (hl : ws.length ≤ 11) : RowsK (n + 1) (rowsOf n ws) := by
  refine ⟨fun i r e => ?_, fun r hr => ?_, by simp [rowsOf]; omega, by omega, by omega⟩
  · cases i with
    | zero =>
      have : r = firstRow n := by simpa [rowsOf] using e.symm
      rw [this, asum_first]
      omega
    | succ i =>
      have h2 : (ws.map wallRow)[i]? = some r := by simpa [rowsOf] using e
      obtain ⟨w, hm, rfl⟩ := List.mem_map.mp (List.mem_of_getElem? h2)
      exact ⟨wallRow_asum (hw w hm) h3, fun z => by omega⟩
  · rcases List.mem_cons.mp hr with rfl | hr
    · simp [firstRow]
    · obtain ⟨w, hm, rfl⟩ := List.mem_map.mp hr
      simp [wallRow, oppR, (hw w hm).len]
theorem ev_suc {f : Env → M MV} {n : Nat} (hf : f ρ st = .val (.v (.int (n : Nat))) st) : fBin addM f (fC (.v (.int 1))) ρ st = .val (.v (.int ((n + 1 : Nat) : Int))) st := ev_bin hf ev_c (add_i _ _ _)
theorem SpOk.ev_tidy {n : Nat} {s : CS} (h : SpOk n s) (h1 : ρ[1]? = some (some (.m (.v (.int (n : Nat)))))) (h2 : ρ[2]? = some (some (.m (mR (s.rays.map (·.1)))))) (h3 : ρ[3]? = some (some (.m (mR s.lines)))) :
    fCallP 3 F_tidy (fCons (fVar 2) (fCons (fVar 3) (fCons (fBin addM (fListR2 (fC (.v (.int 1))) (fBin addM (fVar 1) (fC (.v (.int 1))))) (fLst (fCons (fC (.v (.int 0))) fNil))) fNil))) ρ st = .val (.v (.tup [.lst ((tyR n s).map tI), .lst ((inSteps s.lines (colsOf n)).found.map tI)])) st := by
  have hn : n ≤ 1000 := by have := h.n3; omega
  exact ev_callP (ds := [.lst (s.vecs.map tI), .lst (s.lines.map tI), .lst ((colsOf n).map cI)]) (ev_cons (ev_var h2) (ev_cons (ev_var h3) (ev_cons (ev_cols (ev_var h1) hn) ev_nil))) rfl (h.tidy [])
theorem p_span_of {n : Nat} {ws : List Wall} (h1 : 1 ≤ n) (h3 : n ≤ 3) (hw : ∀ w ∈ ws, WallOk n w) (hl : ws.length ≤ 11) (st : List O) : F_span_of c [.v (heldD n ws)] st = .val (.v (spanD n (coneOf (n + 1) (rowsOf n ws)))) st := by
  have hn : n ≤ 1000 := by omega
  have h4 : n ≤ 4 := by omega
  have hl2 : ws.length ≤ 100 := by omega
  have hk := rowsK h1 h3 hw hl
  have sp := hk.sp h1
  generalize hs : coneOf (n + 1) (rowsOf n ws) = s at sp
  have pc := p_cone_of (c := c) hk []
  rw [hs] at pc
  refine run_e (e_seq (st_asg (ev_bin (ev_var rfl) ev_c (ix_t0 _ _ _)) rfl) (e_seq (st_asg (ev_callP (ds := [.lst ((rowsOf n ws).map tI), .int ((n + 1 : Nat) : Int)]) (ev_cons (ev_callP (ds := [heldD n ws]) (ev_cons (ev_var rfl) ev_nil) rfl (p_wall_rows h1 h4 hw hl2 [])) (ev_cons (ev_suc (ev_var rfl)) ev_nil)) rfl pc) rfl)
    (e_seq (st_asg (sp.ev_tidy rfl rfl rfl) rfl) (e_seq (st_asg (sp.pts rfl (by show 7 ≤ 8; decide)) rfl) ?_))))
  by_cases q : ptsD n s = []
  · unfold spanD
    rw [if_pos q, q]
    refine e_rt (st_rt (st_if1 (ev_cmp (ev_B (ev_cons (ev_var rfl) ev_nil) rfl) ev_c rfl) (st_ret (ev_tup (ev_cons (ev_var rfl) (ev_cons (ev_tup ev_nil rfl) (ev_cons (ev_tup ev_nil rfl) (ev_cons (ev_tup ev_nil rfl) ev_nil)))) rfl))))
  · unfold spanD
    rw [if_neg q]
    exact e_seq (st_if0 (ev_cmp (ev_B (ev_cons (ev_var rfl) ev_nil) rfl) ev_c (by rw [eq_i, len_0 _ q])) rfl) (e_seq (st_asg (sp.beams rfl (by show 7 ≤ 8; decide)) rfl) (e_rt (st_ret (ev_tup (ev_cons (ev_var rfl) (ev_cons (ev_B (ev_cons (ev_var rfl) ev_nil) rfl) (ev_cons (ev_var rfl) (ev_cons (sp.tails rfl (by show 7 < 8; decide)) ev_nil)))) rfl))))
theorem p_corners {n : Nat} {ws : List Wall} (h1 : 1 ≤ n) (h3 : n ≤ 3) (hw : ∀ w ∈ ws, WallOk n w) (hl : ws.length ≤ 11) (st : List O) : F_corners c [.v (heldD n ws)] st = .val (.v (spanD n (coneOf (n + 1) (rowsOf n ws)))) st :=
  run_e (e_seq (st_drop (ev_callP (ds := [heldD n ws, .str "held"]) (ev_cons (ev_var rfl) (ev_cons ev_c ev_nil)) rfl (p_need_held h1 (by omega) hw (by omega) _ []))) (e_rt (st_ret (ev_callP (ds := [heldD n ws]) (ev_cons (ev_var rfl) ev_nil) rfl (p_span_of h1 h3 hw hl [])))))
end
end CD

set_option Elab.async false
set_option linter.all false
set_option maxRecDepth 100000
set_option maxHeartbeats 400000
namespace CD
open PySem PySem.Spec PyProof.Rows L2
/-! ### the plain level: a growing body -/
abbrev Tbl := List (Nat × Wall)
structure Abs where
  tb : Tbl
  er : List Tbl
  last : Nat
def wallsOf (tb : Tbl) : List Wall := tb.map fun p => p.2
def coneT (n : Nat) (tb : Tbl) : CS := coneOf (n + 1) (rowsOf n (wallsOf tb))
def tabK (tb : Tbl) : List (L2.Key × D) := tb.map fun p => ((.inl (p.1 : Int) : L2.Key), wI p.2)
def growO (C : Addr) (n t k last : Nat) (E : MV) : O := .ins C [("size", .v (.int n)), ("table", .obj t), ("last", .v (.int last)), ("cone", .obj k), ("earlier", E)]
structure TbOk (n m last : Nat) (tb : Tbl) : Prop where
  inc : tb.Pairwise fun a b => a.1 < b.1
  rg : ∀ p ∈ tb, 1 ≤ p.1 ∧ p.1 ≤ last
  ok : ∀ p ∈ tb, WallOk n p.2
  len : tb.length ≤ m
theorem TbOk.mono {n m m' l l' : Nat} {tb : Tbl} (h : TbOk n m l tb) (a : m ≤ m') (b : l ≤ l') : TbOk n m' l' tb := ⟨h.inc, fun p hp => ⟨(h.rg p hp).1, Nat.le_trans (h.rg p hp).2 b⟩, h.ok, Nat.le_trans h.len a⟩
theorem TbOk.filter {n m l : Nat} {tb : Tbl} (h : TbOk n m l tb) (q : Nat × Wall → Bool) : TbOk n m l (tb.filter q) := ⟨h.inc.sublist List.filter_sublist, fun p hp => h.rg p (List.mem_filter.mp hp).1, fun p hp => h.ok p (List.mem_filter.mp hp).1, Nat.le_trans (List.length_filter_le _ _) h.len⟩
theorem TbOk.put {n m l : Nat} {tb : Tbl} (h : TbOk n m l tb) {w : Wall} (hw : WallOk n w) : TbOk n (m + 1) (l + 1) (tb ++ [(l + 1, w)]) := by
  refine ⟨List.pairwise_append.mpr ⟨h.inc, List.pairwise_singleton _ _, fun a ha b hb => ?_⟩, fun p hp => ?_, fun p hp => ?_, by simp; exact h.len⟩
  · rw [List.mem_singleton.mp hb]
    have := (h.rg a ha).2
    show a.1 < l + 1
    omega
  · rcases List.mem_append.mp hp with hp | hp
    · have := h.rg p hp; omega
    · rw [List.mem_singleton.mp hp]
      exact ⟨Nat.succ_le_succ (Nat.zero_le _), Nat.le_refl _⟩
  · rcases List.mem_append.mp hp with hp | hp
    · exact h.ok p hp
    · rw [List.mem_singleton.mp hp]; exact hw
theorem TbOk.walls {n m l : Nat} {tb : Tbl} (h : TbOk n m l tb) : ∀ w ∈ wallsOf tb, WallOk n w := fun w hw => by
  obtain ⟨p, hp, rfl⟩ := List.mem_map.mp hw
  exact h.ok p hp
theorem TbOk.wl {n m l : Nat} {tb : Tbl} (h : TbOk n m l tb) : (wallsOf tb).length ≤ m := by
  unfold wallsOf
  rw [List.length_map]
  exact h.len
/-- a body in the store: itself, its table, its cone, the tables of earlier -/
structure BodyAt (c : Cs) (n m : Nat) (st : List O) (jb t k : Nat) (E : MV) (js : List Nat) (A : Abs) : Prop where
  n1 : 1 ≤ n
  n3 : n ≤ 3
  m11 : m ≤ 11
  ob : st[jb]? = some (growO c.Growing n t k A.last E)
  tab : st[t]? = some (.dic (tabK A.tb))
  cone : st[k]? = some (coneO c.Cone (coneT n A.tb))
  er : E = .objs js ∨ (js = [] ∧ E = .v (.lst []))
  ers : (js.map fun j => st[j]?) = A.er.map fun tb => some (O.dic (tabK tb))
  nd : (jb :: t :: k :: js).Nodup
  tok : TbOk n m A.last A.tb
  eok : ∀ tb ∈ A.er, TbOk n m A.last tb
  jl : js.length ≤ m
def Fr (S : List Nat) (st st' : List O) (S' : List Nat) : Prop := (∀ j, j < st.length → j ∉ S → st'[j]? = st[j]?) ∧ st.length ≤ st'.length ∧ ∀ j ∈ S', j ∈ S ∨ st.length ≤ j
theorem Fr.refl {S : List Nat} {st : List O} : Fr S st st S := ⟨fun _ _ _ => rfl, Nat.le_refl _, fun _ h => .inl h⟩
theorem Fr.trans {S S1 S2 : List Nat} {st st1 st2 : List O} (a : Fr S st st1 S1) (b : Fr S1 st1 st2 S2) : Fr S st st2 S2 := by
  obtain ⟨a1, a2, a3⟩ := a
  obtain ⟨b1, b2, b3⟩ := b
  refine ⟨fun j hj hn => ?_, Nat.le_trans a2 b2, fun j hj => ?_⟩
  · rw [b1 j (by omega) fun h => (a3 j h).elim hn (by omega), a1 j hj hn]
  · rcases b3 j hj with h | h
    · exact a3 j h
    · exact .inr (by omega)
section
variable {ρ : Env} {st st1 st2 : List O} {c : Cs} {n m t k jb : Nat} {E : MV} {js : List Nat} {A : Abs} {tb : Tbl} {l : Nat}
theorem set_ne {i j : Nat} {o : O} (h : j ≠ i) : (st.set i o)[j]? = st[j]? := List.getElem?_set_ne (fun z => h z.symm)
theorem set_eq {i : Nat} {o : O} (h : i < st.length) : (st.set i o)[i]? = some o := List.getElem?_set_self h
theorem app_lt {j : Nat} {os : List O} (h : j < st.length) : (st ++ os)[j]? = st[j]? := List.getElem?_append_left h
theorem lt_of {j : Nat} {o : O} (h : st[j]? = some o) : j < st.length := (List.getElem?_eq_some_iff.mp h).1
theorem keyI_tab : ∀ tb : Tbl, keyI (tabK tb) = some (tb.map fun p => (p.1 : Int))
  | [] => rfl
  | p :: tb => by
    show (keyI (tabK tb)).map ((p.1 : Int) :: ·) = _
    rw [keyI_tab tb]
    rfl
def keysOf (tb : Tbl) : List Nat := tb.map fun p => p.1
theorem sort_tab {st : List O} {t : Nat} (ht : st[t]? = some (.dic (tabK tb))) (h : TbOk n m l tb) (hm : m ≤ 11) : sortedM st [.obj t] = some (.v (.lst ((keysOf tb).map cI))) := by
  have e : sortI (tb.map fun p => (p.1 : Int)) = tb.map fun p => (p.1 : Int) := by
    refine (sortI_eq (List.Perm.refl _) ?_).symm
    rw [List.pairwise_map]
    exact h.inc.imp fun {a b} h => by omega
  show (match st[t]? with
    | some (.dic kvs) => match keyI kvs with
      | some l => if l.length < 64 then some (MV.v (.lst ((sortI l).map .int))) else none
      | none => none
    | _ => none) = _
  rw [ht]
  show (match keyI (tabK tb) with
      | some l => if l.length < 64 then some (MV.v (.lst ((sortI l).map .int))) else none
      | none => none) = _
  rw [keyI_tab]
  show (if (tb.map fun p => (p.1 : Int)).length < 64 then some (MV.v (.lst ((sortI (tb.map fun p => (p.1 : Int))).map .int))) else none) = _
  rw [if_pos (by rw [List.length_map]; have := h.len; omega), e]
  unfold keysOf
  rw [List.map_map, List.map_map]
  rfl
theorem get_tab : ∀ {tb : Tbl}, tb.Pairwise (fun a b => a.1 < b.1) → ∀ p ∈ tb, getK (tabK tb) (.inl (p.1 : Int)) = some (wI p.2)
  | q :: tb, h, p, hp => by
    rw [List.pairwise_cons] at h
    show (if (.inl (q.1 : Int) : L2.Key) = .inl (p.1 : Int) then some (wI q.2) else getK (tabK tb) (.inl (p.1 : Int))) = _
    rcases List.mem_cons.mp hp with rfl | hp
    · rw [if_pos rfl]
    · have := h.1 p hp
      rw [if_neg (fun z => by injection z with z; omega)]
      exact get_tab h.2 p hp
theorem ix_tab {st : List O} {t : Nat} (ht : st[t]? = some (.dic (tabK tb))) (h : TbOk n m l tb) {p : Nat × Wall} (hp : p ∈ tb) : ixM st (.obj t) (.v (cI p.1)) = some (.v (wI p.2)) := by
  have e : ixM st (.obj t) (.v (cI p.1)) = (getK (tabK tb) (.inl (p.1 : Int))).map MV.v := by
    simp only [ixM, cI, ht, dKey]
  rw [e, get_tab h.inc p hp]
  rfl
theorem ix_tabL {st : List O} {t : Nat} (ht : st[t]? = some (.dicL (tabK tb))) (h : TbOk n m l tb) {p : Nat × Wall} (hp : p ∈ tb) : ixM st (.obj t) (.v (cI p.1)) = some (.v (wI p.2)) := by
  have e : ixM st (.obj t) (.v (cI p.1)) = (getK (tabK tb) (.inl (p.1 : Int))).map MV.v := by
    simp only [ixM, cI, ht, dKey]
  rw [e, get_tab h.inc p hp]
  rfl
theorem put_tab {tb : Tbl} {w : Wall} (h : ∀ p ∈ tb, p.1 ≤ l) : putKD (tabK tb) (.inl ((l + 1 : Nat) : Int)) (wI w) = tabK (tb ++ [(l + 1, w)]) := by
  unfold putKD
  rw [if_neg]
  · unfold tabK
    rw [List.map_append]
    rfl
  · intro z
    obtain ⟨q, hq, e⟩ := List.any_eq_true.mp z
    obtain ⟨p, hp, rfl⟩ := List.mem_map.mp hq
    have e := of_decide_eq_true e
    injection e with e
    have := h p hp
    omega
/-- [table[own] for own in sorted(table)] -/
theorem ev_walls {i : Nat} {fo f2 : Env → M MV} {t : Nat} (ht : st[t]? = some (.dic (tabK tb))) (h : TbOk n m l tb) (hm : m ≤ 11) (hf : fo ρ st = .val (.obj t) st) (hi : i < ρ.length) (h2 : ∀ x : MV, f2 (setE (wipeE ρ [i]) i x) st = .val (.obj t) st) :
    fLc [i] (iSeqL (fB sortedM (fCons fo fNil))) (setN i) fYes (fBin ixM f2 (fVar i)) ρ st = .val (.v (.lst ((wallsOf tb).map wI))) st := by
  have e := ev_lcY (ρ := ρ) (st := st) (st1 := st) (vs := [i]) (fi := iSeqL (fB sortedM (fCons fo fNil))) (g := setN i) (fe := fBin ixM f2 (fVar i)) (fun p : Nat × Wall => cI p.1) tb (fun p => wI p.2) (ev_seqL (ev_B (ev_cons hf ev_nil) (by rw [sort_tab ht h hm]; unfold keysOf; rw [List.map_map]; rfl))) (by have := h.len; omega) fun p hp => ⟨_, rfl, by
    have h6 : (setE (wipeE ρ [i]) i (.v (cI p.1)))[i]? = some (some (.m (.v (cI p.1)))) := by
      show ((ρ.set i none).set i (some (.m (.v (cI p.1)))))[i]? = _
      rw [List.getElem?_set_self (by rw [List.length_set]; exact hi)]
    exact ev_bin (h2 _) (ev_var h6) (ix_tab ht h hp)⟩
  rw [e]
  unfold wallsOf
  rw [List.map_map]
  rfl
theorem at_tab {f : Env → M MV} (hf : f ρ st = .val (.obj jb) st) (h : st[jb]? = some (growO c.Growing n t k l E)) : fAttr c.Growing "table" f ρ st = .val (.obj t) st := ev_attr hf h rfl
theorem at_size {f : Env → M MV} (hf : f ρ st = .val (.obj jb) st) (h : st[jb]? = some (growO c.Growing n t k l E)) : fAttr c.Growing "size" f ρ st = .val (.v (.int n)) st := ev_attr hf h rfl
theorem at_last {f : Env → M MV} (hf : f ρ st = .val (.obj jb) st) (h : st[jb]? = some (growO c.Growing n t k l E)) : fAttr c.Growing "last" f ρ st = .val (.v (.int l)) st := ev_attr hf h rfl
theorem at_cone {f : Env → M MV} (hf : f ρ st = .val (.obj jb) st) (h : st[jb]? = some (growO c.Growing n t k l E)) : fAttr c.Growing "cone" f ρ st = .val (.obj k) st := ev_attr hf h rfl
theorem at_er {f : Env → M MV} (hf : f ρ st = .val (.obj jb) st) (h : st[jb]? = some (growO c.Growing n t k l E)) : fAttr c.Growing "earlier" f ρ st = .val E st := ev_attr hf h rfl
theorem BodyAt.sp (B : BodyAt c n m st jb t k E js A) : SpOk n (coneT n A.tb) := (rowsK B.n1 B.n3 B.tok.walls (Nat.le_trans B.tok.wl B.m11)).sp B.n1
theorem p_held (B : BodyAt c n m st jb t k E js A) : F_Growing_held c [.obj jb] st = .val (.v (heldD n (wallsOf A.tb))) st :=
  run_e (e_rt (st_ret (ev_tup (ev_cons (at_size (ev_var rfl) B.ob) (ev_cons (ev_B (ev_cons (ev_walls B.tab B.tok B.m11 (at_tab (ev_var rfl) B.ob) (by show 1 < 2; decide) fun x => at_tab (ev_var rfl) B.ob) ev_nil) rfl) (ev_cons (ev_tup ev_nil rfl) ev_nil))) rfl)))
theorem p_numbers (B : BodyAt c n m st jb t k E js A) : F_Growing_numbers c [.obj jb] st = .val (.v (.tup ((keysOf A.tb).map cI))) st :=
  run_e (e_rt (st_ret (ev_B (ev_cons (ev_B (ev_cons (at_tab (ev_var rfl) B.ob) ev_nil) (sort_tab B.tab B.tok B.m11)) ev_nil) rfl)))
theorem p_span (B : BodyAt c n m st jb t k E js A) : F_Growing_span c [.obj jb] st = .val (.v (spanD n (coneT n A.tb))) st := by
  have sp := B.sp
  have hn : n ≤ 1000 := by have := B.n3; omega
  have hc := B.cone
  generalize hs : coneT n A.tb = s at sp hc
  have tid : ∀ ρ : Env, ρ.length = 9 → ρ[0]? = some (some (.m (.obj jb))) → ρ[1]? = some (some (.m (.v (.lst ((colsOf n).map cI))))) → fCallP 3 F_tidy (fCons (fLc [6, 7] (iSeqL (fAttr c.Cone "rays" (fAttr c.Growing "cone" (fVar 0)))) (setTup 2 (setCons (setN 6) (setCons (setN 7) setNil))) fYes (fVar 6)) (fCons (fAttr c.Cone "lines" (fAttr c.Growing "cone" (fVar 0))) (fCons (fVar 1) fNil))) ρ st = .val (.v (.tup [.lst ((tyR n s).map tI), .lst ((inSteps s.lines (colsOf n)).found.map tI)])) st := by
    intro ρ hρ h0 h1
    refine ev_callP (ds := [.lst (s.vecs.map tI), .lst (s.lines.map tI), .lst ((colsOf n).map cI)]) (ev_cons (x := .v (.lst (s.vecs.map tI))) ?_ (ev_cons (at_lines (at_cone (ev_var h0) B.ob) hc) (ev_cons (ev_var h1) ev_nil))) rfl (sp.tidy [])
    unfold CS.vecs
    rw [List.map_map]
    refine ev_lcY rI s.rays (fun p => tI p.1) (ev_seqL (at_rays (at_cone (ev_var h0) B.ob) hc)) (by have := sp.rn; omega) fun p hp => ⟨_, rfl, ev_var ?_⟩
    show ((((ρ.set 7 none).set 6 none).set 6 (some (.m (vI p.1)))).set 7 (some (.m (.v (.int (p.2 : Nat))))))[6]? = _
    rw [List.getElem?_set_ne (by decide), List.getElem?_set_self (by simp only [List.length_set]; omega)]
  refine run_e (e_seq (st_asg (ev_cols (at_size (ev_var rfl) B.ob) hn) rfl) (e_seq (st_asg (tid _ rfl rfl rfl) rfl) (e_seq (st_asg (ev_B (ev_cons (sp.pts rfl (by show 7 ≤ 9; decide)) ev_nil) rfl) rfl) ?_)))
  by_cases q : ptsD n s = []
  · unfold spanD
    rw [if_pos q, q]
    exact e_rt (st_rt (st_if1 (ev_cmp (ev_B (ev_cons (ev_var rfl) ev_nil) rfl) ev_c rfl) (st_ret (ev_tup (ev_cons (at_size (ev_var rfl) B.ob) (ev_cons (ev_tup ev_nil rfl) (ev_cons (ev_tup ev_nil rfl) (ev_cons (ev_tup ev_nil rfl) ev_nil)))) rfl))))
  · unfold spanD
    rw [if_neg q]
    exact e_seq (st_if0 (ev_cmp (ev_B (ev_cons (ev_var rfl) ev_nil) rfl) ev_c (by rw [eq_i, len_0 _ q])) rfl) (e_seq (st_asg (sp.beams rfl (by show 7 ≤ 9; decide)) rfl) (e_rt (st_ret (ev_tup (ev_cons (at_size (ev_var rfl) B.ob) (ev_cons (ev_var rfl) (ev_cons (ev_var rfl) (ev_cons (sp.tails rfl (by show 8 < 9; decide)) ev_nil)))) rfl))))
/-- span()[1] -/
theorem ev_sp1 {f : Env → M MV} (B : BodyAt c n m st jb t k E js A) (hf : f ρ st = .val (.obj jb) st) : fBin ixM (fMeth c.Growing "span" 1 (F_Growing_span c) f fNil) (fC (.v (.int 1))) ρ st = .val (.v (.tup (ptsD n (coneT n A.tb)))) st := by
  obtain ⟨xs, e⟩ := spanD_1 n (coneT n A.tb)
  refine ev_bin (ev_meth hf B.ob rfl ev_nil rfl (p_span B)) ev_c ?_
  rw [e]
  exact ix_t1 _ _ _ _
/-- those of xs that are not of ys -/
def without (xs ys : List D) : List D := xs.filter fun x => !(ys.any fun y => D.eqb y x)
theorem fits_ptI (j : Nat) (r : Row) : D.fits (j + 2) (ptI r) = true := by
  show (D.fits (j + 1) (tI r.tail) && (true && true)) = true
  rw [fits_tI]
  rfl
theorem fits_pts (j : Nat) (n : Nat) (s : CS) : (ptsD n s).all (D.fits (j + 2)) = true := List.all_eq_true.mpr fun x hx => by
  obtain ⟨r, _, rfl⟩ := List.mem_map.mp hx
  exact fits_ptI j r
theorem notin_pts {xs ys : List D} (hx : xs.all (D.fits 19) = true) (hy : ys.all (D.fits 19) = true) {x : D} (h : x ∈ xs) (fx : D.fits 20 x = true) (st : List O) : notInM st (.v x) (.v (.tup ys)) = some (.v (.bl (!(ys.any fun y => D.eqb y x)))) := by
  show (if (D.fits 20 x && D.fits 20 (.tup ys)) = true then some (ys.any fun z => D.eqb z x) else none).map _ = _
  rw [if_pos (by rw [fx]; exact hy)]
  rfl
theorem ev_without {i a b : Nat} {xs ys : List D} (hx : xs.all (D.fits 19) = true) (hy : ys.all (D.fits 19) = true) (fx : ∀ x ∈ xs, D.fits 20 x = true) (hl : xs.length ≤ 1000000) {fx' fy : Env → M MV} (ha : fx' ρ st = .val (.v (.tup xs)) st) (hb : ∀ x : MV, fy (setE (wipeE ρ [i]) i x) st = .val (.v (.tup ys)) st) (hi : i < ρ.length) :
    fB tupleM (fCons (fLc [i] (iSeqT fx') (setN i) (fCmpT notInM (fVar i) fy) (fVar i)) fNil) ρ st = .val (.v (.tup (without xs ys))) st := by
  refine ev_B (ev_cons (ev_lc (γ := D) id (vs := [i]) xs (fun x => !(ys.any fun y => D.eqb y x)) id (ev_seqT (by rw [List.map_id]; exact ha)) hl fun x hxm => ⟨_, rfl, ?_⟩) ev_nil) ?_
  · have h6 : (setE (wipeE ρ [i]) i (.v x))[i]? = some (some (.m (.v x))) := by
      show ((ρ.set i none).set i (some (.m (.v x))))[i]? = _
      rw [List.getElem?_set_self (by rw [List.length_set]; exact hi)]
    exact ⟨ev_cmp (ev_var h6) (hb _) (notin_pts hx hy hxm (fx x hxm) _), fun _ => ev_var h6⟩
  · rw [List.map_id]
    rfl
theorem pts_len {n : Nat} {s : CS} (h : SpOk n s) : (ptsD n s).length ≤ 1000000 := by
  unfold ptsD
  rw [List.length_map]
  have := filter_len (fun r => decide (0 < at0 r 0)) (tyR n s)
  have := h.tn
  omega
theorem fits_up {xs : List D} {j : Nat} (h : xs.all (D.fits (j + 2)) = true) : True := trivial
theorem p_change (B : BodyAt c n m st jb t k E js A) {s0 : CS} (h0 : SpOk n s0) : F_Growing_change c [.obj jb, .v (.tup (ptsD n s0))] st = .val (.v (.tup [.tup (without (ptsD n (coneT n A.tb)) (ptsD n s0)), .tup (without (ptsD n s0) (ptsD n (coneT n A.tb)))])) st := by
  have f1 : ∀ s x, x ∈ ptsD n s → D.fits 20 x = true := fun s x hx => List.all_eq_true.mp (fits_pts 18 n s) x hx
  refine run_e (e_seq (st_asg (ev_sp1 B (ev_var rfl)) rfl) (e_seq (st_asg (ev_without (i := 4) (a := 0) (b := 0) (fits_pts 17 n _) (fits_pts 17 n s0) (f1 _) (pts_len B.sp) (ev_var rfl) (fun x => ev_var rfl) (by show 4 < 5; decide)) rfl) (e_rt (st_ret (ev_tup (ev_cons (ev_var rfl) (ev_cons (ev_without (i := 4) (a := 0) (b := 0) (fits_pts 17 n s0) (fits_pts 17 n _) (f1 _) (pts_len h0) (ev_var rfl) (fun x => ev_var rfl) (by show 4 < 5; decide)) ev_nil)) rfl)))))
end
end CD

set_option Elab.async false
set_option linter.all false
set_option maxRecDepth 100000
set_option maxHeartbeats 400000
namespace CD
open PySem PySem.Spec PyProof.Rows L2
/-! ### the plain level: walls put, taken, taken back -/
section
variable {ρ : Env} {st st1 st2 : List O} {c : Cs} {n m t k jb : Nat} {E : MV} {js : List Nat} {A : Abs} {tb : Tbl} {l : Nat}
theorem st_raise {nm : Str} (h : nm.length ≤ 1000) : sRaise (fC (.v (.str nm))) ρ st = .exc (.arg nm) st := by
  refine ev_bind (ev_c (x := .v (.str nm))) ?_
  show M.bind (M.of (if nm.length ≤ 1000 then some () else none)) (fun _ => M.thr (.arg nm)) st = _
  rw [if_pos h]
  rfl
theorem at_any {C : Addr} {nm : Str} {f : Env → M MV} {j : Nat} {o : List (Str × MV)} {y : MV} (hf : f ρ st = .val (.obj j) st) (hj : st[j]? = some (.ins C o)) (hl : o.lookup nm = some y) : fAttr C nm f ρ st = .val y st := ev_attr hf hj hl
theorem p_first_cone (h1 : 1 ≤ n) (h3 : n ≤ 3) {o : List (Str × MV)} (hj : st[jb]? = some (.ins c.Growing o)) (hl : o.lookup ("size" : Str) = some (MV.v (.int n))) : F_Growing_first_cone c [.obj jb] st = .val (.obj st.length) (st ++ [coneO c.Cone (coneT n [])]) := by
  have hjb := lt_of hj
  have hr : RowsK (n + 1) ([] ++ [firstRow n]) := rowsK (ws := []) h1 h3 (fun w h => nomatch h) (by simp)
  have h2 : (st ++ [coneO c.Cone (cone0 (n + 1))])[jb]? = some (.ins c.Growing o) := by rw [app_lt hjb]; exact hj
  refine run_e (e_seq (st_asg (ev_cone (d := n + 1) (by omega) (ev_cons (ev_suc (at_any (ev_var rfl) hj hl)) ev_nil)) rfl) (e_seq (st_drop (ev_meth (ev_var rfl) (get_last _ _) rfl (ev_cons (ev_first (at_any (ev_var rfl) h2 hl) h1 (by omega)) ev_nil) rfl (p_narrow (rows := []) hr (get_last _ _)))) ?_))
  rw [set_last]
  exact e_rt (st_ret (ev_var rfl))
theorem ex_size {i : Int} (h : ¬ (1 ≤ i ∧ i ≤ 4)) {j : Nat} : F_Growing___init__ c [.obj j, .v (.int i)] st = .exc (.arg "size") st := by
  refine run_ex (st_ex ((st_if1 (ev_or0 (ev_not (ev_test (ev_callP (ds := [.int i]) (ev_cons (ev_var rfl) ev_nil) rfl (p_int _ [])))) (ev_not (b := false) ?_)) (st_raise (by decide +kernel)))))
  by_cases q : 1 ≤ i
  · exact ev_ch ev_c (ev_var rfl) (by rw [le_i, decide_eq_true q]) ev_c (by rw [le_i, decide_eq_false (by omega)])
  · refine ev_bind ev_c (ev_bind (ev_var (x := .v (.int i)) rfl) (ev_bind (a := false) (st1 := st) ?_ rfl))
    simp only [M.rd, le_i, Option.bind_some]
    rw [decide_eq_false q]
    rfl
theorem p_ginit (h1 : 1 ≤ n) (h3 : n ≤ 3) (hj : st[jb]? = some (.ins c.Growing [])) : ∃ st', F_Growing___init__ c [.obj jb, .v (.int n)] st = .val (.v .non) st' ∧ BodyAt c n 0 st' jb st.length (st.length + 1) (.v (.lst [])) [] ⟨[], [], 0⟩ ∧ (∀ j, j < st.length → j ≠ jb → st'[j]? = st[j]?) ∧ st'.length = st.length + 2 := by
  have hjb := lt_of hj
  have e1 : ∀ o : O, (st.set jb o)[jb]? = some o := fun o => set_eq hjb
  -- the store behind size, table
  let o1 : List (Str × MV) := [("size", .v (.int n))]
  let o2 : List (Str × MV) := [("size", .v (.int n)), ("table", .obj st.length)]
  let o3 : List (Str × MV) := [("size", .v (.int n)), ("table", .obj st.length), ("last", .v (.int 0))]
  let o4 : List (Str × MV) := [("size", .v (.int n)), ("table", .obj st.length), ("last", .v (.int 0)), ("cone", .obj (st.length + 1))]
  have s2 : ∀ o o' : O, (st.set jb o ++ [O.dic []]).set jb o' = st.set jb o' ++ [O.dic []] := fun o o' => by
    rw [List.set_append_left _ _ (by rw [List.length_set]; exact hjb), List.set_set]
  have s3 : ∀ o o' x : O, (st.set jb o ++ [O.dic []] ++ [x]).set jb o' = st.set jb o' ++ [O.dic []] ++ [x] := fun o o' x => by
    rw [List.set_append_left _ _ (by simp; omega), s2]
  have g2 : ∀ o : O, (st.set jb o ++ [O.dic []])[jb]? = some o := fun o => by rw [app_lt (by rw [List.length_set]; exact hjb)]; exact e1 o
  have g3 : ∀ o x : O, (st.set jb o ++ [O.dic []] ++ [x])[jb]? = some o := fun o x => by rw [app_lt (by simp; omega)]; exact g2 o
  refine ⟨st.set jb (growO c.Growing n st.length (st.length + 1) 0 (.v (.lst []))) ++ [.dic []] ++ [coneO c.Cone (coneT n [])], ?_, ?_, ?_, by simp⟩
  · refine run_e (e_seq (st_if0 (ev_or0 (ev_not (ev_test (ev_callP (ds := [.int n]) (ev_cons (ev_var rfl) ev_nil) rfl (p_int _ [])))) (ev_not (b := true) (ev_ch ev_c (ev_var rfl) (by rw [le_i, decide_eq_true (by omega)]) ev_c (by rw [le_i, decide_eq_true (by omega)])))) rfl) ?_)
    refine e_seq (st_attr (ev_var rfl) (ev_var rfl) hj (by show 0 < 900; decide)) ?_
    refine e_seq (st_attr (y := .obj st.length) (st1 := st.set jb (.ins c.Growing o1) ++ [.dic []]) ?_ (ev_var rfl) (g2 _) (by show 1 < 900; decide)) ?_
    · show Out.val (MV.obj (st.set jb (.ins c.Growing o1)).length) (st.set jb (.ins c.Growing o1) ++ [.dic []]) = _
      rw [List.length_set]
    · rw [s2]
      refine e_seq (st_attr ev_c (ev_var rfl) (g2 _) (by show 2 < 900; decide)) ?_
      rw [s2]
      refine e_seq (st_attr (y := .obj (st.length + 1)) (st1 := st.set jb (.ins c.Growing o3) ++ [.dic []] ++ [coneO c.Cone (coneT n [])]) ?_ (ev_var rfl) (g3 _ _) (by show 3 < 900; decide)) ?_
      · refine ev_meth (ev_var rfl) (g2 (.ins c.Growing o3)) rfl ev_nil rfl ((p_first_cone h1 h3 (g2 (.ins c.Growing o3)) rfl).trans ?_)
        simp
      · rw [s3]
        refine e_nxs (st_attr (ev_lst ev_nil rfl) (ev_var rfl) (g3 _ _) (by show 4 < 900; decide)) ?_
        rw [s3]
        rfl
  · refine ⟨h1, h3, by decide, g3 _ _, ?_, ?_, .inr ⟨rfl, rfl⟩, rfl, ?_, ⟨List.Pairwise.nil, fun p h => (nomatch h), fun p h => (nomatch h), Nat.le_refl _⟩, fun tb h => (nomatch h), Nat.le_refl _⟩
    · rw [app_lt (by simp), List.getElem?_append_right (by simp)]
      simp
      rfl
    · rw [List.getElem?_append_right (by simp)]
      simp
    · have : jb ≠ st.length := by omega
      simp only [List.nodup_cons, List.mem_cons, List.not_mem_nil, or_false, not_false_eq_true, List.nodup_nil, and_true]
      omega
  · intro j h1 h2
    rw [app_lt (by simp; omega), app_lt (by simp; omega), set_ne h2]
theorem ev_grow {fs : Env → M (List MV)} (h1 : 1 ≤ n) (h3 : n ≤ 3) (h : fs ρ st = .val [.v (.int n)] st1) : ∃ st', fMake c.Growing 2 (F_Growing___init__ c) fs ρ st = .val (.obj st1.length) st' ∧ BodyAt c n 0 st' st1.length (st1.length + 1) (st1.length + 2) (.v (.lst [])) [] ⟨[], [], 0⟩ ∧ (∀ j, j < st1.length → st'[j]? = st1[j]?) ∧ st1.length ≤ st'.length := by
  obtain ⟨st', e, B, fr, hl⟩ := p_ginit (c := c) (st := st1 ++ [.ins c.Growing []]) (jb := st1.length) h1 h3 (get_last _ _)
  rw [List.length_append] at B
  refine ⟨st', ev_make h rfl e, B, fun j hj => ?_, by rw [hl]; simp; omega⟩
  rw [fr j (by simp; omega) (by omega), app_lt hj]
theorem BodyAt.mono {m' : Nat} (B : BodyAt c n m st jb t k E js A) (h : m ≤ m') (h' : m' ≤ 11) : BodyAt c n m' st jb t k E js A := ⟨B.n1, B.n3, h', B.ob, B.tab, B.cone, B.er, B.ers, B.nd, B.tok.mono h (Nat.le_refl _), fun tb ht => (B.eok tb ht).mono h (Nat.le_refl _), Nat.le_trans B.jl h⟩
theorem BodyAt.jlt (B : BodyAt c n m st jb t k E js A) : ∀ j ∈ js, j < st.length := fun j hj => by
  have e : st[j]? ∈ A.er.map fun tb => some (O.dic (tabK tb)) := by rw [← B.ers]; exact List.mem_map_of_mem hj
  obtain ⟨tb, _, e⟩ := List.mem_map.mp e
  exact lt_of e.symm
theorem BodyAt.slt (B : BodyAt c n m st jb t k E js A) : ∀ j ∈ jb :: t :: k :: js, j < st.length := fun j hj => by
  rcases List.mem_cons.mp hj with rfl | hj
  · exact lt_of B.ob
  rcases List.mem_cons.mp hj with rfl | hj
  · exact lt_of B.tab
  rcases List.mem_cons.mp hj with rfl | hj
  · exact lt_of B.cone
  · exact B.jlt j hj
/-- a body is seen alike in a store that has the same at its places -/
theorem BodyAt.same (B : BodyAt c n m st jb t k E js A) (h : ∀ j ∈ jb :: t :: k :: js, st1[j]? = st[j]?) : BodyAt c n m st1 jb t k E js A :=
  ⟨B.n1, B.n3, B.m11, (h jb (by simp)).trans B.ob, (h t (by simp)).trans B.tab, (h k (by simp)).trans B.cone, B.er, (List.map_congr_left fun j hj => h j (by simp [hj])).trans B.ers, B.nd, B.tok, B.eok, B.jl⟩
theorem add_er (B : BodyAt c n m st jb t k E js A) (st : List O) (x : Nat) : addM st E (.objs [x]) = some (.objs (js ++ [x])) := by
  have hl : js.length + [x].length ≤ 1000000 := by have := B.jl; have := B.m11; simp; omega
  rcases B.er with rfl | ⟨rfl, rfl⟩
  · show (if szOk (js.length + [x].length) = true then some (MV.objs (js ++ [x])) else none) = _
    rw [if_pos (by unfold szOk; exact decide_eq_true hl)]
  · rfl
theorem p_keep (B : BodyAt c n m st jb t k E js A) (hm : m + 1 ≤ 11) : ∃ st', F_Growing_keep c [.obj jb] st = .val (.v .non) st' ∧ BodyAt c n (m + 1) st' jb t k (.objs (js ++ [st.length])) (js ++ [st.length]) ⟨A.tb, A.er ++ [A.tb], A.last⟩ ∧ Fr (jb :: t :: k :: js) st st' (jb :: t :: k :: (js ++ [st.length])) := by
  have nd := B.nd
  simp only [List.nodup_cons, List.mem_cons, not_or] at nd
  obtain ⟨⟨n1, n2, n3⟩, ⟨n4, n5⟩, n6, n7⟩ := nd
  have hjb := lt_of B.ob
  have hs := B.slt
  have h1 : (st ++ [O.dic (tabK A.tb)])[jb]? = some (growO c.Growing n t k A.last E) := by rw [app_lt hjb]; exact B.ob
  refine ⟨(st ++ [O.dic (tabK A.tb)]).set jb (growO c.Growing n t k A.last (.objs (js ++ [st.length]))), ?_, ?_, ?_⟩
  · refine run_e (e_nxs (st_attr (y := .objs (js ++ [st.length])) (st1 := st ++ [O.dic (tabK A.tb)]) (ev_bin (at_er (ev_var rfl) B.ob) (ev_lst (ev_cons (x := .obj st.length) (st1 := st ++ [O.dic (tabK A.tb)]) (ev_bind (ev_cons (at_tab (ev_var rfl) B.ob) ev_nil) (ev_bind (a := tabK A.tb) (st1 := st) ?_ rfl)) ev_nil) rfl) (add_er B _ _)) (ev_var rfl) h1 (by show 5 < 900; decide)) rfl)
    simp only [M.rd, dictSrc, B.tab]
  · have old : ∀ j ∈ t :: k :: js, ((st ++ [O.dic (tabK A.tb)]).set jb (growO c.Growing n t k A.last (.objs (js ++ [st.length]))))[j]? = st[j]? := fun j hj => by
      have hlt := hs j (List.mem_cons_of_mem _ hj)
      have hne : j ≠ jb := by
        rintro rfl
        rcases List.mem_cons.mp hj with h | h
        · exact n1 h
        · rcases List.mem_cons.mp h with h | h
          · exact n2 h
          · exact n3 h
      rw [set_ne hne, app_lt hlt]
    refine ⟨B.n1, B.n3, hm, set_eq (by simp; omega), (old t (by simp)).trans B.tab, (old k (by simp)).trans B.cone, .inl rfl, ?_, ?_, B.tok.mono (by omega) (Nat.le_refl _), fun tb ht => ?_, by have := B.jl; simp; omega⟩
    · rw [List.map_append, List.map_append, ← B.ers]
      congr 1
      · exact List.map_congr_left fun j hj => old j (by simp [hj])
      · show [((st ++ [O.dic (tabK A.tb)]).set jb _)[st.length]?] = _
        rw [set_ne (by omega), get_last]
        rfl
    · have e : jb :: t :: k :: (js ++ [st.length]) = (jb :: t :: k :: js) ++ [st.length] := rfl
      rw [e, List.nodup_append]
      refine ⟨B.nd, by simp, fun a ha b hb => ?_⟩
      rw [List.mem_singleton.mp hb]
      have := hs a ha
      omega
    · rcases List.mem_append.mp ht with ht | ht
      · exact (B.eok tb ht).mono (by omega) (Nat.le_refl _)
      · rw [List.mem_singleton.mp ht]; exact B.tok.mono (by omega) (Nat.le_refl _)
  · refine ⟨fun j hj hn => ?_, by simp, fun j hj => ?_⟩
    · rw [set_ne (fun z => hn (by simp [z])), app_lt hj]
    · have e : jb :: t :: k :: (js ++ [st.length]) = (jb :: t :: k :: js) ++ [st.length] := rfl
      rw [e] at hj
      rcases List.mem_append.mp hj with h | h
      · exact .inl h
      · rw [List.mem_singleton.mp h]; exact .inr (Nat.le_refl _)
theorem st_putD {fo fi fv : Env → M MV} {j : Nat} {kvs : List (L2.Key × D)} {i : Int} {d : D} (hv : fv ρ st = .val (.v d) st) (ho : fo ρ st = .val (.obj j) st) (hi : fi ρ st = .val (.v (.int i)) st) (hj : st[j]? = some (.dic kvs)) (hl : kvs.length + 1 ≤ 1000000) : sPutD fo fi fv ρ st = .val (.nx ρ) (st.set j (.dic (putKD kvs (.inl i) d))) := by
  refine ev_bind hv (ev_bind ho (ev_bind hi (ev_bind (a := (j, kvs, (.inl i : L2.Key), d)) (st1 := st) ?_ ?_)))
  · simp only [M.rd, hj, asD, dKey, Option.map_some]
  · refine ev_bind (a := ()) (st1 := st) ?_ rfl
    rw [if_pos (by unfold szOk; exact decide_eq_true hl)]
    rfl
theorem walls_app (tb : Tbl) (i : Nat) (w : Wall) : wallsOf (tb ++ [(i, w)]) = wallsOf tb ++ [w] := by unfold wallsOf; rw [List.map_append]; rfl
theorem rows_app (n : Nat) (ws : List Wall) (w : Wall) : rowsOf n (ws ++ [w]) = rowsOf n ws ++ [wallRow w] := by unfold rowsOf; rw [List.map_append]; rfl
theorem tab_len (tb : Tbl) : (tabK tb).length = tb.length := List.length_map _
theorem set_lastF (C : Addr) (n t k l : Nat) (E : MV) : O.ins C (putA "last" (.v (.int ((l : Int) + 1))) [("size", .v (.int n)), ("table", .obj t), ("last", .v (.int l)), ("cone", .obj k), ("earlier", E)]) = growO C n t k (l + 1) E := rfl
/-- what came, what went -/
def chgD (n : Nat) (a b : Tbl) : List D := [.tup (without (ptsD n (coneT n b)) (ptsD n (coneT n a))), .tup (without (ptsD n (coneT n a)) (ptsD n (coneT n b)))]
theorem p_put (B : BodyAt c n m st jb t k E js A) (hm : m + 1 ≤ 11) {w : Wall} (hw : WallOk n w) : ∃ st', F_Growing_put c [.obj jb, .v (wI w)] st = .val (.v (.tup (.int ((A.last + 1 : Nat) : Int) :: chgD n A.tb (A.tb ++ [(A.last + 1, w)])))) st' ∧
    BodyAt c n (m + 1) st' jb t k (.objs (js ++ [st.length])) (js ++ [st.length]) ⟨A.tb ++ [(A.last + 1, w)], A.er ++ [A.tb], A.last + 1⟩ ∧ Fr (jb :: t :: k :: js) st st' (jb :: t :: k :: (js ++ [st.length])) := by
  obtain ⟨st1, e1, B1, F1⟩ := p_keep B hm
  have nd := B1.nd
  have nd0 := nd
  simp only [List.nodup_cons, List.mem_cons, not_or] at nd
  obtain ⟨⟨n1, n2, n3⟩, ⟨n4, n5⟩, n6, n7⟩ := nd
  have hs := B1.slt
  have l1 := hs jb (by simp)
  have l2 := hs t (by simp)
  have l3 := hs k (by simp)
  generalize hE : (MV.objs (js ++ [st.length])) = E' at B1
  have n3w := B.n3
  -- last, the table, the cone
  have b2 : (st1.set jb (growO c.Growing n t k (A.last + 1) E'))[jb]? = some (growO c.Growing n t k (A.last + 1) E') := set_eq l1
  have t2 : (st1.set jb (growO c.Growing n t k (A.last + 1) E'))[t]? = some (.dic (tabK A.tb)) := by rw [set_ne (fun z => n1 z.symm)]; exact B1.tab
  generalize h2 : st1.set jb (growO c.Growing n t k (A.last + 1) E') = st2 at b2 t2
  have len2 : st2.length = st1.length := by rw [← h2, List.length_set]
  have b3 : (st2.set t (.dic (tabK (A.tb ++ [(A.last + 1, w)]))))[jb]? = some (growO c.Growing n t k (A.last + 1) E') := by rw [set_ne n1]; exact b2
  have c3 : (st2.set t (.dic (tabK (A.tb ++ [(A.last + 1, w)]))))[k]? = some (coneO c.Cone (coneT n A.tb)) := by rw [set_ne (fun z => n4 z.symm), ← h2, set_ne (fun z => n2 z.symm)]; exact B1.cone
  generalize h3 : st2.set t (.dic (tabK (A.tb ++ [(A.last + 1, w)]))) = st3 at b3 c3
  have len3 : st3.length = st1.length := by rw [← h3, List.length_set, len2]
  have hrk : RowsK (n + 1) (rowsOf n (wallsOf A.tb) ++ [wallRow w]) := by
    rw [← rows_app, ← walls_app _ (A.last + 1)]
    exact rowsK B.n1 B.n3 (B.tok.put hw).walls (Nat.le_trans (B.tok.put hw).wl hm)
  have eC : coneOf (n + 1) (rowsOf n (wallsOf A.tb) ++ [wallRow w]) = coneT n (A.tb ++ [(A.last + 1, w)]) := by unfold coneT; rw [walls_app, rows_app]
  have nar := p_narrow (c := c) hrk c3
  rw [eC] at nar
  have old : ∀ j ∈ js ++ [st.length], (st3.set k (coneO c.Cone (coneT n (A.tb ++ [(A.last + 1, w)]))))[j]? = st1[j]? := fun j hj => by
    have a1 : j ≠ jb := by rintro rfl; exact n3 hj
    have a2 : j ≠ t := by rintro rfl; exact n5 hj
    have a3 : j ≠ k := by rintro rfl; exact n6 hj
    rw [set_ne a3, ← h3, set_ne a2, ← h2, set_ne a1]
  have B4 : BodyAt c n (m + 1) (st3.set k (coneO c.Cone (coneT n (A.tb ++ [(A.last + 1, w)])))) jb t k E' (js ++ [st.length]) ⟨A.tb ++ [(A.last + 1, w)], A.er ++ [A.tb], A.last + 1⟩ := by
    refine ⟨B.n1, B.n3, hm, ?_, ?_, set_eq (by omega), B1.er, (List.map_congr_left old).trans B1.ers, nd0, B.tok.put hw, fun tb ht => (B1.eok tb ht).mono (Nat.le_refl _) (by show A.last ≤ A.last + 1; omega), B1.jl⟩
    · rw [set_ne n2]; exact b3
    · rw [set_ne n4, ← h3]; exact set_eq (by omega)
  refine ⟨st3.set k (coneO c.Cone (coneT n (A.tb ++ [(A.last + 1, w)]))), ?_, B4, F1.trans ⟨fun j hj hn => ?_, by rw [List.length_set]; omega, fun j hj => .inl hj⟩⟩
  · have wall : fCallP 2 F_is_wall_of (fCons (fVar 1) (fCons (fAttr c.Growing "size" (fVar 0)) fNil)) (startE 3 [.obj jb, .v (wI w)]) st = .val (.v (.bl true)) st := ev_callP (ds := [wI w, .int n]) (ev_cons (ev_var rfl) (ev_cons (at_size (ev_var rfl) B.ob) ev_nil)) rfl (p_is_wall_of hw (by omega) [])
    have len : fCmpT eqM (fB lenM (fCons (fAttr c.Growing "table" (fVar 0)) fNil)) (fC (.v (.int 100))) (startE 3 [.obj jb, .v (wI w)]) st = .val false st := ev_cmp (ev_B (xs := [.obj t]) (y := .v (.int (A.tb.length : Nat))) (ev_cons (at_tab (ev_var rfl) B.ob) ev_nil) (by simp only [lenM, B.tab, tab_len])) ev_c (by rw [eq_i, beq_eq_false_iff_ne.mpr (by have := B.tok.len; omega)])
    refine run_e (e_seq (st_if0 (ev_or0 (ev_not (ev_test wall)) len) rfl) (e_seq (st_asg (ev_sp1 B (ev_var rfl)) rfl) (e_seq (st_drop (ev_meth (ev_var rfl) B.ob rfl ev_nil rfl e1)) ?_)))
    refine e_seq (st_aug (ev_var rfl) B1.ob rfl ev_c (by show 5 < 900; decide)) ?_
    rw [set_lastF, h2]
    refine e_seq (st_putD (ev_var rfl) (at_tab (ev_var rfl) b2) (at_last (ev_var rfl) b2) t2 (by rw [tab_len]; have := B.tok.len; omega)) ?_
    rw [put_tab (fun p hp => (B.tok.rg p hp).2), h3]
    refine e_seq (st_drop (ev_meth (at_cone (ev_var rfl) b3) c3 rfl (ev_cons (ev_wallR (w := w) (n := n) (ev_bin (ev_var rfl) ev_c (ix_t1 _ _ _ _)) (ev_bin (ev_var rfl) ev_c (ix_t0 _ _ _)) (by rw [hw.len]; omega)) ev_nil) rfl nar)) ?_
    refine e_rt (st_ret (ev_bin (ev_tup (ev_cons (at_last (ev_var rfl) B4.ob) ev_nil) rfl) (ev_meth (ev_var rfl) B4.ob rfl (ev_cons (ev_var rfl) ev_nil) rfl (p_change B4 B.sp)) ((add_t _ _ (by simp) _).trans rfl)))
  · rw [set_ne (fun z => hn (by simp [z])), ← h3, set_ne (fun z => hn (by simp [z])), ← h2, set_ne (fun z => hn (by simp [z]))]
end
end CD

set_option Elab.async false
set_option linter.all false
set_option maxRecDepth 100000
set_option maxHeartbeats 400000
namespace CD
open PySem PySem.Spec PyProof.Rows L2
/-! ### the plain level: from the start again, taken, taken back -/
section
variable {ρ : Env} {st st1 st2 : List O} {c : Cs} {n m t k jb : Nat} {E : MV} {js : List Nat} {A : Abs} {tb : Tbl} {l : Nat}
theorem ev_new {C : Addr} {mth : Str} {F : List MV → M MV} {fo : Env → M MV} {j : Nat} {o : List (Str × MV)} {r : Out MV} (ho : fo ρ st = .val (.obj j) st) (hj : st[j]? = some (.ins C o)) (hm : o.lookup mth = none) (hF : F [.obj j] st = r) : fMeth C mth 1 F fo fNil ρ st = r := ev_meth ho hj hm ev_nil rfl hF
theorem set_app {i : Nat} {o : O} {os : List O} (h : i < st.length) : (st ++ os).set i o = st.set i o ++ os := List.set_append_left _ _ h
theorem set_tabF (C : Addr) (n t t' k l : Nat) (E : MV) : O.ins C (putA "table" (.obj t') [("size", .v (.int n)), ("table", .obj t), ("last", .v (.int l)), ("cone", .obj k), ("earlier", E)]) = growO C n t' k l E := rfl
theorem set_coneF (C : Addr) (n t k k' l : Nat) (E : MV) : O.ins C (putA "cone" (.obj k') [("size", .v (.int n)), ("table", .obj t), ("last", .v (.int l)), ("cone", .obj k), ("earlier", E)]) = growO C n t k' l E := rfl
theorem set_erF (C : Addr) (n t k l : Nat) (E E' : MV) : O.ins C (putA "earlier" E' [("size", .v (.int n)), ("table", .obj t), ("last", .v (.int l)), ("cone", .obj k), ("earlier", E)]) = growO C n t k l E' := rfl
theorem p_again {t' : Nat} (h1 : 1 ≤ n) (h3 : n ≤ 3) (hj : st[jb]? = some (growO c.Growing n t k l E)) (ht : st[t']? = some (.dic (tabK tb))) (hne : t' ≠ jb) (hk : TbOk n m l tb) (hm : m ≤ 11) :
    F_Growing_again c [.obj jb, .obj t'] st = .val (.v .non) (st.set jb (growO c.Growing n t' st.length l E) ++ [coneO c.Cone (coneT n tb)]) := by
  have hjb := lt_of hj
  have htl := lt_of ht
  have g1 : (st.set jb (growO c.Growing n t' k l E))[jb]? = some (growO c.Growing n t' k l E) := set_eq hjb
  have g2 : ∀ x : O, (st.set jb (growO c.Growing n t' k l E) ++ [x])[jb]? = some (growO c.Growing n t' k l E) := fun x => by rw [app_lt (by rw [List.length_set]; exact hjb)]; exact g1
  have g3 : ∀ x : O, (st.set jb (growO c.Growing n t' st.length l E) ++ [x])[jb]? = some (growO c.Growing n t' st.length l E) := fun x => by rw [app_lt (by rw [List.length_set]; exact hjb)]; exact set_eq hjb
  have tt : ∀ x : O, (st.set jb (growO c.Growing n t' st.length l E) ++ [x])[t']? = some (.dic (tabK tb)) := fun x => by rw [app_lt (by rw [List.length_set]; exact htl), set_ne hne]; exact ht
  have ck : ∀ x : O, (st.set jb (growO c.Growing n t' st.length l E) ++ [x])[st.length]? = some x := fun x => by
    have := get_last (st.set jb (growO c.Growing n t' st.length l E)) x
    rw [List.length_set] at this
    exact this
  have sk : ∀ x y : O, (st.set jb (growO c.Growing n t' st.length l E) ++ [x]).set st.length y = st.set jb (growO c.Growing n t' st.length l E) ++ [y] := fun x y => by
    have := set_last (st.set jb (growO c.Growing n t' st.length l E)) x y
    rw [List.length_set] at this
    exact this
  refine run_e (e_seq (st_attr (ev_var rfl) (ev_var rfl) hj (by show 5 < 900; decide)) ?_)
  rw [set_tabF]
  have fc := p_first_cone (c := c) (st := st.set jb (growO c.Growing n t' k l E)) (jb := jb) h1 h3 g1 rfl
  rw [List.length_set] at fc
  refine e_seq (st_attr (y := .obj st.length) (st1 := st.set jb (growO c.Growing n t' k l E) ++ [coneO c.Cone (coneT n [])]) (ev_new (ev_var rfl) g1 rfl fc) (ev_var rfl) (g2 _) (by show 5 < 900; decide)) ?_
  rw [set_coneF, set_app (by rw [List.length_set]; exact hjb), List.set_set]
  refine e_forL (fun p : Nat × Wall => cI p.1) (fun pre ρ st' => st' = st.set jb (growO c.Growing n t' st.length l E) ++ [coneO c.Cone (coneT n pre)] ∧ ∃ s2 s3 s4, ρ = [some (.m (.obj jb)), some (.m (.obj t')), s2, s3, s4]) tb (ev_seqL (ev_B (ev_cons (ev_var rfl) ev_nil) ?_)) ?_ ⟨rfl, none, none, none, rfl⟩ (fun ρ' st' h => h.1)
  · rw [sort_tab (tt _) hk hm]
    unfold keysOf
    rw [List.map_map]
    rfl
  · rintro pre p post ρ st' e ⟨rfl, s2, s3, s4, rfl⟩
    have hp : p ∈ tb := by rw [e]; simp
    have hw := hk.ok p hp
    have hrk : RowsK (n + 1) (rowsOf n (wallsOf pre) ++ [wallRow p.2]) := by
      have h0 := rowsK h1 h3 hk.walls (Nat.le_trans hk.wl hm)
      rw [e, show pre ++ p :: post = (pre ++ [p]) ++ post from by simp] at h0
      unfold wallsOf rowsOf at h0
      rw [List.map_append, List.map_append, List.map_append, List.map_append] at h0
      exact RowsK.left (post := (post.map fun p => p.2).map wallRow) (by unfold rowsOf wallsOf; exact h0)
    have eC : coneOf (n + 1) (rowsOf n (wallsOf pre) ++ [wallRow p.2]) = coneT n (pre ++ [p]) := by
      unfold coneT
      rw [show pre ++ [p] = pre ++ [(p.1, p.2)] from rfl, walls_app, rows_app]
    have nar := p_narrow (c := c) hrk (ck (coneO c.Cone (coneT n pre)))
    rw [eC, sk] at nar
    exact ⟨_, _, _, rfl, st_nx (st_asg (ev_bin (ev_var rfl) (ev_var rfl) (ix_tab (tt _) hk hp)) rfl) (st_drop (ev_meth (at_cone (ev_var rfl) (g3 _)) (ck _) rfl (ev_cons (ev_wallR (w := p.2) (n := n) (ev_var rfl) (ev_var rfl) (by rw [hw.len]; omega)) ev_nil) rfl nar)), rfl, some (.m (.v (cI p.1))), some (.m (vI p.2.1)), some (.m (.v (.int p.2.2))), rfl⟩
/-- what again makes of a body -/
theorem BodyAt.again {t' : Nat} {m' : Nat} (B : BodyAt c n m st jb t k E js A) {E' : MV} {js' : List Nat} {A' : Abs} {stA : List O} (hlen : st.length ≤ stA.length) (hl : A'.last = A.last) (hm' : m' ≤ 11) (hjb : stA[jb]? = some (growO c.Growing n t k A.last E')) (ht : stA[t']? = some (.dic (tabK A'.tb))) (hk : TbOk n m' A'.last A'.tb) (hne : t' ≠ jb)
    (her : E' = .objs js' ∨ (js' = [] ∧ E' = .v (.lst []))) (hers : (js'.map fun j => stA[j]?) = A'.er.map fun tb => some (O.dic (tabK tb))) (heok : ∀ tb ∈ A'.er, TbOk n m' A'.last tb) (hjl : js'.length ≤ m') (hnd : (jb :: t' :: js').Nodup) :
    F_Growing_again c [.obj jb, .obj t'] stA = .val (.v .non) (stA.set jb (growO c.Growing n t' stA.length A'.last E') ++ [coneO c.Cone (coneT n A'.tb)]) ∧ BodyAt c n m' (stA.set jb (growO c.Growing n t' stA.length A'.last E') ++ [coneO c.Cone (coneT n A'.tb)]) jb t' stA.length E' js' A' := by
  have l1 := lt_of hjb
  have l2 := lt_of ht
  have hjs : ∀ j ∈ js', j < stA.length := fun j hj => by
    have e : stA[j]? ∈ A'.er.map fun tb => some (O.dic (tabK tb)) := by rw [← hers]; exact List.mem_map_of_mem hj
    obtain ⟨tb, _, e⟩ := List.mem_map.mp e
    exact lt_of e.symm
  have nd := hnd
  simp only [List.nodup_cons, List.mem_cons, not_or] at nd
  refine ⟨by rw [hl]; exact p_again B.n1 B.n3 hjb ht hne (hl ▸ hk) hm', B.n1, B.n3, hm', ?_, ?_, ?_, her, ?_, ?_, hk, heok, hjl⟩
  · rw [app_lt (by rw [List.length_set]; exact l1)]; exact set_eq l1
  · rw [app_lt (by rw [List.length_set]; exact l2), set_ne hne]; exact ht
  · have := get_last (stA.set jb (growO c.Growing n t' stA.length A'.last E')) (coneO c.Cone (coneT n A'.tb))
    rw [List.length_set] at this
    exact this
  · refine Eq.trans (List.map_congr_left fun j hj => ?_) hers
    rw [app_lt (by rw [List.length_set]; exact hjs j hj), set_ne (by rintro rfl; exact nd.1.2 hj)]
  · simp only [List.nodup_cons, List.mem_cons, not_or]
    exact ⟨⟨nd.1.1, by omega, nd.1.2⟩, ⟨by omega, nd.2.1⟩, fun h => by have := hjs _ h; omega, nd.2.2⟩
theorem pairs_tab : ∀ tb : Tbl, pairsK (tb.map fun p => D.tup [cI p.1, wI p.2]) = some (tabK tb)
  | [] => rfl
  | p :: tb => by
    rw [List.map_cons]
    show (match dKey (cI p.1), pairsK (tb.map fun p => D.tup [cI p.1, wI p.2]) with
      | some k, some l => some ((k, wI p.2) :: l)
      | _, _ => none) = _
    rw [pairs_tab tb]
    rfl
theorem merge_tab : ∀ (tb acc : Tbl), (acc ++ tb).Pairwise (fun a b => a.1 < b.1) → mergeKD (tabK acc) (tabK tb) = tabK (acc ++ tb)
  | [], acc, _ => by rw [List.append_nil]; rfl
  | p :: tb, acc, h => by
    have e : putKD (tabK acc) (.inl (p.1 : Int)) (wI p.2) = tabK (acc ++ [p]) := by
      unfold putKD
      rw [if_neg]
      · unfold tabK
        rw [List.map_append]
        rfl
      · intro z
        obtain ⟨q, hq, e⟩ := List.any_eq_true.mp z
        obtain ⟨a, ha, rfl⟩ := List.mem_map.mp hq
        have e := of_decide_eq_true e
        injection e with e
        have := (List.pairwise_append.mp h).2.2 a ha p List.mem_cons_self
        omega
    have ih := merge_tab tb (acc ++ [p]) (by rw [List.append_assoc]; exact h)
    rw [← e, List.append_assoc] at ih
    exact ih
theorem set_self {j : Nat} {o : O} (h : st[j]? = some o) : st.set j o = st := by
  apply List.ext_getElem?
  intro i
  by_cases z : i = j
  · rw [z, set_eq (lt_of h), h]
  · rw [set_ne z]
/-- dict([(own, table[own]) for own in table if own != number]) -/
theorem ev_less {i : Nat} {ft fn : Env → M MV} {q : Nat} (h : TbOk n m l tb) (hm : m ≤ 11) (ht : st[t]? = some (.dic (tabK tb)))
    (hf : ∀ ρ' : Env, ∀ x : O, ρ'[0]? = ρ[0]? → (∀ j, j ≠ i → ρ'[j]? = ρ[j]?) → ft ρ' (st.set t x) = .val (.obj t) (st.set t x)) (hf0 : ft ρ st = .val (.obj t) st) (hn : ∀ ρ' : Env, ∀ st', (∀ j, j ≠ i → ρ'[j]? = ρ[j]?) → fn ρ' st' = .val (.v (cI q)) st') (hi : i < ρ.length) (hi0 : i ≠ 0) :
    fDictO (fCons (fLockE ft (fLc [i] (iKeyO ft) (setN i) (fCmpT neM (fVar i) fn) (fTup (fCons (fVar i) (fCons (fBin ixM ft (fVar i)) fNil))))) fNil) ρ st = .val (.obj st.length) (st ++ [.dic (tabK (tb.filter fun p => decide (p.1 ≠ q)))]) := by
  have htl := lt_of ht
  have gL : (st.set t (.dicL (tabK tb)))[t]? = some (.dicL (tabK tb)) := set_eq htl
  have lc : fLc [i] (iKeyO ft) (setN i) (fCmpT neM (fVar i) fn) (fTup (fCons (fVar i) (fCons (fBin ixM ft (fVar i)) fNil))) ρ (st.set t (.dicL (tabK tb))) = .val (.v (.lst ((tb.filter fun p => decide (p.1 ≠ q)).map fun p => D.tup [cI p.1, wI p.2]))) (st.set t (.dicL (tabK tb))) := by
    refine ev_lc (fun p : Nat × Wall => cI p.1) tb (fun p => decide (p.1 ≠ q)) (fun p => D.tup [cI p.1, wI p.2]) (ev_bind (hf ρ _ rfl fun _ _ => rfl) ?_) (by have := h.len; omega) fun p hp => ⟨_, rfl, ?_⟩
    · simp only [M.rd, gL]
      unfold tabK
      rw [List.map_map]
      rfl
    · have h6 : (setE (wipeE ρ [i]) i (.v (cI p.1)))[i]? = some (some (.m (.v (cI p.1)))) := by
        show ((ρ.set i none).set i (some (.m (.v (cI p.1)))))[i]? = _
        rw [List.getElem?_set_self (by rw [List.length_set]; exact hi)]
      have ho : ∀ j, j ≠ i → (setE (wipeE ρ [i]) i (.v (cI p.1)))[j]? = ρ[j]? := fun j hj => by
        show ((ρ.set i none).set i (some (.m (.v (cI p.1)))))[j]? = _
        rw [List.getElem?_set_ne (fun z => hj z.symm), List.getElem?_set_ne (fun z => hj z.symm)]
      refine ⟨ev_cmp (ev_var h6) (hn _ _ ho) ?_, fun _ => ev_tup (ev_cons (ev_var h6) (ev_cons (ev_bin (hf _ _ (ho 0 (fun z => hi0 z.symm)) ho) (ev_var h6) (ix_tabL gL h hp)) ev_nil)) rfl⟩
      show neM _ (.v (.int p.1)) (.v (.int q)) = _
      rw [ne_i]
      congr 3
      by_cases z : p.1 = q
      · rw [z]; simp
      · rw [decide_eq_true z, beq_eq_false_iff_ne.mpr (by exact_mod_cast z)]; rfl
  have lk : fLockE ft (fLc [i] (iKeyO ft) (setN i) (fCmpT neM (fVar i) fn) (fTup (fCons (fVar i) (fCons (fBin ixM ft (fVar i)) fNil)))) ρ st = .val (.v (.lst ((tb.filter fun p => decide (p.1 ≠ q)).map fun p => D.tup [cI p.1, wI p.2]))) st := by
    unfold fLockE
    rw [hf0]
    simp only [ht, lc]
    rw [List.set_set, set_self ht]
  refine ev_bind (ev_cons lk ev_nil) (ev_bind (a := tabK (tb.filter fun p => decide (p.1 ≠ q))) (st1 := st) ?_ rfl)
  have hz : szOk ((tb.filter fun p => decide (p.1 ≠ q)).map fun p => D.tup [cI p.1, wI p.2]).length = true := by
    unfold szOk
    rw [List.length_map]
    have := h.len
    have := filter_len (fun p => decide (p.1 ≠ q)) tb
    exact decide_eq_true (by omega)
  simp only [M.rd, dictSrc, hz, if_true, pairs_tab, Option.map_some]
  have := merge_tab (tb.filter fun p => decide (p.1 ≠ q)) [] (h.inc.sublist List.filter_sublist)
  rw [List.nil_append] at this
  exact congrArg (fun z => Out.val z st) this
theorem has_tab : ∀ (tb : Tbl) (i : Int), hasK (tabK tb) (.inl i : L2.Key) = tb.any fun p => decide ((p.1 : Int) = i)
  | [], i => rfl
  | p :: tb, i => by
    rw [List.any_cons, ← has_tab tb i]
    unfold hasK
    show (if (.inl (p.1 : Int) : L2.Key) = .inl i then some (wI p.2) else getK (tabK tb) (.inl i)).isSome = _
    by_cases z : (p.1 : Int) = i
    · rw [if_pos (by rw [z]), decide_eq_true z]; rfl
    · rw [if_neg (fun e => by injection e with e; exact z e), decide_eq_false z, Bool.false_or]
theorem notin_tab {st : List O} {t : Nat} (ht : st[t]? = some (.dic (tabK tb))) (i : Int) : notInM st (.v (.int i)) (.obj t) = some (.v (.bl (!(tb.any fun p => decide ((p.1 : Int) = i))))) := by
  simp only [notInM, isIn, ht, dKey, Option.map_some, has_tab]
def lessT (tb : Tbl) (q : Nat) : Tbl := tb.filter fun p => decide (p.1 ≠ q)
theorem p_take (B : BodyAt c n m st jb t k E js A) (hm : m + 1 ≤ 11) {q : Nat} (hq : q ∈ keysOf A.tb) : ∃ st' t' k', F_Growing_take c [.obj jb, .v (cI q)] st = .val (.v (.tup (chgD n A.tb (lessT A.tb q)))) st' ∧
    BodyAt c n (m + 1) st' jb t' k' (.objs (js ++ [st.length])) (js ++ [st.length]) ⟨lessT A.tb q, A.er ++ [A.tb], A.last⟩ ∧ Fr (jb :: t :: k :: js) st st' (jb :: t' :: k' :: (js ++ [st.length])) := by
  obtain ⟨st1, e1, B1, F1⟩ := p_keep B hm
  have nd := B1.nd
  simp only [List.nodup_cons, List.mem_cons, not_or] at nd
  obtain ⟨⟨n1, n2, n3⟩, ⟨n4, n5⟩, n6, n7⟩ := nd
  have hs := B1.slt
  have l1 := hs jb (by simp)
  have l2 := hs t (by simp)
  generalize hE : (MV.objs (js ++ [st.length])) = E' at B1
  have b2 : (st1 ++ [O.dic (tabK (lessT A.tb q))])[jb]? = some (growO c.Growing n t k A.last E') := by rw [app_lt l1]; exact B1.ob
  have t2 : (st1 ++ [O.dic (tabK (lessT A.tb q))])[st1.length]? = some (.dic (tabK (lessT A.tb q))) := get_last _ _
  obtain ⟨e3, B3⟩ := B1.again (t' := st1.length) (m' := m + 1) (E' := E') (js' := js ++ [st.length]) (A' := ⟨lessT A.tb q, A.er ++ [A.tb], A.last⟩) (stA := st1 ++ [O.dic (tabK (lessT A.tb q))]) (by simp) rfl hm b2 t2 (B1.tok.filter _) (by omega) B1.er ((List.map_congr_left fun j hj => app_lt (hs j (by simp [hj]))).trans B1.ers) B1.eok B1.jl (by
    simp only [List.nodup_cons, List.mem_cons, not_or]
    exact ⟨⟨by omega, n3⟩, fun h => by have := hs _ (List.mem_cons_of_mem _ (List.mem_cons_of_mem _ (List.mem_cons_of_mem _ h))); omega, n7⟩)
  have any1 : (A.tb.any fun p => decide ((p.1 : Int) = (q : Int))) = true := by
    obtain ⟨p, hp, e⟩ := List.mem_map.mp hq
    exact List.any_eq_true.mpr ⟨p, hp, decide_eq_true (by omega)⟩
  refine ⟨_, st1.length, (st1 ++ [O.dic (tabK (lessT A.tb q))]).length, ?_, B3, F1.trans ⟨fun j hj hn => ?_, by simp; omega, fun j hj => ?_⟩⟩
  · refine run_e (e_seq (st_if0 (ev_or0 (ev_not (ev_test (ev_callP (ds := [cI q]) (ev_cons (ev_var rfl) ev_nil) rfl (p_int _ [])))) (ev_cmp (ev_var rfl) (at_tab (ev_var rfl) B.ob) (by rw [show (MV.v (cI q)) = .v (.int q) from rfl, notin_tab B.tab, any1]; rfl))) rfl) (e_seq (st_asg (ev_sp1 B (ev_var rfl)) rfl) (e_seq (st_drop (ev_meth (ev_var rfl) B.ob rfl ev_nil rfl e1)) (e_seq (st_drop (ev_meth (ms := [.obj st1.length]) (st1 := st1 ++ [O.dic (tabK (lessT A.tb q))]) (ev_var rfl) B1.ob rfl (ev_cons (x := .obj st1.length) (st1 := st1 ++ [O.dic (tabK (lessT A.tb q))]) ?_ ev_nil) rfl e3)) ?_))))
    · refine ev_less (i := 3) B1.tok hm B1.tab (fun ρ' x h0 _ => at_tab (ev_var (h0.trans rfl)) (by rw [set_ne n1]; exact B1.ob)) (at_tab (ev_var rfl) B1.ob) (fun ρ' st' h => ev_var ((h 1 (by decide)).trans rfl)) (by show 3 < 4; decide) (by decide)
    · exact e_rt (st_ret (ev_meth (ev_var rfl) B3.ob rfl (ev_cons (ev_var rfl) ev_nil) rfl (p_change B3 B.sp)))
  · rw [app_lt (by simp; omega), set_ne (fun z => hn (by simp [z])), app_lt hj]
  · rcases List.mem_cons.mp hj with h | hj
    · exact .inl (by simp [h])
    rcases List.mem_cons.mp hj with h | hj
    · exact .inr (by omega)
    rcases List.mem_cons.mp hj with h | hj
    · exact .inr (by rw [h]; simp)
    · exact .inl (by simp only [List.mem_cons]; exact .inr (.inr (.inr hj)))
/-- taken back where nothing was done -/
theorem p_undo0 (B : BodyAt c n m st jb t k E js A) (he : A.er = []) : F_Growing_undo c [.obj jb] st = .val (.v (.bl false)) st := by
  have hj : js = [] := by
    have := congrArg List.length B.ers
    rw [he] at this
    simpa using this
  have len : fB lenM (fCons (fAttr c.Growing "earlier" (fVar 0)) fNil) (startE 2 [.obj jb]) st = .val (.v (.int 0)) st := by
    refine ev_B (ev_cons (at_er (ev_var rfl) B.ob) ev_nil) ?_
    rcases B.er with h | ⟨_, h⟩
    · rw [h, hj]; rfl
    · rw [h]; rfl
  exact run_e (e_rt (st_rt (st_if1 (ev_cmp len ev_c rfl) (st_ret ev_c))))
theorem cut_last {α : Type} (xs : List α) (h : xs ≠ []) : cutD xs none (some (-1)) = xs.dropLast := by
  unfold cutD
  rw [HT.sIx_none]
  show (xs.drop 0).take ((if (-1 : Int) < 0 then (-1 + (xs.length : Int)).toNat else min ((-1 : Int)).toNat xs.length) - 0) = _
  rw [if_pos (by decide), List.drop_zero, List.dropLast_eq_take]
  congr 1
  omega
theorem at_end {α : Type} (xs : List α) (x : α) : atD (xs ++ [x]) ((xs ++ [x]).length - 1 : Int) = some x := by
  unfold atD atI ixN
  rw [if_pos (by simp), if_pos (by omega)]
  show (xs ++ [x])[(((xs ++ [x]).length - 1 : Int)).toNat]? = _
  rw [show (((xs ++ [x]).length - 1 : Int)).toNat = xs.length from by simp]
  rw [List.getElem?_append_right (Nat.le_refl _), Nat.sub_self]
  rfl
theorem at_m1 {α : Type} (xs : List α) (x : α) : atD (xs ++ [x]) (-1) = some x := by
  unfold atD atI ixN
  rw [if_neg (by decide), if_pos (by simp; omega)]
  show (xs ++ [x])[((-1 + ((xs ++ [x]).length : Int))).toNat]? = _
  rw [show ((-1 + ((xs ++ [x]).length : Int))).toNat = xs.length from by simp; omega]
  rw [List.getElem?_append_right (Nat.le_refl _), Nat.sub_self]
  rfl
/-- the last deed is taken back -/
theorem p_undo1 (B : BodyAt c n m st jb t k E js A) {er : List Tbl} {tb : Tbl} (he : A.er = er ++ [tb]) : ∃ st' t' k' js', F_Growing_undo c [.obj jb] st = .val (.v (.bl true)) st' ∧
    BodyAt c n m st' jb t' k' (.objs js') js' ⟨tb, er, A.last⟩ ∧ Fr (jb :: t :: k :: js) st st' (jb :: t' :: k' :: js') := by
  have hlen : js.length = er.length + 1 := by
    have := congrArg List.length B.ers
    rw [he] at this
    simpa using this
  obtain ⟨js', x, rfl⟩ : ∃ l x, js = l ++ [x] := by
    have hne : js ≠ [] := fun z => by rw [z] at hlen; cases hlen
    exact ⟨_, _, (List.dropLast_concat_getLast hne).symm⟩
  have hE : E = .objs (js' ++ [x]) := by
    rcases B.er with h | ⟨h, _⟩
    · exact h
    · simp at h
  subst hE
  have hers := B.ers
  rw [he, List.map_append, List.map_append] at hers
  have hl2 : (js'.map fun j => st[j]?).length = (er.map fun tb => some (O.dic (tabK tb))).length := by simp at hlen ⊢; exact hlen
  obtain ⟨h1, h2⟩ := List.append_inj hers hl2
  have hx : st[x]? = some (.dic (tabK tb)) := by simpa using h2
  have nd := B.nd
  simp only [List.nodup_cons, List.mem_cons, List.mem_append, List.not_mem_nil, or_false, not_or, List.nodup_append] at nd
  obtain ⟨⟨n1, n2, n3, n3'⟩, ⟨n4, n5, n5'⟩, ⟨n6, n6'⟩, n7, n8, n9⟩ := nd
  have hs := B.slt
  have l1 := hs jb (by simp)
  have lx := hs x (by simp)
  have b2 : (st.set jb (growO c.Growing n t k A.last (.objs js')))[jb]? = some (growO c.Growing n t k A.last (.objs js')) := set_eq l1
  obtain ⟨e3, B3⟩ := B.again (t' := x) (m' := m) (E' := .objs js') (js' := js') (A' := ⟨tb, er, A.last⟩) (stA := st.set jb (growO c.Growing n t k A.last (.objs js'))) (by simp) rfl B.m11 b2 (by rw [set_ne (fun z => n3' z.symm)]; exact hx) (B.eok tb (by rw [he]; simp)) (fun z => n3' z.symm) (.inl rfl) ((List.map_congr_left fun j hj => set_ne (by rintro rfl; exact n3 hj)).trans h1) (fun tb' h => B.eok tb' (by rw [he]; simp [h])) (by have := B.jl; simp at this; omega) (by
    simp only [List.nodup_cons, List.mem_cons, not_or]
    exact ⟨⟨n3', n3⟩, fun h => n9 x h x (by simp) rfl, n7⟩)
  rw [List.length_set] at e3 B3
  rw [List.set_set] at e3 B3
  refine ⟨_, x, st.length, js', ?_, B3, ⟨fun j hj hn => ?_, by simp, fun j hj => ?_⟩⟩
  · have len : ∀ ρ : Env, ρ[0]? = some (some (.m (.obj jb))) → fB lenM (fCons (fAttr c.Growing "earlier" (fVar 0)) fNil) ρ st = .val (.v (.int ((js' ++ [x]).length : Nat))) st := fun ρ h => ev_B (ev_cons (at_er (ev_var h) B.ob) ev_nil) rfl
    refine run_e (e_seq (st_if0 (ev_cmp (len _ rfl) ev_c (by rw [eq_i, beq_eq_false_iff_ne.mpr (by simp; omega)])) rfl) (e_seq (st_asg (x := .obj x) (ev_bin (at_er (ev_var rfl) B.ob) (ev_bin (len _ rfl) ev_c (sub_i _ _ _)) ?_) rfl) ?_))
    · show (atD (js' ++ [x]) _).map MV.obj = _
      rw [at_end]
      rfl
    · refine e_seq (st_attr (y := .objs js') (ev_bind (at_er (ev_var rfl) B.ob) (ev_bind (a := none) (st1 := st) rfl (ev_bind (a := some (-1)) (st1 := st) rfl ?_))) (ev_var rfl) B.ob (by show 5 < 900; decide)) ?_
      · show M.of (some (MV.objs (cutD (js' ++ [x]) none (some (-1))))) st = _
        rw [cut_last _ (by simp), List.dropLast_concat]
        rfl
      · rw [set_erF]
        refine e_seq (st_drop (ev_meth (ev_var rfl) b2 rfl (ev_cons (ev_var rfl) ev_nil) rfl e3)) (e_rt (st_ret ev_c))
  · rw [app_lt (by simp; omega), set_ne (fun z => hn (by simp [z]))]
  · rcases List.mem_cons.mp hj with h | hj
    · exact .inl (by simp [h])
    rcases List.mem_cons.mp hj with h | hj
    · exact .inl (by simp [h])
    rcases List.mem_cons.mp hj with h | hj
    · exact .inr (by rw [h]; exact Nat.le_refl _)
    · exact .inl (by simp [hj])
end
end CD

set_option Elab.async false
set_option linter.all false
set_option maxRecDepth 100000
set_option maxHeartbeats 400000
namespace CD
open PySem PySem.Spec PyProof.Rows L2
/-! ### the plain level: the law's dice -/
section
variable {ρ : Env} {st st1 st2 : List O} {c : Cs}
/-- the dice in the store: what is left of the drawn number, a mixed number, a counter of at most N -/
def DiceAt (N : Nat) (st : List O) (j : Nat) : Prop := ∃ a b e : Nat, st[j]? = some (.lst [.int a, .int b, .int e]) ∧ b < 2147480009 ∧ e ≤ N
theorem DiceAt.mono {N N' : Nat} {j : Nat} (h : DiceAt N st j) (l : N ≤ N') : DiceAt N' st j := by
  obtain ⟨a, b, e, h1, h2, h3⟩ := h
  exact ⟨a, b, e, h1, h2, Nat.le_trans h3 l⟩
theorem DiceAt.same {N : Nat} {j : Nat} (h : DiceAt N st j) (e : st1[j]? = st[j]?) : DiceAt N st1 j := by
  obtain ⟨a, b, d, h1, h2, h3⟩ := h
  exact ⟨a, b, d, e.trans h1, h2, h3⟩
theorem DiceAt.lt {N : Nat} {j : Nat} (h : DiceAt N st j) : j < st.length := by
  obtain ⟨a, b, d, h1, _⟩ := h
  exact lt_of h1
theorem small_big {n : Nat} (h : n < 2 ^ 64) : n < BIG := Nat.lt_of_lt_of_le h (Nat.pow_le_pow_right (by decide) (by decide))
theorem div_small {i j : Int} (hj : 0 < j) (h : j ≤ 1000) (st : List O) : fdivM st (.v (.int i)) (.v (.int j)) = some (.v (.int (i / j))) := by
  show (if divOk i j = true then some (MV.v (.int (i / j))) else none) = _
  rw [if_pos]
  unfold divOk Builtin.divisionGoesByPylong
  rw [Bool.and_eq_true]
  refine ⟨decide_eq_true hj, ?_⟩
  have h1 : j.natAbs.log2 < 10 := log_lt (by omega) (by decide)
  have h2 : ¬ ((if (j == 0) = true then 0 else j.natAbs.log2 / 30 + 1) > 300) := by split <;> omega
  show (!(decide ((if (j == 0) = true then 0 else j.natAbs.log2 / 30 + 1) > 300) && _)) = true
  rw [decide_eq_false h2]
  rfl
theorem ix_l {ds : List D} {j : Nat} (hj : st[j]? = some (.lst ds)) (i : Nat) (hi : i < ds.length) : ixM st (.obj j) (.v (.int i)) = some (.v ds[i]) := by
  simp only [ixM, hj]
  unfold atD atI ixN
  rw [if_pos (by omega), if_pos (by omega)]
  show (ds[((i : Int)).toNat]?).map MV.v = _
  rw [Int.toNat_natCast, List.getElem?_eq_getElem hi]
  rfl
theorem st_putL {fo fi fv : Env → M MV} {j : Nat} {ds : List D} {i : Nat} {d : D} (hv : fv ρ st = .val (.v d) st) (ho : fo ρ st = .val (.obj j) st) (hi : fi ρ st = .val (.v (.int i)) st) (hj : st[j]? = some (.lst ds)) (hl : i < ds.length) : sPutL fo fi fv ρ st = .val (.nx ρ) (st.set j (.lst (ds.set i d))) := by
  refine ev_bind hv (ev_bind ho (ev_bind hi (ev_bind (a := (j, ds.set i d)) (st1 := st) ?_ rfl)))
  simp only [M.rd, hj]
  unfold ixN
  rw [if_pos (by omega), if_pos (by omega)]
  rfl
theorem mod_n {a b : Nat} (h : 0 < b) (st : List O) : modM st (.v (.int a)) (.v (.int b)) = some (.v (.int ((a % b : Nat) : Int))) := by
  rw [mod_i (by omega)]
  rfl
theorem p_roll {N : Nat} {j many : Nat} (h : DiceAt N st j) (hN : N ≤ 1000000) (h1 : 1 ≤ many) (h2 : many ≤ 1000) : ∃ st' r, F__law_roll [.obj j, .v (.int (many : Nat))] st = .val (.v (.int (r : Nat))) st' ∧ r < many ∧ DiceAt (N + 1) st' j ∧ (∀ i, i ≠ j → st'[i]? = st[i]?) ∧ st'.length = st.length := by
  obtain ⟨a, b, e, hj, hb, he⟩ := h
  have jl := lt_of hj
  have x0 : ∀ ρ : Env, ρ[0]? = some (some (.m (.obj j))) → fBin ixM (fVar 0) (fC (.v (.int 0))) ρ st = .val (.v (.int (a : Nat))) st := fun ρ h => ev_bin (ev_var h) ev_c (ix_l hj 0 (by simp))
  by_cases z : 0 < a
  · refine ⟨st.set j (.lst [.int ((a / many : Nat) : Int), .int b, .int e]), a % many, ?_, Nat.mod_lt _ (by omega), ⟨a / many, b, e, set_eq jl, hb, by omega⟩, fun i hi => set_ne hi, by simp⟩
    refine run_rt (st_rt (st_if1 (ev_cmp (x0 _ rfl) ev_c (by rw [gt_t, decide_eq_true (by omega)])) (st_nx (st_asg (ev_bin (ev_B (ev_cons (x0 _ rfl) ev_nil) (y := .v (.int (a : Nat))) rfl) (ev_var rfl) (mod_n (by omega) _)) rfl) (st_nx (st_putL (d := .int ((a / many : Nat) : Int)) (ev_bin (x0 _ rfl) (ev_var rfl) ?_) (ev_var rfl) (ev_c (x := .v (.int ((0 : Nat) : Int)))) hj (by simp)) (st_ret (ev_var rfl))))))
    exact div_small (by omega) (by omega) _
  · have ha : a = 0 := by omega
    subst ha
    have jl1 : (st.set j (.lst [.int ((0 : Nat) : Int), .int b, .int ((e + 1 : Nat) : Int)]))[j]? = some (.lst [.int ((0 : Nat) : Int), .int b, .int ((e + 1 : Nat) : Int)]) := set_eq jl
    generalize hs1 : st.set j (.lst [.int ((0 : Nat) : Int), .int b, .int ((e + 1 : Nat) : Int)]) = s1 at jl1
    have l1 : s1.length = st.length := by rw [← hs1, List.length_set]
    let b' : Nat := (b * 52501 + (e + 1) * (e + 1) * 1009 + 77) % 2147480009
    have jl2 : (s1.set j (.lst [.int ((0 : Nat) : Int), .int (b' : Nat), .int ((e + 1 : Nat) : Int)]))[j]? = some (.lst [.int ((0 : Nat) : Int), .int (b' : Nat), .int ((e + 1 : Nat) : Int)]) := set_eq (by omega)
    have y1 : ∀ ρ : Env, ρ[0]? = some (some (.m (.obj j))) → fBin ixM (fVar 0) (fC (.v (.int 1))) ρ s1 = .val (.v (.int (b : Nat))) s1 := fun ρ h => ev_bin (ev_var h) ev_c (ix_l jl1 1 (by simp))
    have y2 : ∀ ρ : Env, ρ[0]? = some (some (.m (.obj j))) → fBin ixM (fVar 0) (fC (.v (.int 2))) ρ s1 = .val (.v (.int ((e + 1 : Nat) : Int))) s1 := fun ρ h => ev_bin (ev_var h) ev_c (ix_l jl1 2 (by simp))
    have bb : ((b : Nat) : Int).natAbs < BIG := small_big (by simp; omega)
    have eb : ((e + 1 : Nat) : Int).natAbs < BIG := small_big (by rw [Int.natAbs_natCast]; omega)
    have ee : (((e + 1 : Nat) : Int) * ((e + 1 : Nat) : Int)).natAbs < BIG := by
      rw [Int.natAbs_mul, Int.natAbs_natCast]
      refine small_big ?_
      have := Nat.mul_le_mul (show e + 1 ≤ 1000001 by omega) (show e + 1 ≤ 1000001 by omega)
      omega
    have k1 : ((52501 : Int)).natAbs < BIG := small_big (by decide)
    have k2 : ((1009 : Int)).natAbs < BIG := small_big (by decide)
    refine ⟨s1.set j (.lst [.int ((0 : Nat) : Int), .int (b' : Nat), .int ((e + 1 : Nat) : Int)]), b' / 211 % many, ?_, Nat.mod_lt _ (by omega), ⟨0, b', e + 1, jl2, Nat.mod_lt _ (by decide), by omega⟩, fun i hi => by rw [set_ne hi, ← hs1, set_ne hi], by simp [l1]⟩
    refine run_rt (st_nx (st_if0 (ev_cmp (x0 _ rfl) ev_c (by rw [gt_t, decide_eq_false (by omega)])) rfl) (st_nx (st_putL (d := .int ((e + 1 : Nat) : Int)) (ev_suc (n := e) (ev_bin (ev_var rfl) ev_c (ix_l hj 2 (by simp)))) (ev_var rfl) (ev_c (x := .v (.int ((2 : Nat) : Int)))) hj (by simp)) ?_))
    show sSeq _ _ _ (st.set j (.lst [.int ((0 : Nat) : Int), .int b, .int ((e + 1 : Nat) : Int)])) = _
    rw [hs1]
    refine st_nx (st_putL (d := .int (b' : Nat)) (ev_bin (ev_B (ev_cons (ev_bin (ev_bin (ev_bin (y1 _ rfl) ev_c (mul_i bb k1 _)) (ev_bin (ev_bin (y2 _ rfl) (y2 _ rfl) (mul_i eb eb _)) ev_c (mul_i ee k2 _)) (add_i _ _ _)) ev_c (add_i _ _ _)) ev_nil) (y := .v (.int ((b * 52501 + (e + 1) * (e + 1) * 1009 + 77 : Nat) : Int))) ?_) ev_c ?_) (ev_var rfl) (ev_c (x := .v (.int ((1 : Nat) : Int)))) jl1 (by simp)) ?_
    · show some (MV.v (.int _)) = some (MV.v (.int _))
      congr 3
    · exact mod_n (by decide) _
    · refine st_ret (ev_bin (ev_B (ev_cons (ev_bin (x := .v (.int (b' : Nat))) (ev_bin (ev_var rfl) ev_c (ix_l jl2 1 (by simp))) ev_c (div_small (by decide) (by decide) _)) ev_nil) (y := .v (.int ((b' / 211 : Nat) : Int))) rfl) (ev_var rfl) (mod_n (by omega) _))
/-- a roll called -/
theorem ev_roll {N : Nat} {j many : Nat} {fs : Env → M (List MV)} (h : DiceAt N st1 j) (hN : N ≤ 1000000) (h1 : 1 ≤ many) (h2 : many ≤ 1000) (hf : fs ρ st = .val [.obj j, .v (.int (many : Nat))] st1) : ∃ st' r, fCallS 2 F__law_roll fs ρ st = .val (.v (.int (r : Nat))) st' ∧ r < many ∧ DiceAt (N + 1) st' j ∧ (∀ i, i ≠ j → st'[i]? = st1[i]?) ∧ st'.length = st1.length := by
  obtain ⟨st', r, e, h3⟩ := p_roll h hN h1 h2
  exact ⟨st', r, ev_callS hf rfl e, h3⟩
theorem p_row {N n : Nat} {j : Nat} (h : DiceAt N st j) (hN : N + n ≤ 1000000) (hn : n ≤ 1000) : ∃ st' v, F__law_row [.obj j, .v (.int (n : Nat)), .v (.int 2)] st = .val (vI v) st' ∧ v.length = n ∧ (∀ x ∈ v, x.natAbs ≤ 2) ∧ DiceAt (N + n) st' j ∧ (∀ i, i ≠ j → st'[i]? = st[i]?) ∧ st'.length = st.length := by
  have loop : ∀ (cs : List Nat) (N : Nat) (st : List O), DiceAt N st j → N + cs.length ≤ 1000000 → ∃ (st' : List O) (v : Row), lcLoop [3] (setN 3) fYes (fBin subM (fCallS 2 F__law_roll (fCons (fVar 0) (fCons (fBin addM (fBin mulM (fC (.v (.int 2))) (fVar 2)) (fC (.v (.int 1)))) fNil))) (fVar 2)) [some (.m (.obj j)), some (.m (.v (.int (n : Nat)))), some (.m (.v (.int 2))), none] (cs.map cI) st = .val (v.map D.int) st' ∧ v.length = cs.length ∧ (∀ x ∈ v, x.natAbs ≤ 2) ∧ DiceAt (N + cs.length) st' j ∧ (∀ i, i ≠ j → st'[i]? = st[i]?) ∧ st'.length = st.length := by
    intro cs
    induction cs with
    | nil => intro N st h _; exact ⟨st, [], rfl, rfl, fun x hx => (nomatch hx), h, fun _ _ => rfl, rfl⟩
    | cons k cs ih =>
      intro N st h hN
      rw [List.length_cons] at hN
      obtain ⟨st1, r, e1, hr, d1, f1, l1⟩ := ev_roll (ρ := [some (.m (.obj j)), some (.m (.v (.int (n : Nat)))), some (.m (.v (.int 2))), some (.m (.v (cI k)))]) (many := 5) (fs := fCons (fVar 0) (fCons (fBin addM (fBin mulM (fC (.v (.int 2))) (fVar 2)) (fC (.v (.int 1)))) fNil)) h (by omega) (by decide) (by decide) (ev_cons (ev_var rfl) (ev_cons (ev_bin (x := .v (.int 4)) (ev_bin ev_c (ev_var rfl) ((mul_i (small_big (by decide)) (small_big (by decide)) _).trans rfl)) ev_c rfl) ev_nil))
      obtain ⟨st2, v, e2, hv, bv, d2, f2, l2⟩ := ih (N + 1) st1 d1 (by omega)
      refine ⟨st2, ((r : Int) - 2) :: v, ?_, by simp [hv], fun x hx => ?_, by rw [List.length_cons]; exact d2.mono (by omega), fun i hi => (f2 i hi).trans (f1 i hi), l2.trans l1⟩
      · rw [List.map_cons, lcLoop]
        exact ev_bind (a := _) (st1 := st) rfl (ev_bind (a := true) (st1 := st) rfl (ev_bind (ev_noex (ev_bin e1 (ev_var rfl) (sub_i _ _ _))) (ev_bind (a := .int ((r : Int) - 2)) (st1 := st1) rfl (ev_bind e2 rfl))))
      · rcases List.mem_cons.mp hx with rfl | hx
        · omega
        · exact bv x hx
  obtain ⟨st', v, e, hv, bv, d, f, l⟩ := loop (List.range n) N st h (by rw [List.length_range]; exact hN)
  rw [List.length_range] at hv d
  refine ⟨st', v, run_rt (st_ret (ev_B (ev_cons (x := .v (.lst (v.map .int))) (ev_bind (ev_rng (ev_var rfl) hn) ?_) ev_nil) rfl)), hv, bv, d, f, l⟩
  show (if szOk ((List.range n).map cI).length = true then M.bind (lcLoop [3] (setN 3) fYes _ _ ((List.range n).map cI)) (fun ds => M.pure (MV.v (.lst ds))) else M.of none) st = _
  rw [if_pos (by unfold szOk; simp; omega)]
  exact ev_bind e rfl
theorem p_unit {n i : Nat} (hn : n ≤ 1000) (st : List O) : F__law_unit [.v (.int (n : Nat)), .v (.int (i : Nat))] st = .val (vI (unitR n i)) st :=
  run_rt (st_ret (ev_unit (i := i) (ev_var rfl) hn (by show 2 < 3; decide) (by decide) rfl))
/-- one of some things -/
theorem p_pick {N : Nat} {j : Nat} {ds : List D} (h : DiceAt N st j) (hN : N ≤ 1000000) (h1 : ds ≠ []) (h2 : ds.length ≤ 1000) : ∃ st' d, F__law_pick [.obj j, .v (.lst ds)] st = .val (.v d) st' ∧ d ∈ ds ∧ DiceAt (N + 1) st' j ∧ (∀ i, i ≠ j → st'[i]? = st[i]?) ∧ st'.length = st.length := by
  have hl : 0 < ds.length := List.length_pos_iff.mpr h1
  obtain ⟨st', r, e, hr, d, f, l⟩ := ev_roll (ρ := [some (.m (.obj j)), some (.m (.v (.lst ds)))]) (many := ds.length) (fs := fCons (fVar 0) (fCons (fB lenM (fCons (fVar 1) fNil)) fNil)) h hN (by omega) h2 (ev_cons (ev_var rfl) (ev_cons (ev_B (ev_cons (ev_var rfl) ev_nil) rfl) ev_nil))
  refine ⟨st', ds[r], run_rt (st_ret (ev_bin (ev_var rfl) e ?_)), List.getElem_mem hr, d, f, l⟩
  show (atD ds (r : Int)).map MV.v = _
  unfold atD atI ixN
  rw [if_pos (by omega), if_pos (by omega)]
  show (ds[((r : Int)).toNat]?).map MV.v = _
  rw [Int.toNat_natCast, List.getElem?_eq_getElem hr]
  rfl
theorem pow16 {st : List O} : powM st (.v (.int 10)) (.v (.int 16)) = some (.v (.int 10000000000000000)) := by
  show (if powOk 10 16 = true then some (MV.v (.int ((10 : Int) ^ ((16 : Int)).toNat))) else none) = _
  rw [if_pos (by decide +kernel)]
  rfl
theorem p_dice {ns : List Int} {spot : Nat} (hs : spot ≤ 2) (st : List O) : ∃ st', F__law_dice [.v (.scr ns), .v (.int (spot : Nat))] st = .val (.obj st.length) st' ∧ DiceAt 0 st' st.length ∧ (∀ i, i < st.length → st'[i]? = st[i]?) ∧ st'.length = st.length + 1 := by
  -- the number at the spot
  obtain ⟨own, hown⟩ : ∃ own : Int, fIf (fCmpT ltM (fVar 1) (fB lenM (fCons (fVar 0) fNil))) (fBin ixM (fVar 0) (fVar 1)) (fBin addM (fBin mulM (fC (.v (.int 733))) (fVar 1)) (fC (.v (.int 29)))) (startE 5 [.v (.scr ns), .v (.int (spot : Nat))]) st = .val (.v (.int own)) st := by
    have cm : fCmpT ltM (fVar 1) (fB lenM (fCons (fVar 0) fNil)) (startE 5 [.v (.scr ns), .v (.int (spot : Nat))]) st = .val (decide ((spot : Int) < (ns.length : Nat))) st := ev_cmp (ev_var rfl) (ev_B (ev_cons (ev_var rfl) ev_nil) rfl) rfl
    by_cases z : (spot : Int) < (ns.length : Nat)
    · rw [decide_eq_true z] at cm
      have hz : spot < ns.length := by omega
      refine ⟨ns[spot], ev_if1 cm (ev_bin (ev_var rfl) (ev_var rfl) ?_)⟩
      show (atD ns (spot : Int)).map (fun n => MV.v (.int n)) = _
      unfold atD atI ixN
      rw [if_pos (by omega), if_pos z]
      show (ns[((spot : Int)).toNat]?).map (fun n => MV.v (.int n)) = _
      rw [Int.toNat_natCast, List.getElem?_eq_getElem hz]
      rfl
    · rw [decide_eq_false z] at cm
      exact ⟨733 * spot + 29, ev_if0 cm (ev_bin (ev_bin ev_c (ev_var rfl) (mul_i (small_big (by decide)) (small_big (by simp; omega)) _)) ev_c (add_i _ _ _))⟩
  have k1 : ((48271 : Int)).natAbs < BIG := small_big (by decide)
  have mid : ∀ m : Nat, m < 2147480009 → ((m : Nat) : Int).natAbs < BIG := fun m hm => small_big (by rw [Int.natAbs_natCast]; omega)
  suffices ∃ st', (∃ a b : Nat, st' = st ++ [.lst [.int a, .int b, .int 0]] ∧ b < 2147480009) ∧ Ends (.obj st.length) st' (sSeq (sAsg (fIf (fCmpT ltM (fVar 1) (fB lenM (fCons (fVar 0) fNil))) (fBin ixM (fVar 0) (fVar 1)) (fBin addM (fBin mulM (fC (.v (.int 733))) (fVar 1)) (fC (.v (.int 29))))) (setN 2)) (sSeq (sAsg (fBin addM (fC (.v (.int 940031))) (fBin mulM (fC (.v (.int 7907))) (fVar 1))) (setN 3)) (sSeq (sFor (iSeqL (fBin addM (fSl (fVar 0) fNoPart (fPart (fC (.v (.int 6))))) (fLst (fCons (fVar 2) fNil)))) (setN 4) (sAsg (fBin modM (fB intM (fCons (fBin addM (fBin mulM (fVar 3) (fC (.v (.int 48271)))) (fBin modM (fB intM (fCons (fVar 4) fNil)) (fC (.v (.int 2147480009))))) fNil)) (fC (.v (.int 2147480009)))) (setN 3))) (sRet (fLstO (fCons (fIf (fOr (fCmpT ltM (fVar 2) (fC (.v (.int 0)))) (fCmpT geM (fVar 2) (fBin powM (fC (.v (.int 10))) (fC (.v (.int 16)))))) (fB absM (fCons (fVar 2) fNil)) (fC (.v (.int 0)))) (fCons (fVar 3) (fCons (fC (.v (.int 0))) fNil))))))) (startE 5 [.v (.scr ns), .v (.int (spot : Nat))]) st) by
    obtain ⟨st', ⟨a, b, rfl, hb⟩, h⟩ := this
    exact ⟨_, run_e h, ⟨a, b, 0, get_last _ _, hb, Nat.le_refl _⟩, fun i hi => app_lt hi, by simp⟩
  have mix0 : fBin addM (fC (.v (.int 940031))) (fBin mulM (fC (.v (.int 7907))) (fVar 1)) (setE (startE 5 [.v (.scr ns), .v (.int (spot : Nat))]) 2 (.v (.int own))) st = .val (.v (.int ((940031 + 7907 * spot : Nat) : Int))) st := ev_bin ev_c (ev_bin ev_c (ev_var rfl) (mul_i (small_big (by decide)) (small_big (by simp; omega)) _)) (by rw [add_i]; simp)
  obtain ⟨ρ', st3, e, rfl, mx, s4, hm, rfl⟩ := loop_inv (γ := Int) (ρ := [some (.m (.v (.scr ns))), some (.m (.v (.int (spot : Nat)))), some (.m (.v (.int own))), some (.m (.v (.int ((940031 + 7907 * spot : Nat) : Int)))), none]) (st := st) .int (fun pre ρ st' => st' = st ∧ ∃ (mx : Nat) (s4 : Option SV), mx < 2147480009 ∧ ρ = [some (.m (.v (.scr ns))), some (.m (.v (.int (spot : Nat)))), some (.m (.v (.int own))), some (.m (.v (.int (mx : Nat)))), s4])
    (g := setN 4) (body := sAsg (fBin modM (fB intM (fCons (fBin addM (fBin mulM (fVar 3) (fC (.v (.int 48271)))) (fBin modM (fB intM (fCons (fVar 4) fNil)) (fC (.v (.int 2147480009))))) fNil)) (fC (.v (.int 2147480009)))) (setN 3)) (cutD ns none (some 6) ++ [own]) (by
      rintro pre x post ρ st' e ⟨rfl, mx, s4, hm, rfl⟩
      have hx0 : 0 ≤ x % 2147480009 := Int.emod_nonneg _ (by decide)
      have hpos : 0 ≤ (mx : Int) * 48271 + x % 2147480009 := by omega
      refine ⟨_, _, _, rfl, st_asg (ev_bin (ev_B (ev_cons (ev_bin (ev_bin (ev_var rfl) ev_c (mul_i (mid mx hm) k1 _)) (ev_bin (ev_B (ev_cons (ev_var rfl) ev_nil) (y := .v (.int x)) rfl) ev_c (mod_i (by decide) _)) (add_i _ _ _)) ev_nil) (y := .v (.int ((mx : Int) * 48271 + x % 2147480009))) rfl) ev_c (mod_i (by decide) _)) rfl, rfl, (((mx : Int) * 48271 + x % 2147480009) % 2147480009).toNat, some (.m (.v (.int x))), ?_, ?_⟩
      · have h1 := Int.emod_lt_of_pos ((mx : Int) * 48271 + x % 2147480009) (show (0 : Int) < 2147480009 by decide)
        omega
      · have h1 := Int.emod_nonneg ((mx : Int) * 48271 + x % 2147480009) (show (2147480009 : Int) ≠ 0 by decide)
        rw [Int.toNat_of_nonneg h1]
        rfl) ⟨rfl, _, none, by omega, rfl⟩
  have fin : ∃ a : Nat, fIf (fOr (fCmpT ltM (fVar 2) (fC (.v (.int 0)))) (fCmpT geM (fVar 2) (fBin powM (fC (.v (.int 10))) (fC (.v (.int 16)))))) (fB absM (fCons (fVar 2) fNil)) (fC (.v (.int 0))) [some (.m (.v (.scr ns))), some (.m (.v (.int (spot : Nat)))), some (.m (.v (.int own))), some (.m (.v (.int (mx : Nat)))), s4] st3 = .val (.v (.int (a : Nat))) st3 := by
    have c1 : fCmpT ltM (fVar 2) (fC (.v (.int 0))) [some (.m (.v (.scr ns))), some (.m (.v (.int (spot : Nat)))), some (.m (.v (.int own))), some (.m (.v (.int (mx : Nat)))), s4] st3 = .val (decide (own < 0)) st3 := ev_cmp (ev_var rfl) ev_c rfl
    have c2 : fCmpT geM (fVar 2) (fBin powM (fC (.v (.int 10))) (fC (.v (.int 16)))) [some (.m (.v (.scr ns))), some (.m (.v (.int (spot : Nat)))), some (.m (.v (.int own))), some (.m (.v (.int (mx : Nat)))), s4] st3 = .val (decide (10000000000000000 ≤ own)) st3 := ev_cmp (ev_var rfl) (ev_bin (z := .v (.int 10000000000000000)) ev_c ev_c pow16) rfl
    by_cases z : own < 0
    · rw [decide_eq_true z] at c1
      exact ⟨own.natAbs, ev_if1 (ev_or1 c1) (ev_B (ev_cons (ev_var rfl) ev_nil) (abs_i _ _))⟩
    · rw [decide_eq_false z] at c1
      by_cases z2 : 10000000000000000 ≤ own
      · rw [decide_eq_true z2] at c2
        exact ⟨own.natAbs, ev_if1 (ev_or0 c1 c2) (ev_B (ev_cons (ev_var rfl) ev_nil) (abs_i _ _))⟩
      · rw [decide_eq_false z2] at c2
        exact ⟨0, ev_if0 (ev_or0 c1 c2) ev_c⟩
  obtain ⟨a, fin⟩ := fin
  refine ⟨st3 ++ [.lst [.int a, .int mx, .int 0]], ⟨a, mx, rfl, hm⟩, e_seq (st_asg hown rfl) (e_seq (st_asg mix0 rfl) (e_seq (ev_bind (ev_seqL (ev_bin (x := .v (.lst ((cutD ns none (some 6)).map .int))) (ev_bind (ev_var (x := .v (.scr ns)) rfl) (ev_bind (a := none) (st1 := st3) rfl (ev_bind (a := some 6) (st1 := st3) rfl rfl))) (ev_lst (ev_cons (ev_var rfl) ev_nil) rfl) ((add_l _ _ ?_ _).trans (by rw [List.map_append]; rfl)))) e) (e_rt (st_ret (ev_bind (ev_cons fin (ev_cons (ev_var rfl) (ev_cons ev_c ev_nil))) (ev_bind (a := [.int a, .int mx, .int 0]) (st1 := st3) rfl rfl))))))⟩
  have : (cutD ns none (some 6)).length ≤ 6 := by
    unfold cutD
    rw [List.length_take]
    show min (HT.sIx ns.length ns.length (some ((6 : Nat) : Int)) - _) _ ≤ 6
    rw [HT.sIx_nat]
    omega
  simp only [List.length_map, List.length_singleton]
  omega
end
end CD

set_option Elab.async false
set_option linter.all false
set_option maxRecDepth 100000
set_option maxHeartbeats 400000
namespace CD
open PySem PySem.Spec PyProof.Rows L2
/-! ### the plain level: deeds in a row, what is told of them -/
inductive Deed where
  | put (w : Wall) | take (q : Nat) | undo
def deedI : Deed → D
  | .put w => .tup [.str "put", wI w]
  | .take q => .tup [.str "take", cI q]
  | .undo => .tup [.str "undo"]
def absStep (A : Abs) : Deed → Abs
  | .put w => ⟨A.tb ++ [(A.last + 1, w)], A.er ++ [A.tb], A.last + 1⟩
  | .take q => ⟨lessT A.tb q, A.er ++ [A.tb], A.last⟩
  | .undo => match A.er.getLast? with
    | none => A
    | some tb => ⟨tb, A.er.dropLast, A.last⟩
def okDeed (n : Nat) (A : Abs) : Deed → Prop
  | .put w => WallOk n w
  | .take q => q ∈ keysOf A.tb
  | .undo => True
def abs0 : Abs := ⟨[], [], 0⟩
def cnt (n : Nat) (A : Abs) : Nat := (ptsD n (coneT n A.tb)).length
def stepC (n : Nat) (s : Abs × List Nat) (d : Deed) : Abs × List Nat := (absStep s.1 d, s.2 ++ [cnt n (absStep s.1 d)])
def runC (n : Nat) (ds : List Deed) : Abs × List Nat := ds.foldl (stepC n) (abs0, [])
theorem runC_app (n : Nat) (ds : List Deed) (d : Deed) : runC n (ds ++ [d]) = stepC n (runC n ds) d := by unfold runC; rw [List.foldl_append]; rfl
def okAll (n : Nat) (ds : List Deed) : Prop := ∀ pre d post, ds = pre ++ d :: post → okDeed n (runC n pre).1 d
theorem okAll.app {n : Nat} {ds : List Deed} {d : Deed} (h : okAll n ds) (k : okDeed n (runC n ds).1 d) : okAll n (ds ++ [d]) := by
  intro pre e post he
  by_cases hp : post = []
  · subst hp
    have h1 : ds = pre := (List.append_inj' he rfl).1
    have h2 : d = e := by simpa using (List.append_inj' he rfl).2
    rw [← h1, ← h2]
    exact k
  · obtain ⟨post', x, rfl⟩ : ∃ l x, post = l ++ [x] := ⟨_, _, (List.dropLast_concat_getLast hp).symm⟩
    have he2 : ds ++ [d] = (pre ++ e :: post') ++ [x] := by rw [he]; simp
    exact h pre e post' (List.append_inj' he2 rfl).1
theorem eq_s {a b : Str} (ha : PyData.strOk a = true) (hb : PyData.strOk b = true) (st : List O) : eqM st (.v (.str a)) (.v (.str b)) = some (.v (.bl (a == b))) := by
  show (if (PyData.strOk a && PyData.strOk b) = true then some (MV.v (.bl (a == b))) else none) = _
  rw [if_pos (by rw [ha, hb]; rfl)]
theorem ok_put : PyData.strOk "put" = true := by decide +kernel
theorem ok_take : PyData.strOk "take" = true := by decide +kernel
theorem ok_undo : PyData.strOk "undo" = true := by decide +kernel
theorem eq_put (st : List O) : eqM st (.v (.str "put")) (.v (.str "put")) = some (.v (.bl true)) := by rw [eq_s ok_put ok_put, show (("put" : Str) == "put") = true from by decide +kernel]
theorem eq_put_take (st : List O) : eqM st (.v (.str "take")) (.v (.str "put")) = some (.v (.bl false)) := by rw [eq_s ok_take ok_put, show (("take" : Str) == "put") = false from by decide +kernel]
theorem eq_put_undo (st : List O) : eqM st (.v (.str "undo")) (.v (.str "put")) = some (.v (.bl false)) := by rw [eq_s ok_undo ok_put, show (("undo" : Str) == "put") = false from by decide +kernel]
theorem eq_undo (st : List O) : eqM st (.v (.str "undo")) (.v (.str "undo")) = some (.v (.bl true)) := by rw [eq_s ok_undo ok_undo, show (("undo" : Str) == "undo") = true from by decide +kernel]
theorem eq_undo_take (st : List O) : eqM st (.v (.str "take")) (.v (.str "undo")) = some (.v (.bl false)) := by rw [eq_s ok_take ok_undo, show (("take" : Str) == "undo") = false from by decide +kernel]
theorem eq_take (st : List O) : eqM st (.v (.str "take")) (.v (.str "take")) = some (.v (.bl true)) := by rw [eq_s ok_take ok_take, show (("take" : Str) == "take") = true from by decide +kernel]
theorem fits_wI (j : Nat) (w : Wall) : D.fits (j + 2) (wI w) = true := by
  show (D.fits (j + 1) (tI w.1) && (true && true)) = true
  rw [fits_tI]
  rfl
theorem fits_deed (d : Deed) : D.fits 20 (deedI d) = true := by
  cases d with
  | put w =>
    show (PyData.strOk "put" && (D.fits 19 (wI w) && true)) = true
    rw [ok_put, fits_wI]
    rfl
  | take q =>
    show (PyData.strOk "take" && (true && true)) = true
    rw [ok_take]
    rfl
  | undo =>
    show (PyData.strOk "undo" && true) = true
    rw [ok_undo]
    rfl
theorem eq_dd {a b : D} (ha : D.fits 20 a = true) (hb : D.fits 20 b = true) (st : List O) : eqM st (.v a) (.v b) = some (.v (.bl (D.eqb a b))) := by
  show (if (D.fits 20 a && D.fits 20 b) = true then some (MV.v (.bl (D.eqb a b))) else none) = _
  rw [if_pos (by rw [ha, hb]; rfl)]
theorem ne_dd {a b : D} (ha : D.fits 20 a = true) (hb : D.fits 20 b = true) (st : List O) : neM st (.v a) (.v b) = some (.v (.bl (!D.eqb a b))) := by
  show (if (D.fits 20 a && D.fits 20 b) = true then some (MV.v (.bl (!D.eqb a b))) else none) = _
  rw [if_pos (by rw [ha, hb]; rfl)]
theorem eqb_self : ∀ (j : Nat) (d : D), D.fits j d = true → D.eqb d d = true := by
  have all : ∀ (xs : List D), (∀ x ∈ xs, D.eqb x x = true) → D.eqbs xs xs = true := by
    intro xs
    induction xs with
    | nil => intro _; rfl
    | cons x xs ih =>
      intro h
      show (D.eqb x x && D.eqbs xs xs) = true
      rw [h x List.mem_cons_self, ih fun y hy => h y (List.mem_cons_of_mem _ hy)]
      rfl
  intro j
  induction j with
  | zero =>
    intro d h
    cases d with
    | non => rfl
    | bl b => cases b <;> rfl
    | int i => show (i == i) = true; exact beq_self_eq_true i
    | str x => show (x == x) = true; exact beq_self_eq_true x
    | _ => cases h
  | succ j ih =>
    intro d h
    cases d with
    | non => rfl
    | bl b => cases b <;> rfl
    | int i => show (i == i) = true; exact beq_self_eq_true i
    | str x => show (x == x) = true; exact beq_self_eq_true x
    | lst xs => exact all xs fun x hx => ih x (List.all_eq_true.mp h x hx)
    | tup xs => exact all xs fun x hx => ih x (List.all_eq_true.mp h x hx)
    | _ => cases h
theorem ne_self {a : D} (ha : D.fits 20 a = true) (st : List O) : neM st (.v a) (.v a) = some (.v (.bl false)) := by rw [ne_dd ha ha, eqb_self 20 a ha]; rfl
theorem eq_self {a : D} (ha : D.fits 20 a = true) (st : List O) : eqM st (.v a) (.v a) = some (.v (.bl true)) := by rw [eq_dd ha ha, eqb_self 20 a ha]
section
variable {ρ : Env} {st st1 st2 : List O} {c : Cs} {n m t k jb : Nat} {E : MV} {js : List Nat} {A : Abs} {tb : Tbl} {l : Nat}
theorem ev_isS {f : Env → M MV} {x : Str} (h : f ρ st = .val (.v (.str x)) st1) : fIsi "str" f ρ st = .val (.v (.bl true)) st1 := ev_bind h rfl
theorem fits_un : D.fits 20 (.tup [.str "undo"]) = true := fits_deed .undo
theorem p_is_deed {d : Deed} {A : Abs} (h : okDeed n A d) (hn : n ≤ 1000) (st : List O) : F_is_deed [.v (deedI d), .v (.int (n : Nat))] st = .val (.v (.bl true)) st := by
  have fu := fits_deed d
  have un : eqM st (.v (deedI d)) (.v (.tup [.str "undo"])) = some (.v (.bl (D.eqb (deedI d) (.tup [.str "undo"])))) := eq_dd fu fits_un st
  cases d with
  | undo =>
    have e : D.eqb (deedI .undo) (.tup [.str "undo"]) = true := eqb_self 20 _ fu
    rw [e] at un
    exact run_e (e_rt (st_rt (st_if1 (ev_cmp (ev_var rfl) (ev_tup (ev_cons ev_c ev_nil) rfl) un) (st_ret ev_c))))
  | put w =>
    have e : D.eqb (deedI (.put w)) (.tup [.str "undo"]) = false := by
      show (("put" : Str) == "undo" && false) = false
      rw [Bool.and_false]
    rw [e] at un
    refine run_e (e_seq (st_if0 (ev_cmp (ev_var rfl) (ev_tup (ev_cons ev_c ev_nil) rfl) un) rfl) (e_seq (st_if0 (ev_or0 (ev_not (ev_test (ev_isT (ev_var rfl)))) (ev_or0 (ev_cmp (ev_B (ev_cons (ev_var rfl) ev_nil) rfl) ev_c rfl) (ev_not (ev_test (ev_isS (ev_bin (ev_var rfl) ev_c (ix_t0 _ _ _))))))) rfl) (e_rt (st_ret ?_))))
    refine ev_bind (x := fAndV _ _ _) (a := .v (.bl true)) (st1 := st) (ev_bind (ev_bin (ev_bin (ev_var rfl) ev_c (ix_t0 _ _ _)) ev_c (eq_put _)) (ev_bind (a := true) (st1 := st) rfl ?_)) (ev_bind (a := true) (st1 := st) rfl rfl)
    exact ev_callP (ds := [wI w, .int n]) (ev_cons (ev_bin (ev_var rfl) ev_c (ix_t1 _ _ _ _)) (ev_cons (ev_var rfl) ev_nil)) rfl (p_is_wall_of h hn [])
  | take q =>
    have e : D.eqb (deedI (.take q)) (.tup [.str "undo"]) = false := by
      show (("take" : Str) == "undo" && false) = false
      rw [Bool.and_false]
    rw [e] at un
    refine run_e (e_seq (st_if0 (ev_cmp (ev_var rfl) (ev_tup (ev_cons ev_c ev_nil) rfl) un) rfl) (e_seq (st_if0 (ev_or0 (ev_not (ev_test (ev_isT (ev_var rfl)))) (ev_or0 (ev_cmp (ev_B (ev_cons (ev_var rfl) ev_nil) rfl) ev_c rfl) (ev_not (ev_test (ev_isS (ev_bin (ev_var rfl) ev_c (ix_t0 _ _ _))))))) rfl) (e_rt (st_ret ?_))))
    refine ev_bind (x := fAndV _ _ _) (ev_bind (ev_bin (ev_bin (ev_var rfl) ev_c (ix_t0 _ _ _)) ev_c (eq_put_take _)) (ev_bind (a := false) (st1 := st) rfl rfl)) (ev_bind (a := false) (st1 := st) rfl ?_)
    refine ev_bind (x := fBin _ _ _ _) (ev_bin (ev_bin (ev_var rfl) ev_c (ix_t0 _ _ _)) ev_c (eq_take _)) (ev_bind (a := true) (st1 := st) rfl ?_)
    exact ev_callP (ds := [cI q]) (ev_cons (ev_bin (ev_var rfl) ev_c (ix_t1 _ _ _ _)) ev_nil) rfl (p_int _ [])
theorem in_keys {q : Nat} {ks : List Nat} (h : q ∈ ks) (st : List O) : inM st (.v (cI q)) (.v (.tup (ks.map cI))) = some (.v (.bl true)) := by
  have f : (ks.map cI).all (D.fits 19) = true := List.all_eq_true.mpr fun x hx => by
    obtain ⟨i, _, rfl⟩ := List.mem_map.mp hx
    rfl
  show (if (true && D.fits 20 (.tup (ks.map cI))) = true then some ((ks.map cI).any fun z => D.eqb z (cI q)) else none).map _ = _
  rw [if_pos (by rw [Bool.true_and]; exact f)]
  rw [List.any_eq_true.mpr ⟨cI q, List.mem_map_of_mem h, beq_self_eq_true (q : Int)⟩]
  rfl
/-- a body's next deed -/
theorem er_undo {A : Abs} (h : A.er = []) : absStep A .undo = A := by unfold absStep; rw [h]; rfl
theorem er_undo1 {A : Abs} {er : List Tbl} {tb : Tbl} (h : A.er = er ++ [tb]) : absStep A .undo = ⟨tb, er, A.last⟩ := by
  unfold absStep
  rw [h, List.getLast?_append]
  simp
theorem p_undo (B : BodyAt c n m st jb t k E js A) : ∃ st' t' k' E' js', F_Growing_undo c [.obj jb] st = .val (.v (.bl (!A.er.isEmpty))) st' ∧ BodyAt c n m st' jb t' k' E' js' (absStep A .undo) ∧ Fr (jb :: t :: k :: js) st st' (jb :: t' :: k' :: js') := by
  by_cases he : A.er = []
  · refine ⟨st, t, k, E, js, ?_, by rw [er_undo he]; exact B, Fr.refl⟩
    rw [p_undo0 B he, he]
    rfl
  · obtain ⟨er, tb, h⟩ : ∃ l x, A.er = l ++ [x] := ⟨_, _, (List.dropLast_concat_getLast he).symm⟩
    obtain ⟨st', t', k', js', e1, B1, F1⟩ := p_undo1 B h
    refine ⟨st', t', k', _, js', ?_, by rw [er_undo1 h]; exact B1, F1⟩
    rw [e1, h]
    simp
theorem ev_cnt {f : Env → M MV} (B : BodyAt c n m st jb t k E js A) (hf : f ρ st = .val (.obj jb) st) : fB lenM (fCons (fBin ixM (fMeth c.Growing "span" 1 (F_Growing_span c) f fNil) (fC (.v (.int 1)))) fNil) ρ st = .val (.v (cI (cnt n A))) st := ev_B (ev_cons (ev_sp1 B hf) ev_nil) rfl
theorem p_points_through {ds : List Deed} (h1 : 1 ≤ n) (h3 : n ≤ 3) (hl : ds.length ≤ 11) (hok : okAll n ds) (st : List O) : ∃ st', F_points_through c [.v (.int (n : Nat)), .v (.tup (ds.map deedI))] st = .val (.v (.tup ((runC n ds).2.map cI))) st' := by
  obtain ⟨st0, e0, B0, _, _⟩ := ev_grow (c := c) (ρ := startE 5 [.v (.int (n : Nat)), .v (.tup (ds.map deedI))]) (st := st) (fs := fCons (fVar 0) fNil) h1 h3 (ev_cons (ev_var rfl) ev_nil)
  suffices ∃ st', Ends (.v (.tup ((runC n ds).2.map cI))) st' (sSeq (sFor (iSeqT (fVar 1)) (setN 4) (sSeq (sIf (fCmpT eqM (fBin ixM (fVar 4) (fC (.v (.int 0)))) (fC (.v (.str "put")))) (sDrop (fMeth c.Growing "put" 2 (F_Growing_put c) (fVar 2) (fCons (fBin ixM (fVar 4) (fC (.v (.int 1)))) fNil))) (sIf (fCmpT eqM (fBin ixM (fVar 4) (fC (.v (.int 0)))) (fC (.v (.str "undo")))) (sDrop (fMeth c.Growing "undo" 1 (F_Growing_undo c) (fVar 2) fNil)) (sIf (fCmpT inM (fBin ixM (fVar 4) (fC (.v (.int 1)))) (fMeth c.Growing "numbers" 1 (F_Growing_numbers c) (fVar 2) fNil)) (sDrop (fMeth c.Growing "take" 2 (F_Growing_take c) (fVar 2) (fCons (fBin ixM (fVar 4) (fC (.v (.int 1)))) fNil))) sNil))) (sApp 3 (fB lenM (fCons (fBin ixM (fMeth c.Growing "span" 1 (F_Growing_span c) (fVar 2) fNil) (fC (.v (.int 1)))) fNil))))) (fun ρ => (sRet (fB tupleM (fCons (fVar 3) fNil))) (frz 3 ρ)) [some (.m (.v (.int (n : Nat)))), some (.m (.v (.tup (ds.map deedI)))), some (.m (.obj st.length)), some (.own (.lst [])), none] st0) by
    obtain ⟨st', h⟩ := this
    refine ⟨st', run_e (e_seq (st_asg e0 rfl) (e_seq (st_if0 (ev_or0 (ev_not (ev_test (ev_isT (ev_var rfl)))) (ev_or0 (ev_cmp (ev_B (ev_cons (ev_var rfl) ev_nil) rfl) ev_c (by rw [gt_t, decide_eq_false (by rw [List.length_map]; omega)])) (ev_not (ev_test (ev_allT deedI ds (ev_seqT (ev_var rfl)) fun d hd => ⟨_, rfl, ?_⟩))))) rfl) (e_seq (st_own (ds := []) ev_nil (by simp)) h)))⟩
    obtain ⟨pre, post, e⟩ := List.append_of_mem hd
    exact ev_callP (ds := [deedI d, .int n]) (ev_cons (ev_var rfl) (ev_cons (ev_var rfl) ev_nil)) rfl (p_is_deed (hok pre d post e) (by omega) [])
  obtain ⟨ρ', st', e, s4, t', k', E', js', B', rfl⟩ := loop_inv (ρ := [some (.m (.v (.int (n : Nat)))), some (.m (.v (.tup (ds.map deedI)))), some (.m (.obj st.length)), some (.own (.lst [])), none]) (st := st0) deedI
    (fun pre ρ st' => ∃ s4 t k E js, BodyAt c n pre.length st' st.length t k E js (runC n pre).1 ∧ ρ = [some (.m (.v (.int (n : Nat)))), some (.m (.v (.tup (ds.map deedI)))), some (.m (.obj st.length)), some (.own (.lst ((runC n pre).2.map cI))), s4])
    (g := setN 4) (body := (sSeq (sIf (fCmpT eqM (fBin ixM (fVar 4) (fC (.v (.int 0)))) (fC (.v (.str "put")))) (sDrop (fMeth c.Growing "put" 2 (F_Growing_put c) (fVar 2) (fCons (fBin ixM (fVar 4) (fC (.v (.int 1)))) fNil))) (sIf (fCmpT eqM (fBin ixM (fVar 4) (fC (.v (.int 0)))) (fC (.v (.str "undo")))) (sDrop (fMeth c.Growing "undo" 1 (F_Growing_undo c) (fVar 2) fNil)) (sIf (fCmpT inM (fBin ixM (fVar 4) (fC (.v (.int 1)))) (fMeth c.Growing "numbers" 1 (F_Growing_numbers c) (fVar 2) fNil)) (sDrop (fMeth c.Growing "take" 2 (F_Growing_take c) (fVar 2) (fCons (fBin ixM (fVar 4) (fC (.v (.int 1)))) fNil))) sNil))) (sApp 3 (fB lenM (fCons (fBin ixM (fMeth c.Growing "span" 1 (F_Growing_span c) (fVar 2) fNil) (fC (.v (.int 1)))) fNil))))) ds (by
      rintro pre d post ρ st' e ⟨s4, t, k, E, js, B, rfl⟩
      have hok1 := hok pre d post e
      have hm : pre.length + 1 ≤ 11 := by have := congrArg List.length e; simp at this; omega
      have hc2 : ∀ pre : List Deed, (runC n pre).2.length = pre.length := by
        intro pre
        suffices ∀ k (pre : List Deed), pre.length = k → (runC n pre).2.length = k from this _ pre rfl
        intro k
        induction k with
        | zero => intro pre h; rw [List.length_eq_zero_iff.mp h]; rfl
        | succ k ih =>
          intro pre h
          have hne : pre ≠ [] := fun z => by rw [z] at h; cases h
          obtain ⟨p, x, rfl⟩ : ∃ l x, pre = l ++ [x] := ⟨_, _, (List.dropLast_concat_getLast hne).symm⟩
          rw [runC_app]
          show ((runC n p).2 ++ [_]).length = _
          rw [List.length_append, ih p (by simpa using h)]
          rfl
      have app : ∀ {A' : Abs} {st2 : List O} {t k E js} (B2 : BodyAt c n (pre ++ [d]).length st2 st.length t k E js A') (hA : A' = absStep (runC n pre).1 d), ∃ ρ2 st3, sApp 3 (fB lenM (fCons (fBin ixM (fMeth c.Growing "span" 1 (F_Growing_span c) (fVar 2) fNil) (fC (.v (.int 1)))) fNil)) [some (.m (.v (.int (n : Nat)))), some (.m (.v (.tup (ds.map deedI)))), some (.m (.obj st.length)), some (.own (.lst ((runC n pre).2.map cI))), some (.m (.v (deedI d)))] st2 = .val (.nx ρ2) st3 ∧ ∃ s4 t k E js, BodyAt c n (pre ++ [d]).length st3 st.length t k E js (runC n (pre ++ [d])).1 ∧ ρ2 = [some (.m (.v (.int (n : Nat)))), some (.m (.v (.tup (ds.map deedI)))), some (.m (.obj st.length)), some (.own (.lst ((runC n (pre ++ [d])).2.map cI))), s4] := by
        intro A' st2 t k E js B2 hA
        subst hA
        refine ⟨_, _, st_app rfl (ev_cnt B2 (ev_var rfl)) (by rw [List.length_map, hc2]; omega), some (.m (.v (deedI d))), t, k, E, js, by rw [runC_app]; exact B2, ?_⟩
        rw [runC_app]
        show _ = [_, _, _, some (SV.own (.lst (((runC n pre).2 ++ [_]).map cI))), _]
        rw [List.map_append]
        rfl
      have ll : (pre ++ [d]).length = pre.length + 1 := by simp
      cases d with
      | put w =>
        obtain ⟨st2, e2, B2, _⟩ := p_put B hm hok1
        rw [← ll] at B2
        obtain ⟨ρ2, st3, e3, r⟩ := app B2 rfl
        exact ⟨_, _, _, rfl, st_nx (st_if1 (ev_cmp (ev_bin (ev_var rfl) ev_c (ix_t0 _ _ _)) ev_c (eq_put _)) (st_drop (ev_meth (ev_var rfl) B.ob rfl (ev_cons (ev_bin (ev_var rfl) ev_c (ix_t1 _ _ _ _)) ev_nil) rfl e2))) e3, r⟩
      | undo =>
        obtain ⟨st2, t2, k2, E2, js2, e2, B2, _⟩ := p_undo B
        have B3 := B2.mono (show pre.length ≤ pre.length + 1 by omega) hm
        rw [← ll] at B3
        obtain ⟨ρ2, st3, e3, r⟩ := app B3 rfl
        exact ⟨_, _, _, rfl, st_nx (st_if0 (ev_cmp (ev_bin (ev_var rfl) ev_c (ix_t0 _ _ _)) ev_c (eq_put_undo _)) (st_if1 (ev_cmp (ev_bin (ev_var rfl) ev_c (ix_t0 _ _ _)) ev_c (eq_undo _)) (st_drop (ev_meth (ev_var rfl) B.ob rfl ev_nil rfl e2)))) e3, r⟩
      | take q =>
        obtain ⟨st2, t2, k2, e2, B2, _⟩ := p_take B hm hok1
        rw [← ll] at B2
        obtain ⟨ρ2, st3, e3, r⟩ := app B2 rfl
        exact ⟨_, _, _, rfl, st_nx (st_if0 (ev_cmp (ev_bin (ev_var rfl) ev_c (ix_t0 _ _ _)) ev_c (eq_put_take _)) (st_if0 (ev_cmp (ev_bin (ev_var rfl) ev_c (ix_t0 _ _ _)) ev_c (eq_undo_take _)) (st_if1 (ev_cmp (ev_bin (ev_var rfl) ev_c (ix_t1 _ _ _ _)) (ev_meth (ev_var rfl) B.ob rfl ev_nil rfl (p_numbers B)) (in_keys hok1 _)) (st_drop (ev_meth (ev_var rfl) B.ob rfl (ev_cons (ev_bin (ev_var rfl) ev_c (ix_t1 _ _ _ _)) ev_nil) rfl e2))))) e3, r⟩)
    ⟨none, _, _, _, _, B0, rfl⟩
  exact ⟨st', e_seq (ev_bind (ev_seqT (ev_var rfl)) e) (e_rt (st_ret (ev_B (ev_cons (ev_var rfl) ev_nil) rfl)))⟩
theorem fits_map {α : Type} {f : α → D} {j : Nat} {xs : List α} (h : ∀ x ∈ xs, D.fits j (f x) = true) : (xs.map f).all (D.fits j) = true := List.all_eq_true.mpr fun y hy => by
  obtain ⟨x, hx, rfl⟩ := List.mem_map.mp hy
  exact h x hx
theorem fits_span (n : Nat) (s : CS) : D.fits 20 (spanD n s) = true := by
  unfold spanD
  split
  · rfl
  · show (true && (D.fits 19 (.tup (ptsD n s)) && (D.fits 19 (.tup _) && (D.fits 19 (.tup _) && true)))) = true
    rw [show D.fits 19 (.tup (ptsD n s)) = true from fits_pts 16 n s, show D.fits 19 (.tup (((tyR n s).filter fun r => decide (at0 r 0 = 0)).map fun r => tI r.tail)) = true from fits_map fun r _ => fits_tI 17 _, show D.fits 19 (.tup ((inSteps s.lines (colsOf n)).found.map fun r => tI r.tail)) = true from fits_map fun r _ => fits_tI 17 _]
    rfl
theorem fits_held (n : Nat) (ws : List Wall) : D.fits 20 (heldD n ws) = true := by
  show (true && (D.fits 19 (.tup (ws.map wI)) && (true && true))) = true
  rw [show D.fits 19 (.tup (ws.map wI)) = true from fits_map fun w _ => fits_wI 16 w]
  rfl
theorem p_is_followed (B : BodyAt c n m st jb t k E js A) : F_is_followed c [.obj jb] st = .val (.v (.bl true)) st := by
  have is : fIsC c.Growing (fVar 0) (startE 1 [.obj jb]) st = .val (.v (.bl true)) st := ev_bind (ev_var (x := .obj jb) rfl) (by
    simp only [M.rd, isiC, B.ob, growO, if_true])
  exact run_e (e_seq (st_if0 (ev_not (ev_test is)) rfl) (e_rt (st_ret (ev_bin (ev_meth (ev_var rfl) B.ob rfl ev_nil rfl (p_span B)) (ev_callP (ds := [heldD n (wallsOf A.tb)]) (ev_cons (ev_meth (ev_var rfl) B.ob rfl ev_nil rfl (p_held B)) ev_nil) rfl (p_span_of B.n1 B.n3 B.tok.walls (Nat.le_trans B.tok.wl B.m11) [])) (eq_self (fits_span _ _) _)))))
/-! refused -/
theorem ex_followed : F_is_followed c [.v .non] st = .exc (.arg "body") st := run_ex (st_ex (st_if1 (ev_not (ev_test (b := false) (ev_bind (ev_var (x := .v .non) rfl) rfl))) (st_raise (by decide +kernel))))
theorem ex_put0 (B : BodyAt c n m st jb t k E js A) : F_Growing_put c [.obj jb, .v .non] st = .exc (.arg "wall") st := by
  have w : F_is_wall_of [.v .non, .v (.int (n : Nat))] [] = .val (.v (.bl false)) [] := run_e (e_rt (st_rt (st_if1 (ev_or1 (ev_not (b := false) (ev_test (ev_bind (ev_var (x := .v .non) rfl) rfl)))) (st_ret ev_c))))
  exact run_ex (st_ex (st_if1 (ev_or1 (ev_not (b := false) (ev_test (ev_callP (ds := [.non, .int n]) (ev_cons (ev_var rfl) (ev_cons (at_size (ev_var rfl) B.ob) ev_nil)) rfl w)))) (st_raise (by decide +kernel))))
theorem ex_put1 (B : BodyAt c n m st jb t k E js A) : F_Growing_put c [.obj jb, .v (wI (List.replicate (n + 1) 0, 1))] st = .exc (.arg "wall") st := by
  have r : F_is_row [vI (List.replicate (n + 1) 0), .v (.int (n : Nat))] [] = .val (.v (.bl false)) [] := run_e (e_rt (st_rt (st_if1 (ev_or0 (ev_not (ev_test (ev_isT (ev_var rfl)))) (ev_or1 (ev_cmp (b := true) (ev_B (ev_cons (ev_var rfl) ev_nil) rfl) (ev_var rfl) (by
    rw [ne_i, List.length_map, List.length_replicate, beq_eq_false_iff_ne.mpr (by omega)]; rfl)))) (st_ret ev_c))))
  have w : F_is_wall_of [.v (wI (List.replicate (n + 1) 0, 1)), .v (.int (n : Nat))] [] = .val (.v (.bl false)) [] := run_e (e_rt (st_rt (st_if1 (ev_or0 (ev_not (ev_test (ev_isT (ev_var rfl)))) (ev_or0 (ev_cmp (ev_B (ev_cons (ev_var rfl) ev_nil) rfl) ev_c rfl) (ev_not (b := false) (ev_test (ev_callP (ds := [tI (List.replicate (n + 1) 0), .int n]) (ev_cons (ev_bin (ev_var rfl) ev_c (ix_t0 _ _ _)) (ev_cons (ev_var rfl) ev_nil)) rfl r))))) (st_ret ev_c))))
  exact run_ex (st_ex (st_if1 (ev_or1 (ev_not (b := false) (ev_test (ev_callP (ds := [wI (List.replicate (n + 1) 0, 1), .int n]) (ev_cons (ev_var rfl) (ev_cons (at_size (ev_var rfl) B.ob) ev_nil)) rfl w)))) (st_raise (by decide +kernel))))
theorem ex_take (B : BodyAt c n m st jb t k E js A) : F_Growing_take c [.obj jb, .v (.int 0)] st = .exc (.arg "number") st := by
  have no : (A.tb.any fun p => decide ((p.1 : Int) = 0)) = false := by
    rw [List.any_eq_false]
    intro p hp
    have := (B.tok.rg p hp).1
    simp
    omega
  exact run_ex (st_ex (st_if1 (ev_or0 (ev_not (ev_test (ev_callP (ds := [.int 0]) (ev_cons (ev_var rfl) ev_nil) rfl (p_int _ [])))) (ev_cmp (b := true) (ev_var rfl) (at_tab (ev_var rfl) B.ob) (by rw [notin_tab B.tab, no]; rfl))) (st_raise (by decide +kernel))))
theorem st_asgx {f : Env → M MV} {g : MV → Env → Option Env} {e : Ex} (h : f ρ st = .exc e st1) : sAsg f g ρ st = .exc e st1 := by
  unfold sAsg M.bind
  rw [h]
theorem ex_pt0 (d : D) : ∃ st', F_points_through c [.v (.int 0), .v d] st = .exc (.arg "size") st' := ⟨_, run_ex (st_ex (st_asgx (ex_make (ev_cons (ev_var rfl) ev_nil) rfl (ex_size (by omega)))))⟩
theorem ex_pt {d : D} (h1 : 1 ≤ n) (h3 : n ≤ 3) (hd : ∀ (ρ : Env) (st : List O), ρ.length = 5 → ρ[1]? = some (some (.m (.v d))) → ρ[0]? = some (some (.m (.v (.int (n : Nat))))) → (fOr (fNot (fTest (fIsi "tuple" (fVar 1)))) (fOr (fCmpT gtM (fB lenM (fCons (fVar 1) fNil)) (fC (.v (.int 60)))) (fNot (fTest (fAllG [4] (iSeqT (fVar 1)) (setN 4) (fCallP 2 F_is_deed (fCons (fVar 4) (fCons (fVar 0) fNil)))))))) ρ st = .val true st) :
    ∃ st', F_points_through c [.v (.int (n : Nat)), .v d] st = .exc (.arg "deeds") st' := by
  obtain ⟨st0, e0, B0, _, _⟩ := ev_grow (c := c) (ρ := startE 5 [.v (.int (n : Nat)), .v d]) (st := st) (fs := fCons (fVar 0) fNil) h1 h3 (ev_cons (ev_var rfl) ev_nil)
  refine ⟨st0, run_ex ?_⟩
  have e1 := st_asg (g := setN 2) e0 rfl
  refine (st_nx e1 (st_ex (st_if1 (hd _ _ rfl rfl rfl) (st_raise (by decide +kernel)))))
theorem ex_pt1 (h1 : 1 ≤ n) (h3 : n ≤ 3) : ∃ st', F_points_through c [.v (.int (n : Nat)), .v (.tup [.tup [.str "put"]])] st = .exc (.arg "deeds") st' := by
  refine ex_pt h1 h3 fun ρ st hl hv h0 => ?_
  have un : eqM [] (.v (.tup [.str "put"])) (.v (.tup [.str "undo"])) = some (.v (.bl false)) := by
    rw [eq_dd (a := .tup [.str "put"]) (by show (PyData.strOk "put" && true) = true; rw [ok_put]; rfl) fits_un]
    show some (MV.v (.bl (("put" : Str) == "undo" && true))) = _
    rw [show (("put" : Str) == "undo") = false from by decide +kernel]
    rfl
  have dd : F_is_deed [.v (.tup [.str "put"]), .v (.int (n : Nat))] [] = .val (.v (.bl false)) [] := run_e (e_seq (st_if0 (ev_cmp (ev_var rfl) (ev_tup (ev_cons ev_c ev_nil) rfl) un) rfl) (e_rt (st_rt (st_if1 (ev_or0 (ev_not (ev_test (ev_isT (ev_var rfl)))) (ev_or1 (ev_cmp (b := true) (ev_B (ev_cons (ev_var rfl) ev_nil) rfl) ev_c rfl))) (st_ret ev_c)))))
  refine ev_or0 (ev_not (ev_test (ev_isT (ev_var hv)))) (ev_or0 (ev_cmp (ev_B (ev_cons (ev_var hv) ev_nil) rfl) ev_c rfl) (ev_not (b := false) (ev_test ?_)))
  refine ev_all (γ := D) (ρ := ρ) (st := st) (st1 := st) id [.tup [.str "put"]] (fun _ => false) (ev_seqT (ev_var hv)) fun x hx => ⟨_, rfl, ?_⟩
  rw [List.mem_singleton.mp hx]
  have h4 : (setE (wipeE ρ [4]) 4 (.v (.tup [.str "put"])))[4]? = some (some (.m (.v (.tup [.str "put"])))) := by
    show ((ρ.set 4 none).set 4 (some (.m (.v (.tup [.str "put"])))))[4]? = _
    rw [List.getElem?_set_self (by rw [List.length_set]; omega)]
  have h5 : (setE (wipeE ρ [4]) 4 (.v (.tup [.str "put"])))[0]? = some (some (.m (.v (.int (n : Nat))))) := by
    show ((ρ.set 4 none).set 4 (some (.m (.v (.tup [.str "put"])))))[0]? = _
    rw [List.getElem?_set_ne (by decide), List.getElem?_set_ne (by decide)]
    exact h0
  exact ev_callP (ds := [.tup [.str "put"], .int n]) (ev_cons (ev_var h4) (ev_cons (ev_var h5) ev_nil)) rfl dd
theorem ex_pt2 (h1 : 1 ≤ n) (h3 : n ≤ 3) (xs : List D) : ∃ st', F_points_through c [.v (.int (n : Nat)), .v (.lst xs)] st = .exc (.arg "deeds") st' :=
  ex_pt h1 h3 fun ρ st hl hv h0 => ev_or1 (ev_not (b := false) (ev_test (ev_bind (ev_var hv) rfl)))
end
end CD

set_option Elab.async false
set_option linter.all false
set_option maxRecDepth 100000
set_option maxHeartbeats 1000000
namespace CD
open PySem PySem.Spec PyProof.Rows L2
/-! ### the plain level: the law's turns -/
abbrev tPut (c : Cs) : Env → M Fl := (sSeq (sAsg (fCallS 2 F__law_pick (fCons (fVar 0) (fCons (fLst (fCons (fTup (fCons (fCallS 3 F__law_row (fCons (fVar 0) (fCons (fVar 1) (fCons (fC (.v (.int 2))) fNil)))) (fCons (fBin subM (fCallS 2 F__law_roll (fCons (fVar 0) (fCons (fC (.v (.int 6))) fNil))) (fC (.v (.int 1)))) fNil))) (fCons (fTup (fCons (fCallP 2 F__law_unit (fCons (fVar 1) (fCons (fCallS 2 F__law_roll (fCons (fVar 0) (fCons (fVar 1) fNil))) fNil))) (fCons (fC (.v (.int 2))) fNil))) fNil))) fNil))) (setN 11)) (sSeq (sPar 5 4 (fCons (fBin addM (fVar 5) (fC (.v (.int 1)))) (fCons (fBin addM (fVar 4) (fLst (fCons (fVar 3) fNil))) fNil))) (sSeq (sAsg (fDictO (fCons (fVar 3) fNil)) (setN 3)) (sSeq (sPutD (fVar 3) (fVar 5) (fVar 11)) (sSeq (sPar 12 13 (fCons (fTup (fCons (fC (.v (.str "put"))) (fCons (fVar 11) fNil))) (fCons (fMeth c.Growing "put" 2 (F_Growing_put c) (fVar 2) (fLen 1 (fCons (fVar 11) fNil))) fNil))) (sIf (fCmpT neM (fBin ixM (fVar 13) (fC (.v (.int 0)))) (fVar 5)) (sRet (fC (.v (.bl false)))) sNil))))))
abbrev tTake (c : Cs) : Env → M Fl := (sSeq (sAsg (fCallS 2 F__law_pick (fCons (fVar 0) (fCons (fB sortedM (fCons (fVar 3) fNil)) fNil))) (setN 14)) (sSeq (sAsg (fBin addM (fVar 4) (fLst (fCons (fVar 3) fNil))) (setN 4)) (sSeq (sAsg (fDictO (fCons (fLockE (fVar 3) (fLc [19] (iKeyO (fVar 3)) (setN 19) (fCmpT neM (fVar 19) (fVar 14)) (fTup (fCons (fVar 19) (fCons (fBin ixM (fVar 3) (fVar 19)) fNil))))) fNil)) (setN 3)) (sPar 12 13 (fCons (fTup (fCons (fC (.v (.str "take"))) (fCons (fVar 14) fNil))) (fCons (fBin addM (fTup (fCons (fC (.v (.int 0))) fNil)) (fMeth c.Growing "take" 2 (F_Growing_take c) (fVar 2) (fLen 1 (fCons (fVar 14) fNil)))) fNil))))))
abbrev tUndo (c : Cs) : Env → M Fl := (sSeq (sAsg (fTup (fCons (fTup (fCons (fC (.v (.str "undo"))) fNil)) (fCons (fC (.v .non)) fNil))) (setTup 2 (setCons (setN 12) (setCons (setN 13) setNil)))) (sSeq (sIf (fCmpT neM (fMeth c.Growing "undo" 1 (F_Growing_undo c) (fVar 2) fNil) (fBin gtM (fB lenM (fCons (fVar 4) fNil)) (fC (.v (.int 0))))) (sRet (fC (.v (.bl false)))) sNil) (sIf (fCmpT gtM (fB lenM (fCons (fVar 4) fNil)) (fC (.v (.int 0)))) (sSeq (sAsg (fBin ixM (fVar 4) (fUn negM (fC (.v (.int 1))))) (setN 3)) (sAsg (fSl (fVar 4) fNoPart (fPart (fUn negM (fC (.v (.int 1)))))) (setN 4))) sNil)))
abbrev tRest (c : Cs) : Env → M Fl := (sSeq (sAsg (fTup (fCons (fVar 1) (fCons (fB tupleM (fCons (fLc [19] (iSeqL (fB sortedM (fCons (fVar 3) fNil))) (setN 19) fYes (fBin ixM (fVar 3) (fVar 19))) fNil)) (fCons (fTup fNil) fNil)))) (setN 15)) (sSeq (sAsg (fCallP 1 (F_corners c) (fCons (fVar 15) fNil)) (setN 16)) (sSeq (sIf (fOr (fCmpT neM (fMeth c.Growing "held" 1 (F_Growing_held c) (fVar 2) fNil) (fVar 15)) (fOr (fCmpT neM (fMeth c.Growing "span" 1 (F_Growing_span c) (fVar 2) fNil) (fVar 16)) (fOr (fNot (fTest (fCallS 1 (F_is_followed c) (fKw 0 1 fNil (fCons (fVar 2) fNil))))) (fCmpT neM (fMeth c.Growing "numbers" 1 (F_Growing_numbers c) (fVar 2) fNil) (fB tupleM (fCons (fB sortedM (fCons (fVar 3) fNil)) fNil)))))) (sRet (fC (.v (.bl false)))) sNil) (sSeq (sAsg (fB tupleM (fCons (fLc [20] (iSeqT (fBin ixM (fVar 16) (fC (.v (.int 1))))) (setN 20) (fCmpT notInM (fVar 20) (fBin ixM (fVar 9) (fC (.v (.int 1))))) (fVar 20)) fNil)) (setN 17)) (sSeq (sIf (fAnd (fCmpT (isNM true) (fVar 13) (fC (.v .non))) (fCmpT neM (fSl (fVar 13) (fPart (fC (.v (.int 1)))) fNoPart) (fTup (fCons (fVar 17) (fCons (fB tupleM (fCons (fLc [20] (iSeqT (fBin ixM (fVar 9) (fC (.v (.int 1))))) (setN 20) (fCmpT notInM (fVar 20) (fBin ixM (fVar 16) (fC (.v (.int 1))))) (fVar 20)) fNil)) fNil))))) (sRet (fC (.v (.bl false)))) sNil) (sSeq (sApO (fVar 6) (fVar 12)) (sApO (fVar 7) (fB lenM (fCons (fBin ixM (fVar 16) (fC (.v (.int 1)))) fNil)))))))))
abbrev tEnd (c : Cs) : Env → M Fl := (sSeq (sIf (fCmpT neM (fCallP 2 (F_points_through c) (fKw 1 1 (fCons (fVar 1) fNil) (fCons (fB tupleM (fCons (fVar 6) fNil)) fNil))) (fB tupleM (fCons (fVar 7) fNil))) (sRet (fC (.v (.bl false)))) sNil) (sSeq (sAsg (fLst (fCons (fRef (fMake c.Growing 2 (F_Growing___init__ c) (fCons (fC (.v (.int 5))) fNil))) (fCons (fRef (fMeth c.Growing "put" 2 (F_Growing_put c) (fVar 2) (fCons (fC (.v .non)) fNil))) (fCons (fRef (fMeth c.Growing "put" 2 (F_Growing_put c) (fVar 2) (fCons (fTup (fCons (fBin mulM (fTup (fCons (fC (.v (.int 0))) fNil)) (fBin addM (fVar 1) (fC (.v (.int 1))))) (fCons (fC (.v (.int 1))) fNil))) fNil))) (fCons (fRef (fMeth c.Growing "take" 2 (F_Growing_take c) (fVar 2) (fCons (fC (.v (.int 0))) fNil))) (fCons (fRef (fCallP 2 (F_points_through c) (fCons (fC (.v (.int 0))) (fCons (fC (.v .non)) fNil)))) (fCons (fRef (fCallP 2 (F_points_through c) (fCons (fVar 1) (fCons (fTup (fCons (fTup (fCons (fC (.v (.str "put"))) fNil)) fNil)) fNil)))) (fCons (fRef (fCallP 2 (F_points_through c) (fCons (fVar 1) (fCons (fLst (fCons (fTup (fCons (fC (.v (.str "undo"))) fNil)) fNil)) fNil)))) (fCons (fRef (fCallS 1 (F_is_followed c) (fCons (fC (.v .non)) fNil))) fNil))))))))) (setN 18)) (sRet (fBin eqM (fVar 18) (fLst (fCons (fC (.v (.str "size"))) (fCons (fC (.v (.str "wall"))) (fCons (fC (.v (.str "wall"))) (fCons (fC (.v (.str "number"))) (fCons (fC (.v (.str "size"))) (fCons (fC (.v (.str "deeds"))) (fCons (fC (.v (.str "deeds"))) (fCons (fC (.v (.str "body"))) fNil)))))))))))))
abbrev tBody (c : Cs) : Env → M Fl := (sSeq (sAsg (fTup (fCons (fCallP 1 (F_corners c) (fCons (fTup (fCons (fVar 1) (fCons (fB tupleM (fCons (fLc [19] (iSeqL (fB sortedM (fCons (fVar 3) fNil))) (setN 19) fYes (fBin ixM (fVar 3) (fVar 19))) fNil)) (fCons (fTup fNil) fNil)))) fNil)) (fCons (fCallS 2 F__law_roll (fCons (fVar 0) (fCons (fC (.v (.int 6))) fNil))) fNil))) (setTup 2 (setCons (setN 9) (setCons (setN 10) setNil)))) (sSeq (sIf (fCmpT ltM (fVar 10) (fC (.v (.int 4)))) (tPut c) (sIf (fAnd (fCmpT eqM (fVar 10) (fC (.v (.int 4)))) (fCmpT gtM (fB lenM (fCons (fVar 3) fNil)) (fC (.v (.int 0))))) (tTake c) (tUndo c))) (tRest c)))
/-- what the law holds itself: dice, a table, tables of earlier, deeds, counts -/
structure LawAt (n m N : Nat) (st : List O) (jd jds jcs tl : Nat) (El : MV) (jl : List Nat) (A : Abs) (dv cv : List D) : Prop where
  dice : DiceAt N st jd
  tab : st[tl]? = some (.dic (tabK A.tb))
  er : El = .objs jl ∨ (jl = [] ∧ El = .v (.lst []))
  ers : (jl.map fun j => st[j]?) = A.er.map fun tb => some (O.dic (tabK tb))
  dl : st[jds]? = some (.lst dv)
  cl : st[jcs]? = some (.lst cv)
  n1 : jd ≠ jds
  n2 : jd ≠ jcs
  n3 : jds ≠ jcs
  nt : ∀ x ∈ tl :: jl, x ≠ jd ∧ x ≠ jds ∧ x ≠ jcs
  jn : jl.length ≤ m
section
variable {ρ : Env} {st st1 st2 : List O} {c : Cs} {n m N t k jb jd jds jcs tl : Nat} {E El : MV} {js jl : List Nat} {A : Abs} {tb : Tbl} {l : Nat} {dv cv : List D}
theorem LawAt.jlt (L : LawAt n m N st jd jds jcs tl El jl A dv cv) : ∀ j ∈ jd :: jds :: jcs :: tl :: jl, j < st.length := fun j hj => by
  rcases List.mem_cons.mp hj with rfl | hj
  · exact L.dice.lt
  rcases List.mem_cons.mp hj with rfl | hj
  · exact lt_of L.dl
  rcases List.mem_cons.mp hj with rfl | hj
  · exact lt_of L.cl
  rcases List.mem_cons.mp hj with rfl | hj
  · exact lt_of L.tab
  · have e : st[j]? ∈ A.er.map fun tb => some (O.dic (tabK tb)) := by rw [← L.ers]; exact List.mem_map_of_mem hj
    obtain ⟨tb, _, e⟩ := List.mem_map.mp e
    exact lt_of e.symm
theorem LawAt.same (L : LawAt n m N st jd jds jcs tl El jl A dv cv) (h : ∀ j ∈ jd :: jds :: jcs :: tl :: jl, st1[j]? = st[j]?) : LawAt n m N st1 jd jds jcs tl El jl A dv cv :=
  ⟨L.dice.same (h jd (by simp)), (h tl (by simp)).trans L.tab, L.er, (List.map_congr_left fun j hj => h j (by simp [hj])).trans L.ers, (h jds (by simp)).trans L.dl, (h jcs (by simp)).trans L.cl, L.n1, L.n2, L.n3, L.nt, L.jn⟩
/-- the dice were rolled -/
theorem LawAt.rolled {N' : Nat} (L : LawAt n m N st jd jds jcs tl El jl A dv cv) (d : DiceAt N' st1 jd) (h : ∀ j, j ≠ jd → st1[j]? = st[j]?) : LawAt n m N' st1 jd jds jcs tl El jl A dv cv :=
  ⟨d, (h tl (L.nt tl (by simp)).1).trans L.tab, L.er, (List.map_congr_left fun j hj => h j (L.nt j (by simp [hj])).1).trans L.ers, (h jds L.n1.symm).trans L.dl, (h jcs L.n2.symm).trans L.cl, L.n1, L.n2, L.n3, L.nt, L.jn⟩
/-- law and body side by side, each with its own things -/
structure Both (c : Cs) (n m N : Nat) (st : List O) (jb jd jds jcs tl : Nat) (El : MV) (A : Abs) (dv cv : List D) : Prop where
  ex : ∃ jl t k E js, LawAt n m N st jd jds jcs tl El jl A dv cv ∧ BodyAt c n m st jb t k E js A ∧ ∀ x ∈ jd :: jds :: jcs :: tl :: jl, x ∉ jb :: t :: k :: js
theorem Both.rolled {N' : Nat} (h : Both c n m N st jb jd jds jcs tl El A dv cv) (d : DiceAt N' st1 jd) (f : ∀ j, j ≠ jd → st1[j]? = st[j]?) : Both c n m N' st1 jb jd jds jcs tl El A dv cv := by
  obtain ⟨jl, t, k, E, js, L, B, dis⟩ := h.ex
  exact ⟨jl, t, k, E, js, L.rolled d f, B.same fun j hj => f j fun z => dis jd (by simp) (z ▸ hj), dis⟩
theorem Both.dice (h : Both c n m N st jb jd jds jcs tl El A dv cv) : DiceAt N st jd := by
  obtain ⟨jl, t, k, E, js, L, B, dis⟩ := h.ex
  exact L.dice
theorem add_erL (L : LawAt n m N st jd jds jcs tl El jl A dv cv) (hm : m ≤ 11) (st : List O) (x : Nat) : addM st El (.objs [x]) = some (.objs (jl ++ [x])) := by
  have hl : jl.length + [x].length ≤ 1000000 := by have := L.jn; simp; omega
  rcases L.er with rfl | ⟨rfl, rfl⟩
  · show (if szOk (jl.length + [x].length) = true then some (MV.objs (jl ++ [x])) else none) = _
    rw [if_pos (by unfold szOk; exact decide_eq_true hl)]
  · rfl
theorem ev_len1 {fs : Env → M (List MV)} {x : MV} (h : fs ρ st = .val [x] st1) : fLen 1 fs ρ st = .val [x] st1 := ev_bind h (ev_bind (a := ()) (st1 := st1) rfl rfl)
theorem st_par {i j : Nat} {fs : Env → M (List MV)} {x y : MV} (h : fs ρ st = .val [x, y] st1) : sPar i j fs ρ st = .val (.nx (setE (setE ρ i x) j y)) st1 := ev_bind h (ev_bind (a := setE (setE ρ i x) j y) (st1 := st1) rfl rfl)
theorem unit_ok {i : Nat} (h : i < n) : WallOk n (unitR n i, 2) := ⟨by simp [unitR], fun x hx => by
  obtain ⟨j, _, rfl⟩ := List.mem_map.mp hx
  split <;> decide, by show (2 : Int).natAbs ≤ 4; decide⟩
/-- the drawn wall -/
theorem ev_wall (D0 : DiceAt N st jd) (hN : N + n + 3 ≤ 1000000) (h1 : 1 ≤ n) (h3 : n ≤ 3) (r0 : ρ[0]? = some (some (.m (.obj jd)))) (r1 : ρ[1]? = some (some (.m (.v (.int (n : Nat)))))) : ∃ st' w, fCallS 2 F__law_pick (fCons (fVar 0) (fCons (fLst (fCons (fTup (fCons (fCallS 3 F__law_row (fCons (fVar 0) (fCons (fVar 1) (fCons (fC (.v (.int 2))) fNil)))) (fCons (fBin subM (fCallS 2 F__law_roll (fCons (fVar 0) (fCons (fC (.v (.int 6))) fNil))) (fC (.v (.int 1)))) fNil))) (fCons (fTup (fCons (fCallP 2 F__law_unit (fCons (fVar 1) (fCons (fCallS 2 F__law_roll (fCons (fVar 0) (fCons (fVar 1) fNil))) fNil))) (fCons (fC (.v (.int 2))) fNil))) fNil))) fNil)) ρ st = .val (.v (wI w)) st' ∧
    WallOk n w ∧ DiceAt (N + n + 3) st' jd ∧ (∀ i, i ≠ jd → st'[i]? = st[i]?) := by
  obtain ⟨sa, v, e1, hv, bv, d1, f1, _⟩ := p_row (n := n) D0 (by omega) (by omega)
  obtain ⟨sb, r, e2, hr, d2, f2, _⟩ := ev_roll (ρ := ρ) (st := sa) (many := 6) (fs := fCons (fVar 0) (fCons (fC (.v (.int 6))) fNil)) d1 (by omega) (by decide) (by decide) (ev_cons (ev_var r0) (ev_cons ev_c ev_nil))
  obtain ⟨sc, q, e3, hq, d3, f3, _⟩ := ev_roll (ρ := ρ) (st := sb) (many := n) (fs := fCons (fVar 0) (fCons (fVar 1) fNil)) d2 (by omega) h1 (by omega) (ev_cons (ev_var r0) (ev_cons (ev_var r1) ev_nil))
  obtain ⟨sd, d, e4, hd, d4, f4, _⟩ := p_pick (st := sc) (ds := [wI (v, (r : Int) - 1), wI (unitR n q, 2)]) d3 (by omega) (by simp) (by simp)
  have call : fCallS 2 F__law_pick (fCons (fVar 0) (fCons (fLst (fCons (fTup (fCons (fCallS 3 F__law_row (fCons (fVar 0) (fCons (fVar 1) (fCons (fC (.v (.int 2))) fNil)))) (fCons (fBin subM (fCallS 2 F__law_roll (fCons (fVar 0) (fCons (fC (.v (.int 6))) fNil))) (fC (.v (.int 1)))) fNil))) (fCons (fTup (fCons (fCallP 2 F__law_unit (fCons (fVar 1) (fCons (fCallS 2 F__law_roll (fCons (fVar 0) (fCons (fVar 1) fNil))) fNil))) (fCons (fC (.v (.int 2))) fNil))) fNil))) fNil)) ρ st = .val (.v d) sd :=
    ev_callS (ms := [.obj jd, .v (.lst [wI (v, (r : Int) - 1), wI (unitR n q, 2)])]) (st1 := sc) (ev_cons (ev_var r0) (ev_cons (ev_lst (ev_cons (ev_tup (ev_cons (x := vI v) (ev_callS (ms := [.obj jd, .v (.int n), .v (.int 2)]) (ev_cons (ev_var r0) (ev_cons (ev_var r1) (ev_cons ev_c ev_nil))) rfl e1) (ev_cons (ev_bin e2 ev_c (sub_i _ _ _)) ev_nil)) rfl) (ev_cons (ev_tup (ev_cons (x := vI (unitR n q)) (ev_callP (ds := [.int n, .int q]) (ev_cons (ev_var r1) (ev_cons e3 ev_nil)) rfl (p_unit (by omega) [])) (ev_cons ev_c ev_nil)) rfl) ev_nil)) rfl) ev_nil)) rfl e4
  have fr : ∀ i, i ≠ jd → sd[i]? = st[i]? := fun i hi => (f4 i hi).trans ((f3 i hi).trans ((f2 i hi).trans (f1 i hi)))
  rcases List.mem_cons.mp hd with h | h
  · exact ⟨sd, (v, (r : Int) - 1), by rw [call, h], ⟨hv, bv, by show ((r : Int) - 1).natAbs ≤ 4; omega⟩, d4.mono (by omega), fr⟩
  · rw [List.mem_singleton] at h
    exact ⟨sd, (unitR n q, 2), by rw [call, h], unit_ok hq, d4.mono (by omega), fr⟩
/-- the law's slots -/
abbrev lawE (n : Nat) (jd jb tl : Nat) (El : MV) (last : Nat) (jds jcs : Nat) (s8 s9 s10 s11 s12 s13 s14 s15 s16 s17 s18 s19 s20 : Option SV) : Env :=
  [some (.m (.obj jd)), some (.m (.v (.int (n : Nat)))), some (.m (.obj jb)), some (.m (.obj tl)), some (.m El), some (.m (.v (.int (last : Nat)))), some (.m (.obj jds)), some (.m (.obj jcs)), s8, s9, s10, s11, s12, s13, s14, s15, s16, s17, s18, s19, s20]
/-- how a branch of a turn ends: the next deed was done at both -/
def Turned (c : Cs) (n m N : Nat) (st1 : List O) (jb jd jds jcs : Nat) (A : Abs) (dv cv : List D) (r : Out Fl) (s8 s9 s10 s15 s16 s17 s18 s19 s20 : Option SV) : Prop :=
  ∃ d told tl' El' s11 s14 st2, r = .val (.nx (lawE n jd jb tl' El' (absStep A d).last jds jcs s8 s9 s10 s11 (some (.m (.v (deedI d)))) (some (.m told)) s14 s15 s16 s17 s18 s19 s20)) st2 ∧ okDeed n A d ∧ (told = .v .non ∨ ∃ x, told = .v (.tup (x :: chgD n A.tb (absStep A d).tb))) ∧ Both c n (m + 1) (N + n + 3) st2 jb jd jds jcs tl' El' (absStep A d) dv cv
variable {s8 s9 s10 s11 s12 s13 s14 s15 s16 s17 s18 s19 s20 : Option SV}
theorem t_put (h : Both c n m N st jb jd jds jcs tl El A dv cv) (hN : N + n + 3 ≤ 1000000) (hm : m + 1 ≤ 11) :
    Turned c n m N st jb jd jds jcs A dv cv (tPut c (lawE n jd jb tl El A.last jds jcs s8 s9 s10 s11 s12 s13 s14 s15 s16 s17 s18 s19 s20) st) s8 s9 s10 s15 s16 s17 s18 s19 s20 := by
  obtain ⟨jl, t, k, E, js, L, B, dis⟩ := h.ex
  obtain ⟨sa, w, e1, hw, d1, f1⟩ := ev_wall (ρ := lawE n jd jb tl El A.last jds jcs s8 s9 s10 s11 s12 s13 s14 s15 s16 s17 s18 s19 s20) L.dice hN B.n1 B.n3 rfl rfl
  have La := L.rolled d1 f1
  have Ba := B.same fun j hj => f1 j fun z => dis jd (by simp) (z ▸ hj)
  have lt1 := La.jlt
  have lt2 := Ba.slt
  -- the law's own table anew
  have tlx : (sa ++ [O.dic (tabK A.tb)])[sa.length]? = some (.dic (tabK A.tb)) := get_last _ _
  let sb := sa ++ [O.dic (tabK (A.tb ++ [(A.last + 1, w)]))]
  have sbe : (sa ++ [O.dic (tabK A.tb)]).set sa.length (.dic (tabK (A.tb ++ [(A.last + 1, w)]))) = sb := set_last _ _ _
  have Bb : BodyAt c n m sb jb t k E js A := Ba.same fun j hj => app_lt (lt2 j hj)
  obtain ⟨sc, e2, Bc, F⟩ := p_put Bb hm hw
  have lb : ∀ j, j < sa.length → j ∉ jb :: t :: k :: js → sc[j]? = sa[j]? := fun j hj hn => by
    rw [F.1 j (by simp [sb]; omega) hn]
    exact app_lt hj
  have hsa : sa.length ∉ jb :: t :: k :: js := fun hz => by have := lt2 _ hz; omega
  have idx : ∀ j ∈ jd :: jds :: jcs :: tl :: jl, sc[j]? = sa[j]? := fun j hj => lb j (lt1 j hj) (dis j hj)
  have jb0 := B.ob
  refine ⟨.put w, .v (.tup (.int ((A.last + 1 : Nat) : Int) :: chgD n A.tb (A.tb ++ [(A.last + 1, w)]))), sa.length, .objs (jl ++ [tl]), some (.m (.v (wI w))), s14, sc, ?_, hw, .inr ⟨_, rfl⟩, ⟨jl ++ [tl], t, k, _, _, ?_, Bc, ?_⟩⟩
  · refine st_nx (st_asg e1 rfl) (st_nx (st_par (x := .v (.int ((A.last + 1 : Nat) : Int))) (y := .objs (jl ++ [tl])) (ev_cons (ev_suc (ev_var rfl)) (ev_cons (ev_bin (ev_var rfl) (ev_lst (ev_cons (ev_var rfl) ev_nil) rfl) (add_erL L (by omega) _ _)) ev_nil))) (st_nx (st_asg (x := .obj sa.length) (st1 := sa ++ [O.dic (tabK A.tb)]) (ev_bind (ev_cons (ev_var rfl) ev_nil) (ev_bind (a := tabK A.tb) (st1 := sa) ?_ rfl)) rfl) (st_nx (st_putD (ev_var rfl) (ev_var rfl) (ev_var rfl) tlx (by rw [tab_len]; have := B.tok.len; omega)) ?_)))
    · simp only [M.rd, dictSrc, La.tab]
    · rw [put_tab (fun p hp => (B.tok.rg p hp).2), sbe]
      refine st_nx (st_par (x := .v (deedI (.put w))) (ev_cons (ev_tup (ev_cons ev_c (ev_cons (ev_var rfl) ev_nil)) rfl) (ev_cons (ev_meth (ev_var rfl) Bb.ob rfl (ev_len1 (ev_cons (ev_var rfl) ev_nil)) rfl e2) ev_nil))) (st_if0 (ev_cmp (ev_bin (ev_var rfl) ev_c (ix_t0 _ _ _)) (ev_var rfl) ?_) rfl)
      rw [ne_i]
      simp
  · have lc : sc[sa.length]? = some (.dic (tabK (A.tb ++ [(A.last + 1, w)]))) := by
      rw [F.1 sa.length (by simp [sb]) hsa]
      exact get_last _ _
    refine ⟨La.dice.same (idx jd (by simp)), lc, .inl rfl, ?_, (idx jds (by simp)).trans La.dl, (idx jcs (by simp)).trans La.cl, L.n1, L.n2, L.n3, fun x hx => ?_, by have := L.jn; simp; omega⟩
    · rw [List.map_append]
      show _ = (A.er ++ [A.tb]).map _
      rw [List.map_append, ← La.ers]
      congr 1
      · exact List.map_congr_left fun j hj => idx j (by simp [hj])
      · show [sc[tl]?] = _
        rw [idx tl (by simp), La.tab]
        rfl
    · rcases List.mem_cons.mp hx with rfl | hx
      · have a1 := lt1 jd (by simp)
        have a2 := lt1 jds (by simp)
        have a3 := lt1 jcs (by simp)
        omega
      · rcases List.mem_append.mp hx with hx | hx
        · exact L.nt x (by simp [hx])
        · rw [List.mem_singleton.mp hx]; exact L.nt tl (by simp)
  · intro x hx hz
    have old : x ∈ jd :: jds :: jcs :: tl :: jl ∨ x = sa.length := by
      simp only [List.mem_cons, List.mem_append, List.not_mem_nil, or_false] at hx ⊢
      rcases hx with h | h | h | h | h | h <;> simp [h]
    rcases F.2.2 x hz with h | h
    · rcases old with o | o
      · exact dis x o h
      · exact hsa (o ▸ h)
    · have hl : sb.length = sa.length + 1 := by simp [sb]
      rcases old with o | o
      · have := lt1 x o; omega
      · omega
theorem t_take (h : Both c n m N st jb jd jds jcs tl El A dv cv) (hN : N + n + 3 ≤ 1000000) (hm : m + 1 ≤ 11) (hne : A.tb ≠ []) :
    Turned c n m N st jb jd jds jcs A dv cv (tTake c (lawE n jd jb tl El A.last jds jcs s8 s9 s10 s11 s12 s13 s14 s15 s16 s17 s18 s19 s20) st) s8 s9 s10 s15 s16 s17 s18 s19 s20 := by
  obtain ⟨jl, t, k, E, js, L, B, dis⟩ := h.ex
  obtain ⟨sa, d, e1, hd, d1, f1, _⟩ := p_pick (st := st) (ds := (keysOf A.tb).map cI) L.dice (by omega) (by unfold keysOf; simp [hne]) (by unfold keysOf; rw [List.length_map, List.length_map]; have := B.tok.len; omega)
  obtain ⟨q, hq, rfl⟩ := List.mem_map.mp hd
  have La := (L.rolled d1 f1)
  have Ba := B.same fun j hj => f1 j fun z => dis jd (by simp) (z ▸ hj)
  have lt1 := La.jlt
  have lt2 := Ba.slt
  let sb := sa ++ [O.dic (tabK (lessT A.tb q))]
  have Bb : BodyAt c n m sb jb t k E js A := Ba.same fun j hj => app_lt (lt2 j hj)
  obtain ⟨sc, t', k', e2, Bc, F⟩ := p_take Bb hm hq
  have lb : ∀ j, j < sa.length → j ∉ jb :: t :: k :: js → sc[j]? = sa[j]? := fun j hj hn => by
    rw [F.1 j (by simp [sb]; omega) hn]
    exact app_lt hj
  have hsa : sa.length ∉ jb :: t :: k :: js := fun hz => by have := lt2 _ hz; omega
  have idx : ∀ j ∈ jd :: jds :: jcs :: tl :: jl, sc[j]? = sa[j]? := fun j hj => lb j (lt1 j hj) (dis j hj)
  refine ⟨.take q, .v (.tup (.int 0 :: chgD n A.tb (lessT A.tb q))), sa.length, .objs (jl ++ [tl]), s11, some (.m (.v (cI q))), sc, ?_, hq, .inr ⟨_, rfl⟩, ⟨jl ++ [tl], t', k', _, _, ?_, Bc, ?_⟩⟩
  · refine st_nx (st_asg (ev_callS (ms := [.obj jd, .v (.lst ((keysOf A.tb).map cI))]) (ev_cons (ev_var rfl) (ev_cons (ev_B (ev_cons (ev_var rfl) ev_nil) (sort_tab L.tab B.tok B.m11)) ev_nil)) rfl e1) rfl) (st_nx (st_asg (x := .objs (jl ++ [tl])) (ev_bin (ev_var rfl) (ev_lst (ev_cons (ev_var rfl) ev_nil) rfl) (add_erL L (by omega) _ _)) rfl) (st_nx (st_asg (ev_less (i := 19) (q := q) B.tok B.m11 La.tab (fun ρ' x _ ho => ev_var ((ho 3 (by decide)).trans rfl)) (ev_var rfl) (fun ρ' st' ho => ev_var ((ho 14 (by decide)).trans rfl)) (by show 19 < 21; decide) (by decide)) rfl) ?_))
    refine st_par (x := .v (deedI (.take q))) (ev_cons (ev_tup (ev_cons ev_c (ev_cons (ev_var rfl) ev_nil)) rfl) (ev_cons (ev_bin (ev_tup (ev_cons ev_c ev_nil) rfl) (ev_meth (ev_var rfl) Bb.ob rfl (ev_len1 (ev_cons (ev_var rfl) ev_nil)) rfl e2) ((add_t _ _ (by simp [chgD]) _).trans rfl)) ev_nil))
  · have lc : sc[sa.length]? = some (.dic (tabK (lessT A.tb q))) := by
      rw [F.1 sa.length (by simp [sb]) hsa]
      exact get_last _ _
    refine ⟨(La.dice.same (idx jd (by simp))).mono (by omega), lc, .inl rfl, ?_, (idx jds (by simp)).trans La.dl, (idx jcs (by simp)).trans La.cl, L.n1, L.n2, L.n3, fun x hx => ?_, by have := L.jn; simp; omega⟩
    · rw [List.map_append]
      show _ = (A.er ++ [A.tb]).map _
      rw [List.map_append, ← La.ers]
      congr 1
      · exact List.map_congr_left fun j hj => idx j (by simp [hj])
      · show [sc[tl]?] = _
        rw [idx tl (by simp), La.tab]
        rfl
    · rcases List.mem_cons.mp hx with rfl | hx
      · have a1 := lt1 jd (by simp)
        have a2 := lt1 jds (by simp)
        have a3 := lt1 jcs (by simp)
        omega
      · rcases List.mem_append.mp hx with hx | hx
        · exact L.nt x (by simp [hx])
        · rw [List.mem_singleton.mp hx]; exact L.nt tl (by simp)
  · intro x hx hz
    have old : x ∈ jd :: jds :: jcs :: tl :: jl ∨ x = sa.length := by
      simp only [List.mem_cons, List.mem_append, List.not_mem_nil, or_false] at hx ⊢
      rcases hx with h | h | h | h | h | h <;> simp [h]
    rcases F.2.2 x hz with h | h
    · rcases old with o | o
      · exact dis x o h
      · exact hsa (o ▸ h)
    · have hl : sb.length = sa.length + 1 := by simp [sb]
      rcases old with o | o
      · have := lt1 x o; omega
      · omega
theorem t_undo (h : Both c n m N st jb jd jds jcs tl El A dv cv) (hm : m + 1 ≤ 11) :
    Turned c n m N st jb jd jds jcs A dv cv (tUndo c (lawE n jd jb tl El A.last jds jcs s8 s9 s10 s11 s12 s13 s14 s15 s16 s17 s18 s19 s20) st) s8 s9 s10 s15 s16 s17 s18 s19 s20 := by
  obtain ⟨jl, t, k, E, js, L, B, dis⟩ := h.ex
  obtain ⟨sc, t', k', E', js', e2, Bc, F⟩ := p_undo B
  have lt1 := L.jlt
  have idx : ∀ j ∈ jd :: jds :: jcs :: tl :: jl, sc[j]? = st[j]? := fun j hj => F.1 j (lt1 j hj) (dis j hj)
  have dis2 : ∀ x ∈ jd :: jds :: jcs :: tl :: jl, x ∉ jb :: t' :: k' :: js' := fun x hx hz => by
    rcases F.2.2 x hz with h | h
    · exact dis x hx h
    · have := lt1 x hx; omega
  have Lc := L.same idx
  have hjl : jl.length = A.er.length := by
    have := congrArg List.length L.ers
    simpa using this
  have len : ∀ (ρ : Env) (st : List O), ρ[4]? = some (some (.m El)) → fB lenM (fCons (fVar 4) fNil) ρ st = .val (.v (.int (A.er.length : Nat))) st := fun ρ st h4 => by
    refine ev_B (ev_cons (ev_var h4) ev_nil) ?_
    rcases L.er with h | ⟨hz, h⟩
    · rw [h, ← hjl]; rfl
    · rw [h, ← hjl, hz]; rfl
  have same : neM sc (.v (.bl (!A.er.isEmpty))) (.v (.bl (decide ((0 : Int) < (A.er.length : Nat))))) = some (.v (.bl false)) := by
    show some (MV.v (.bl (!((!A.er.isEmpty) == decide ((0 : Int) < (A.er.length : Nat)))))) = _
    cases he : A.er with
    | nil => rfl
    | cons x xs =>
      rw [decide_eq_true (by simp)]
      rfl
  have okU : okDeed n A .undo := trivial
  by_cases he : A.er = []
  · have hA := er_undo he
    refine ⟨.undo, .v .non, tl, El, s11, s14, sc, ?_, okU, .inl rfl, ⟨jl, t', k', E', js', ?_, Bc.mono (by omega) hm, dis2⟩⟩
    · rw [hA]
      refine st_nx (st_asg (ev_tup (ev_cons (ev_tup (ev_cons ev_c ev_nil) rfl) (ev_cons ev_c ev_nil)) rfl) rfl) (st_nx (st_if0 (ev_cmp (ev_meth (ev_var rfl) B.ob rfl ev_nil rfl e2) (ev_bin (len _ _ rfl) ev_c (gt_t _ _ _)) same) rfl) (st_if0 (ev_cmp (len _ _ rfl) ev_c (by rw [gt_t, he]; rfl)) rfl))
    · rw [hA]
      exact ⟨Lc.dice.mono (by omega), Lc.tab, Lc.er, Lc.ers, Lc.dl, Lc.cl, Lc.n1, Lc.n2, Lc.n3, Lc.nt, by have := Lc.jn; omega⟩
  · obtain ⟨er, tb, hE⟩ : ∃ l x, A.er = l ++ [x] := ⟨_, _, (List.dropLast_concat_getLast he).symm⟩
    have hA := er_undo1 hE
    obtain ⟨jl', x, rfl⟩ : ∃ l x, jl = l ++ [x] := by
      have hne : jl ≠ [] := fun z => by rw [z, hE] at hjl; simp at hjl
      exact ⟨_, _, (List.dropLast_concat_getLast hne).symm⟩
    have hEl : El = .objs (jl' ++ [x]) := by
      rcases L.er with h | ⟨h, _⟩
      · exact h
      · simp at h
    have hers := Lc.ers
    rw [hE, List.map_append, List.map_append] at hers
    have hl2 : (jl'.map fun j => sc[j]?).length = (er.map fun tb => some (O.dic (tabK tb))).length := by rw [hE] at hjl; simp at hjl ⊢; exact hjl
    obtain ⟨g1, g2⟩ := List.append_inj hers hl2
    have hx : sc[x]? = some (.dic (tabK tb)) := by simpa using g2
    refine ⟨.undo, .v .non, x, .objs jl', s11, s14, sc, ?_, okU, .inl rfl, ⟨jl', t', k', E', js', ?_, Bc.mono (by omega) hm, fun y hy => dis2 y (by
      simp only [List.mem_cons, List.mem_append, List.not_mem_nil, or_false] at hy ⊢
      rcases hy with h | h | h | h | h <;> simp [h])⟩⟩
    · rw [hA]
      refine st_nx (st_asg (ev_tup (ev_cons (ev_tup (ev_cons ev_c ev_nil) rfl) (ev_cons ev_c ev_nil)) rfl) rfl) (st_nx (st_if0 (ev_cmp (ev_meth (ev_var rfl) B.ob rfl ev_nil rfl e2) (ev_bin (len _ _ rfl) ev_c (gt_t _ _ _)) same) rfl) (st_if1 (ev_cmp (len _ _ rfl) ev_c (by rw [gt_t, decide_eq_true (by rw [hE]; simp)])) (st_nx (st_asg (x := .obj x) (ev_bin (ev_var rfl) (x := El) (ev_bind (ev_c (x := .v (.int 1))) rfl) ?_) rfl) (st_asg (x := .objs jl') (ev_bind (a := El) (ev_var rfl) (ev_bind (a := none) (st1 := sc) rfl (ev_bind (a := some (-1)) (st1 := sc) rfl ?_))) rfl))))
      · rw [hEl]
        show (atD (jl' ++ [x]) (-1)).map MV.obj = _
        rw [at_m1]
        rfl
      · rw [hEl]
        show M.of (some (MV.objs (cutD (jl' ++ [x]) none (some (-1))))) sc = _
        rw [cut_last _ (by simp), List.dropLast_concat]
        rfl
    · rw [hA]
      exact ⟨Lc.dice.mono (by omega), hx, .inl rfl, g1, Lc.dl, Lc.cl, Lc.n1, Lc.n2, Lc.n3, fun y hy => Lc.nt y (by
        simp only [List.mem_cons, List.mem_append, List.not_mem_nil, or_false] at hy ⊢
        rcases hy with h | h <;> simp [h]), by have := Lc.jn; simp at this; omega⟩
end
end CD

set_option Elab.async false
set_option linter.all false
set_option maxRecDepth 100000
set_option maxHeartbeats 1000000
namespace CD
open PySem PySem.Spec PyProof.Rows L2
/-! ### the plain level: the law -/
section
variable {ρ : Env} {st st1 st2 : List O} {c : Cs} {n m N t k jb jd jds jcs tl : Nat} {E El : MV} {js jl : List Nat} {A : Abs} {tb : Tbl} {l : Nat} {dv cv : List D} {s8 s9 s10 s11 s12 s13 s14 s15 s16 s17 s18 s19 s20 : Option SV}
theorem st_apO {fo fv : Env → M MV} {j : Nat} {ds : List D} {d : D} (ho : fo ρ st = .val (.obj j) st) (hj : st[j]? = some (.lst ds)) (hv : fv ρ st = .val (.v d) st) (hl : ds.length + 1 ≤ 1000000) : sApO fo fv ρ st = .val (.nx ρ) (st.set j (.lst (ds ++ [d]))) := by
  have hz : szOk (ds.length + 1) = true := by unfold szOk; exact decide_eq_true hl
  refine ev_bind ho (ev_bind (a := j) (st1 := st) (by simp only [M.rd, hj]) (ev_bind hv (ev_bind (a := ds ++ [d]) (st1 := st) ?_ rfl)))
  simp only [M.rd, hj, hz, if_true]
theorem ev_kw {a b : Nat} {fs gs : Env → M (List MV)} {xs ys : List MV} (h : fs ρ st = .val xs st1) (k : gs ρ st1 = .val ys st2) (hx : xs.length = a) (hy : ys.length = b) : fKw a b fs gs ρ st = .val (xs ++ ys) st2 := by
  refine ev_bind h (ev_bind k (ev_bind (a := ()) (st1 := st2) ?_ rfl))
  rw [if_pos ⟨hx, hy⟩]
  rfl
theorem ev_ix1 {f : Env → M MV} {s : CS} (hv : f ρ st = .val (.v (spanD n s)) st) : fBin ixM f (fC (.v (.int 1))) ρ st = .val (.v (.tup (ptsD n s))) st := by
  obtain ⟨xs, e⟩ := spanD_1 n s
  refine ev_bin hv ev_c ?_
  rw [e]
  exact ix_t1 _ _ _ _
theorem without_sub {xs ys : List D} {j : Nat} (h : xs.all (D.fits j) = true) : (without xs ys).all (D.fits j) = true := List.all_eq_true.mpr fun x hx => List.all_eq_true.mp h x (List.mem_filter.mp hx).1
theorem fits_chg (n : Nat) (a b : Tbl) : D.fits 20 (.tup (chgD n a b)) = true := by
  show (D.fits 19 (.tup _) && (D.fits 19 (.tup _) && true)) = true
  rw [show D.fits 19 (.tup (without (ptsD n (coneT n b)) (ptsD n (coneT n a)))) = true from without_sub (fits_pts 16 n _), show D.fits 19 (.tup (without (ptsD n (coneT n a)) (ptsD n (coneT n b)))) = true from without_sub (fits_pts 16 n _)]
  rfl
theorem fits_nats (ks : List Nat) : D.fits 20 (.tup (ks.map cI)) = true := fits_map (j := 19) fun x _ => rfl
theorem ev_rest {f : Env → M MV} {x : D} {ys : List D} (hf : f ρ st = .val (.v (.tup (x :: ys))) st) : fSl f (fPart (fC (.v (.int 1)))) fNoPart ρ st = .val (.v (.tup ys)) st := by
  refine ev_bind hf (ev_bind (a := some 1) (st1 := st) rfl (ev_bind (a := none) (st1 := st) rfl ?_))
  show M.of (some (MV.v (.tup (cutD (x :: ys) (some 1) none)))) st = _
  have e : cutD (x :: ys) (some 1) none = ys := by
    unfold cutD
    rw [show HT.sIx (x :: ys).length 0 (some 1) = 1 from by rw [show (1 : Int) = ((1 : Nat) : Int) from rfl, HT.sIx_nat]; simp]
    rw [HT.sIx_none]
    show ys.take _ = _
    exact List.take_of_length_le (by simp)
  rw [e]
  rfl
/-- the held body of the law's own table -/
theorem ev_heldL (L : LawAt n m N st jd jds jcs tl El jl A dv cv) (hk : TbOk n m A.last A.tb) (hm : m ≤ 11) (h1 : ρ[1]? = some (some (.m (.v (.int (n : Nat)))))) (h3 : ρ[3]? = some (some (.m (.obj tl)))) (hl : ρ.length = 21) (h3' : ∀ x : MV, (setE (wipeE ρ [19]) 19 x)[3]? = ρ[3]?) : fTup (fCons (fVar 1) (fCons (fB tupleM (fCons (fLc [19] (iSeqL (fB sortedM (fCons (fVar 3) fNil))) (setN 19) fYes (fBin ixM (fVar 3) (fVar 19))) fNil)) (fCons (fTup fNil) fNil))) ρ st = .val (.v (heldD n (wallsOf A.tb))) st :=
  ev_tup (ev_cons (ev_var h1) (ev_cons (ev_B (ev_cons (ev_walls L.tab hk hm (ev_var h3) (by omega) fun x => ev_var ((h3' x).trans h3)) ev_nil) rfl) (ev_cons (ev_tup ev_nil rfl) ev_nil))) rfl
/-- what is looked at behind each deed -/
theorem t_rest {deed : D} {told : MV} {tb0 : Tbl} {last : Nat} (h : Both c n m N st jb jd jds jcs tl El A dv cv) (h0 : SpOk n (coneT n tb0)) (ht : told = .v .non ∨ ∃ x, told = .v (.tup (x :: chgD n tb0 A.tb))) (hd : dv.length ≤ 20) (hc : cv.length ≤ 20) :
    ∃ s15' s16' s17' st', tRest c (lawE n jd jb tl El last jds jcs s8 (some (.m (.v (spanD n (coneT n tb0))))) s10 s11 (some (.m (.v deed))) (some (.m told)) s14 s15 s16 s17 s18 s19 s20) st = .val (.nx (lawE n jd jb tl El last jds jcs s8 (some (.m (.v (spanD n (coneT n tb0))))) s10 s11 (some (.m (.v deed))) (some (.m told)) s14 s15' s16' s17' s18 s19 s20)) st' ∧ Both c n m N st' jb jd jds jcs tl El A (dv ++ [deed]) (cv ++ [cI (cnt n A)]) := by
  obtain ⟨jl, t, k, E, js, L, B, dis⟩ := h.ex
  have hw := B.tok.walls
  have hwl : (wallsOf A.tb).length ≤ 11 := Nat.le_trans B.tok.wl B.m11
  have sp := B.sp
  have f1 : ∀ s x, x ∈ ptsD n s → D.fits 20 x = true := fun s x hx => List.all_eq_true.mp (fits_pts 18 n s) x hx
  have jdl := lt_of L.dl
  have jcl := lt_of L.cl
  have cl2 : (st.set jds (.lst (dv ++ [deed])))[jcs]? = some (.lst cv) := by rw [set_ne (fun z => L.n3 z.symm)]; exact L.cl
  refine ⟨some (.m (.v (heldD n (wallsOf A.tb)))), some (.m (.v (spanD n (coneT n A.tb)))), some (.m (.v (.tup (without (ptsD n (coneT n A.tb)) (ptsD n (coneT n tb0)))))), (st.set jds (.lst (dv ++ [deed]))).set jcs (.lst (cv ++ [cI (cnt n A)])), ?_, ⟨jl, t, k, E, js, ?_, ?_, dis⟩⟩
  · refine st_nx (st_asg (ev_heldL L B.tok B.m11 rfl rfl rfl fun x => rfl) rfl) (st_nx (st_asg (ev_callP (ds := [heldD n (wallsOf A.tb)]) (ev_cons (ev_var rfl) ev_nil) rfl (p_corners B.n1 B.n3 hw hwl [])) rfl) (st_nx (st_if0 (ev_or0 (ev_cmp (ev_meth (ev_var rfl) B.ob rfl ev_nil rfl (p_held B)) (ev_var rfl) (ne_self (fits_held _ _) _)) (ev_or0 (ev_cmp (ev_meth (ev_var rfl) B.ob rfl ev_nil rfl (p_span B)) (ev_var rfl) (ne_self (fits_span _ _) _)) (ev_or0 (ev_not (ev_test (ev_callS (ms := [.obj jb]) (ev_kw ev_nil (ev_cons (ev_var rfl) ev_nil) rfl rfl) rfl (p_is_followed B)))) (ev_cmp (ev_meth (ev_var rfl) B.ob rfl ev_nil rfl (p_numbers B)) (ev_B (ev_cons (ev_B (ev_cons (ev_var rfl) ev_nil) (sort_tab L.tab B.tok B.m11)) ev_nil) rfl) (ne_self (fits_nats _) _))))) rfl) (st_nx (st_asg (ev_without (i := 20) (a := 0) (b := 0) (fits_pts 17 n _) (fits_pts 17 n _) (f1 _) (pts_len sp) (ev_ix1 (ev_var rfl)) (fun x => ev_ix1 (ev_var rfl)) (by show 20 < 21; decide)) rfl) (st_nx (st_if0 ?_ rfl) (st_nx (st_apO (ev_var rfl) L.dl (ev_var rfl) (by omega)) (st_apO (d := cI (cnt n A)) (ev_var rfl) cl2 (ev_B (ev_cons (ev_ix1 (s := coneT n A.tb) (ev_var rfl)) ev_nil) rfl) (by omega)))))))
    rcases ht with rfl | ⟨x, rfl⟩
    · exact ev_and0 (ev_cmp (ev_var rfl) ev_c rfl)
    · exact ev_and1 (ev_cmp (b := true) (ev_var rfl) ev_c rfl) (ev_cmp (ev_rest (ev_var rfl)) (ev_tup (ev_cons (ev_var rfl) (ev_cons (ev_without (i := 20) (a := 0) (b := 0) (fits_pts 17 n _) (fits_pts 17 n _) (f1 _) (pts_len h0) (ev_ix1 (ev_var rfl)) (fun x => ev_ix1 (ev_var rfl)) (by show 20 < 21; decide)) ev_nil)) rfl) (ne_self (fits_chg n tb0 A.tb) _))
  · have o : ∀ j, j ≠ jds → j ≠ jcs → ((st.set jds (.lst (dv ++ [deed]))).set jcs (.lst (cv ++ [cI (cnt n A)])))[j]? = st[j]? := fun j a b => by rw [set_ne b, set_ne a]
    exact ⟨L.dice.same (o jd L.n1 L.n2), (o tl (L.nt tl (by simp)).2.1 (L.nt tl (by simp)).2.2).trans L.tab, L.er, (List.map_congr_left fun j hj => o j (L.nt j (by simp [hj])).2.1 (L.nt j (by simp [hj])).2.2).trans L.ers, by rw [set_ne L.n3]; exact set_eq jdl, set_eq (by rw [List.length_set]; exact jcl), L.n1, L.n2, L.n3, L.nt, L.jn⟩
  · exact B.same fun j hj => by
      rw [set_ne (by rintro rfl; exact dis j (by simp) hj), set_ne (by rintro rfl; exact dis j (by simp) hj)]
/-- a turn -/
theorem t_body (h : Both c n m N st jb jd jds jcs tl El A dv cv) (hN : N + n + 4 ≤ 1000000) (hm : m + 1 ≤ 11) (hd : dv.length ≤ 20) (hc : cv.length ≤ 20) :
    ∃ d tl' El' s9' s10' s11' s12' s13' s14' s15' s16' s17' st', tBody c (lawE n jd jb tl El A.last jds jcs s8 s9 s10 s11 s12 s13 s14 s15 s16 s17 s18 s19 s20) st = .val (.nx (lawE n jd jb tl' El' (absStep A d).last jds jcs s8 s9' s10' s11' s12' s13' s14' s15' s16' s17' s18 s19 s20)) st' ∧ okDeed n A d ∧ Both c n (m + 1) (N + n + 4) st' jb jd jds jcs tl' El' (absStep A d) (dv ++ [deedI d]) (cv ++ [cI (cnt n (absStep A d))]) := by
  obtain ⟨jl, t, k, E, js, L, B, dis⟩ := h.ex
  obtain ⟨sa, r, e1, hr, d1, f1, _⟩ := ev_roll (ρ := lawE n jd jb tl El A.last jds jcs s8 s9 s10 s11 s12 s13 s14 s15 s16 s17 s18 s19 s20) (st := st) (many := 6) (fs := fCons (fVar 0) (fCons (fC (.v (.int 6))) fNil)) L.dice (by omega) (by decide) (by decide) (ev_cons (ev_var rfl) (ev_cons ev_c ev_nil))
  have ha := h.rolled d1 f1
  have hw := B.tok.walls
  have hwl : (wallsOf A.tb).length ≤ 11 := Nat.le_trans B.tok.wl B.m11
  have T1 : sAsg (fTup (fCons (fCallP 1 (F_corners c) (fCons (fTup (fCons (fVar 1) (fCons (fB tupleM (fCons (fLc [19] (iSeqL (fB sortedM (fCons (fVar 3) fNil))) (setN 19) fYes (fBin ixM (fVar 3) (fVar 19))) fNil)) (fCons (fTup fNil) fNil)))) fNil)) (fCons (fCallS 2 F__law_roll (fCons (fVar 0) (fCons (fC (.v (.int 6))) fNil))) fNil))) (setTup 2 (setCons (setN 9) (setCons (setN 10) setNil))) (lawE n jd jb tl El A.last jds jcs s8 s9 s10 s11 s12 s13 s14 s15 s16 s17 s18 s19 s20) st = .val (.nx (lawE n jd jb tl El A.last jds jcs s8 (some (.m (.v (spanD n (coneT n A.tb))))) (some (.m (.v (.int (r : Nat))))) s11 s12 s13 s14 s15 s16 s17 s18 s19 s20)) sa := by
    exact st_asg (ev_tup (ev_cons (ev_callP (ds := [heldD n (wallsOf A.tb)]) (ev_cons (ev_heldL L B.tok B.m11 rfl rfl rfl fun x => rfl) ev_nil) rfl (p_corners B.n1 B.n3 hw hwl [])) (ev_cons e1 ev_nil)) rfl) rfl
  have fin : ∀ R : Out Fl, Turned c n m (N + 1) sa jb jd jds jcs A dv cv R s8 (some (.m (.v (spanD n (coneT n A.tb))))) (some (.m (.v (.int (r : Nat))))) s15 s16 s17 s18 s19 s20 → (sIf (fCmpT ltM (fVar 10) (fC (.v (.int 4)))) (tPut c) (sIf (fAnd (fCmpT eqM (fVar 10) (fC (.v (.int 4)))) (fCmpT gtM (fB lenM (fCons (fVar 3) fNil)) (fC (.v (.int 0))))) (tTake c) (tUndo c)) (lawE n jd jb tl El A.last jds jcs s8 (some (.m (.v (spanD n (coneT n A.tb))))) (some (.m (.v (.int (r : Nat))))) s11 s12 s13 s14 s15 s16 s17 s18 s19 s20) sa = R) →
      ∃ d tl' El' s9' s10' s11' s12' s13' s14' s15' s16' s17' st', tBody c (lawE n jd jb tl El A.last jds jcs s8 s9 s10 s11 s12 s13 s14 s15 s16 s17 s18 s19 s20) st = .val (.nx (lawE n jd jb tl' El' (absStep A d).last jds jcs s8 s9' s10' s11' s12' s13' s14' s15' s16' s17' s18 s19 s20)) st' ∧ okDeed n A d ∧ Both c n (m + 1) (N + n + 4) st' jb jd jds jcs tl' El' (absStep A d) (dv ++ [deedI d]) (cv ++ [cI (cnt n (absStep A d))]) := by
    rintro R ⟨d, told, tl', El', s11', s14', st2, rfl, hok, ht, hb⟩ e2
    obtain ⟨s15', s16', s17', st3, e3, hb3⟩ := t_rest (s8 := s8) (s10 := some (.m (.v (.int (r : Nat))))) (s11 := s11') (s14 := s14') (s15 := s15) (s16 := s16) (s17 := s17) (s18 := s18) (s19 := s19) (s20 := s20) (deed := deedI d) (last := (absStep A d).last) hb B.sp ht hd hc
    exact ⟨d, tl', El', _, _, _, _, _, _, _, _, _, st3, st_nx T1 (st_nx e2 e3), hok, (show N + 1 + n + 3 = N + n + 4 by omega) ▸ hb3⟩
  have lt : fCmpT ltM (fVar 10) (fC (.v (.int 4))) (lawE n jd jb tl El A.last jds jcs s8 (some (.m (.v (spanD n (coneT n A.tb))))) (some (.m (.v (.int (r : Nat))))) s11 s12 s13 s14 s15 s16 s17 s18 s19 s20) sa = .val (decide ((r : Int) < 4)) sa := ev_cmp (ev_var rfl) ev_c rfl
  by_cases q : (r : Int) < 4
  · rw [decide_eq_true q] at lt
    exact fin _ (t_put ha (by omega) hm) (st_if1 lt rfl)
  · rw [decide_eq_false q] at lt
    have eq4 : fCmpT eqM (fVar 10) (fC (.v (.int 4))) (lawE n jd jb tl El A.last jds jcs s8 (some (.m (.v (spanD n (coneT n A.tb))))) (some (.m (.v (.int (r : Nat))))) s11 s12 s13 s14 s15 s16 s17 s18 s19 s20) sa = .val ((r : Int) == 4) sa := ev_cmp (ev_var rfl) ev_c (eq_i _ _ _)
    have tabA : sa[tl]? = some (.dic (tabK A.tb)) := (f1 tl (L.nt tl (by simp)).1).trans L.tab
    have len : fCmpT gtM (fB lenM (fCons (fVar 3) fNil)) (fC (.v (.int 0))) (lawE n jd jb tl El A.last jds jcs s8 (some (.m (.v (spanD n (coneT n A.tb))))) (some (.m (.v (.int (r : Nat))))) s11 s12 s13 s14 s15 s16 s17 s18 s19 s20) sa = .val (decide ((0 : Int) < (A.tb.length : Nat))) sa := ev_cmp (ev_B (xs := [.obj tl]) (y := .v (.int (A.tb.length : Nat))) (ev_cons (ev_var rfl) ev_nil) (by simp only [lenM, tabA, tab_len])) ev_c (gt_t _ _ _)
    by_cases z : (r : Int) = 4
    · rw [show ((r : Int) == 4) = true from by rw [z]; rfl] at eq4
      by_cases hz : A.tb = []
      · rw [hz] at len
        exact fin _ (t_undo ha hm) (st_if0 lt (st_if0 (ev_and1 eq4 len) rfl))
      · rw [decide_eq_true (by have := List.length_pos_iff.mpr hz; omega)] at len
        exact fin _ (t_take ha (by omega) hm hz) (st_if0 lt (st_if1 (ev_and1 eq4 len) rfl))
    · rw [beq_eq_false_iff_ne.mpr z] at eq4
      exact fin _ (t_undo ha hm) (st_if0 lt (st_if0 (ev_and0 eq4) rfl))
/-! the end of a run -/
theorem ev_ref {f : Env → M MV} {nm : Str} (h : f ρ st = .exc (.arg nm) st1) : fRef f ρ st = .val (.v (.str nm)) st1 := by
  unfold fRef; rw [h]
theorem runC_len (n : Nat) : ∀ ds : List Deed, (runC n ds).2.length = ds.length := by
  intro pre
  suffices ∀ k (pre : List Deed), pre.length = k → (runC n pre).2.length = k from this _ pre rfl
  intro k
  induction k with
  | zero => intro pre h; rw [List.length_eq_zero_iff.mp h]; rfl
  | succ k ih =>
    intro pre h
    have hne : pre ≠ [] := fun z => by rw [z] at h; cases h
    obtain ⟨p, x, rfl⟩ : ∃ l x, pre = l ++ [x] := ⟨_, _, (List.dropLast_concat_getLast hne).symm⟩
    rw [runC_app]
    show ((runC n p).2 ++ [_]).length = _
    rw [List.length_append, ih p (by simpa using h)]
    rfl
theorem ex_callS {a : Nat} {F : List MV → M MV} {fs : Env → M (List MV)} {ms : List MV} {e : Ex} (h : fs ρ st = .val ms st1) (hl : ms.length = a) (hF : F ms st1 = .exc e st2) : fCallS a F fs ρ st = .exc e st2 := ev_callS h hl hF
abbrev refD : List D := [.str "size", .str "wall", .str "wall", .str "number", .str "size", .str "deeds", .str "deeds", .str "body"]
theorem fits_ref : D.fits 20 (.lst refD) = true := by
  show ([(D.str "size"), .str "wall", .str "wall", .str "number", .str "size", .str "deeds", .str "deeds", .str "body"].all (D.fits 19)) = true
  have h : ∀ x : Str, PyData.strOk x = true → D.fits 19 (.str x) = true := fun x h => h
  simp only [List.all_cons, List.all_nil, h _ (show PyData.strOk "size" = true by decide +kernel), h _ (show PyData.strOk "wall" = true by decide +kernel), h _ (show PyData.strOk "number" = true by decide +kernel), h _ (show PyData.strOk "deeds" = true by decide +kernel), h _ (show PyData.strOk "body" = true by decide +kernel), Bool.and_self]
theorem t_end {ds : List Deed} (h : Both c n m N st jb jd jds jcs tl El (runC n ds).1 (ds.map deedI) ((runC n ds).2.map cI)) (hok : okAll n ds) (hl : ds.length ≤ 11) : ∃ st', Ends (.v (.bl true)) st' (tEnd c (lawE n jd jb tl El (runC n ds).1.last jds jcs s8 s9 s10 s11 s12 s13 s14 s15 s16 s17 s18 s19 s20) st) := by
  obtain ⟨jl, t, k, E, js, L, B, dis⟩ := h.ex
  obtain ⟨sp, ep⟩ := p_points_through (c := c) B.n1 B.n3 hl hok []
  have B1 : BodyAt c n m (st ++ [.ins c.Growing []]) jb t k E js (runC n ds).1 := B.same fun j hj => app_lt (B.slt j hj)
  obtain ⟨q1, x1⟩ := ex_pt0 (c := c) (st := []) .non
  obtain ⟨q2, x2⟩ := ex_pt1 (c := c) (st := []) B.n1 B.n3
  obtain ⟨q3, x3⟩ := ex_pt2 (c := c) (st := []) B.n1 B.n3 [.tup [.str "undo"]]
  have n1 := B.n1
  have n3 := B.n3
  have hw : ∀ ρ : Env, ρ[1]? = some (some (.m (.v (.int (n : Nat))))) → fTup (fCons (fBin mulM (fTup (fCons (fC (.v (.int 0))) fNil)) (fBin addM (fVar 1) (fC (.v (.int 1))))) (fCons (fC (.v (.int 1))) fNil)) ρ (st ++ [.ins c.Growing []]) = .val (.v (wI (List.replicate (n + 1) 0, 1))) (st ++ [.ins c.Growing []]) := fun ρ h1 => ev_tup (ev_cons (ev_bin (ev_tup (ev_cons ev_c ev_nil) rfl) (ev_suc (ev_var h1)) (mul_rep (n + 1) (by omega) (by omega) _)) (ev_cons ev_c ev_nil)) rfl
  refine ⟨st ++ [.ins c.Growing []], e_seq (st_if0 (ev_cmp (ev_callP (ds := [.int n, .tup (ds.map deedI)]) (ev_kw (ev_cons (ev_var rfl) ev_nil) (ev_cons (x := .v (.tup (ds.map deedI))) (ev_B (ev_cons (ev_var rfl) ev_nil) (by simp only [tupleM, L.dl])) ev_nil) rfl rfl) rfl ep) (ev_B (y := .v (.tup ((runC n ds).2.map cI))) (ev_cons (ev_var rfl) ev_nil) (by simp only [tupleM, L.cl])) (ne_self (fits_nats _) _)) rfl) (e_seq (st_asg (x := .v (.lst refD)) (ev_lst (xs := refD.map .v) (ev_cons (ev_ref (ex_make (ev_cons ev_c ev_nil) rfl (ex_size (by omega)))) (ev_cons (ev_ref (ev_meth (ev_var rfl) B1.ob rfl (ev_cons ev_c ev_nil) rfl (ex_put0 B1))) (ev_cons (ev_ref (ev_meth (ev_var rfl) B1.ob rfl (ev_cons (hw _ rfl) ev_nil) rfl (ex_put1 B1))) (ev_cons (ev_ref (ev_meth (ev_var rfl) B1.ob rfl (ev_cons ev_c ev_nil) rfl (ex_take B1))) (ev_cons (ev_ref (ex_callP (ds := [.int 0, .non]) (ev_cons ev_c (ev_cons ev_c ev_nil)) rfl x1)) (ev_cons (ev_ref (ex_callP (ds := [.int n, .tup [.tup [.str "put"]]]) (ev_cons (ev_var rfl) (ev_cons (ev_tup (ev_cons (ev_tup (ev_cons ev_c ev_nil) rfl) ev_nil) rfl) ev_nil)) rfl x2)) (ev_cons (ev_ref (ex_callP (ds := [.int n, .lst [.tup [.str "undo"]]]) (ev_cons (ev_var rfl) (ev_cons (ev_lst (ev_cons (ev_tup (ev_cons ev_c ev_nil) rfl) ev_nil) rfl) ev_nil)) rfl x3)) (ev_cons (ev_ref (ev_callS (ev_cons ev_c ev_nil) rfl ex_followed)) ev_nil)))))))) rfl) rfl) (e_rt (st_ret (ev_bin (ev_var rfl) (ev_lst (xs := refD.map .v) (ev_cons ev_c (ev_cons ev_c (ev_cons ev_c (ev_cons ev_c (ev_cons ev_c (ev_cons ev_c (ev_cons ev_c (ev_cons ev_c ev_nil)))))))) rfl) (eq_self fits_ref _)))))⟩
theorem p_law_right (D0 : DiceAt 0 st jd) : ∃ st', F__law_right c [.obj jd] st = .val (.v (.bl true)) st' := by
  obtain ⟨sa, r, e1, hr, d1, f1, _⟩ := ev_roll (ρ := startE 21 [.obj jd]) (st := st) (many := 3) (fs := fCons (fVar 0) (fCons (fC (.v (.int 3))) fNil)) D0 (by decide) (by decide) (by decide) (ev_cons (ev_var rfl) (ev_cons ev_c ev_nil))
  have hn1 : 1 ≤ r + 1 := by omega
  have hn3 : r + 1 ≤ 3 := by omega
  generalize hn : r + 1 = n at hn1 hn3
  have e0 : fBin addM (fC (.v (.int 1))) (fCallS 2 F__law_roll (fCons (fVar 0) (fCons (fC (.v (.int 3))) fNil))) (startE 21 [.obj jd]) st = .val (.v (.int (n : Nat))) sa := ev_bin ev_c e1 (by rw [add_i, ← hn]; congr 3; omega)
  obtain ⟨sb, e2, B, fr, hlb⟩ := ev_grow (c := c) (n := n) (ρ := setE (startE 21 [.obj jd]) 1 (.v (.int (n : Nat)))) (st := sa) (fs := fCons (fVar 1) fNil) hn1 hn3 (ev_cons (ev_var rfl) ev_nil)
  have hjd := d1.lt
  have sl := B.slt
  let sc := sb ++ [O.dic []] ++ [O.lst []] ++ [O.lst []]
  have both : Both c n 0 1 sc sa.length jd (sb.length + 1) (sb.length + 2) sb.length (.v (.lst [])) abs0 [] [] := by
    have old : ∀ j, j < sb.length → sc[j]? = sb[j]? := fun j hj => by
      show (sb ++ [O.dic []] ++ [O.lst []] ++ [O.lst []])[j]? = _
      rw [app_lt (by simp; omega), app_lt (by simp; omega), app_lt hj]
    refine ⟨[], sa.length + 1, sa.length + 2, .v (.lst []), [], ⟨(d1.same ((old jd (by omega)).trans (fr jd hjd))), ?_, .inr ⟨rfl, rfl⟩, rfl, ?_, ?_, by omega, by omega, by omega, fun x hx => ?_, Nat.le_refl _⟩, B.same fun j hj => old j (sl j hj), fun x hx hz => ?_⟩
    · show (sb ++ [O.dic []] ++ [O.lst []] ++ [O.lst []])[sb.length]? = _
      rw [app_lt (by simp), app_lt (by simp), get_last]
      rfl
    · have e : (sb ++ [O.dic []]).length = sb.length + 1 := by simp
      show (sb ++ [O.dic []] ++ [O.lst []] ++ [O.lst []])[sb.length + 1]? = _
      rw [app_lt (by simp), ← e, get_last]
    · have e : (sb ++ [O.dic []] ++ [O.lst []]).length = sb.length + 2 := by simp
      show (sb ++ [O.dic []] ++ [O.lst []] ++ [O.lst []])[sb.length + 2]? = _
      rw [← e, get_last]
    · rw [List.mem_singleton.mp hx]
      omega
    · have a1 := sl sa.length (by simp)
      have a2 := sl (sa.length + 1) (by simp)
      have a3 := sl (sa.length + 2) (by simp)
      simp only [List.mem_cons, List.not_mem_nil, or_false] at hx hz
      omega
  obtain ⟨sd, q, e3, hq, d3, f3, _⟩ := ev_roll (ρ := lawE n jd sa.length sb.length (.v (.lst [])) 0 (sb.length + 1) (sb.length + 2) none none none none none none none none none none none none none) (st := sc) (many := 12) (fs := fCons (fVar 0) (fCons (fC (.v (.int 12))) fNil)) both.dice (by decide) (by decide) (by decide) (ev_cons (ev_var rfl) (ev_cons ev_c ev_nil))
  have both2 := both.rolled d3 f3
  obtain ⟨ρ', se, el, ds, tl', El', t9, t10, t11, t12, t13, t14, t15, t16, t17, t8, hds, hok, hb, rfl⟩ := loop_inv (ρ := lawE n jd sa.length sb.length (.v (.lst [])) 0 (sb.length + 1) (sb.length + 2) none none none none none none none none none none none none none) (st := sd) cI
    (fun pre ρ st => ∃ (ds : List Deed) (tl : Nat) (El : MV) (t9 t10 t11 t12 t13 t14 t15 t16 t17 t8 : Option SV), ds.length = pre.length ∧ okAll n ds ∧ Both c n pre.length (2 + 10 * pre.length) st sa.length jd (sb.length + 1) (sb.length + 2) tl El (runC n ds).1 (ds.map deedI) ((runC n ds).2.map cI) ∧ ρ = lawE n jd sa.length tl El (runC n ds).1.last (sb.length + 1) (sb.length + 2) t8 t9 t10 t11 t12 t13 t14 t15 t16 t17 none none none)
    (g := setN 8) (body := tBody c) (List.range q) (by
      rintro pre x post ρ st' e ⟨ds, tl, El, t9, t10, t11, t12, t13, t14, t15, t16, t17, t8, hds, hok, hb, rfl⟩
      have hp : pre.length + 1 ≤ 11 := by
        have := congrArg List.length e
        simp at this
        omega
      obtain ⟨d, tl', El', s9', s10', s11', s12', s13', s14', s15', s16', s17', st2, e4, hd, hb2⟩ := t_body (s8 := some (.m (.v (cI x)))) (s9 := t9) (s10 := t10) (s11 := t11) (s12 := t12) (s13 := t13) (s14 := t14) (s15 := t15) (s16 := t16) (s17 := t17) (s18 := none) (s19 := none) (s20 := none) hb (by omega) hp (by rw [List.length_map]; omega) (by rw [List.length_map, runC_len]; omega)
      refine ⟨_, _, st2, rfl, e4, ds ++ [d], tl', El', s9', s10', s11', s12', s13', s14', s15', s16', s17', _, by simp [hds], hok.app hd, ?_, by rw [runC_app]; rfl⟩
      rw [runC_app, List.length_append, List.map_append]
      have hb3 : Both c n (pre.length + 1) (2 + 10 * (pre.length + 1)) st2 sa.length jd (sb.length + 1) (sb.length + 2) tl' El' (absStep (runC n ds).1 d) (ds.map deedI ++ [deedI d]) ((runC n ds).2.map cI ++ [cI (cnt n (absStep (runC n ds).1 d))]) := by
        obtain ⟨jl, t, k, E, js, L, B, dis⟩ := hb2.ex
        exact ⟨jl, t, k, E, js, ⟨L.dice.mono (by omega), L.tab, L.er, L.ers, L.dl, L.cl, L.n1, L.n2, L.n3, L.nt, L.jn⟩, B, dis⟩
      show Both c n (pre.length + 1) (2 + 10 * (pre.length + 1)) st2 sa.length jd (sb.length + 1) (sb.length + 2) tl' El' (absStep (runC n ds).1 d) (ds.map deedI ++ [deedI d]) (((runC n ds).2 ++ [cnt n (absStep (runC n ds).1 d)]).map cI)
      rw [List.map_append]
      exact hb3)
    ⟨[], sb.length, .v (.lst []), none, none, none, none, none, none, none, none, none, none, rfl, (fun pre d post e => by simp at e), both2, rfl⟩
  have hlen : ds.length ≤ 11 := by rw [hds, List.length_range]; omega
  obtain ⟨sf, ef⟩ := t_end (s8 := t8) (s9 := t9) (s10 := t10) (s11 := t11) (s12 := t12) (s13 := t13) (s14 := t14) (s15 := t15) (s16 := t16) (s17 := t17) (s18 := none) (s19 := none) (s20 := none) hb hok hlen
  refine ⟨sf, run_e (e_seq (st_asg e0 rfl) (e_seq (st_asg (x := .mtup [.obj sa.length, .obj sb.length, .v (.lst []), .v (.int 0), .obj (sb.length + 1), .obj (sb.length + 2)]) (st1 := sc) (ev_tup (ev_cons e2 (ev_cons (x := .obj sb.length) (st1 := sb ++ [O.dic []]) rfl (ev_cons (ev_lst ev_nil rfl) (ev_cons ev_c (ev_cons (x := .obj (sb.length + 1)) (st1 := sb ++ [O.dic []] ++ [O.lst []]) ?_ (ev_cons (x := .obj (sb.length + 2)) (st1 := sc) ?_ ev_nil)))))) rfl) rfl) (e_seq (ev_bind (ev_rng (d := q) e3 (by omega)) el) ef)))⟩
  · refine ev_bind ev_nil (ev_bind (a := []) (st1 := sb ++ [O.dic []]) rfl ?_)
    show Out.val (MV.obj (sb ++ [O.dic []]).length) _ = _
    rw [show (sb ++ [O.dic []]).length = sb.length + 1 from by simp]
  · refine ev_bind ev_nil (ev_bind (a := []) (st1 := sb ++ [O.dic []] ++ [O.lst []]) rfl ?_)
    show Out.val (MV.obj (sb ++ [O.dic []] ++ [O.lst []]).length) _ = _
    rw [show (sb ++ [O.dic []] ++ [O.lst []]).length = sb.length + 2 from by simp]
end
/-- the law, in plain terms -/
theorem law_plain (c : Cs) (ns : List Int) (hl : ns.length ≤ 63) (hb : ∀ z ∈ ns, Builtin.Int.intBits z ≤ 1048576) : ∃ st', F_law c [.v (.scr ns)] [] = .val (.v (.bl true)) st' := by
  obtain ⟨k, hk, ek⟩ : ∃ k : Nat, k ≤ 3 ∧ fB maxM (fCons (fC (.v (.int 1))) (fCons (fB minM (fCons (fC (.v (.int 3))) (fCons (fB lenM (fCons (fVar 0) fNil)) fNil))) fNil)) (startE 2 [.v (.scr ns)]) [] = .val (.v (.int (k : Nat))) [] := by
    have e : fB maxM (fCons (fC (.v (.int 1))) (fCons (fB minM (fCons (fC (.v (.int 3))) (fCons (fB lenM (fCons (fVar 0) fNil)) fNil))) fNil)) (startE 2 [.v (.scr ns)]) [] = .val (.v (.int (if (if (ns.length : Int) < 3 then (ns.length : Int) else 3) > 1 then (if (ns.length : Int) < 3 then (ns.length : Int) else 3) else 1))) [] := ev_B (ev_cons ev_c (ev_cons (ev_B (ev_cons ev_c (ev_cons (ev_B (ev_cons (ev_var rfl) ev_nil) rfl) ev_nil)) rfl) ev_nil)) rfl
    refine ⟨(if (if (ns.length : Int) < 3 then (ns.length : Int) else 3) > 1 then (if (ns.length : Int) < 3 then (ns.length : Int) else 3) else 1).toNat, ?_, ?_⟩
    · split <;> split <;> omega
    · rw [e]
      congr 3
      rw [Int.toNat_of_nonneg]
      split <;> split <;> omega
  obtain ⟨ρ', st', e, s1, rfl⟩ := loop_inv (ρ := [some (.m (.v (.scr ns))), none]) (st := []) cI (fun pre ρ st => ∃ s1, ρ = [some (.m (.v (.scr ns))), s1]) (g := setN 1) (body := sIf (fNot (fTest (fCallS 1 (F__law_right c) (fCons (fCallS 2 F__law_dice (fCons (fVar 0) (fCons (fVar 1) fNil))) fNil)))) (sRet (fC (.v (.bl false)))) sNil) (List.range k) (by
    rintro pre x post ρ st e ⟨s1, rfl⟩
    have hx : x ≤ 2 := by
      have : x ∈ List.range k := by rw [e]; simp
      have := List.mem_range.mp this
      omega
    obtain ⟨sa, e1, d1, _, _⟩ := p_dice (ns := ns) hx st
    obtain ⟨sb, e2⟩ := p_law_right (c := c) d1
    exact ⟨_, _, sb, rfl, st_if0 (ev_not (ev_test (ev_callS (ev_cons (ev_callS (ev_cons (ev_var rfl) (ev_cons (ev_var rfl) ev_nil)) rfl e1) ev_nil) rfl e2))) rfl, _, rfl⟩) ⟨none, rfl⟩
  exact ⟨st', run_e (e_seq (ev_bind (ev_rng (d := k) ek (by omega)) e) (e_rt (st_ret ev_c)))⟩
end CD

set_option Elab.async false
set_option linter.all false
set_option maxRecDepth 100000
set_option maxHeartbeats 0
namespace CD
open PySem PySem.Spec PyProof.Rows L2
abbrev prog : Program := PySem.Challenge.pw_cornerwalls_k14_whole_growing
def mkD (x : Str) (st : Stmt) : He.DefD := ⟨(x, none), x, x, defArgs st, defBody st, defScope st, [], []⟩
def mkM (c x q : Str) (st : Stmt) : He.DefD := ⟨(c, some x), x, q, defArgs st, defBody st, defScope st, [], []⟩
def fnL : List He.DefD := [mkD "is_integer" (top 3), mkD "common" (top 4), mkD "divisor_of" (top 5), mkD "primitive" (top 6), mkD "product" (top 7), mkD "joined" (top 8), mkD "opposite" (top 9), mkD "in_steps" (top 10), mkD "cleared" (top 11), mkD "cleared_by" (top 12), mkM "Cone" "__init__" "Cone.__init__" (inClass (top 14) 0), mkM "Cone" "narrow" "Cone.narrow" (inClass (top 14) 1), mkM "Cone" "cut_lines" "Cone.cut_lines" (inClass (top 14) 2), mkM "Cone" "cut_rays" "Cone.cut_rays" (inClass (top 14) 3), mkM "Cone" "is_edge" "Cone.is_edge" (inClass (top 14) 4), mkD "cone_of" (top 15), mkD "tidy" (top 16), mkD "is_row" (top 21), mkD "is_wall_of" (top 22), mkD "is_some" (top 23), mkD "is_held" (top 24), mkD "need_held" (top 25), mkD "wall_rows" (top 26), mkD "span_of" (top 27), mkD "corners" (top 28), mkM "Growing" "__init__" "Growing.__init__" (inClass (top 31) 0), mkM "Growing" "first_cone" "Growing.first_cone" (inClass (top 31) 1), mkM "Growing" "held" "Growing.held" (inClass (top 31) 2), mkM "Growing" "span" "Growing.span" (inClass (top 31) 3), mkM "Growing" "change" "Growing.change" (inClass (top 31) 4), mkM "Growing" "keep" "Growing.keep" (inClass (top 31) 5), mkM "Growing" "put" "Growing.put" (inClass (top 31) 6), mkM "Growing" "again" "Growing.again" (inClass (top 31) 7), mkM "Growing" "take" "Growing.take" (inClass (top 31) 8), mkM "Growing" "undo" "Growing.undo" (inClass (top 31) 9), mkM "Growing" "numbers" "Growing.numbers" (inClass (top 31) 10), mkD "is_deed" (top 32), mkD "points_through" (top 33), mkD "is_followed" (top 34), mkD "_law_dice" (top 36), mkD "_law_roll" (top 37), mkD "_law_pick" (top 38), mkD "_law_refused" (top 39), mkD "_law_row" (top 40), mkD "_law_unit" (top 41), mkD "_law_right" (top 42), mkD "law" (top 43)]
def faL : List He.Fa := [.free "abs", .free "all", .free "any", .free "bool", .free "dict", .free "int", .free "isinstance", .free "len", .free "list", .free "max", .free "min", .free "range", .free "sorted", .free "str", .free "sum", .free "tuple", .free "zip", .int "MOST_SIZE" 4, .int "MOST_NUMBER" 1000000, .int "MOST_ROWS" 100, .int "MOST_CHANGES" 60, .cls "Cone", .glo "Cone", .cls "Growing", .glo "Growing", .noat "Cone" "count", .noat "Cone" "lines", .noat "Cone" "rays", .noat "Growing" "cone", .noat "Growing" "earlier", .noat "Growing" "last", .noat "Growing" "size", .noat "Growing" "table", .glo "BadArgument", .free "super", .glo "law", .glo "is_integer", .glo "common", .glo "divisor_of", .glo "primitive", .glo "product", .glo "joined", .glo "opposite", .glo "cleared", .glo "in_steps", .glo "cleared_by", .mkr "Cone", .meth "Cone" "cut_lines", .meth "Cone" "is_edge", .meth "Cone" "cut_rays", .meth "Cone" "narrow", .glo "cone_of", .glo "tidy", .glo "is_row", .glo "is_wall_of", .glo "is_some", .glo "is_held", .glo "need_held", .glo "wall_rows", .glo "span_of", .glo "corners", .meth "Growing" "first_cone", .mkr "Growing", .meth "Growing" "held", .meth "Growing" "span", .meth "Growing" "change", .meth "Growing" "keep", .meth "Growing" "put", .meth "Growing" "again", .meth "Growing" "take", .meth "Growing" "undo", .meth "Growing" "numbers", .glo "is_deed", .glo "points_through", .glo "is_followed", .glo "_law_dice", .glo "_law_roll", .glo "_law_pick", .glo "_law_row", .glo "_law_unit", .glo "_law_right", .glo "_law_refused"]
def tfL : List He.Defn := [("is_row", none), ("is_held", none), ("points_through", none), ("_law_right", none)]
def exB (K : PySem.W.Frag) : Bool := badB prog.main.file K (He.ga K "BadArgument") (badI K) && (insB K (He.ga K "Growing") && (decide ((He.cT K ("_law_right", none)).2 = 343) && ((lamT.all fun p => !decide (p.1 = (He.cT K ("is_row", none)).2)) && ((lamT.all fun p => !decide (p.1 = (He.cT K ("is_held", none)).2)) && ((lamT.all fun p => !decide (p.1 = (He.cT K ("points_through", none)).2)))))))
def badV : FnC := some ("__init__", "BadArgument.__init__", defArgs (inClass (top 1) 0), .stmts (defBody (inClass (top 1) 0)), defScope (inClass (top 1) 0), mainGlobals, ["__class__"], builtinsNs)
abbrev RR : PySem.W.OpenRow := PySem.W.OpenLaw.row PySem.Challenge.rw_cornerwalls_k14_whole_growing
abbrev hk : PySem.W.Hook := hookY 4 faL fnL tfL exB badV
def ob (s : PySem.W.SharedT) : AlY := obsY 4 faL fnL tfL exB (HandSHeadRun.getT s)
theorem ob_eq (s : PySem.W.SharedT) : ob s = hk.obs s.abs := obsY_eq (HandSHeadRun.getT_eq s)
def loose : List PySem.Str := (["BadArgument", "is_integer", "common", "divisor_of", "primitive", "product", "joined", "opposite", "in_steps", "cleared", "cleared_by", "Cone"] : List PySem.Str) ++ (["cone_of", "tidy", "MOST_SIZE", "MOST_NUMBER", "MOST_ROWS", "is_row", "is_wall_of", "is_some", "is_held", "need_held", "wall_rows", "span_of"] : List PySem.Str) ++ (["corners", "MOST_CHANGES", "Growing", "is_deed", "points_through", "is_followed", "_law_dice", "_law_roll", "_law_pick", "_law_refused", "_law_row", "_law_unit"] : List PySem.Str) ++ (["_law_right"] : List PySem.Str)
theorem run (w : World) : HandSHeadRun.RunEq RR (PySem.W.view RR.prog [43]) hk ob 4000 loose w := by
  intro os
  kernel_rfl
section
variable {P : Program} {w : World} {K : PySem.W.Frag} {mg : Str → Option Value} {base : Heap} {G : DG} {c : Cs} (B : Bl mg) (C : Ct mg) (A : ClsA K mg c) (N : NoA K c) (I : IsA K c)
include B C A N I
theorem ok_law (h__law_right : HasF P w K mg base G 14 "_law_right" ["dice"] [] (F__law_right c)) (h__law_dice : HasF P w K mg base G 1 "_law_dice" ["script", "spot"] [] F__law_dice) {f : Addr} {fd : FuncData} (F : FunD K "law" "law" (defArgs (top 43)) (defBody (top 43)) (defScope (top 43)) [] [] f fd) : FnOk P w K mg base (L2.CX P w) 15 f fd ["script"] (spS K G 1 (F_law c)) := by
  have hN : (["script", "spot"] : List Str).Nodup := by decide
  refine body_ok (N := ["script", "spot"]) (ps := ["script"]) F (C8.fnScope_by (by decide +kernel)) (by decide) (fun cd A_ outer s H E hcd hr => ?_)
  have HU : (cxF P w K mg base ["script", "spot"] "law" (defScope (top 43)) f cd A_ outer s H E).A.units + 65 < cLine := by have := hr.un; omega
  have v_script : (defScope (top 43)).names.lookup ("script" : Str) = some .local := by decide +kernel
  have v_spot : (defScope (top 43)).names.lookup ("spot" : Str) = some .local := by decide +kernel
  have g__law_dice : (defScope (top 43)).names.lookup ("_law_dice" : Str) = some .globalImplicit := by decide +kernel
  have g__law_right : (defScope (top 43)).names.lookup ("_law_right" : Str) = some .globalImplicit := by decide +kernel
  have g_len : (defScope (top 43)).names.lookup ("len" : Str) = some .globalImplicit := by decide +kernel
  have g_max : (defScope (top 43)).names.lookup ("max" : Str) = some .globalImplicit := by decide +kernel
  have g_min : (defScope (top 43)).names.lookup ("min" : Str) = some .globalImplicit := by decide +kernel
  have g_range : (defScope (top 43)).names.lookup ("range" : Str) = some .globalImplicit := by decide +kernel
  have hD : NoDbg (["script", "spot"] : List Str) = true := by decide +kernel
  exact (pss_seq (psd_for [1] cx_own rfl (pid_range1 g_range B.range (q_callB (cr_max2 rfl) g_max B.max bb_max (pda_cons pd_int (pda_cons (q_callB (cr_min2 rfl) g_min B.min bb_min (pda_cons pd_int (pda_cons (q_callB cr_len g_len B.len bb_len (pda_cons (qv 0 hD rfl (.inl v_script)) pda_nil rfl) rfl rfl) pda_nil rfl) rfl) rfl rfl) pda_nil rfl) rfl) rfl rfl) rfl rfl) (pgd_name 1 hN rfl (.inl v_spot) (.inl rfl) (by decide))
  (pss_of (psd_if (pdt_not (pdt_val (q_callS "_law_right" 14 ["dice"] [] rfl h__law_right (by exact hr.mono (by decide)) g__law_right cx_passes (pda_cons (q_callS "_law_dice" 1 ["script", "spot"] [] rfl h__law_dice (by exact hr.mono (by decide)) g__law_dice cx_passes (pda_cons (qv 0 hD rfl (.inl v_script)) (pda_cons (qv 1 hD rfl (.inl v_spot)) pda_nil rfl) rfl) (by decide) rfl rfl) pda_nil rfl) (by decide) rfl rfl) (fun _ => rfl))) (pss_of (psd_ret pd_bl)) pssd_nil)) (fun _ => rfl))
  (pss_of (psd_ret pd_bl)))
end
/-- the law's promise at the head's heap -/
theorem law_at (w : World) (mg : Str → Option Value) (fa : Addr) (h : Heap) (Y : hk.says w h) (hg : h.Ns mainGlobals mg) (hm : mg "law" = some (.ref fa)) : ∃ K : PySem.W.Frag, K.In h ∧ LamX.LawAtS PySem.Challenge.rw_cornerwalls_k14_whole_growing w K (L2.CX prog w) 15 63 "script" mg fa h := by
  obtain ⟨K, X, S⟩ := Y
  have D := S.x.t.d
  have ex := S.x.more
  unfold exB at ex
  obtain ⟨e0, ex⟩ := He.ba ex
  obtain ⟨e1, ex⟩ := He.ba ex
  obtain ⟨e2, ex⟩ := He.ba ex
  obtain ⟨e3, ex⟩ := He.ba ex
  obtain ⟨e4, ex⟩ := He.ba ex
  have e5 := ex
  have B : Bl mg := ⟨He.free_ok X hg (x := "abs") (D.fact 0), He.free_ok X hg (x := "all") (D.fact 1), He.free_ok X hg (x := "any") (D.fact 2), He.free_ok X hg (x := "bool") (D.fact 3), He.free_ok X hg (x := "dict") (D.fact 4), He.free_ok X hg (x := "int") (D.fact 5), He.free_ok X hg (x := "isinstance") (D.fact 6), He.free_ok X hg (x := "len") (D.fact 7), He.free_ok X hg (x := "list") (D.fact 8), He.free_ok X hg (x := "max") (D.fact 9), He.free_ok X hg (x := "min") (D.fact 10), He.free_ok X hg (x := "range") (D.fact 11), He.free_ok X hg (x := "sorted") (D.fact 12), He.free_ok X hg (x := "str") (D.fact 13), He.free_ok X hg (x := "sum") (D.fact 14), He.free_ok X hg (x := "tuple") (D.fact 15), He.free_ok X hg (x := "zip") (D.fact 16)⟩
  have C : Ct mg := ⟨He.int_ok X hg (x := "MOST_SIZE") (i := 4) (D.fact 17), He.int_ok X hg (x := "MOST_NUMBER") (i := 1000000) (D.fact 18), He.int_ok X hg (x := "MOST_ROWS") (i := 100) (D.fact 19), He.int_ok X hg (x := "MOST_CHANGES") (i := 60) (D.fact 20)⟩
  let c : Cs := ⟨He.ga K "Cone", He.ga K "Growing"⟩
  have A : ClsA K mg c := ⟨He.cls_ok (x := "Cone") (D.fact 21), He.glo_ok X hg (x := "Cone") (D.fact 22), He.cls_ok (x := "Growing") (D.fact 23), He.glo_ok X hg (x := "Growing") (D.fact 24)⟩
  have N : NoA K c := ⟨He.noat_ok (x := "Cone") (f := "count") (D.fact 25), He.noat_ok (x := "Cone") (f := "lines") (D.fact 26), He.noat_ok (x := "Cone") (f := "rays") (D.fact 27), He.noat_ok (x := "Growing") (f := "cone") (D.fact 28), He.noat_ok (x := "Growing") (f := "earlier") (D.fact 29), He.noat_ok (x := "Growing") (f := "last") (D.fact 30), He.noat_ok (x := "Growing") (f := "size") (D.fact 31), He.noat_ok (x := "Growing") (f := "table") (D.fact 32)⟩
  have I : IsA K c := ⟨insB_ok A.Growing e1⟩
  let G : DG := ⟨[(He.cT K ("is_row", none)).2, (He.cT K ("is_held", none)).2, (He.cT K ("points_through", none)).2], fun P hP p hp => by
    simp only [List.mem_cons, List.not_mem_nil, or_false] at hP
    have z_is_row := List.all_eq_true.mp e3 p hp
    have z_is_held := List.all_eq_true.mp e4 p hp
    have z_points_through := List.all_eq_true.mp e5 p hp
    simp only [Bool.not_eq_true', decide_eq_false_iff_not] at z_is_row z_is_held z_points_through
    rcases hP with h | h | h <;> (rw [h]; assumption), He.ga K "BadArgument", 0⟩
  have gB : mg "BadArgument" = some (.ref (He.ga K "BadArgument")) := He.glo_ok X hg (x := "BadArgument") (D.fact 33)
  obtain ⟨⟨fdB, TB, fB1, kVB, docB, pmB, anB, ctB, ccB, cdaB, fB2⟩, BS⟩ := badB_ok (mg := mg) e0 S.b (by kernel_rfl) (by decide +kernel) (by decide +kernel) (by decide +kernel) (by decide +kernel) (by decide +kernel) (by decide +kernel) (by decide +kernel) (by decide +kernel) (He.free_ok X hg (x := "super") (D.fact 34)) (by decide +kernel)
  obtain ⟨fd, FL⟩ := D.def_ (d := mkD "law" (top 43)) 46
  have eL : fa = He.ga K "law" := by have := He.glo_ok X hg (x := "law") (D.fact 35); rw [hm] at this; cases this; rfl
  subst eL
  have hcs : ∀ p ∈ tfL.map (He.cT K), ∃ d, d ∈ tfL ∧ He.cT K d = p := fun p hp => List.mem_map.mp hp
  refine ⟨K, X, fd, tfL.map (He.cT K), spS K G 1 (F_law c), fun p hp => ?_, fun p hp => ?_, fun p hp => ?_, fun s u => FL.bindsA (ps := ["script"]) (fun kV doc pm an cdv ct us hl => match us, hl with | [u0], _ => rfl) s [u] rfl, fun H a ns hl hb hT hS => ?_, fun base KB hgB hTB => ?_⟩
  · obtain ⟨d, hd, e⟩ := hcs p hp; subst e; exact S.x.empty d hd
  · obtain ⟨d, hd, e⟩ := hcs p hp; subst e; exact S.x.out d hd
  · obtain ⟨d, hd, e⟩ := hcs p hp; subst e; exact PySem.W.codeHd_of_K X (S.x.hd d hd)
  · have hL : LamX.Tabs lamT H := fun p hp => by
      simp only [lamT, List.mem_cons, List.not_mem_nil, or_false] at hp
      subst hp
      exact tabS_empty (by have h0 := hT (He.cT K ("_law_right", none)) (List.mem_map.mpr ⟨("_law_right", none), by simp [tfL], rfl⟩); rw [of_decide_eq_true e2] at h0; exact h0)
    have hG : ∀ P ∈ G.T, GxR.TabG H P := fun P hP => by
      simp only [G, List.mem_cons, List.not_mem_nil, or_false] at hP
      have t_is_row : GxR.TabG H (He.cT K ("is_row", none)).2 := tabG_empty (hT (He.cT K ("is_row", none)) (List.mem_map.mpr ⟨("is_row", none), by simp [tfL], rfl⟩))
      have t_is_held : GxR.TabG H (He.cT K ("is_held", none)).2 := tabG_empty (hT (He.cT K ("is_held", none)) (List.mem_map.mpr ⟨("is_held", none), by simp [tfL], rfl⟩))
      have t_points_through : GxR.TabG H (He.cT K ("points_through", none)).2 := tabG_empty (hT (He.cT K ("points_through", none)) (List.mem_map.mpr ⟨("points_through", none), by simp [tfL], rfl⟩))
      rcases hP with h | h | h <;> (rw [h]; assumption)
    exact law_sp (G := G) hG hL hS (law_plain c ns hl hb)
  · have bm : ∀ d ∈ tfL, GxR.TabB base mg (He.cT K d).1 (He.cT K d).2 := fun d hd => (let ⟨t1, t2, t3⟩ := hTB _ (List.mem_map.mpr ⟨d, hd, rfl⟩); ⟨t1, t2, t3⟩)
    have hX : HasX prog w K mg base G := ⟨badI K, fdB, BS.ex, BS.init, BS.ty, CWG.ok_bad (p13 := ⟨0, 0, 0, 0⟩) (by exact TB) (by decide +kernel), Binds.all (fun us hl => by rw [fB2]; match us, hl with | [u0, u1], _ => rfl), gB⟩
    have hRef : HasR prog w K mg "_law_refused" G.cb := by
      obtain ⟨fdR, FR⟩ := D.def_ (d := mkD "_law_refused" (top 39)) 42
      have bR : Binds K fdR ["call"] [] := FR.bindsN (fun kV doc pm an cdv ct us hl => match us, hl with | [u0], _ => rfl)
      obtain ⟨oc, od, dV, kV, doc, pm, an, cdv, ct, osl, e, lk, hcd, _, _⟩ := FR.ex
      subst e
      refine ⟨_, "call", "e", defScope (top 39), defArgs (top 39), defBody (top 39), oc, od, dV, kV, doc, pm, an, cdv, ct, osl, He.glo_ok X hg (x := "_law_refused") (D.fact 81), FR.kp, lk, hcd, bR, C8.fnScope_by (by decide +kernel), .inl (by decide +kernel), by decide, by decide, fun X0 q h1 h2 h3 h4 => ?_, BS.exm⟩
      subst h3 h4
      exact CWG.ref_gives (X := X0) (sg := defScope (top 39)) (a := "call") (e := "e") (ec := "BadArgument") BS.xf BS.noName (by decide +kernel) gB (by decide) (by decide) (by decide) (by decide) (by decide +kernel)
    have h_is_integer := has_is_integer (P := prog) (w := w) (base := base) (G := G) B C A N I (let ⟨fd, F⟩ := (D.def_ (d := mkD "is_integer" (top 3)) 0); ⟨_, fd, He.glo_ok X hg (x := "is_integer") (D.fact 36), F⟩)
    have h_common := has_common (P := prog) (w := w) (base := base) (G := G) B C A N I (let ⟨fd, F⟩ := (D.def_ (d := mkD "common" (top 4)) 1); ⟨_, fd, He.glo_ok X hg (x := "common") (D.fact 37), F⟩)
    have h_divisor_of := has_divisor_of (P := prog) (w := w) (base := base) (G := G) B C A N I h_common (let ⟨fd, F⟩ := (D.def_ (d := mkD "divisor_of" (top 5)) 2); ⟨_, fd, He.glo_ok X hg (x := "divisor_of") (D.fact 38), F⟩)
    have h_primitive := has_primitive (P := prog) (w := w) (base := base) (G := G) B C A N I h_divisor_of (let ⟨fd, F⟩ := (D.def_ (d := mkD "primitive" (top 6)) 3); ⟨_, fd, He.glo_ok X hg (x := "primitive") (D.fact 39), F⟩)
    have h_product := has_product (P := prog) (w := w) (base := base) (G := G) B C A N I (let ⟨fd, F⟩ := (D.def_ (d := mkD "product" (top 7)) 4); ⟨_, fd, He.glo_ok X hg (x := "product") (D.fact 40), F⟩)
    have h_joined := has_joined (P := prog) (w := w) (base := base) (G := G) B C A N I (let ⟨fd, F⟩ := (D.def_ (d := mkD "joined" (top 8)) 5); ⟨_, fd, He.glo_ok X hg (x := "joined") (D.fact 41), F⟩)
    have h_opposite := has_opposite (P := prog) (w := w) (base := base) (G := G) B C A N I (let ⟨fd, F⟩ := (D.def_ (d := mkD "opposite" (top 9)) 6); ⟨_, fd, He.glo_ok X hg (x := "opposite") (D.fact 42), F⟩)
    have h_cleared := has_cleared (P := prog) (w := w) (base := base) (G := G) B C A N I h_primitive h_joined (let ⟨fd, F⟩ := (D.def_ (d := mkD "cleared" (top 11)) 8); ⟨_, fd, He.glo_ok X hg (x := "cleared") (D.fact 43), F⟩)
    have h_in_steps := has_in_steps (P := prog) (w := w) (base := base) (G := G) B C A N I h_primitive h_opposite h_cleared (let ⟨fd, F⟩ := (D.def_ (d := mkD "in_steps" (top 10)) 7); ⟨_, fd, He.glo_ok X hg (x := "in_steps") (D.fact 44), F⟩)
    have h_cleared_by := has_cleared_by (P := prog) (w := w) (base := base) (G := G) B C A N I h_cleared h_primitive (let ⟨fd, F⟩ := (D.def_ (d := mkD "cleared_by" (top 12)) 9); ⟨_, fd, He.glo_ok X hg (x := "cleared_by") (D.fact 45), F⟩)
    have h_Cone___init__ := has_Cone___init__ (P := prog) (w := w) (base := base) (G := G) B C A N I (let ⟨fd, F⟩ := (D.def_ (d := mkM "Cone" "__init__" "Cone.__init__" (inClass (top 14) 0)) 10); ⟨_, fd, He.mkr_ok (x := "Cone") (D.fact 46), A.g_Cone, F⟩)
    have h_Cone_cut_lines := has_Cone_cut_lines (P := prog) (w := w) (base := base) (G := G) B C A N I h_product h_opposite h_primitive h_joined (let ⟨fd, F⟩ := (D.def_ (d := mkM "Cone" "cut_lines" "Cone.cut_lines" (inClass (top 14) 2)) 12); ⟨_, fd, He.meth_ok (x := "Cone") (m := "cut_lines") (D.fact 47), F⟩)
    have h_Cone_is_edge := has_Cone_is_edge (P := prog) (w := w) (base := base) (G := G) B C A N I (let ⟨fd, F⟩ := (D.def_ (d := mkM "Cone" "is_edge" "Cone.is_edge" (inClass (top 14) 4)) 14); ⟨_, fd, He.meth_ok (x := "Cone") (m := "is_edge") (D.fact 48), F⟩)
    have h_Cone_cut_rays := has_Cone_cut_rays (P := prog) (w := w) (base := base) (G := G) B C A N I h_product h_Cone_is_edge h_primitive h_joined (let ⟨fd, F⟩ := (D.def_ (d := mkM "Cone" "cut_rays" "Cone.cut_rays" (inClass (top 14) 3)) 13); ⟨_, fd, He.meth_ok (x := "Cone") (m := "cut_rays") (D.fact 49), F⟩)
    have h_Cone_narrow := has_Cone_narrow (P := prog) (w := w) (base := base) (G := G) B C A N I h_product h_Cone_cut_lines h_Cone_cut_rays (let ⟨fd, F⟩ := (D.def_ (d := mkM "Cone" "narrow" "Cone.narrow" (inClass (top 14) 1)) 11); ⟨_, fd, He.meth_ok (x := "Cone") (m := "narrow") (D.fact 50), F⟩)
    have h_cone_of := has_cone_of (P := prog) (w := w) (base := base) (G := G) B C A N I h_Cone___init__ h_Cone_narrow (let ⟨fd, F⟩ := (D.def_ (d := mkD "cone_of" (top 15)) 15); ⟨_, fd, He.glo_ok X hg (x := "cone_of") (D.fact 51), F⟩)
    have h_tidy := has_tidy (P := prog) (w := w) (base := base) (G := G) B C A N I h_in_steps h_cleared_by (let ⟨fd, F⟩ := (D.def_ (d := mkD "tidy" (top 16)) 16); ⟨_, fd, He.glo_ok X hg (x := "tidy") (D.fact 52), F⟩)
    have F_is_row := (D.def_ (d := mkD "is_row" (top 21)) 17)
    obtain ⟨fd_is_row, F_is_row⟩ := F_is_row
    obtain ⟨cd_is_row, k_is_row, l_is_row⟩ := code_cT (p := ("is_row", none)) F_is_row
    have h_is_row := has_is_row (P := prog) (w := w) (base := base) (G := G) B C A N I h_is_integer ⟨_, fd_is_row, He.glo_ok X hg (x := "is_row") (D.fact 53), F_is_row, cd_is_row, (He.cT K ("is_row", none)).2, k_is_row, by rw [← l_is_row]; exact bm _ (by simp [tfL]), by simp [G]⟩
    have h_is_wall_of := has_is_wall_of (P := prog) (w := w) (base := base) (G := G) B C A N I h_is_row h_is_integer (let ⟨fd, F⟩ := (D.def_ (d := mkD "is_wall_of" (top 22)) 18); ⟨_, fd, He.glo_ok X hg (x := "is_wall_of") (D.fact 54), F⟩)
    have h_is_some := has_is_some (P := prog) (w := w) (base := base) (G := G) B C A N I (let ⟨fd, F⟩ := (D.def_ (d := mkD "is_some" (top 23)) 19); ⟨_, fd, He.glo_ok X hg (x := "is_some") (D.fact 55), F⟩)
    have F_is_held := (D.def_ (d := mkD "is_held" (top 24)) 20)
    obtain ⟨fd_is_held, F_is_held⟩ := F_is_held
    obtain ⟨cd_is_held, k_is_held, l_is_held⟩ := code_cT (p := ("is_held", none)) F_is_held
    have h_is_held := has_is_held (P := prog) (w := w) (base := base) (G := G) B C A N I h_is_integer h_is_some h_is_wall_of ⟨_, fd_is_held, He.glo_ok X hg (x := "is_held") (D.fact 56), F_is_held, cd_is_held, (He.cT K ("is_held", none)).2, k_is_held, by rw [← l_is_held]; exact bm _ (by simp [tfL]), by simp [G]⟩
    have h_need_held := has_need_held (P := prog) (w := w) (base := base) (G := G) B C A N I hX h_is_held (let ⟨fd, F⟩ := (D.def_ (d := mkD "need_held" (top 25)) 21); ⟨_, fd, He.glo_ok X hg (x := "need_held") (D.fact 57), F⟩)
    have h_wall_rows := has_wall_rows (P := prog) (w := w) (base := base) (G := G) B C A N I h_opposite (let ⟨fd, F⟩ := (D.def_ (d := mkD "wall_rows" (top 26)) 22); ⟨_, fd, He.glo_ok X hg (x := "wall_rows") (D.fact 58), F⟩)
    have h_span_of := has_span_of (P := prog) (w := w) (base := base) (G := G) B C A N I h_cone_of h_wall_rows h_tidy (let ⟨fd, F⟩ := (D.def_ (d := mkD "span_of" (top 27)) 23); ⟨_, fd, He.glo_ok X hg (x := "span_of") (D.fact 59), F⟩)
    have h_corners := has_corners (P := prog) (w := w) (base := base) (G := G) B C A N I h_need_held h_span_of (let ⟨fd, F⟩ := (D.def_ (d := mkD "corners" (top 28)) 24); ⟨_, fd, He.glo_ok X hg (x := "corners") (D.fact 60), F⟩)
    have h_Growing_first_cone := has_Growing_first_cone (P := prog) (w := w) (base := base) (G := G) B C A N I h_Cone___init__ h_Cone_narrow (let ⟨fd, F⟩ := (D.def_ (d := mkM "Growing" "first_cone" "Growing.first_cone" (inClass (top 31) 1)) 26); ⟨_, fd, He.meth_ok (x := "Growing") (m := "first_cone") (D.fact 61), F⟩)
    have h_Growing___init__ := has_Growing___init__ (P := prog) (w := w) (base := base) (G := G) B C A N I hX h_is_integer h_Growing_first_cone (let ⟨fd, F⟩ := (D.def_ (d := mkM "Growing" "__init__" "Growing.__init__" (inClass (top 31) 0)) 25); ⟨_, fd, He.mkr_ok (x := "Growing") (D.fact 62), A.g_Growing, F⟩)
    have h_Growing_held := has_Growing_held (P := prog) (w := w) (base := base) (G := G) B C A N I (let ⟨fd, F⟩ := (D.def_ (d := mkM "Growing" "held" "Growing.held" (inClass (top 31) 2)) 27); ⟨_, fd, He.meth_ok (x := "Growing") (m := "held") (D.fact 63), F⟩)
    have h_Growing_span := has_Growing_span (P := prog) (w := w) (base := base) (G := G) B C A N I h_tidy (let ⟨fd, F⟩ := (D.def_ (d := mkM "Growing" "span" "Growing.span" (inClass (top 31) 3)) 28); ⟨_, fd, He.meth_ok (x := "Growing") (m := "span") (D.fact 64), F⟩)
    have h_Growing_change := has_Growing_change (P := prog) (w := w) (base := base) (G := G) B C A N I h_Growing_span (let ⟨fd, F⟩ := (D.def_ (d := mkM "Growing" "change" "Growing.change" (inClass (top 31) 4)) 29); ⟨_, fd, He.meth_ok (x := "Growing") (m := "change") (D.fact 65), F⟩)
    have h_Growing_keep := has_Growing_keep (P := prog) (w := w) (base := base) (G := G) B C A N I (let ⟨fd, F⟩ := (D.def_ (d := mkM "Growing" "keep" "Growing.keep" (inClass (top 31) 5)) 30); ⟨_, fd, He.meth_ok (x := "Growing") (m := "keep") (D.fact 66), F⟩)
    have h_Growing_put := has_Growing_put (P := prog) (w := w) (base := base) (G := G) B C A N I hX h_is_wall_of h_Growing_span h_Growing_keep h_Cone_narrow h_opposite h_Growing_change (let ⟨fd, F⟩ := (D.def_ (d := mkM "Growing" "put" "Growing.put" (inClass (top 31) 6)) 31); ⟨_, fd, He.meth_ok (x := "Growing") (m := "put") (D.fact 67), F⟩)
    have h_Growing_again := has_Growing_again (P := prog) (w := w) (base := base) (G := G) B C A N I h_Growing_first_cone h_Cone_narrow h_opposite (let ⟨fd, F⟩ := (D.def_ (d := mkM "Growing" "again" "Growing.again" (inClass (top 31) 7)) 32); ⟨_, fd, He.meth_ok (x := "Growing") (m := "again") (D.fact 68), F⟩)
    have h_Growing_take := has_Growing_take (P := prog) (w := w) (base := base) (G := G) B C A N I hX h_is_integer h_Growing_span h_Growing_keep h_Growing_again h_Growing_change (let ⟨fd, F⟩ := (D.def_ (d := mkM "Growing" "take" "Growing.take" (inClass (top 31) 8)) 33); ⟨_, fd, He.meth_ok (x := "Growing") (m := "take") (D.fact 69), F⟩)
    have h_Growing_undo := has_Growing_undo (P := prog) (w := w) (base := base) (G := G) B C A N I h_Growing_again (let ⟨fd, F⟩ := (D.def_ (d := mkM "Growing" "undo" "Growing.undo" (inClass (top 31) 9)) 34); ⟨_, fd, He.meth_ok (x := "Growing") (m := "undo") (D.fact 70), F⟩)
    have h_Growing_numbers := has_Growing_numbers (P := prog) (w := w) (base := base) (G := G) B C A N I (let ⟨fd, F⟩ := (D.def_ (d := mkM "Growing" "numbers" "Growing.numbers" (inClass (top 31) 10)) 35); ⟨_, fd, He.meth_ok (x := "Growing") (m := "numbers") (D.fact 71), F⟩)
    have h_is_deed := has_is_deed (P := prog) (w := w) (base := base) (G := G) B C A N I h_is_wall_of h_is_integer (let ⟨fd, F⟩ := (D.def_ (d := mkD "is_deed" (top 32)) 36); ⟨_, fd, He.glo_ok X hg (x := "is_deed") (D.fact 72), F⟩)
    have F_points_through := (D.def_ (d := mkD "points_through" (top 33)) 37)
    obtain ⟨fd_points_through, F_points_through⟩ := F_points_through
    obtain ⟨cd_points_through, k_points_through, l_points_through⟩ := code_cT (p := ("points_through", none)) F_points_through
    have h_points_through := has_points_through (P := prog) (w := w) (base := base) (G := G) B C A N I hX h_Growing___init__ h_is_deed h_Growing_put h_Growing_undo h_Growing_numbers h_Growing_take h_Growing_span ⟨_, fd_points_through, He.glo_ok X hg (x := "points_through") (D.fact 73), F_points_through, cd_points_through, (He.cT K ("points_through", none)).2, k_points_through, by rw [← l_points_through]; exact bm _ (by simp [tfL]), by simp [G]⟩
    have h_is_followed := has_is_followed (P := prog) (w := w) (base := base) (G := G) B C A N I hX h_Growing_span h_span_of h_Growing_held (let ⟨fd, F⟩ := (D.def_ (d := mkD "is_followed" (top 34)) 38); ⟨_, fd, He.glo_ok X hg (x := "is_followed") (D.fact 74), F⟩)
    have h__law_dice := has__law_dice (P := prog) (w := w) (base := base) (G := G) B C A N I (let ⟨fd, F⟩ := (D.def_ (d := mkD "_law_dice" (top 36)) 39); ⟨_, fd, He.glo_ok X hg (x := "_law_dice") (D.fact 75), F⟩)
    have h__law_roll := has__law_roll (P := prog) (w := w) (base := base) (G := G) B C A N I (let ⟨fd, F⟩ := (D.def_ (d := mkD "_law_roll" (top 37)) 40); ⟨_, fd, He.glo_ok X hg (x := "_law_roll") (D.fact 76), F⟩)
    have h__law_pick := has__law_pick (P := prog) (w := w) (base := base) (G := G) B C A N I h__law_roll (let ⟨fd, F⟩ := (D.def_ (d := mkD "_law_pick" (top 38)) 41); ⟨_, fd, He.glo_ok X hg (x := "_law_pick") (D.fact 77), F⟩)
    have h__law_row := has__law_row (P := prog) (w := w) (base := base) (G := G) B C A N I h__law_roll (let ⟨fd, F⟩ := (D.def_ (d := mkD "_law_row" (top 40)) 43); ⟨_, fd, He.glo_ok X hg (x := "_law_row") (D.fact 78), F⟩)
    have h__law_unit := has__law_unit (P := prog) (w := w) (base := base) (G := G) B C A N I (let ⟨fd, F⟩ := (D.def_ (d := mkD "_law_unit" (top 41)) 44); ⟨_, fd, He.glo_ok X hg (x := "_law_unit") (D.fact 79), F⟩)
    have F__law_right := (D.def_ (d := mkD "_law_right" (top 42)) 45)
    obtain ⟨fd__law_right, F__law_right⟩ := F__law_right
    obtain ⟨cd__law_right, k__law_right, l__law_right⟩ := code_cT (p := ("_law_right", none)) F__law_right
    have h__law_right := has__law_right (P := prog) (w := w) (base := base) (G := G) B C A N I hRef h__law_roll h_Growing___init__ h_corners h__law_pick h__law_unit h__law_row h_Growing_put h_Growing_take h_Growing_undo h_Growing_held h_Growing_span h_is_followed h_Growing_numbers h_points_through ⟨_, fd__law_right, He.glo_ok X hg (x := "_law_right") (D.fact 80), F__law_right, cd__law_right, (He.cT K ("_law_right", none)).2, k__law_right, by rw [← l__law_right]; exact bm _ (by simp [tfL]), by rw [of_decide_eq_true e2]; exact List.mem_cons_self, fun p hp _ => by simp only [lamT, List.mem_cons, List.not_mem_nil, or_false] at hp; rw [hp]⟩
    exact (ok_law (P := prog) (w := w) (base := base) (G := G) B C A N I h__law_right h__law_dice FL)
end CD
open PySem PySem.W PySem.Calls PyProof.Rows
theorem PySem.Challenge.cw_cornerwalls_k14_whole_growing_holds : PySem.Challenge.rw_cornerwalls_k14_whole_growing.Holds := by
  w_on; o_law
  refine HandSHeadRun.head_any (r := CD.RR) (q := view CD.RR.prog [43]) (H := CD.hk) (ob := CD.ob) (M := 4000) (loose := CD.loose) (d := HandSHeadRun.topDef CD.RR.prog 43) (kwd := []) CD.ob_eq (by kernel_rfl) (fun s => by kernel_rfl) CD.run (by kernel_rfl) (by kernel_rfl) (by kernel_rfl) (by rfl) (by first | assumption | decide +kernel) (by decide +kernel) ⟨rfl, rfl, rfl, rfl, rfl, by decide +kernel⟩ ?hw ?hc
  case hw => w_witness2
  case hc =>
    refine LamX.walk_ofTsE (l := PySem.Challenge.rw_cornerwalls_k14_whole_growing) (n := 63) (k := 15) (x := "script") (CX := fun w => L2.CX CD.prog w) rfl (by decide) (by kernel_rfl) ⟨rfl, by decide, by decide⟩ ?F (fun _ _ _ _ _ z => by obtain ⟨_, _, _, _, _, _, _, _, _, _, _, _, e⟩ := z; exact e)
    intro w mg fa h Y hg hm
    refine CD.law_at w mg fa h Y hg ?_
    have e : (HandSHeadRun.topDef CD.RR.prog 43).name = ("law" : PySem.Str) := by kernel_rfl
    rw [← e]
    exact hm
