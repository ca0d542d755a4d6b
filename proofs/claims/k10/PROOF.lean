import PyProof.Rows.All
import Wide.All
import OpenK.AllK
import Wide.FinOn
import HandS.ForMost
import HandS.ForExc
import HandS.AnyAll
import HandS.GenList
import KE.KExcSuper
import HandS.ExcInit
import HandS.ExcSuper
import HandS.FStr
import KE.SortData
import KE.SortCalls
import HandS.SetFor
import HandS.Strs
import HandS.TupSets
import HandS.TupAny
import HandS.TupMul
import HandS.Deep
import HandS.TryMany
import HandS.Lambda
import HandS.Conv
import KE.DataCmp
import KE.DataEq
import HandS.IsInst
import KE.DataMinMax
import HandS.Zip
import PyProof.SeqIndex
import HandS.Style
import HandS.WordsExc
import KE.KExcIs
import HandS.ExcIs
import HandS.ExcField
import HandS.Head0
import HandS.Head1
import HandS.Head2
import HandS.HeadHook1
import HandS.HeadHook2
import HandS.HeadHook3
import HandS.HeadHook4
import HandS.HeadWalk
import KE.KStateDown
import PySem.Challenge.RW_dominorows_k10_missing_bones
set_option Elab.async false
set_option linter.all false
set_option maxRecDepth 100000
set_option maxHeartbeats 2000000
namespace L2
open PySem PySem.Spec PyProof.Rows GenW GxR

/-- the context of a generator expression's body -/
abbrev Cx.gen (X : Cx) (s : Shared) (H : Hp) (A : Around) (genv : Env) (fp : List Addr) (pn : List (Addr × Obj)) : Cx :=
  { X with s_0 := s, H_0 := H, A := A, env := genv, outer := X.stack, stack := genv :: X.stack, ex := fp, fn := fun _ => false, pn := pn, xe := fun _ _ => False }

section
variable {X : Cx} {pins : List (Addr × Obj)} {σ : L2.St} {H : Hp} {s : Shared}
theorem gen_start {scope : Scope} {own : List (Str × Nat)} {fp : List Addr} {A' : Around} {code : Value} {a : Addr} {go : Obj} {s6 : Shared} {m0 : Str → Option Value}
    (I : Inv X pins σ H s) (ok : BlkOk X.N X.env.scope scope own) (hN : X.N.Nodup) (hcell : ∀ y ∈ scope.names, y.2 ≠ .cell)
    (hfp : ∀ b ∈ fp, FpOk X pins H b ∧ b < s.heap.objs.size)
    (hA : A'.handled = X.A.handled) (hfr : A'.frames = some (genEnv scope (cloFrom X.env.cells scope.names []) s.heap.objs.size code builtinsNs X.env :: X.stack))
    (ha : s.heap.objs.size < a) (hgo : s6.heap.get? a = some go) (hgd : ∀ v, go.data ≠ .cell v)
    (hn : s6.heap.Ns s.heap.objs.size m0) (kp : ∀ b o, s.heap.get? b = some o → s6.heap.get? b = some o) (hos : s6.os = s.os) (hb : AllBare s6.gens) :
    Inv (X.gen s H A' (genEnv scope (cloFrom X.env.cells scope.names []) s.heap.objs.size code builtinsNs X.env) fp [(a, go)]) [] (wipe σ (own.map (·.2))) H s6 := by
  have hfree : ∀ y ∈ scope.names, y.2 = .free → ∃ c, X.env.cells.lookup y.1 = some c := fun y hy e => by
    rcases ok.free y hy e with k | k
    · exact I.ok.has _ (.inl k)
    · exact I.ok.has _ (.inr k)
  generalize hcenv : genEnv scope (cloFrom X.env.cells scope.names []) s.heap.objs.size code builtinsNs X.env = cenv at hfr
  have hL : cenv.locals = s.heap.objs.size := by rw [← hcenv]; rfl
  have hF : cenv.frame = some s.heap.objs.size := by rw [← hcenv]; rfl
  have hcl : cenv.cells = cloFrom X.env.cells scope.names [] := by rw [← hcenv]; rfl
  have hsc : cenv.scope = scope := by rw [← hcenv]; rfl
  have cm : ∀ {y c}, (y, c) ∈ cloFrom X.env.cells scope.names [] → X.env.cells.lookup y = some c ∧ c < s.heap.objs.size := fun {y c} hm => by
    rcases cloFrom_mem hm with hm | ⟨h1, rfl⟩
    · cases hm
    · obtain ⟨c, hc⟩ := hfree _ h1 rfl
      rw [hc]
      obtain ⟨w, z⟩ := I.cell _ _ hc
      exact ⟨rfl, z.lt⟩
  have mem : ∀ {y c}, cenv.cells.lookup y = some c → X.env.cells.lookup y = some c ∧ c < s.heap.objs.size := fun {y c} e => by
    rw [hcl] at e
    exact cm (PySem.mem_of_lookup e)
  have look : ∀ {y}, scope.names.lookup y = some .free → ∃ c, cenv.cells.lookup y = some c ∧ X.env.cells.lookup y = some c := fun {y} hl => by
    have hy : (y, NameKind.free) ∈ scope.names := PySem.mem_of_lookup hl
    obtain ⟨c', e'⟩ := mem_lookup (cloFrom_has (cells := X.env.cells) (acc := []) hy)
    rw [← hcl] at e'
    exact ⟨c', e', (mem e').1⟩
  have nocell : ∀ {y}, scope.names.lookup y ≠ some .cell := fun {y} e => hcell _ (PySem.mem_of_lookup e) rfl
  have okB : (X.gen s H A' cenv fp [(a, go)]).Ok := by
    refine ⟨I.ok.mod, by show cenv.scope.kind = _; rw [hsc]; exact ok.kind, by show cenv.globals = _; rw [← hcenv]; exact I.ok.glob, by show cenv.builtins = _; rw [← hcenv]; rfl, by show s.heap.objs.size ≤ cenv.locals; rw [hL]; exact Nat.le_refl _,
      fun y z c e1 e2 => ?_, fun y hy => ?_, fun y c z e => (by cases z), fun hc => (by show A'.handled = none; rw [hA]; exact I.ok.hd hc), hfr, .inr ⟨rfl, by show cenv.frame = some cenv.locals; rw [hF, hL]⟩, fun b hb => ⟨?_, fun y c e z => ?_⟩, I.bs, Nat.le_trans I.ok.bsz I.sz, fun b o e hb => ?_, fun b hb z => ?_, I.stack, I.stkFree⟩
    · exact I.ok.inj y z c (mem (y := y) e1).1 (mem (y := z) e2).1
    · show ∃ c, cenv.cells.lookup y = some c
      have key : ∀ k, scope.names.lookup y = some k → (k = .cell ∨ k = .free) → ∃ c, cenv.cells.lookup y = some c := fun k hk hk' => by
        rcases hk' with rfl | rfl
        · exact absurd hk nocell
        · obtain ⟨c, h1, _⟩ := look hk
          exact ⟨c, h1⟩
      rcases hy with hy | hy
      · have hy : cenv.scope.names.lookup y = some .cell := hy
        rw [hsc] at hy
        exact key _ hy (.inl rfl)
      · have hy : cenv.scope.names.lookup y = some .free := hy
        rw [hsc] at hy
        exact key _ hy (.inr rfl)
    · show b ≠ cenv.locals
      rw [hL]; exact Nat.ne_of_lt (hfp b hb).2
    · exact (hfp b hb).1.2.2.2.2.1 y c (mem (y := y) e).1 z
    · rcases (hfp b hb).1.2.2.2.1 with z | z
      · exact I.ok.noex b o e z
      · exact absurd (Nat.lt_of_lt_of_le (Heap.lt_size e) (Nat.le_trans I.ok.bsz z)) (Nat.lt_irrefl _)
    · rcases List.mem_cons.mp (I.stkSub b z) with z | z
      · exact (hfp b hb).1.2.1 z
      · exact (hfp b hb).1.2.2.1 z
  refine ⟨okB, hos, hb, Un.kept kp, ⟨m0, ?_, fun i y av e1 e2 e3 => ?_⟩, fun y c e => ?_, ?_, fun y c e => ?_, fun p hp => ?_, I.hok.kept kp, by rw [wipe_length]; exact I.len⟩
  · show Heap.Ns _ cenv.locals _
    rw [hL]; exact hn
  · obtain ⟨e2, hne⟩ := wipe_some e2
    have e3 : Vis cenv.scope y := e3
    rw [hsc] at e3
    have hfr : scope.names.lookup y = some .free := by
      rcases e3 with e3 | e3 | e3
      · exfalso
        rcases ok.own _ (PySem.mem_of_lookup e3) (.inl rfl) with e' | e'
        · obtain ⟨p, hp, hpy⟩ := List.mem_map.mp e'
          have e4 := ok.ix p hp
          have : p.1 = y := hpy
          rw [this] at e4
          exact hne (List.mem_map.mpr ⟨p, hp, nodup_ix hN e4 e1⟩)
        · exact e' (List.mem_of_getElem? e1)
      · exact absurd e3 nocell
      · exact e3
    obtain ⟨m, hn', hl⟩ := I.loc
    have hvis : Vis X.env.scope y := (ok.free _ (PySem.mem_of_lookup hfr) rfl).elim (fun k => .inr (.inl k)) (fun k => .inr (.inr k))
    obtain ⟨w, r, q⟩ := hl i y av e1 e2 hvis
    refine ⟨w, r, .inr ⟨.inr (by show cenv.scope.names.lookup y = _; rw [hsc]; exact hfr), ?_⟩⟩
    obtain ⟨c, h1, h2⟩ := look hfr
    rcases q with ⟨k, _⟩ | ⟨_, c', e', z⟩
    · have k : X.env.scope.names.lookup y = some .local := k
      rcases ok.free _ (PySem.mem_of_lookup hfr) rfl with k' | k' <;> rw [show X.env.scope.names.lookup y = _ from k'] at k <;> cases k
    · rw [h2] at e'; cases e'
      exact ⟨c, h1, z.keeps kp⟩
  · obtain ⟨w, z⟩ := I.cell y c (mem (y := y) e).1
    exact ⟨w, z.keeps kp⟩
  · show H cenv.locals = none
    rw [hL]; exact I.hok.fresh (Nat.le_refl _)
  · exact I.freeC y c (mem (y := y) e).1
  · have hp : p ∈ [(a, go)] := by simpa using hp
    rw [List.mem_singleton.mp hp]
    refine ⟨hgo, I.hok.fresh (Nat.le_of_lt ha), ?_, ?_, hgd⟩
    · show a ≠ cenv.locals
      rw [hL]; exact Nat.ne_of_gt ha
    · intro z
      rcases List.mem_cons.mp (I.stkSub a z) with z | z
      · exact absurd I.lt (by rw [← z]; exact Nat.not_lt.mpr (Nat.le_of_lt ha))
      · exact I.nofs (Nat.le_of_lt ha) z
end
end L2

set_option Elab.async false
set_option linter.all false
set_option maxRecDepth 100000
set_option maxHeartbeats 2000000
namespace L2
open PySem PySem.Spec PyProof.Rows GenW GxR

/-- what is asked of a walk whose items are tests: k = true: all, k = false: any -/
def tAll (k : Bool) (P : Addr) (wi : TI) (g : TG) (tt : TT) (te : TE) (vs : List Nat) : TE := fun σ H Q => wi σ H fun J H1 => TabG H1 P ∧ ∀ H1', Tabbed P H1 H1' →
  ∃ W : Nat → Nat → Hp → Prop, (∃ m, W 0 m H1') ∧ ∀ i m H, W i m H →
  (J.stop i H ∧ Q (.bl k) H) ∨ (J.go i H ∧ ∃ Nx : Hp → Prop, (∀ H', Nx H' → ∃ m', m' < m ∧ W (i + 1) m' H') ∧ ∀ x H', J.yld i H x H' → g x (wipe σ vs) H' fun σ2 H2 => wipe σ2 vs = wipe σ vs ∧ tt σ2 H2 fun b H3 =>
    if b = true then te σ2 H3 fun y H4 => ∃ c, y = .bl c ∧ (c = k → Nx H4) ∧ (c ≠ k → Q (.bl (!k)) H4) else Nx H3)

def RAll (F : Nat → Shared → Shared → Prop) : GenEnd := fun n s₀ r s₁ => ((r = .ok (.ret .none) ∨ r = .ok .next) ∧ F n s₀ s₁) ∨ ∃ e, r = .error e ∧ (fun (_ : Value) (_ : Shared) => False) e s₁
def YAll (k : Bool) (a : Addr) (g : Nat) (X : Cx) (pins : List (Addr × Obj)) (σ : L2.St) (Q : VK) : Protocol := fun n s₀ v s kap =>
  ∃ c : Bool, v = .bool c ∧ s.heap.IsGen a g ∧ s.heap.NoLimit ∧ AllBare s.gens ∧ (c ≠ k → ∃ H', Inv X pins σ H' s ∧ Q (.bl (!k)) H') ∧
    (c = k → ∀ s', s'.heap = s.heap → s'.os = s.os → AllBare s'.gens → kap (.send .none) s')

section
variable {X : Cx} {pins : List (Addr × Obj)} {σ : L2.St} {H4 : Hp} {s4 : Shared}
theorem gen_loop {k : Bool} {elt tg iter : Expr} {ifs : List Expr} {scope : Scope} {pos : Pos} {own : List (Str × Nat)} {fp : List Addr} {it a : Addr} {gn : Nat} {go : Obj} {genv : Env} {Ag : Around}
    {tn : Nat → Heap → Prop} {J : It} {g : TG} {tt : TT} {te : TE} {Q : VK} {W : Nat → Nat → Hp → Prop}
    (hc : X.calm = true) (hco : genv.scope.isCoroutine = false) (I4 : Inv X pins σ H4 s4)
    (T : Turn X.prog X.w X.K tg J fp it tn)
    (hfp : ∀ b ∈ fp, FpOk X pins H4 b) (hba : ∀ b ∈ fp, b ≠ a)
    (hgen : ∀ h : Heap, h.get? a = some go → h.IsGen a gn)
    (pg : PG (X.gen s4 H4 (Ag.over (.compLoop (.GeneratorExp elt [⟨tg, iter, ifs, 0⟩] scope pos) 0 (.ref it) .none genv) []) genv fp [(a, go)]) tg g)
    (pt : PTs (X.gen s4 H4 (Ag.over (.compLoop (.GeneratorExp elt [⟨tg, iter, ifs, 0⟩] scope pos) 0 (.ref it) .none genv) []) genv fp [(a, go)]) ifs tt)
    (pe : PE (X.gen s4 H4 (Ag.over (.compLoop (.GeneratorExp elt [⟨tg, iter, ifs, 0⟩] scope pos) 0 (.ref it) .none genv) []) genv fp [(a, go)]) elt te)
    (turn : ∀ i m H, W i m H →
      (J.stop i H ∧ Q (.bl k) H) ∨ (J.go i H ∧ ∃ Nx : Hp → Prop, (∀ H', Nx H' → ∃ m', m' < m ∧ W (i + 1) m' H') ∧ ∀ x H', J.yld i H x H' → g x (wipe σ (own.map (·.2))) H' fun σ2 H2 => wipe σ2 (own.map (·.2)) = wipe σ (own.map (·.2)) ∧ tt σ2 H2 fun b H3 =>
        if b = true then te σ2 H3 fun y H4 => ∃ c, y = .bl c ∧ (c = k → Nx H4) ∧ (c ≠ k → Q (.bl (!k)) H4) else Nx H3)) :
    ∀ (m n i : Nat) (s₀ s : Shared) (H : Hp), m < n → W i m H →
      Inv (X.gen s4 H4 (Ag.over (.compLoop (.GeneratorExp elt [⟨tg, iter, ifs, 0⟩] scope pos) 0 (.ref it) .none genv) []) genv fp [(a, go)]) [] (wipe σ (own.map (·.2))) H s → tn i s.heap → (∀ b ∈ fp, H b = none) →
      Seg (model X.prog X.w) Ag (RAll fun _ _ s₁ => ∃ H', Inv X pins σ H' s₁ ∧ Q (.bl k) H') (YAll k a gn X pins σ Q) n s₀
        (.compLoop (.GeneratorExp elt [⟨tg, iter, ifs, 0⟩] scope pos) 0 (.ref it) .none genv)
        ((model X.prog X.w).den (.compLoop (.GeneratorExp elt [⟨tg, iter, ifs, 0⟩] scope pos) 0 (.ref it) .none genv)) [] s := by
  generalize hXg : X.gen s4 H4 (Ag.over (.compLoop (.GeneratorExp elt [⟨tg, iter, ifs, 0⟩] scope pos) 0 (.ref it) .none genv) []) genv fp [(a, go)] = Xg at pg pt pe
  have eA : Xg.A = Ag.over (.compLoop (.GeneratorExp elt [⟨tg, iter, ifs, 0⟩] scope pos) 0 (.ref it) .none genv) [] := by rw [← hXg]
  have eE : Xg.env = genv := by rw [← hXg]
  have eP : Xg.prog = X.prog := by rw [← hXg]
  have eW : Xg.w = X.w := by rw [← hXg]
  have eK : Xg.K = X.K := by rw [← hXg]
  have eC : Xg.calm = true := by rw [← hXg]; exact hc
  have ex : Xg.xe = fun _ _ => False := by rw [← hXg]
  have eex : Xg.ex = fp := by rw [← hXg]
  have epn : Xg.pn = [(a, go)] := by rw [← hXg]
  have stat : ∀ {σ' : L2.St} {H' : Hp} {s' : Shared}, Inv Xg [] σ' H' s' → (∀ b ∈ fp, H' b = none) → ∀ b ∈ fp, FpOk Xg [] H' b := fun {σ' H' s'} I' hn b hb =>
    ⟨hn b hb, (I'.ok.exf b (by rw [eex]; exact hb)).1, I'.ok.exfs b (by rw [eex]; exact hb), .inl (by rw [eex]; exact hb), fun x c e => (I'.ok.exf b (by rw [eex]; exact hb)).2 x c e, fun p hp => by
      have hp' : p ∈ [(a, go)] := by rw [epn] at hp; simpa using hp
      rw [List.mem_singleton.mp hp']; exact (hba b hb).symm⟩
  -- back in the def's context
  have back : ∀ {pn' : List (Addr × Obj)} {σ' : L2.St} {H' : Hp} {s' : Shared}, Inv Xg pn' σ' H' s' → Inv X pins σ H' s' := fun {pn' σ' H' s'} I' => by
    have I' : Inv (X.gen s4 H4 (Ag.over (.compLoop (.GeneratorExp elt [⟨tg, iter, ifs, 0⟩] scope pos) 0 (.ref it) .none genv) []) genv fp [(a, go)]) pn' σ' H' s' := by rw [hXg]; exact I'
    exact I4.call' (ch := fp) I'.os I'.base I'.hok I'.bare fun b hb => ⟨(hfp b hb).2.2.2.1, (hfp b hb).2.1, (hfp b hb).2.2.2.2.1, (hfp b hb).2.2.2.2.2⟩
  intro m
  induction m using Nat.strongRecOn with
  | ind m ih =>
    intro n i s₀ s H hmn w I st hn
    show Seg _ Ag _ _ _ s₀ _ ((compTurn (.GeneratorExp elt [⟨tg, iter, ifs, 0⟩] scope pos) 0 (.ref it) .none genv).onRaise (leaving genv)) [] s
    rw [compTurn_gen, Sem.onRaise_eq_wrap]
    refine seg_bind_wrap (wpAny_standAt ?_)
    rcases turn i m H w with ⟨stop, qq⟩ | ⟨go', Nx, hNx, step⟩
    · have td := T.done Xg eP eW eK eC i [] s _ H (fun _ _ => False) I (stat I hn) st stop
      rw [eA] at td
      refine seg_bind_wrap (wpAny_mono td (fun r s6 ⟨hr, I6⟩ => ?_) fun _ _ z => False.elim z)
      subst hr
      exact seg_end (.ok .next) (.inl ⟨.inr rfl, H, back I6, qq⟩)
    · have ti := T.item Xg eP eW eK eC i [] s _ H (fun _ _ => False) I (stat I hn) st go'
      rw [eA] at ti
      refine seg_bind_wrap (wpAny_mono ti (fun r s6 ⟨u, hr, h6⟩ => ?_) fun _ _ z => False.elim z)
      subst hr
      refine seg_bind_wrap (wpAny_mono h6 (fun _ s7 ⟨x, H7, I7, r7, y7, st7, n7⟩ => ?_) fun _ _ z => False.elim z)
      have I7' := I7.pinned (stat I7 n7) (T.obj _ _ st7)
      have hg := pg.run _ s7 _ H7 x u _ I7' r7 (step x H7 y7)
      rw [eP, eW, eA, eE, ex] at hg
      refine seg_bind_wrap (wpAny_mono hg (fun _ s8 ⟨σ8, H8, I8, hw8, q8⟩ => ?_) fun _ _ z => False.elim z)
      have ht := pt.run _ s8 σ8 H8 _ I8 q8
      rw [eP, eW, eA, eE, ex] at ht
      refine seg_bind_wrap (wpAny_mono ht (fun b s9 ⟨H9, I9, q9⟩ => ?_) fun _ _ z => False.elim z)
      -- the turn's end
      have fin : ∀ {n : Nat} {s₀ s' : Shared} {H' : Hp}, (∀ m', m' < m → m' < n) → Inv Xg ([] ++ pinsAt fp s7.heap) σ8 H' s' → Nx H' → Seg (model X.prog X.w) Ag (RAll fun _ _ s₁ => ∃ H', Inv X pins σ H' s₁ ∧ Q (.bl k) H') (YAll k a gn X pins σ Q) n s₀
        (.compLoop (.GeneratorExp elt [⟨tg, iter, ifs, 0⟩] scope pos) 0 (.ref it) .none genv)
        ((model X.prog X.w).den (.compLoop (.GeneratorExp elt [⟨tg, iter, ifs, 0⟩] scope pos) 0 (.ref it) .none genv)) [] s' := fun {n s₀ s' H'} hle I' nx => by
        obtain ⟨m', hm, w'⟩ := hNx H' nx
        have pin' : ∀ b ∈ fp, ∀ o, s7.heap.get? b = some o → s'.heap.get? b = some o ∧ H' b = none := fun b hb o e =>
          let z := I'.pin (b, o) (List.mem_append_right _ (List.mem_append_right _ (mem_pinsAt hb e)))
          ⟨z.1, z.2.1⟩
        have hl : (wipe σ (own.map (·.2))).length = σ8.length := by rw [← hw8, wipe_length]
        refine ih m' hm n (i + 1) s₀ s' H' (hle m' hm) w' ((I'.unpinned (pins := [])).weak hl (fun j v e => ?_)) (T.keep _ _ _ st7 fun b hb o e => (pin' b hb o e).1) (fun b hb => ?_)
        · rw [← hw8] at e
          exact (wipe_some e).1
        · obtain ⟨o, e, _⟩ := T.obj _ _ st7 b hb
          exact (pin' b hb o e).2
      cases b with
      | false =>
        simp only [Bool.false_eq_true, if_false] at q9 ⊢
        exact seg_again rfl (fin (fun m' hm => Nat.lt_trans hm hmn) I9 q9)
      | true =>
        simp only [if_true] at q9 ⊢
        have hy : ∀ v, yieldOut genv v = yieldValue v := fun v => by simp only [yieldOut, hco, Bool.false_eq_true, if_false]
        simp only [hy]
        rw [Sem.bind_eq_wrap', Sem.bind_eq_wrap', Sem.wrap_wrap, Sem.wrap_wrap]
        have he := pe.run _ s9 σ8 H9 _ I9 q9
        rw [eP, eW, eA, eE, ex] at he
        refine seg_wrap (wpAny_mono he (fun y s10 h10 => ?_) fun _ _ z => False.elim z)
        obtain ⟨v, H10, I10, r10, c, e10, q1, q2⟩ := h10
        subst e10
        have ey : y = .bool c := r10
        subst ey
        have hIg : s10.heap.IsGen a gn := hgen _ (I10.pin (a, go) (by rw [epn]; simp)).1
        cases n with
        | zero => exact absurd hmn (Nat.not_lt_zero _)
        | succ n =>
          refine seg_at (seg_yield rfl rfl rfl ⟨c, rfl, hIg, I10.nolimit, I10.bare, fun hck => ⟨H10, back I10, q2 hck⟩, fun hck s'' e1 e2 e3 => ?_⟩)
          refine seg_again rfl (fin (fun m' hm => by omega) ?_ (q1 hck))
          exact I10.call' (ch := []) e2 (Un.kept fun b o e => by rw [e1]; exact e) (I10.hok.kept fun b o e => by rw [e1]; exact e) e3 fun b z => absurd z (by simp)
end
end L2

set_option Elab.async false
set_option linter.all false
set_option maxRecDepth 100000
set_option maxHeartbeats 2000000
namespace L2
open PySem PySem.Spec PyProof.Rows GenW GxR

section
variable {P : Program} {w : World} {A : Around} {R : Result → Shared → Prop} {X : Cx} {pins : List (Addr × Obj)} {σ : L2.St} {Q : VK}
theorem drain_all {a : Addr} {g : Nat} (hh : A.handled = none) (hd : A.depth < recursionLimit)
    (hR : ∀ b s' H', Inv X pins σ H' s' → Q (.bl b) H' → R (.ok (.ret (.bool b))) s') :
    ∀ (m : Nat) (s : Shared), s.heap.IsGen a g → s.heap.NoLimit →
      (∃ gs, s.gens[g]? = some gs ∧ gs.Goes (model P w) A.in1.in1 (RAll fun _ _ s₁ => ∃ H', Inv X pins σ H' s₁ ∧ Q (.bl true) H') (YAll true a g X pins σ Q) m (.send .none) (s.setGen g .running)) →
      codeAny (model P w) A (.builtin "all.loop" ⟨[.ref a], []⟩) R s := by
  intro m
  induction m with
  | zero =>
    intro s hg hl ⟨gs, hgs, hgo⟩
    refine codeAny_builtin F.entry_all_loop ?_
    rw [Around.under_plainId F.plain_all_loop _]
    show wpAny _ A.in1 (pyNext (.ref a) >>= _) _ _ s
    refine wpAny_bind (next_genG (A := A.in1) hh hl hd hg hgs hgo (fun v s₁ gs' hbare hv => ?_) (fun s₁ hp h' hk => ?_) fun e s₁ he => he.elim)
    · obtain ⟨c, rfl, hIg, hl1, hb1, q1, q2⟩ := hv
      refine wpAny_bind (wpAny_holding (wpAny_truthy_bool ?_))
      refine wpAny_bind (wpAny_letGo ?_)
      cases c with
      | true => exact (q2 rfl s₁ rfl rfl hb1).elim
      | false =>
        obtain ⟨H', I', q⟩ := q1 (by decide)
        refine wpAny_bind (wpAny_rule (wpAny_pure (hR false _ H' ?_ q)))
        exact I'.call' (ch := []) rfl (Un.kept fun b o e => e) (I'.hok.kept fun b o e => e) (allBare_setGen hb1 hbare) fun b z => absurd z (by simp)
    · obtain ⟨H', I', q⟩ := hp
      refine wpAny_bind (wpAny_rule (wpAny_pure (hR true _ H' ?_ q)))
      exact I'.call' (ch := []) rfl (Un.kept hk) (I'.hok.kept hk) (allBare_setGen I'.bare rfl) fun b z => absurd z (by simp)
  | succ m ih =>
    intro s hg hl ⟨gs, hgs, hgo⟩
    have hgl : g < s.gens.size := (Array.getElem?_eq_some_iff.mp hgs).1
    refine codeAny_builtin F.entry_all_loop ?_
    rw [Around.under_plainId F.plain_all_loop _]
    show wpAny _ A.in1 (pyNext (.ref a) >>= _) _ _ s
    refine wpAny_bind (wpAny_gsz (n := g + 1) hgl (wpAny_mono (next_genG (A := A.in1) (E := fun _ _ => False) (Q := fun r s' => match r with
      | none => ∃ H', Inv X pins σ H' s' ∧ Q (.bl true) H'
      | some v => ∃ (s₁ : Shared) (gs' : GenState), gs'.bare = true ∧ s' = s₁.setGen g gs' ∧ YAll true a g X pins σ Q m (s.setGen g .running) v s₁ (fun r' s'' => gs'.Goes (model P w) A.in1.in1 (RAll fun _ _ s₁ => ∃ H', Inv X pins σ H' s₁ ∧ Q (.bl true) H') (YAll true a g X pins σ Q) m r' s''))
      hh hl hd hg hgs hgo (fun v s₁ gs' hbare hv => ⟨s₁, gs', hbare, rfl, hv⟩) (fun s₁ hp h' hk => ?_) fun e s₁ he => he.elim) (fun r s' hr hsz => ?_) fun _ _ z => z.elim))
    · obtain ⟨H', I', q⟩ := hp
      exact ⟨H', I'.call' (ch := []) rfl (Un.kept hk) (I'.hok.kept hk) (allBare_setGen I'.bare rfl) fun b z => absurd z (by simp), q⟩
    · cases r with
      | none =>
        obtain ⟨H', I', q⟩ := hr
        exact wpAny_bind (wpAny_rule (wpAny_pure (hR true _ H' I' q)))
      | some v =>
        obtain ⟨s₁, gs', hbare, rfl, c, rfl, hIg, hl1, hb1, q1, q2⟩ := hr
        refine wpAny_bind (wpAny_holding (wpAny_truthy_bool ?_))
        refine wpAny_bind (wpAny_letGo ?_)
        cases c with
        | true =>
          have hsz1 : g < s₁.gens.size := by
            have q : (s₁.setGen g gs').gens.size = s₁.gens.size := setGen_size _ _ _
            omega
          refine wpAny_pure ⟨plainId_quiet F.plain_all_loop _, ih _ hIg hl1 ⟨gs', setGen_at hsz1, ?_⟩⟩
          exact q2 rfl _ rfl rfl (allBare_setGen (s := s₁.setGen g gs') (allBare_setGen hb1 hbare) rfl)
        | false =>
          obtain ⟨H', I', q⟩ := q1 (by decide)
          refine wpAny_bind (wpAny_rule (wpAny_pure (hR false _ H' ?_ q)))
          exact I'.call' (ch := []) rfl (Un.kept fun b o e => e) (I'.hok.kept fun b o e => e) (allBare_setGen hb1 hbare) fun b z => absurd z (by simp)
theorem drain_any {a : Addr} {g : Nat} (hh : A.handled = none) (hd : A.depth < recursionLimit)
    (hR : ∀ b s' H', Inv X pins σ H' s' → Q (.bl b) H' → R (.ok (.ret (.bool b))) s') :
    ∀ (m : Nat) (s : Shared), s.heap.IsGen a g → s.heap.NoLimit →
      (∃ gs, s.gens[g]? = some gs ∧ gs.Goes (model P w) A.in1.in1 (RAll fun _ _ s₁ => ∃ H', Inv X pins σ H' s₁ ∧ Q (.bl false) H') (YAll false a g X pins σ Q) m (.send .none) (s.setGen g .running)) →
      codeAny (model P w) A (.builtin "any.loop" ⟨[.ref a], []⟩) R s := by
  intro m
  induction m with
  | zero =>
    intro s hg hl ⟨gs, hgs, hgo⟩
    refine codeAny_builtin F.entry_any_loop ?_
    rw [Around.under_plainId F.plain_any_loop _]
    show wpAny _ A.in1 (pyNext (.ref a) >>= _) _ _ s
    refine wpAny_bind (next_genG (A := A.in1) hh hl hd hg hgs hgo (fun v s₁ gs' hbare hv => ?_) (fun s₁ hp h' hk => ?_) fun e s₁ he => he.elim)
    · obtain ⟨c, rfl, hIg, hl1, hb1, q1, q2⟩ := hv
      refine wpAny_bind (wpAny_holding (wpAny_truthy_bool ?_))
      refine wpAny_bind (wpAny_letGo ?_)
      cases c with
      | false => exact (q2 rfl s₁ rfl rfl hb1).elim
      | true =>
        obtain ⟨H', I', q⟩ := q1 (by decide)
        refine wpAny_bind (wpAny_rule (wpAny_pure (hR true _ H' ?_ q)))
        exact I'.call' (ch := []) rfl (Un.kept fun b o e => e) (I'.hok.kept fun b o e => e) (allBare_setGen hb1 hbare) fun b z => absurd z (by simp)
    · obtain ⟨H', I', q⟩ := hp
      refine wpAny_bind (wpAny_rule (wpAny_pure (hR false _ H' ?_ q)))
      exact I'.call' (ch := []) rfl (Un.kept hk) (I'.hok.kept hk) (allBare_setGen I'.bare rfl) fun b z => absurd z (by simp)
  | succ m ih =>
    intro s hg hl ⟨gs, hgs, hgo⟩
    have hgl : g < s.gens.size := (Array.getElem?_eq_some_iff.mp hgs).1
    refine codeAny_builtin F.entry_any_loop ?_
    rw [Around.under_plainId F.plain_any_loop _]
    show wpAny _ A.in1 (pyNext (.ref a) >>= _) _ _ s
    refine wpAny_bind (wpAny_gsz (n := g + 1) hgl (wpAny_mono (next_genG (A := A.in1) (E := fun _ _ => False) (Q := fun r s' => match r with
      | none => ∃ H', Inv X pins σ H' s' ∧ Q (.bl false) H'
      | some v => ∃ (s₁ : Shared) (gs' : GenState), gs'.bare = true ∧ s' = s₁.setGen g gs' ∧ YAll false a g X pins σ Q m (s.setGen g .running) v s₁ (fun r' s'' => gs'.Goes (model P w) A.in1.in1 (RAll fun _ _ s₁ => ∃ H', Inv X pins σ H' s₁ ∧ Q (.bl false) H') (YAll false a g X pins σ Q) m r' s''))
      hh hl hd hg hgs hgo (fun v s₁ gs' hbare hv => ⟨s₁, gs', hbare, rfl, hv⟩) (fun s₁ hp h' hk => ?_) fun e s₁ he => he.elim) (fun r s' hr hsz => ?_) fun _ _ z => z.elim))
    · obtain ⟨H', I', q⟩ := hp
      exact ⟨H', I'.call' (ch := []) rfl (Un.kept hk) (I'.hok.kept hk) (allBare_setGen I'.bare rfl) fun b z => absurd z (by simp), q⟩
    · cases r with
      | none =>
        obtain ⟨H', I', q⟩ := hr
        exact wpAny_bind (wpAny_rule (wpAny_pure (hR false _ H' I' q)))
      | some v =>
        obtain ⟨s₁, gs', hbare, rfl, c, rfl, hIg, hl1, hb1, q1, q2⟩ := hr
        refine wpAny_bind (wpAny_holding (wpAny_truthy_bool ?_))
        refine wpAny_bind (wpAny_letGo ?_)
        cases c with
        | false =>
          have hsz1 : g < s₁.gens.size := by
            have q : (s₁.setGen g gs').gens.size = s₁.gens.size := setGen_size _ _ _
            omega
          refine wpAny_pure ⟨plainId_quiet F.plain_any_loop _, ih _ hIg hl1 ⟨gs', setGen_at hsz1, ?_⟩⟩
          exact q2 rfl _ rfl rfl (allBare_setGen (s := s₁.setGen g gs') (allBare_setGen hb1 hbare) rfl)
        | true =>
          obtain ⟨H', I', q⟩ := q1 (by decide)
          refine wpAny_bind (wpAny_rule (wpAny_pure (hR true _ H' ?_ q)))
          exact I'.call' (ch := []) rfl (Un.kept fun b o e => e) (I'.hok.kept fun b o e => e) (allBare_setGen hb1 hbare) fun b z => absurd z (by simp)
end
end L2

set_option Elab.async false
set_option linter.all false
set_option maxRecDepth 100000
set_option maxHeartbeats 4000000
namespace L2
open PySem PySem.Spec PyProof.Rows GenW GxR

/-- the around of a generator's body, begun in X's frame by a built-in -/
structure GAr (X : Cx) (A' : Around) (genv : Env) : Prop where
  hd : A'.handled = X.A.handled
  dp : A'.depth = X.A.depth + 1
  un : A'.units = X.A.units + 5
  fr : A'.frames = some (genv :: X.stack)

def GReady (k : Bool) (X : Cx) (pins : List (Addr × Obj)) (σ : L2.St) (Q : VK) (a : Addr) (s5 : Shared) : Prop :=
  ∃ (g : Nat) (m : Nat), s5.heap.IsGen a g ∧ s5.heap.NoLimit ∧ ∃ gs, s5.gens[g]? = some gs ∧
    gs.Goes (model X.prog X.w) X.A.in1.in1 (RAll fun _ _ s₁ => ∃ H', Inv X pins σ H' s₁ ∧ Q (.bl k) H') (YAll k a g X pins σ Q) m (.send .none) (s5.setGen g .running)

section
variable {X : Cx} {pins : List (Addr × Obj)} {σ : L2.St} {H : Hp} {s : Shared}
theorem gen_made {k : Bool} {c P : Addr} {elt tg iter : Expr} {ifs : List Expr} {scope : Scope} {own : List (Str × Nat)} {gpos : Pos} {wi : TI} {g : TG} {tt : TT} {te : TE} {Q : VK} {Q' : Value → Shared → Prop}
    (hc : X.calm = true) (hroom : X.A.depth < recursionLimit) (hfrm : X.A.frames = some X.stack) (hN : X.N.Nodup) (TB : TabB X.base X.mg c P) (hcode : X.env.code = .ref c) (ok : BlkOk X.N X.env.scope scope own)
    (hcell : ∀ y ∈ scope.names, y.2 ≠ .cell) (hco : scope.isCoroutine = false) (hdot : scope.names.lookup (".0" : Str) = some NameKind.local)
    (hi : PI X tg iter wi)
    (hg : ∀ (s : Shared) (H : Hp) (C : Addr) (cl : List (Str × Addr)) (code : Value) (A' : Around) (fp : List Addr) (pn : List (Addr × Obj)), GAr X A' (genEnv scope cl C code builtinsNs X.env) → PG (X.gen s H A' (genEnv scope cl C code builtinsNs X.env) fp pn) tg g)
    (ht : ∀ (s : Shared) (H : Hp) (C : Addr) (cl : List (Str × Addr)) (code : Value) (A' : Around) (fp : List Addr) (pn : List (Addr × Obj)), GAr X A' (genEnv scope cl C code builtinsNs X.env) → PTs (X.gen s H A' (genEnv scope cl C code builtinsNs X.env) fp pn) ifs tt)
    (he : ∀ (s : Shared) (H : Hp) (C : Addr) (cl : List (Str × Addr)) (code : Value) (A' : Around) (fp : List Addr) (pn : List (Addr × Obj)), GAr X A' (genEnv scope cl C code builtinsNs X.env) → PE (X.gen s H A' (genEnv scope cl C code builtinsNs X.env) fp pn) elt te)
    (hs : ∀ v, genFold iter X.env v = pure v) (I : Inv X pins σ H s) (h : tAll k P wi g tt te (own.map (·.2)) σ H Q)
    (hQ : ∀ a s5, GReady k X pins σ Q a s5 → Q' (.ref a) s5) :
    wpAny (model X.prog X.w) X.A (eval (.GeneratorExp elt [⟨tg, iter, ifs, 0⟩] scope gpos) X.env) Q' X.xe s := by
  have hfree : ∀ y ∈ scope.names, y.2 = .free → ∃ c, X.env.cells.lookup y.1 = some c := fun y hy e => by
    rcases ok.free y hy e with k | k
    · exact I.ok.has _ (.inl k)
    · exact I.ok.has _ (.inr k)
  refine wpAny_GeneratorExp_make hco (closure_ok hfree) hcell hdot ok.kind hroom
    (thn (hi.run pins s σ H _ I h) fun xv s1 hx => thn hx fun itv s2 h2 => ?_) hs
  obtain ⟨it, fp, tn, J, H2, rfl, I2, T, st2, f2, ⟨ps, hP, htr⟩, hW⟩ := h2
  have hPs : s2.heap.get? P = some { cls := .none, data := .fields ps } := I2.hok P _ hP
  have cd : PySem.W.CodeHd s2.heap c P := TB.code.keeps fun b u e => I2.bk b u e
  have sz : ∀ b ∈ fp, b < s2.heap.objs.size := fun b hb => by
    obtain ⟨o, e, _⟩ := T.obj _ _ st2 b hb
    exact Heap.lt_size e
  refine ⟨I2.nolimit, ?_⟩
  have cont : ∀ (code : Value) (h3 : Heap) (tk : Nat) (more : Array Value), Heap.ExtBut P s2.heap h3 → s2.heap.objs.size ≤ h3.objs.size → h3.get? P = some { cls := .none, data := .fields (ps ++ more) } → TriplesOk (ps ++ more).toList →
      wpAny (model X.prog X.w) X.A (builtinsFor X.env.globals X.env.builtins) (fun bi s₄ =>
        ∀ h', h'.Ns s₄.heap.objs.size (fun y => if y = ".0" then some (Value.ref it) else none) → Heap.SameBut s₄.heap.objs.size (s₄.heap.push { cls := .type "frame", data := .dict #[] }) h' →
          Q' (.ref h'.objs.size) { s₄ with
            gens := s₄.gens.push (.fresh (.compStart (.GeneratorExp elt [⟨tg, iter, ifs, 0⟩] scope gpos) 0 (.ref it) .none (genEnv scope (cloFrom X.env.cells scope.names []) s₄.heap.objs.size code bi X.env))),
            toks := s₄.toks + 1 + 1 + 1,
            heap := h'.push { cls := .type "generator", data := .fields #[.int s₄.gens.size 0, .str "<genexpr>" (s₄.toks + 1), .str (X.env.qual ++ "<genexpr>") (s₄.toks + 1 + 1)] } }) X.xe { s2 with heap := h3, toks := tk } := by
    intro code h3 tk more hx hsz hP3 ht3
    obtain ⟨bm, ob, e1, e2, e3, e4, e5, e6, e7, e8⟩ := TB.bm
    have keep3 : ∀ b u, b ≠ P → s2.heap.get? b = some u → h3.get? b = some u := fun b u hb e => hx b u hb e
    refine wpAny_builtinsFor (m := X.mg) (by rw [I2.ok.glob]; exact (I2.mod.glob.keeps I2.bk).extBut hx TB.gP) e1 e2 (keep3 _ _ e4 (I2.bk _ _ e5)) e6 e7 e8 ?_
    have I4 : Inv X pins σ (upd H2 P (.tbl (ps ++ more))) { s2 with heap := h3, toks := tk } :=
      inv_tab (g' := s2.gens) (d' := s2.drawn) I2 hP keep3 hP3 I2.bare
    have hT : Tabbed P H2 (upd H2 P (.tbl (ps ++ more))) := ⟨⟨_, upd_same, ht3⟩, fun b hb => upd_ne hb⟩
    obtain ⟨W, ⟨m0, w0⟩, turn⟩ := hW _ hT
    generalize hs4 : ({ s2 with heap := h3, toks := tk } : Shared) = s4 at I4 ⊢
    have hh4 : s4.heap = h3 := by rw [← hs4]
    generalize hH4 : upd H2 P (.tbl (ps ++ more)) = H4 at I4 hT w0
    intro h' hn' hs'
    have hsz' : h'.objs.size = s4.heap.objs.size + 1 := by rw [hs'.1, Heap.size_push]
    have keep' : ∀ b o, s4.heap.get? b = some o → h'.get? b = some o := fun b o e => hs'.extBut b o (Nat.ne_of_lt (Heap.lt_size e)) (Heap.get?_push_of_some _ e)
    have f4 : ∀ b ∈ fp, FpOk X pins H4 b ∧ b < s4.heap.objs.size := fun b hb => by
      have hne : b ≠ P := fun z => by have q := (f2 b hb).1; rw [z, hP] at q; cases q
      refine ⟨⟨by rw [hT.2 b hne]; exact (f2 b hb).1, (f2 b hb).2⟩, ?_⟩
      rw [hh4]
      exact Nat.lt_of_lt_of_le (sz b hb) hsz
    have nfp : ∀ b ∈ fp, H4 b = none := fun b hb => (f4 b hb).1.1
    refine hQ _ _ ⟨s4.gens.size, m0 + 1, ⟨_, _, _, Heap.get?_push_size _ rfl, rfl, rfl, rfl⟩, I4.nolimit.keeps fun b o e => Heap.get?_push_of_some _ (keep' b o e), _, Array.getElem?_push_size .., rfl, ?_⟩
    generalize hgo : ({ cls := .type "generator", data := .fields #[.int s4.gens.size 0, .str "<genexpr>" (s4.toks + 1), .str (X.env.qual ++ "<genexpr>") (s4.toks + 1 + 1)] } : Obj) = go
    have hgen : ∀ h : Heap, h.get? h'.objs.size = some go → h.IsGen h'.objs.size s4.gens.size := fun h e => ⟨go, _, _, e, by rw [← hgo], by rw [← hgo], by rw [← hgo]⟩
    generalize hs6 : Shared.setGen { s4 with
            gens := s4.gens.push (.fresh (.compStart (.GeneratorExp elt [⟨tg, iter, ifs, 0⟩] scope gpos) 0 (.ref it) .none (genEnv scope (cloFrom X.env.cells scope.names []) s4.heap.objs.size code builtinsNs X.env))),
            toks := s4.toks + 1 + 1 + 1, heap := h'.push go } s4.gens.size .running = s6
    have h6 : s6.heap = h'.push go := by rw [← hs6]; rfl
    have kp6 : ∀ b o, s4.heap.get? b = some o → s6.heap.get? b = some o := fun b o e => by rw [h6]; exact Heap.get?_push_of_some _ (keep' b o e)
    have gar : GAr X (X.A.in1.in1.over (.compLoop (.GeneratorExp elt [⟨tg, iter, ifs, 0⟩] scope gpos) 0 (.ref it) .none (genEnv scope (cloFrom X.env.cells scope.names []) s4.heap.objs.size code builtinsNs X.env)) []) (genEnv scope (cloFrom X.env.cells scope.names []) s4.heap.objs.size code builtinsNs X.env) := by
      refine ⟨rfl, rfl, rfl, ?_⟩
      unfold Around.over
      show pushEnvs [genEnv scope (cloFrom X.env.cells scope.names []) s4.heap.objs.size code builtinsNs X.env] (pushEnvs [] X.A.frames) = _
      rw [hfrm]; rfl
    have I6 := gen_start (A' := X.A.in1.in1.over (.compLoop (.GeneratorExp elt [⟨tg, iter, ifs, 0⟩] scope gpos) 0 (.ref it) .none (genEnv scope (cloFrom X.env.cells scope.names []) s4.heap.objs.size code builtinsNs X.env)) []) (code := code) (a := h'.objs.size) (go := go) (s6 := s6)
      I4 ok hN hcell f4 gar.hd gar.fr (by rw [hsz']; exact Nat.lt_succ_self _) (by rw [h6]; rw [← hgo]; exact Heap.get?_push_size _ rfl) (fun v z => by rw [← hgo] at z; cases z)
      (by rw [h6]; exact hn'.push _) kp6 (by rw [← hs6]; rfl) (by rw [← hs6]; exact allBare_setGen (s := { s4 with gens := s4.gens.push _, toks := _, heap := _ }) (I4.bare.push rfl) rfl)
    have loop := gen_loop (k := k) (Ag := X.A.in1.in1) (gn := s4.gens.size) (Q := Q) (W := W) hc hco I4 T (fun b hb => (f4 b hb).1) (fun b hb z => by
        have q := (f4 b hb).2
        rw [z, hsz'] at q
        exact absurd q (Nat.not_lt.mpr (Nat.le_succ _))) hgen
      (hg s4 H4 s4.heap.objs.size (cloFrom X.env.cells scope.names []) code _ fp [(h'.objs.size, go)] gar) (ht s4 H4 s4.heap.objs.size (cloFrom X.env.cells scope.names []) code _ fp [(h'.objs.size, go)] gar) (he s4 H4 s4.heap.objs.size (cloFrom X.env.cells scope.names []) code _ fp [(h'.objs.size, go)] gar)
      turn m0 (m0 + 1) 0 s6 s6 H4 (Nat.lt_succ_self _) w0 I6 (T.keep _ _ _ st2 fun b hb o e => kp6 b o (by rw [hh4]; exact keep3 b o (fun z => by have q := (f2 b hb).1; rw [z, hP] at q; cases q) e)) nfp
    show Seg _ X.A.in1.in1 _ _ _ s6 _ ((compStart (.GeneratorExp elt [⟨tg, iter, ifs, 0⟩] scope gpos) 0 (.ref it) .none (genEnv scope (cloFrom X.env.cells scope.names []) s4.heap.objs.size code builtinsNs X.env)).onRaise (leaving (genEnv scope (cloFrom X.env.cells scope.names []) s4.heap.objs.size code builtinsNs X.env))) [] s6
    unfold compStart
    rw [Sem.onRaise_eq_wrap]
    show Seg _ X.A.in1.in1 _ _ _ s6 _ ((ask >>= _).wrap _ _ _ _) [] s6
    refine seg_bind_wrap (wpAny_askSetting ?_)
    have st6 : tn 0 s6.heap := T.keep _ _ _ st2 fun b hb o e => kp6 b o (by rw [hh4]; exact keep3 b o (fun z => by have q := (f2 b hb).1; rw [z, hP] at q; cases q) e)
    split
    · exact seg_again rfl loop
    · first
        | exact seg_bind_wrap (wpAny_rule (seg_bind_wrap (wpAny_standAt (seg_bind_wrap (T.self _ 0 s6 _ _ st6 (seg_again rfl loop))))))
        | (refine seg_bind_wrap (wpAny_rule ?_); show Seg _ X.A.in1.in1 _ _ _ s6 _ ((standAt iter.pos >>= _).wrap _ _ _ _) [] s6; exact seg_bind_wrap (wpAny_standAt (seg_bind_wrap (T.self _ 0 s6 _ _ st6 (seg_again rfl loop)))))
  cases hf : codeAmong gpos ps.toList with
  | none =>
    refine wpAny_genexprCodeX hcode (cd.code hPs htr) (cd.tab hPs) hf fun c' h' tk hx hge hlt hco' _ htab' _ => ?_
    obtain ⟨o1, vs, f1, tf, fl, tg1, inF, tx, tt1, op, _, _, _, _, _, _, _, _, _, htr1, _⟩ := hco'
    exact cont _ h' tk _ hx (Nat.le_trans hge (Nat.le_of_lt hlt)) htab'.2 htr1
  | some cv =>
    refine wpAny_genexprCode_hit hcode (cd.code hPs htr) hf ?_
    have z := cont cv s2.heap s2.toks #[] (Heap.ExtBut.refl _ _) (Nat.le_refl _) (by simpa using hPs) (by simpa using htr)
    exact z
end
end L2

set_option Elab.async false
set_option linter.all false
set_option maxRecDepth 100000
set_option maxHeartbeats 4000000
namespace L2
open PySem PySem.Spec PyProof.Rows GenW GxR
theorem boot_all : bootBuiltins "all" = some (.builtin "all") := by decide +kernel
theorem pe_allG {X : Cx} {c P : Addr} {elt tg iter : Expr} {ifs : List Expr} {scope : Scope} {own : List (Str × Nat)} {p pos gpos : Pos} {wi : TI} {g : TG} {tt : TT} {te : TE} {k : Nat}
    (hc : X.calm = true) (hr : Room k X.A) (hN : X.N.Nodup) (hgl : Gl X "all") (hm : X.mg "all" = none) (TB : TabB X.base X.mg c P) (hcode : X.env.code = .ref c) (ok : BlkOk X.N X.env.scope scope own)
    (hcell : ∀ y ∈ scope.names, y.2 ≠ .cell) (hco : scope.isCoroutine = false) (hdot : scope.names.lookup (".0" : Str) = some NameKind.local)
    (hi : PI X tg iter wi)
    (hg : ∀ (s : Shared) (H : Hp) (C : Addr) (cl : List (Str × Addr)) (code : Value) (A' : Around) (fp : List Addr) (pn : List (Addr × Obj)), GAr X A' (genEnv scope cl C code builtinsNs X.env) → PG (X.gen s H A' (genEnv scope cl C code builtinsNs X.env) fp pn) tg g)
    (ht : ∀ (s : Shared) (H : Hp) (C : Addr) (cl : List (Str × Addr)) (code : Value) (A' : Around) (fp : List Addr) (pn : List (Addr × Obj)), GAr X A' (genEnv scope cl C code builtinsNs X.env) → PTs (X.gen s H A' (genEnv scope cl C code builtinsNs X.env) fp pn) ifs tt)
    (he : ∀ (s : Shared) (H : Hp) (C : Addr) (cl : List (Str × Addr)) (code : Value) (A' : Around) (fp : List Addr) (pn : List (Addr × Obj)), GAr X A' (genEnv scope cl C code builtinsNs X.env) → PE (X.gen s H A' (genEnv scope cl C code builtinsNs X.env) fp pn) elt te)
    (hs : ∀ v, genFold iter X.env v = pure v)
    (hst : starEach [.GeneratorExp elt [⟨tg, iter, ifs, 0⟩] scope gpos] X.env = (false, eval (.GeneratorExp elt [⟨tg, iter, ifs, 0⟩] scope gpos) X.env) :: starEach [] X.env := by rfl) :
    PE X (.Call (.Name "all" p) [.GeneratorExp elt [⟨tg, iter, ifs, 0⟩] scope gpos] [] pos) (tAll true P wi g tt te (own.map (·.2))) := by
  refine ⟨fun pins s σ H Q I h => ?_⟩
  refine wpAny_Call_Name_kw (ld_blt I hgl hm boot_all ?_)
  refine PyProof.Rows.callWith_builtin1 ?_ hst (by rfl)
  rw [hst]
  show wpAny _ _ (spliced ((false, eval (.GeneratorExp elt [⟨tg, iter, ifs, 0⟩] scope gpos) X.env) :: backTo pos (starEach [] X.env))) _ _ s
  refine Calls.spliced_cons (gen_made hc hr.depth I.ok.frames hN TB hcode ok hcell hco hdot hi hg ht he hs I h fun a s5 hG => ?_)
  obtain ⟨gn, m, hIg, hl, gs, hgs, hgo⟩ := hG
  refine Calls.spliced_nil ?_
  refine call_function_tree F.kind_all F.plain_all F.entry_all (F.args_all1 _) ?_
  unfold Builtin.«all»
  refine wpAny_bind (m := oneArg "all" _) (wpAny_pure ?_)
  refine wpAny_bind (wpAny_pyIter_gen hIg ?_)
  refine wpAny_pure ⟨plainId_quiet F.plain_all_loop _, drain_all hr.hd hr.depth (fun b s' H' I' q => ?_) m s5 hIg hl ⟨gs, hgs, hgo⟩⟩
  exact ⟨.bl b, H', I', rfl, q⟩
theorem pe_anyG {X : Cx} {c P : Addr} {elt tg iter : Expr} {ifs : List Expr} {scope : Scope} {own : List (Str × Nat)} {p pos gpos : Pos} {wi : TI} {g : TG} {tt : TT} {te : TE} {k : Nat}
    (hc : X.calm = true) (hr : Room k X.A) (hN : X.N.Nodup) (hgl : Gl X "any") (hm : X.mg "any" = none) (TB : TabB X.base X.mg c P) (hcode : X.env.code = .ref c) (ok : BlkOk X.N X.env.scope scope own)
    (hcell : ∀ y ∈ scope.names, y.2 ≠ .cell) (hco : scope.isCoroutine = false) (hdot : scope.names.lookup (".0" : Str) = some NameKind.local)
    (hi : PI X tg iter wi)
    (hg : ∀ (s : Shared) (H : Hp) (C : Addr) (cl : List (Str × Addr)) (code : Value) (A' : Around) (fp : List Addr) (pn : List (Addr × Obj)), GAr X A' (genEnv scope cl C code builtinsNs X.env) → PG (X.gen s H A' (genEnv scope cl C code builtinsNs X.env) fp pn) tg g)
    (ht : ∀ (s : Shared) (H : Hp) (C : Addr) (cl : List (Str × Addr)) (code : Value) (A' : Around) (fp : List Addr) (pn : List (Addr × Obj)), GAr X A' (genEnv scope cl C code builtinsNs X.env) → PTs (X.gen s H A' (genEnv scope cl C code builtinsNs X.env) fp pn) ifs tt)
    (he : ∀ (s : Shared) (H : Hp) (C : Addr) (cl : List (Str × Addr)) (code : Value) (A' : Around) (fp : List Addr) (pn : List (Addr × Obj)), GAr X A' (genEnv scope cl C code builtinsNs X.env) → PE (X.gen s H A' (genEnv scope cl C code builtinsNs X.env) fp pn) elt te)
    (hs : ∀ v, genFold iter X.env v = pure v)
    (hst : starEach [.GeneratorExp elt [⟨tg, iter, ifs, 0⟩] scope gpos] X.env = (false, eval (.GeneratorExp elt [⟨tg, iter, ifs, 0⟩] scope gpos) X.env) :: starEach [] X.env := by rfl) :
    PE X (.Call (.Name "any" p) [.GeneratorExp elt [⟨tg, iter, ifs, 0⟩] scope gpos] [] pos) (tAll false P wi g tt te (own.map (·.2))) := by
  refine ⟨fun pins s σ H Q I h => ?_⟩
  refine wpAny_Call_Name_kw (ld_blt I hgl hm boot_any ?_)
  refine PyProof.Rows.callWith_builtin1 ?_ hst (by rfl)
  rw [hst]
  show wpAny _ _ (spliced ((false, eval (.GeneratorExp elt [⟨tg, iter, ifs, 0⟩] scope gpos) X.env) :: backTo pos (starEach [] X.env))) _ _ s
  refine Calls.spliced_cons (gen_made hc hr.depth I.ok.frames hN TB hcode ok hcell hco hdot hi hg ht he hs I h fun a s5 hG => ?_)
  obtain ⟨gn, m, hIg, hl, gs, hgs, hgo⟩ := hG
  refine Calls.spliced_nil ?_
  refine call_function_tree F.kind_any F.plain_any F.entry_any (F.args_any1 _) ?_
  unfold Builtin.«any»
  refine wpAny_bind (m := oneArg "any" _) (wpAny_pure ?_)
  refine wpAny_bind (wpAny_pyIter_gen hIg ?_)
  refine wpAny_pure ⟨plainId_quiet F.plain_any_loop _, drain_any hr.hd hr.depth (fun b s' H' I' q => ?_) m s5 hIg hl ⟨gs, hgs, hgo⟩⟩
  exact ⟨.bl b, H', I', rfl, q⟩
end L2

set_option Elab.async false
set_option linter.all false
set_option maxRecDepth 100000
set_option maxHeartbeats 4000000
namespace PySem
namespace SupX
open PySem.W PySem.Calls PyProof.Rows PySem.HandSPX
/-! ### an own error with one field: super().__init__(E); self.f = f -/
def iA (f : Str) (p1 p2 : Pos) : Arguments := { posonlyargs := [], args := [{ arg := "self", annotation := none, pos := p1 }, { arg := f, annotation := none, pos := p2 }], vararg := none, kwonlyargs := [], kw_defaults := [], kwarg := none, defaults := [] }
def iB (f : Str) (ae : Expr) (q1 q2 q3 q4 q5 q6 q7 q8 q9 : Pos) : List Stmt :=
  [.Expr (.Call (.Attribute (.Call (.Name "super" q1) [] [] q2) "__init__" q3) [ae] [] q4) q5, .Assign [.Attribute (.Name "self" q6) f q7] (.Name f q8) q9]
def iS (f : Str) : Scope := { kind := .function, names := [(PySem.Str.ofString "self", .local), (f, .local), (PySem.Str.ofString "__class__", .free), (PySem.Str.ofString "super", .globalImplicit)], isGenerator := false, isCoroutine := false, more := [] }

/-- the frame of such an __init__ at L: self is x, f is v -/
structure IFrame (f : Str) (env : Env) (s : Shared) (x : Addr) (v : Value) : Prop where
  sc : env.scope = iS f
  ns : ∃ m, s.heap.Ns env.locals m ∧ m "self" = some (.ref x) ∧ m f = some v

/-- what the written part says of the class at C, of its __init__ at fI (cell cc, code cda) -/
structure ExTxt (prog : Program) (K : Frag) (C fI cc cda : Addr) (f qual : Str) (ae : Expr) : Prop where
  cls : ∃ nm q N bs bm sn sub ab col dd k0 k1 k2 k3 k5, K.lookup C = some (excClassObj nm q C N bs bm true sn sub ab col dd k0 k1 k2 k3 k5 "ValueError.__new__") ∧ refsVE bm = true
  sa : findIn K (.ref C) "__setattr__" = some (some (.builtin "object.__setattr__"))
  noF : findIn K (.ref C) f = some none
  iC : findIn K (.ref C) "__init__" = some (some (.ref fI))
  tC : typeIn K (.ref fI) = some (.type "function")
  kC : keepIn K (.ref C) = true
  exC : subIn K (.ref C) (.type "BaseException") = some true
  veC : subIn K (.ref C) (.type "ValueError") = some true
  tyC : typeIn K (.ref C) = some (.type "type")
  selfC : mroIn K C (.ref C) = some true
  sup : ks_superIn K C C "__init__" = some (some (.builtin "ValueError.__init__"))
  opq : nsIn K cStatics "thirdparty.any" = some none
  cell : ∃ ccl ccd csl, K.lookup cc = some ⟨ccl, ccd, .cell (some (.ref C)), csl⟩
  code : ∃ cl cd vs sl file tf, K.lookup cda = some ⟨cl, cd, .fields vs, sl⟩ ∧ vs[2]? = some (.str file tf) ∧ ((prog.main.file : Str) == file) = true
  top : (prog.main.scope.names.lookup ("super" : Str)).isSome = false
  ne1 : (f == ("self" : Str)) = false
  lkSelf : (iS f).names.lookup ("self" : Str) = some .local
  lkF : (iS f).names.lookup f = some .local
  lkSup : (iS f).names.lookup ("super" : Str) = some .globalImplicit
  lkCls : (iS f).names.lookup ("__class__" : Str) = some .free
  ne2 : (("self" : Str) == f) = false
  ff : (f == f) = true
  dbF : (f == ("__debug__" : Str)) = false
  he : ∀ (q1 q2 q3 q4 : Pos) (env : Env), (q3.endLine == q4.line) = true → ∃ pl : Sem Bool, eval (.Call (.Attribute (.Call (.Name "super" q1) [] [] q2) "__init__" q3) [ae] [] q4) env = (do
      let ov ← attributeBase (.Call (.Name "super" q1) [] [] q2) "__init__" env (eval (.Call (.Name "super" q1) [] [] q2) env)
      standAt q3.atName
      let (f, first) ← holding [ov] (getMethod ov "__init__" pl)
      callWith q4 f first (backTo q4 (starEach [ae] env)) [])
  hst : ∀ (env : Env), starEach [ae] env = (false, eval ae env) :: starEach [] env
  bind : ∀ (qual : Str) (ae : Expr) (p1 p2 q1 q2 q3 q4 q5 q6 q7 q8 q9 : Pos) (doc pm : Value) (an : Option Addr) (cd ct : Value) (cc : Addr) (x v : Value), bindArgs (ksFn "__init__" qual (iA f p1 p2) (iB f ae q1 q2 q3 q4 q5 q6 q7 q8 q9) (iS f) .none .none doc pm an cd ct cc) ⟨[x, v], []⟩ = pure [(("self" : Str), x), (f, v)]
  fn : ∃ (oc : Value) (od : Option Addr) (doc pm : Value) (an : Option Addr) (ct : Value) (osl : Array (Option Value)) (p1 p2 q1 q2 q3 q4 q5 q6 q7 q8 q9 : Pos),
    K.lookup fI = some ⟨oc, od, .func (ksFn "__init__" qual (iA f p1 p2) (iB f ae q1 q2 q3 q4 q5 q6 q7 q8 q9) (iS f) .none .none doc pm an (.ref cda) ct cc), osl⟩ ∧ codeIn K (.ref cda) qual = true ∧ (q3.endLine == q4.line) = true

/-- the text for the base's __init__ can be reckoned: a value, nothing changed -/
def AeOk (prog : Program) (w : World) (f : Str) (ae : Expr) (v : Value) : Prop :=
  ∀ (A : Around) (env : Env) (s : Shared) (x : Addr) (E : Value → Shared → Prop), IFrame f env s x v → wpAny (model prog w) A (eval ae env) (fun _ s' => Keeps s s') E s

/-- what __init__ leaves of a fresh exception at x -/
structure InitEnd (f : Str) (h h' : Heap) (x C dx t1 : Addr) (v : Value) : Prop where
  keep : ∀ b o, b ≠ x → h.get? b = some o → h'.get? b = some o
  obj : h'.get? x = some { cls := .ref C, dict := some dx, data := .fields #[.ref t1, .none, .none, .none, .bool false, .none] }
  dbig : h.objs.size ≤ dx
  dne : dx ≠ x
  ns : h'.Ns1 dx (fun y => if y = f then some v else none)
structure OwnMade (f : Str) (h h' : Heap) (e C d : Addr) (v : Value) : Prop where
  keep : ∀ b o, h.get? b = some o → h'.get? b = some o
  new : h.objs.size ≤ e
  obj : ∃ oe vs, h'.get? e = some oe ∧ oe.cls = .ref C ∧ oe.dict = some d ∧ oe.data = .fields vs ∧ vs[1]? = some .none
  dbig : h.objs.size ≤ d
  dne : d ≠ e
  ns : h'.Ns1 d (fun y => if y = f then some v else none)
theorem one_size (v : Value) : [v].length ≤ sizeLine := by
  rw [sizeLine_eq]
  exact (by decide : 1 ≤ 16777216)

section
variable {prog : Program} {w : World} {A : Around} {E : Value → Shared → Prop} {h : Heap} {g : Array GenState} {d : Drawn} {t : Nat} {os : OsState}
variable {nm q : Str} {C N : Addr} {bs bm : List Value} {hdct : Bool} {sn : List Str} {sub : List Value} {ab : Bool} {col : Option Bool} {dd : Option Addr} {k0 k1 k2 k3 k5 : Option Value}
theorem call_mw {u e t0 : Addr} {rest : List Value} {Q : Value → Shared → Prop}
    (hC : h.get? C = some (excClassObj nm q C N bs bm hdct sn sub ab col dd k0 k1 k2 k3 k5 "ValueError.__new__")) (he : h.get? e = some (HandSPX.excO C t0)) (hu : h.get? u = some (kxs_mw "ValueError.__init__" e)) (hrest : rest.length ≤ sizeLine)
    (hq : ∀ h' t1, (∀ b o, b ≠ e → h.get? b = some o → h'.get? b = some o) → h'.get? e = some (HandSPX.excO C t1) → Q .none ⟨h', g, d, t, os⟩) :
    wpAny (model prog w) A (call (.ref u) rest) Q E ⟨h, g, d, t, os⟩ := by
  refine wpAny_call (codeAny_of_tree ?_)
  show wpAny _ A.in1 (callAny (.ref u) ⟨rest, []⟩) _ _ _
  simp only [callAny]
  refine wpAny_bind (wpAny_load hu ?_)
  simp only [kxs_mw, show (Value.type "method-wrapper" == Value.type "method" || Value.type "method-wrapper" == Value.type "builtin_function_or_method" || Value.type "method-wrapper" == Value.type "method-wrapper") = true by decide, if_true]
  refine W.KFB.if_so (by decide) ?_
  refine wpAny_bind (ESX.check_bound F.excBase_ValueError hC he rfl ?_)
  refine wpAny_bind (wpAny_pure (wpAny_pure ?_))
  refine ⟨Code.quiet_builtin _ (by decide +kernel), codeAny_builtin F.excBase_ValueError.initEntry ?_⟩
  rw [Around.under_plainId F.excBase_ValueError.init.plain _]
  wp_walk
  refine hq _ h.objs.size (fun b o hb ho => ?_) ?_
  · rw [Heap.get?_update_other _ _ (Ne.symm hb)]
    exact Heap.get?_push_of_some _ ho
  · rw [Heap.get?_update_self _ (Heap.get?_push_of_some _ he) rfl]
    rfl
end
section
variable {prog : Program} {w : World} {A : Around} {E : Value → Shared → Prop} {R : Result → Shared → Prop} {s : Shared} {K : Frag} {C fI cc cda : Addr} {f qual : Str} {ae : Expr} {mg mb : Str → Option Value}
theorem ex_init (T : ExTxt prog K C fI cc cda f qual ae) {x t0 : Addr} {v : Value} (X : K.In s.heap) (hlim : s.heap.NoLimit) (hG : s.heap.Ns mainGlobals mg) (hms : mg "super" = none) (hB : s.heap.Ns builtinsNs mb) (hbs : mb "super" = some (.type "super"))
    (hx : s.heap.get? x = some (excO C t0)) (hnx : K.lookup x = none) (hroom : A.depth < recursionLimit) (hae : AeOk prog w f ae v)
    (hq : ∀ h' tk dx t1, InitEnd f s.heap h' x C dx t1 v → R (.ok (.ret .none)) { s with heap := h', toks := tk }) :
    codeAny (model prog w) A (.call (.ref fI) ⟨[.ref x, v], []⟩) R s := by
  obtain ⟨oc, od, doc, pm, an, ct, osl, p1, p2, q1, q2, q3, q4, q5, q6, q7, q8, q9, ho, hcd, hln⟩ := T.fn
  obtain ⟨nm, q, N, bs, bm, sn, sub, ab, col, dd, k0, k1, k2, k3, k5, hC, hbm⟩ := T.cls
  obtain ⟨ccl, ccd, csl, hcell⟩ := T.cell
  obtain ⟨cl, cd, vs, sl, file, tf, hcode, hvs, hfile⟩ := T.code
  have hcl : clsIn K C = some { name := nm, bases := bs, mro := .ref C :: bm, ns := N, qualname := q, hasDict := true, slotNames := sn, subclasses := sub, abstract := ab, collection := col, hasDel := false } := by unfold clsIn; rw [hC] <;> rfl
  have hne : f ≠ ("self" : Str) := fun z => by have := T.ne1; rw [z] at this; simp at this
  refine ks_codeAny_call_defAt (binds := [("self", .ref x), (f, v)]) hroom (X _ _ ho) rfl hlim (codeRec_of X hcd) rfl (BindsTo.of_eq (T.bind ..)) (by show ∀ y ∈ (iS f).names, y.2 ≠ .cell; unfold iS; simp) ?_ (fun h₁ hns hk₁ => ?_) rfl rfl rfl
  · intro y hy
    simp only [List.mem_cons, List.mem_nil_iff, or_false] at hy
    rcases hy with rfl | rfl
    · exact T.lkSelf
    · exact T.lkF
  have X₁ : K.In h₁ := X.keeps hk₁
  have hx₁ := hk₁ _ _ hx
  have hself : (fun y => List.lookup y (List.reverse [(("self" : Str), Value.ref x), (f, v)])) "self" = some (.ref x) := by
    show List.lookup ("self" : Str) [(f, v), ("self", .ref x)] = _
    rw [List.lookup_cons, T.ne2]
    rfl
  have hfv : (fun y => List.lookup y (List.reverse [(("self" : Str), Value.ref x), (f, v)])) f = some v := by
    show List.lookup f [(f, v), ("self", .ref x)] = _
    rw [List.lookup_cons, T.ff]
  obtain ⟨pl, hev⟩ := T.he q1 q2 q3 q4 (callEnv (ksFn "__init__" qual (iA f p1 p2) (iB f ae q1 q2 q3 q4 q5 q6 q7 q8 q9) (iS f) .none .none doc pm an (.ref cda) ct cc) s.heap.objs.size fI) hln
  refine ks_wpAt_execs_cons (ks_wpAt_Expr_any (ks_wpAt_MethodCall (pl := pl) ?_ hev))
  have hC₁ := X₁ _ _ hC
  refine ks_wpAt_super_base (T.lkSup) (T.lkCls) (by decide) rfl (X₁ _ _ ho) rfl rfl rfl (X₁ _ _ hcode) rfl hvs hfile T.top ?_
  refine ks_loadName_global rfl T.lkSup (loadGlobal_builtin (hG.keeps hk₁) hms (hB.keeps hk₁) hbs ⟨rfl, ?_⟩)
  refine wpAny_loadName_free rfl T.lkCls rfl ⟨_, X₁ _ _ hcell, rfl⟩ ?_
  refine wpAny_loadName_local rfl T.lkSelf hns hself ?_
  refine ks_wpAny_isType_cls hC₁ rfl ⟨rfl, ?_⟩
  refine ks_wpAny_call_super hC₁ rfl hx₁ rfl (fun c e => by cases e) (looks_mroIn X₁ T.selfC) (fun h₂ e₂ k₂ => ?_)
  have hx₂ := k₂ _ _ hx₁
  have X₂ := X₁.keeps k₂
  have I₂ : InstAt h₂ x (excO C t0) C none := ⟨hx₂, rfl, rfl, trivial⟩
  have hsup := T.sup
  unfold ks_superIn at hsup
  rw [hcl] at hsup
  refine kxs_getMethod kxs_ValueError e₂ (looks_opaque X₂ T.opq) (l₀ := .ref C :: bm) ?_ rfl X₂ hsup (I₂.type.andThen (looks_subIn X₂ T.veC)) (ks_ne X₂ I₂ hcl) (by decide) ?_
  · exact fun A Q E s k q => wpAny_bind ((looks_clsIn X₂ hcl) A _ E s k (wpAny_pure q))
  have k₃ : ∀ b o, h₁.get? b = some o → (h₂.push (kxs_mw "ValueError.__init__" x)).get? b = some o := fun b o e => Heap.get?_push_of_some _ (k₂ b o e)
  have hns₃ := (hns.keeps k₃)
  show wpAny _ _ (callWith q4 (.ref h₂.objs.size) [] (backTo q4 (starEach [ae] _)) []) _ _ _
  rw [T.hst]
  refine kxs_callWith (i := "ValueError.__init__") (x := x) (by rfl) (evalArgs_plain ?_)
  refine Calls.spliced_cons (wpAny_mono (hae _ _ _ x _ ⟨rfl, _, hns₃, hself, hfv⟩) (fun u s₄ hk₄ => ?_) fun _ _ z => z)
  obtain ⟨h₄, tk₄, rfl, k₄⟩ := hk₄
  refine Calls.spliced_nil ⟨k₄ _ _ (Heap.get?_push_at rfl rfl), ?_⟩
  have up₄ : ∀ b o, h₁.get? b = some o → h₄.get? b = some o := fun b o e => k₄ b o (k₃ b o e)
  refine call_mw (X.keeps (fun b o e => up₄ b o (hk₁ b o e)) _ _ hC) (up₄ _ _ hx₁) (k₄ _ _ (Heap.get?_push_at rfl rfl)) (one_size u) (fun h₅ t₁ k₅ hx₅ => ?_)
  have xL : s.heap.objs.size ≠ x := Nat.ne_of_gt (Heap.lt_size hx)
  have hns₅ := (hns.keeps up₄).at' (fun o e => k₅ _ o xL e)
  refine wpAt_of_wpAny (wpAny_execs_cons (plainObj_wpAny_Assign_Attribute ?_))
  refine wpAny_Name (wpAny_loadName_local rfl T.lkF hns₅ hfv ?_) T.dbF
  refine wpAny_Name (wpAny_loadName_local rfl T.lkSelf hns₅ hself ?_) (by decide)
  have xne : ∀ b o, K.lookup b = some o → b ≠ x := fun b o e z => by
    rw [z, hnx] at e
    cases e
  have X₅ : K.In h₅ := fun b o e => k₅ b o (xne b o e) (up₄ b o (hk₁ b o (X b o e)))
  refine set_plain X₅ (ox := excO C t₁) (od := none) ⟨hx₅, rfl, rfl, trivial⟩ T.sa ?_
  refine exc_osa X₅ hx₅ hcl (show refsVE (.ref C :: bm) = true from hbm) rfl T.noF (fun h₆ tk₆ dx k₆ dn dne hx₆ hn₆ => ?_)
  show wpAny _ _ (execs _ _) _ _ _
  have old : ∀ b o, b ≠ x → s.heap.get? b = some o → h₆.get? b = some o := fun b o hb e => k₆ b o hb (k₅ b o hb (up₄ b o (hk₁ b o e)))
  have lt6 : s.heap.objs.size ≤ h₅.objs.size := Nat.le_of_lt hns₅.lt
  exact wpAny_execs_nil (hq h₆ tk₆ dx t₁ ⟨old, hx₆, Nat.le_trans lt6 dn, dne, hn₆⟩)
theorem ex_made (T : ExTxt prog K C fI cc cda f qual ae) {v : Value} (X : K.In s.heap) (hlim : s.heap.NoLimit) (hG : s.heap.Ns mainGlobals mg) (hms : mg "super" = none) (hB : s.heap.Ns builtinsNs mb) (hbs : mb "super" = some (.type "super"))
    (hroom : A.depth + 1 < recursionLimit) (hae : AeOk prog w f ae v)
    (hq : ∀ h' tk e d, OwnMade f s.heap h' e C d v → R (.ok (.ret (.ref e))) { s with heap := h', toks := tk }) :
    codeAny (model prog w) A (.call (.ref C) ⟨[v], []⟩) R s := by
  obtain ⟨nm, q, N, bs, bm, sn, sub, ab, col, dd, k0, k1, k2, k3, k5, hC, hbm⟩ := T.cls
  obtain ⟨hp, g, dr, tk, os⟩ := s
  have k : ∀ b o, hp.get? b = some o → ((hp.push (kdv_tup [v])).push (excO C hp.objs.size)).get? b = some o := fun b o e => Heap.get?_push_of_some _ (Heap.get?_push_of_some _ e)
  have hget : ((hp.push (kdv_tup [v])).push (excO C hp.objs.size)).get? (hp.objs.size + 1) = some (excO C hp.objs.size) := by heap_get
  have hnx : K.lookup (hp.objs.size + 1) = none := by
    cases e : K.lookup (hp.objs.size + 1) with
    | none => rfl
    | some o =>
      have z : hp.get? (hp.objs.size + 1) = some o := X _ _ e
      exact absurd (Nat.lt_of_succ_lt (Heap.lt_size z)) (Nat.lt_irrefl _)
  refine call_own F.excBase_ValueError (fun X => refsVE_contains X bm hbm) (X _ _ hC) (looks_findIn X T.iC) (fun self => bind_fn X self T.tC) (one_size v) ?_
  refine ex_init (s := ⟨(hp.push (kdv_tup [v])).push (excO C hp.objs.size), g, dr, tk, os⟩) T (X.keeps k) (hlim.keeps k) (hG.keeps k) hms (hB.keeps k) hbs hget hnx ?_ hae fun h' tk' dx t1 ⟨k', hx, dn, dne, hns⟩ => ?_
  · show A.depth + 1 < recursionLimit
    exact hroom
  · have old : ∀ b o, hp.get? b = some o → h'.get? b = some o := fun b o e => k' b o (Nat.ne_of_lt (Nat.lt_succ_of_lt (Heap.lt_size e))) (k b o e)
    have z : hp.objs.size + 1 + 1 ≤ dx := by
      first
        | (simpa only [Heap.size_push] using dn)
        | exact dn
        | (have q := dn; rw [Heap.size_push, Heap.size_push] at q; exact q)
    exact ⟨rfl, hq h' tk' (hp.objs.size + 1) dx ⟨old, Nat.le_succ _, ⟨_, _, hx, rfl, rfl, rfl, rfl⟩, Nat.le_trans (Nat.le_trans (Nat.le_succ _) (Nat.le_succ _)) z, dne, hns⟩⟩
end
end SupX
end PySem
namespace L2
open PySem PySem.Spec PyProof.Rows
section
variable {X : Cx} {C fI cc cda : Addr} {f qual : Str} {ae : Expr} {x : Str}
/-- C(e), an own error with one field -/
def tMkEx (X : Cx) (C : Addr) (f : Str) (ae : Expr) (ta : TA) : St → Hp → XK → Prop := fun σ H Q => ta σ H fun vs H1 => ∃ v, vs = [v] ∧ (∀ u, RelV v u → PySem.SupX.AeOk X.prog X.w f ae u) ∧ ∀ d, H1 d = none → Q (.ref C) (some d) (upd H1 d (.xd [(f, v)]))
theorem relO_one {f : Str} (ff : (f == f) = true) {v : V} {v' : Value} (r : RelV v v') (g : Str) : RelO (List.lookup g [(f, v)]) (if g = f then some v' else none) := relO_put (fs := []) (mA := fun _ => none) r (fun _ => True.intro) g
theorem pmk_ex {a : Expr} {ta : TA} {p pos : Pos} {k : Nat} (T : PySem.SupX.ExTxt X.prog X.K C fI cc cda f qual ae) (hr : Room k X.A) (hg : Gl X x) (hx : X.mg x = some (.ref C)) (hms : X.mg "super" = none) (ha : PA X [a] ta) (hdb : (x == ("__debug__" : Str)) = false := by decide)
    (he : starEach (a :: []) X.env = (false, eval a X.env) :: starEach [] X.env := by rfl) (hpl : (backTo pos (starEach [] X.env)).any (·.1) = false := by rfl) :
    PMk X (.Call (.Name x p) [a] [] pos) (tMkEx X C f ae ta) := by
  intro pins s σ H Q I h
  refine wpAny_Call_Name_kw (ld_glob I hg hx ?_ hdb)
  refine PySem.W.callWith_K (h₀ := X.base) I.ok.mod.kin T.kC (thn (ha.run pos pins s σ H _ I h) fun us s1 hh => ?_) he hpl
  obtain ⟨vs, H1, I1, r1, v, ev, hae, q1⟩ := hh
  subst ev
  refine ⟨I1.kIn, ?_⟩
  cases r1 with
  | cons rv rn =>
    rename_i v' us'
    cases rn
    show wpAny _ _ (call (.ref C) [v']) _ _ _
    have hlim := I1.nolimit
    have kin := I1.kIn
    have hG : s1.heap.Ns mainGlobals X.mg := I1.mod.glob.keeps I1.bk
    obtain ⟨mb, hb1, hb2⟩ := I1.mod.blt
    have hB : s1.heap.Ns builtinsNs mb := hb1.keeps I1.bk
    have hbs : mb "super" = some (.type "super") := (hb2 "super" (by decide)).trans (by decide +kernel)
    obtain ⟨hp, g, dr, tk, os⟩ := s1
    refine wpAny_call (PySem.SupX.ex_made T kin hlim hG hms hB hbs (by have := hr.dp; omega) (hae v' rv) fun h' tk' e d M => ?_)
    show MkP X pins σ Q (.ref e) ⟨h', g, dr, tk', os⟩
    obtain ⟨oe, fv, hoe, hc, hd, hdat, h1⟩ := M.obj
    have hns := M.ns
    obtain ⟨G', g1, g2⟩ := restrict h' fun b => decide (b ≠ e)
    have gk : ∀ b, b ≠ e → G'.get? b = h'.get? b := fun b hb => g1 b (decide_eq_true hb)
    have ge : G'.get? e = none := g2 e (by simp)
    have old : ∀ b o, hp.get? b = some o → G'.get? b = some o := fun b o q => (gk b (Nat.ne_of_lt (Nat.lt_of_lt_of_le (Heap.lt_size q) M.new))).trans (M.keep b o q)
    have ob : ObjOk X.prog X.w (upd H1 d (.xd [(f, v)])) G' d (.xd [(f, v)]) :=
      ⟨_, hns.at (fun o q => (gk d M.dne).trans q), fun g => relO_one T.ff rv g⟩
    have J : Inv X pins σ (upd H1 d (.xd [(f, v)])) ⟨G', g, dr, tk', os⟩ := I1.laid (t' := tk') old M.dbig ob
    refine ⟨e, oe, fv, ⟨G', g, dr, tk', os⟩, _, .ref C, some d, rfl, J, fun b o q => ?_, ge, hoe, ⟨hc, hd⟩, hdat, h1, ?_, rfl, I1.bare, raises_own T.exC T.tyC, q1 d (I1.hok.fresh M.dbig)⟩
    · have hb : b ≠ e := fun z => by
        have q' : G'.get? b = some o := q
        rw [z, ge] at q'; cases q'
      exact (gk b hb).symm.trans q
    · show upd H1 d (.xd [(f, v)]) e = none
      rw [upd_ne (Ne.symm M.dne)]
      exact I1.hok.fresh M.new
end
end L2

set_option Elab.async false
set_option linter.all false
set_option maxRecDepth 100000
set_option maxHeartbeats 4000000
namespace PySem
namespace SupX
open PySem.W PySem.Calls PyProof.Rows PySem.HandSPX
theorem ae_name {prog : Program} {w : World} {f : Str} {a : Pos} {v : Value} (lkF : (iS f).names.lookup f = some .local) (db : (f == ("__debug__" : Str)) = false) : AeOk prog w f (.Name f a) v := by
  intro A env s x E ⟨hsc, m, hns, h1, h2⟩
  refine wpAny_Name (wpAny_loadName_local (by rw [hsc]; rfl) (show env.scope.names.lookup f = _ by rw [hsc]; exact lkF) hns h2 ?_) db
  exact GxR.keeps_refl s
theorem ae_fstr {prog : Program} {w : World} {f pre : Str} {a1 a2 a3 a4 : Pos} {y : Str} {t : Tok} (lkF : (iS f).names.lookup f = some .local) (db : (f == ("__debug__" : Str)) = false) (hp : pre.length ≤ 100) (hy : y.length ≤ 16777000) :
    AeOk prog w f (.JoinedStr [.Constant (.str pre) 0 a1, .FormattedValue (.Name f a2) (-1) none a3] a4) (.str y t) := by
  intro A env s x E ⟨hsc, m, hns, h1, h2⟩
  have hl : (sizeLine : Nat) = 16777216 := sizeLine_eq
  have e0 : evalEach [(.Constant (.str pre) 0 a1 : Expr), .FormattedValue (.Name f a2) (-1) none a3] env = [eval (.Constant (.str pre) 0 a1) env, eval (.FormattedValue (.Name f a2) (-1) none a3) env] := by first | rfl | simp [evalEach]
  refine wpAny_JoinedStr ?_
  rw [e0]
  refine Calls.Constant_str ?_
  have l0 : (Str.empty : Str).length = 0 := rfl
  have l1 : (Str.empty ++ pre).length = pre.length := by rw [PySem.Str.length_append, l0]; omega
  have l2 : (Str.empty ++ pre ++ y).length ≤ sizeLine := by rw [PySem.Str.length_append, l1]; omega
  refine ⟨pre, _, rfl, by rw [l1]; omega, ?_⟩
  refine wpAny_FormattedValue_plain ?_
  refine wpAny_Name (wpAny_loadName_local (by rw [hsc]; rfl) (show env.scope.names.lookup f = _ by rw [hsc]; exact lkF) (hns.keeps fun b o e => e) h2 ?_) db
  exact wpAny_formatField_str ⟨y, _, rfl, l2, l2, GxR.keeps_tok s _⟩ ⟨y, _, rfl, l2, l2, GxR.keeps_tok s _⟩ (by omega)
end SupX
end PySem

set_option Elab.async false
set_option linter.all false
set_option maxRecDepth 100000
set_option maxHeartbeats 2000000
namespace PySem
namespace SrtT
open PySem.W PySem.Calls PyProof.Rows
variable {prog : Program} {w : World} {A : Around} {E : Value → Shared → Prop} {s : Shared}
theorem collect_tuple {l : Addr} {vs : List Value} {Q : List Value → Shared → Prop} (hl : s.heap.IsTuple l vs.toArray)
    (h : Q vs { s with heap := (s.heap.push (seqObj "list" #[] 0)).update s.heap.objs.size (Obj.mapSeq (· ++ vs.toArray)) }) (hsz : vs.length ≤ sizeLine := by size_fits) :
    wpAny (model prog w) A (collect (.ref l)) Q E s := by
  obtain ⟨o, ho, hc, n, hd⟩ := id hl
  unfold collect
  refine wpAny_bind (wpAny_runValue (codeAny_builtin entry_proto_collect' ?_))
  show wpAny _ _ (do again (.builtin "list.__iadd__" ⟨[← newList [], .ref l], []⟩)) _ _ s
  refine wpAny_bind (wpAny_newList (wpAny_pure ⟨Code.quiet_builtin _ (by decide +kernel), codeAny_builtin entry_list_iadd' ?_⟩))
  show wpAny _ _ (Builtin.List.listExtendWith (.ref s.heap.objs.size) (.ref l) (.ref s.heap.objs.size)) _ _ { s with heap := s.heap.push (seqObj "list" #[] 0) }
  unfold Builtin.List.listExtendWith
  have ho' : (s.heap.push (seqObj "list" #[] 0)).get? l = some o := Heap.get?_push_of_some _ ho
  refine wpAny_bind (wpAny_typeOf (T := "tuple") ⟨o, ho', hc⟩ ?_)
  have ht : (Value.type "tuple" == Value.type "tuple") = true := by rfl
  rw [if_pos (by rw [ht]; simp)]
  refine wpAny_bind (listItems_at ho' hd ?_)
  refine wpAny_bind (listItems_at (xs := #[]) (n := 0) (Heap.get?_push_size _ rfl) rfl ?_)
  rw [if_neg (by simp)]
  refine wpAny_bind (listUpdate_at (xs := #[]) (n := 0) (Heap.get?_push_size _ rfl) rfl ?_ (Nat.zero_le _) (by show (#[] ++ vs.toArray).size ≤ sizeLine + 1; simp only [Array.size_append, List.size_toArray, List.length_nil]; omega))
  refine wpAny_pure ?_
  show wpAny (model prog w) A (do
      let o ← load s.heap.objs.size
      match o.data with
      | .seq xs _ => pure xs.toList
      | _ => unsupported "internal:collect") Q E { s with heap := (s.heap.push (seqObj "list" #[] 0)).update s.heap.objs.size (Obj.mapSeq (· ++ vs.toArray)) }
  refine wpAny_bind (wpAny_load (get?_update_seq (Heap.get?_push_size _ rfl) _) ?_)
  show wpAny _ _ (pure ((#[] : Array Value) ++ vs.toArray).toList) Q E _
  rw [show ((#[] : Array Value) ++ vs.toArray).toList = vs by simp]
  exact wpAny_pure h
/-- sorted(xs, ..) of a list or a tuple -/
theorem sorted_of_sort2 {l : Addr} {vs : List Value} {kw : List (Str × Value)} {Q : Value → Shared → Prop} (hl : s.heap.IsList l vs.toArray ∨ s.heap.IsTuple l vs.toArray) (hL : vs.length ≤ sizeLine) (ha1 : argsOk "sorted" ⟨[.ref l], kw⟩) (ha2 : ∀ x, argsOk "list.sort" ⟨[.ref x], kw⟩)
    (body : ∀ E' : Value → Shared → Prop, wpAny (model prog w) A.in1.in1 (Builtin.«list.sort» ⟨[.ref (s.heap.objs.size + 1)], kw⟩) (fun f s' => f = .done (.ret .none) ∧ Q (.ref (s.heap.objs.size + 1)) s') E' { s with heap := copyHeap s.heap vs }) :
    wpAny (model prog w) A (call (.builtin "sorted") [.ref l] kw) Q E s := by
  refine call_function_entry_kw kind_sorted plain_sorted entry_sorted ha1 ?_
  unfold Builtin.«sorted»
  refine wpAny_bind (m := checkCount "sorted" 1 1 _) (wpAny_pure ?_)
  have col : ∀ {Q' : List Value → Shared → Prop} {E' : Value → Shared → Prop}, Q' vs { s with heap := (s.heap.push (seqObj "list" #[] 0)).update s.heap.objs.size (Obj.mapSeq (· ++ vs.toArray)) } → wpAny (model prog w) A.in1 (collect (.ref l)) Q' E' s := fun {Q' E'} h => by
    rcases hl with hl | hl
    · exact collect_list hl h hL
    · exact collect_tuple hl h hL
  refine wpAny_bind (col ?_)
  refine wpAny_bind (wpAny_newList ?_ hL)
  have hsz : ((s.heap.push (seqObj "list" #[] 0)).update s.heap.objs.size (Obj.mapSeq (· ++ vs.toArray))).objs.size = s.heap.objs.size + 1 := by
    rw [Heap.size_update, size_push']
  show wpAny _ _ _ _ _ { s with heap := copyHeap s.heap vs }
  rw [hsz]
  refine wpAny_bind (wpAny_holding (wpAny_call_entry_kw slot_list_sort ⟨_, copyHeap_at s.heap vs, rfl⟩ entry_list_sort ?body (ha2 _)))
  case body =>
    show wpAny (model prog w) A.in1.in1 (Builtin.«list.sort» ⟨[.ref (s.heap.objs.size + 1)], kw⟩) _ _ _
    refine wpAny_mono (body _) (fun f s' hf => ?_) fun _ _ e => e
    obtain ⟨rfl, hq⟩ := hf
    exact ⟨_, rfl, wpAny_pure ⟨_, rfl, hq⟩⟩
theorem sorted_vals2 {κ : PyProof.Rows.KeyKind} {l : Addr} {vs : List Value} {Q : Value → Shared → Prop} (hl : s.heap.IsList l vs.toArray ∨ s.heap.IsTuple l vs.toArray) (S : SortsAt prog w A.in1.in1 { s with heap := sortingHeap (copyHeap s.heap vs) (s.heap.objs.size + 1) vs } κ vs) (hL : vs.length ≤ sizeLine)
    (h : Q (.ref (s.heap.objs.size + 1)) { s with heap := sortedAll s.heap vs (sortVals κ false vs vs).toArray }) : wpAny (model prog w) A (call (.builtin "sorted") [.ref l]) Q E s :=
  sorted_of_sort2 hl hL (args_sorted1 _) (fun _ => args_list_sort _) fun _ => list_sort_vals (s := { s with heap := copyHeap s.heap vs }) (copyHeap_at s.heap vs) S hL ⟨rfl, h⟩
variable {β : Type} {vs : List Value} {bs : List β} {enc : β → PyData} {R : Value → β → Prop}
theorem sorted_data2 {l : Addr} {Q : Value → Shared → Prop} (hl : s.heap.IsList l vs.toArray ∨ s.heap.IsTuple l vs.toArray) (e : EachIs R vs bs) (er : EachIs (fun v b => ∃ as, Reads s.heap v (enc b) as) vs bs) (hal : AllAlike (bs.map enc)) (hk : Sortable (bs.map enc)) (hL : bs.length ≤ sizeLine)
    (hu : ∀ b, b ∈ bs → A.units + 2 + (enc b).depth < cLine) (h : ∀ out, out.length = bs.length → EachIs R out (bs.mergeSort (dataLe false enc)) → Q (.ref (s.heap.objs.size + 1)) { s with heap := sortedAll s.heap vs (List.toArray out) }) :
    wpAny (model prog w) A (call (.builtin "sorted") [.ref l]) Q E s := by
  have er' : EachIs (fun v b => ∃ as, Reads (sortingHeap (copyHeap s.heap vs) (s.heap.objs.size + 1) vs) v (enc b) as) vs bs := er.mono fun _ _ ⟨as, r⟩ => ⟨as, PyProof.Rows.Reads.keeps (fun _ _ => sorting_copy_old) r⟩
  exact sorted_vals2 hl (SortsAt.data (s := { s with heap := sortingHeap (copyHeap s.heap vs) (s.heap.objs.size + 1) vs }) (each_map (R := fun v d => ∃ as, Reads (sortingHeap (copyHeap s.heap vs) (s.heap.objs.size + 1) vs) v d as) enc er') hal hk (bound_map hu)) (by rw [e.length]; exact hL)
    (h _ (by rw [sortVals_length false rfl]; exact e.length) (sortVals_data false e er' hal))
theorem sorted_rev_data2 {l : Addr} {b : Bool} {Q : Value → Shared → Prop} (hl : s.heap.IsList l vs.toArray ∨ s.heap.IsTuple l vs.toArray) (e : EachIs R vs bs) (er : EachIs (fun v b => ∃ as, Reads s.heap v (enc b) as) vs bs) (hal : AllAlike (bs.map enc)) (hk : Sortable (bs.map enc)) (hL : bs.length ≤ sizeLine)
    (hu : ∀ b, b ∈ bs → A.units + 2 + (enc b).depth < cLine) (h : ∀ out, out.length = bs.length → EachIs R out (bs.mergeSort (dataLe b enc)) → Q (.ref (s.heap.objs.size + 1)) { s with heap := sortedAll s.heap vs (List.toArray out) }) :
    wpAny (model prog w) A (call (.builtin "sorted") [.ref l] [(Str.ofString "reverse", .bool b)]) Q E s := by
  have er' : EachIs (fun v b => ∃ as, Reads (sortingHeap (copyHeap s.heap vs) (s.heap.objs.size + 1) vs) v (enc b) as) vs bs := er.mono fun _ _ ⟨as, r⟩ => ⟨as, PyProof.Rows.Reads.keeps (fun _ _ => sorting_copy_old) r⟩
  exact sorted_of_sort2 hl (by rw [e.length]; exact hL) (args_sorted_rev _ _) (fun _ => args_list_sort_rev _ _) fun _ => list_sort_rev_vals (s := { s with heap := copyHeap s.heap vs }) (copyHeap_at s.heap vs)
    (SortsAt.data (s := { s with heap := sortingHeap (copyHeap s.heap vs) (s.heap.objs.size + 1) vs }) (each_map (R := fun v d => ∃ as, Reads (sortingHeap (copyHeap s.heap vs) (s.heap.objs.size + 1) vs) v d as) enc er') hal hk (bound_map hu)) (by rw [e.length]; exact hL)
    ⟨rfl, (h _ (by rw [sortVals_length b rfl]; exact e.length) (sortVals_data b e er' hal))⟩
end SrtT
end PySem

set_option Elab.async false
set_option linter.all false
set_option maxRecDepth 100000
set_option maxHeartbeats 4000000
namespace L2
open PySem PySem.Spec PyProof.Rows
section
variable {P : Program} {w : World} {A : Around} {E : Value → Shared → Prop} {s : Shared}
set_option maxRecDepth 100000 in
set_option maxHeartbeats 3200000 in
theorem call_set_lstI {l : Addr} {items : Array Value} (ns : List Int) {Q : Value → Shared → Prop} (hh : A.handled = none) (hl : s.heap.IsList l items) (hit : IntsAre items.toList ns) (hb : ns.length + 1 < scanBound)
    (h : ∀ (h' : Heap) (tk c : Nat), SetR w h' s.heap.objs.size (fun j => decide (j ∈ ns)) c → c ≤ ns.length → (∀ b o, s.heap.get? b = some o → h'.get? b = some o) → Q (.ref s.heap.objs.size) { s with heap := h', toks := tk }) :
    wpAny (model P w) A (call (.type "set") [.ref l]) Q E s := by
  have hisz : items.size = ns.length := by
    have q := IntsAre.length hit
    rw [Array.length_toList] at q
    exact q
  obtain ⟨c, tl, hmro⟩ := F.called_set.mro
  have hmade := F.called_set.made
  have hsub := F.called_set.sub
  refine wpAny_call (codeAny_of_tree ?_)
  show wpAny _ _ (callAny (.type "set") _) _ _ _
  refine wpAny_pure ⟨Code.quiet_builtin _ (by decide +kernel), codeAny_builtin F.entry_type_call ?_⟩
  rw [Around.under_plain (weight_type_call_type "set" [.ref l] []) rfl]
  have h1 := F.called_set.notType
  have h2 := F.called_set.canCreate
  have hct := F.typeCall_set_1 (.ref l)
  repeat (any_goals (first | assumption | wp_step))

  refine codeAny_mono (code_set_led1 (.ref l) (E := E) (Q₁ := fun obj s₁ => obj = .ref s.heap.objs.size ∧ s₁ = { s with heap := s.heap.push { cls := .type "set", dict := none, data := .set #[] 0 (.fresh 0 0 (!w.params.followText "set-order")) } }) ⟨rfl, rfl⟩) fun r s₁ hr => ?_
  cases r with
  | error e => exact hr
  | ok fl =>
    cases fl with
    | ret obj =>
      obtain ⟨rfl, rfl⟩ := hr
      have hS : (s.heap.push { cls := .type "set", dict := none, data := .set #[] 0 (.fresh 0 0 (!w.params.followText "set-order")) }).get? s.heap.objs.size = some { cls := .type "set", dict := none, data := .set #[] 0 (.fresh 0 0 (!w.params.followText "set-order")) } := Heap.get?_push_size _ rfl
      have hT : Shared.TypeIs { s with heap := s.heap.push { cls := .type "set", dict := none, data := .set #[] 0 (.fresh 0 0 (!w.params.followText "set-order")) } } (.ref s.heap.objs.size) "set" := ⟨_, hS, rfl⟩
      have hli := F.called_set.init.lookup
      have hbi := F.called_set.init.bind (.ref s.heap.objs.size)
      repeat (any_goals (first | assumption | wp_step))

      refine codeAny_mono (codeAny_call_builtin (R := wants (fun r s₂ => r = .none ∧ ∃ h' tk c, s₂ = { s with heap := h', toks := tk } ∧ SetR w h' s.heap.objs.size (fun j => decide (j ∈ ns)) c ∧ c ≤ ns.length ∧
          (∀ b o, s.heap.get? b = some o → h'.get? b = some o)) E) F.called_set.init.plain F.entry_set_init (check_set_init_1 hT ?_)) fun r₂ s₂ hr₂ => ?_
      · obtain ⟨ol, hol, hcl, nl, hdl⟩ := hl
        obtain ⟨ocls, odict, odata, oslots⟩ := ol
        simp only at hcl hdl
        subst hcl; subst hdl
        have hol' : (s.heap.push { cls := .type "set", dict := none, data := .set #[] 0 (.fresh 0 0 (!w.params.followText "set-order")) }).get? l = some { cls := .type "list", dict := odict, data := .seq items nl, slots := oslots } := Heap.get?_push_of_some _ hol
        have hsls := F.sub_list_set
        have hslf := F.sub_list_frozenset
        have hne : (Value.type "list" == Value.type "dict") = false := by decide
        have hl1 : (s.heap.push { cls := .type "set", dict := none, data := .set #[] 0 (.fresh 0 0 (!w.params.followText "set-order")) }).IsList l items := ⟨_, hol', rfl, nl, rfl⟩
        unfold Builtin.«set.__init__» noKeywords Builtin.Frozenset.updateFrom
        generalize hPI : pyIter = PI
        wp_walk
        subst hPI

        refine wpAny_pyIter_list hl1 ?_
        refine wpAny_bind (wpAny_runValue ?_)
        have hlS : l < s.heap.objs.size := Heap.lt_size hol
        have hh3 : A.in1.in1.in1.handled = none := by simp [hh]
        have hz1 : (s.heap.push { cls := .type "set", dict := none, data := .set #[] 0 (.fresh 0 0 (!w.params.followText "set-order")) }).objs.size = s.heap.objs.size + 1 := Heap.size_push ..
        have hneI : l ≠ (s.heap.push { cls := .type "set", dict := none, data := .set #[] 0 (.fresh 0 0 (!w.params.followText "set-order")) }).objs.size := by
          rw [Heap.size_push]; exact Nat.ne_of_lt (Nat.lt_succ_of_lt hlS)
        have hSf : s.heap.objs.size ∉ [(s.heap.push { cls := .type "set", dict := none, data := .set #[] 0 (.fresh 0 0 (!w.params.followText "set-order")) }).objs.size, l] := by
          rw [Heap.size_push]; simp only [List.mem_cons, List.mem_singleton, List.not_mem_nil, or_false, not_or]
          exact ⟨Nat.ne_of_lt (Nat.lt_succ_self _), Nat.ne_of_gt hlS⟩
        have hval : ∀ (i : Nat) (v : Value), items[i]? = some v → ∃ k t, ns[i]? = some k ∧ v = .int k t := fun i v hv => by
          have hi : i < ns.length := by rw [← hisz]; exact (Array.getElem?_eq_some_iff.mp hv).1
          obtain ⟨t, e⟩ := PyProof.Rows.IntsAre.int_at hit i v (by rw [Array.getElem?_toList]; exact hv)
          refine ⟨ns[i], t, List.getElem?_eq_getElem hi, ?_⟩
          rw [e, List.getD_eq_getElem?_getD, List.getElem?_eq_getElem hi] <;> rfl
        refine set_update_ints ((Walks.list hh3 _ l hneI items).toS) s.heap.objs.size
          hSf ns hisz hb hval (items.size - 0) 0 _ (by omega) (Nat.zero_le _)
          ⟨⟨_, Heap.get?_push_size _ rfl, rfl, rfl⟩, (hl1.push _)⟩ ?hS0 ?hR
        case hS0 =>
          have hget : ((s.heap.push { cls := .type "set", dict := none, data := .set #[] 0 (.fresh 0 0 (!w.params.followText "set-order")) }).push { cls := .type "list_iterator", data := .fields #[.ref l, .int 0 0] }).get? s.heap.objs.size
              = some { cls := .type "set", dict := none, data := .set #[] 0 (.fresh 0 0 (!w.params.followText "set-order")) } := Heap.get?_push_of_some _ hS
          exact ⟨0, Nat.le_refl 0, setR_new_at hget⟩
        case hR =>
          intro s' c' hm hc' hS'
          obtain ⟨h', g2, d', tk', os'⟩ := s'
          have eg : g2 = s.gens := hm.gens
          have ed : d' = s.drawn := hm.drawn
          have eo : os' = s.os := hm.os
          subst eg; subst ed; subst eo
          show wpAny _ _ _ _ _ _
          refine wpAny_pure ?_
          show wpAny _ _ (ret Value.none) _ _ _
          rw [hisz] at hc'
          refine wpAny_pure ⟨rfl, h', tk', c', rfl, hS', hc', fun b o e => ?_⟩
          have hb0 : b < s.heap.objs.size := Heap.lt_size e
          have hb1 : b ≠ s.heap.objs.size := Nat.ne_of_lt hb0
          have hb2 : b ≠ (s.heap.push { cls := .type "set", dict := none, data := .set #[] 0 (.fresh 0 0 (!w.params.followText "set-order")) }).objs.size := by
            rw [Heap.size_push]; exact Nat.ne_of_lt (Nat.lt_succ_of_lt hb0)
          exact hm.heap b o (by simp only [List.mem_cons, List.mem_singleton, List.not_mem_nil, or_false, not_or]; exact ⟨hb1, hb2⟩) (Heap.get?_push_of_some _ (Heap.get?_push_of_some _ e))

      · cases r₂ with
        | error e => exact hr₂
        | ok fl₂ =>
          cases fl₂ with
          | ret r =>
            obtain ⟨rfl, h', tk, c', rfl, hS', hc', hk'⟩ := hr₂
            repeat (any_goals (first | assumption | wp_step))
            exact h _ _ _ hS' hc' hk'
          | _ => exact hr₂.elim
    | _ => exact hr.elim

end
section
variable {X : Cx}
/-- set(xs) of a list or a tuple of ints -/
def rSetOfI (K : PySem.W.Frag) (w : World) : List V → Hp → VK → Prop := fun xs H Q => ∃ (p : Addr) (ns : List Int), xs = [.ref p] ∧ (SqL K H p (ns.map V.int) ∨ SqT K H p (ns.map V.int)) ∧ ns.length ≤ 1000 ∧
  ∀ a c, H a = none → c ≤ ns.length → Q (.ref a) (upd H a (SetO w a (fun k => decide (k ∈ ns)) c))
theorem cr_setOfI (hc : X.calm = true) : CallR X (.type "set") (rSetOfI X.K X.w) := by
  intro pins s σ H xs us Q I r h
  obtain ⟨p, ns, rfl, hs, hl, q⟩ := h
  obtain ⟨u, rfl, ru⟩ := vals1 r
  obtain rfl : u = Value.ref p := ru
  have hb : ns.length + 1 < scanBound := by unfold scanBound; omega
  have fin : ∀ (h' : Heap) (tk c : Nat), SetR X.w h' s.heap.objs.size (fun j => decide (j ∈ ns)) c → c ≤ ns.length → (∀ b o, s.heap.get? b = some o → h'.get? b = some o) → EP X pins σ Q (.ref s.heap.objs.size) { s with heap := h', toks := tk } := fun h' tk c hS hc hk =>
    ⟨.ref _, upd H s.heap.objs.size (SetO X.w s.heap.objs.size (fun j => decide (j ∈ ns)) c), I.laid (t' := tk) hk (Nat.le_refl _) (setO_new hS), rfl, q _ c (I.hok.fresh (Nat.le_refl _)) hc⟩
  rcases hs with hs | hs
  · obtain ⟨its, rv, hl, _⟩ := I.list hs
    exact call_set_lstI ns (I.ok.hd hc) hl.isList (by simpa using ints_of_vals rv) hb fin
  · obtain ⟨its, rv, hl, _⟩ := I.tuple hs
    exact call_set_tupI ns (I.ok.hd hc) hl (by simpa using ints_of_vals rv) hb fin
end
end L2

set_option Elab.async false
set_option linter.all false
set_option maxRecDepth 100000
set_option maxHeartbeats 4000000
namespace L2
open PySem PySem.Spec PyProof.Rows
section
variable {P : Program} {w : World} {A : Around} {E : Value → Shared → Prop} {s : Shared}
set_option maxRecDepth 100000 in
set_option maxHeartbeats 3200000 in
theorem call_set_tupT {l : Addr} {items : Array Value} (ks : List (Addr × List Int)) {Q : Value → Shared → Prop} (hh : A.handled = none) (hl : s.heap.IsTuple l items) (hit : items.toList = ks.map fun p => Value.ref p.1)
    (hk : ∀ p ∈ ks, IsT P w s.heap p.2 p.1) (hfew : ks.length < 64) (hu : A.units + 3 < cLine)
    (h : ∀ (h' : Heap) (tk : Nat) L es ep t, SetTR P w h' s.heap.objs.size L es ep t → Got ks ks.length L → (∀ b o, s.heap.get? b = some o → h'.get? b = some o) → Q (.ref s.heap.objs.size) { s with heap := h', toks := tk }) :
    wpAny (model P w) A (call (.type "set") [.ref l]) Q E s := by
  have hisz : items.size = ks.length := by
    have q := congrArg List.length hit
    rw [Array.length_toList, List.length_map] at q
    exact q
  obtain ⟨c, tl, hmro⟩ := F.called_set.mro
  have hmade := F.called_set.made
  have hsub := F.called_set.sub
  refine wpAny_call (codeAny_of_tree ?_)
  show wpAny _ _ (callAny (.type "set") _) _ _ _
  refine wpAny_pure ⟨Code.quiet_builtin _ (by decide +kernel), codeAny_builtin F.entry_type_call ?_⟩
  rw [Around.under_plain (weight_type_call_type "set" [.ref l] []) rfl]
  have h1 := F.called_set.notType
  have h2 := F.called_set.canCreate
  have hct := F.typeCall_set_1 (.ref l)
  repeat (any_goals (first | assumption | wp_step))

  refine codeAny_mono (code_set_led1 (.ref l) (E := E) (Q₁ := fun obj s₁ => obj = .ref s.heap.objs.size ∧ s₁ = { s with heap := s.heap.push { cls := .type "set", dict := none, data := .set #[] 0 (.fresh 0 0 (!w.params.followText "set-order")) } }) ⟨rfl, rfl⟩) fun r s₁ hr => ?_
  cases r with
  | error e => exact hr
  | ok fl =>
    cases fl with
    | ret obj =>
      obtain ⟨rfl, rfl⟩ := hr
      have hS : (s.heap.push { cls := .type "set", dict := none, data := .set #[] 0 (.fresh 0 0 (!w.params.followText "set-order")) }).get? s.heap.objs.size = some { cls := .type "set", dict := none, data := .set #[] 0 (.fresh 0 0 (!w.params.followText "set-order")) } := Heap.get?_push_size _ rfl
      have hT : Shared.TypeIs { s with heap := s.heap.push { cls := .type "set", dict := none, data := .set #[] 0 (.fresh 0 0 (!w.params.followText "set-order")) } } (.ref s.heap.objs.size) "set" := ⟨_, hS, rfl⟩
      have hli := F.called_set.init.lookup
      have hbi := F.called_set.init.bind (.ref s.heap.objs.size)
      repeat (any_goals (first | assumption | wp_step))

      refine codeAny_mono (codeAny_call_builtin (R := wants (fun r s₂ => r = .none ∧ ∃ h' tk L es ep t, s₂ = { s with heap := h', toks := tk } ∧ SetTR P w h' s.heap.objs.size L es ep t ∧ Got ks ks.length L ∧
          (∀ b o, s.heap.get? b = some o → h'.get? b = some o)) E) F.called_set.init.plain F.entry_set_init (check_set_init_1 hT ?_)) fun r₂ s₂ hr₂ => ?_
      · obtain ⟨ol, hol, hcl, nl, hdl⟩ := hl
        obtain ⟨ocls, odict, odata, oslots⟩ := ol
        simp only at hcl hdl
        subst hcl; subst hdl
        have hol' : (s.heap.push { cls := .type "set", dict := none, data := .set #[] 0 (.fresh 0 0 (!w.params.followText "set-order")) }).get? l = some { cls := .type "tuple", dict := odict, data := .seq items nl, slots := oslots } := Heap.get?_push_of_some _ hol
        have hsls := F.sub_tuple_set
        have hslf := F.sub_tuple_frozenset
        have hne : (Value.type "tuple" == Value.type "dict") = false := by decide
        have hl1 : (s.heap.push { cls := .type "set", dict := none, data := .set #[] 0 (.fresh 0 0 (!w.params.followText "set-order")) }).IsTuple l items := ⟨_, hol', rfl, nl, rfl⟩
        unfold Builtin.«set.__init__» noKeywords Builtin.Frozenset.updateFrom
        generalize hPI : pyIter = PI
        wp_walk
        subst hPI

        refine wpAny_pyIter_tuple hl1 ?_
        refine wpAny_bind (wpAny_runValue ?_)
        have hlS : l < s.heap.objs.size := Heap.lt_size hol
        have hh3 : A.in1.in1.in1.handled = none := by simp [hh]
        have hz1 : (s.heap.push { cls := .type "set", dict := none, data := .set #[] 0 (.fresh 0 0 (!w.params.followText "set-order")) }).objs.size = s.heap.objs.size + 1 := Heap.size_push ..
        have hneI : l ≠ (s.heap.push { cls := .type "set", dict := none, data := .set #[] 0 (.fresh 0 0 (!w.params.followText "set-order")) }).objs.size := by
          rw [Heap.size_push]; exact Nat.ne_of_lt (Nat.lt_succ_of_lt hlS)
        have hSf : s.heap.objs.size ∉ [(s.heap.push { cls := .type "set", dict := none, data := .set #[] 0 (.fresh 0 0 (!w.params.followText "set-order")) }).objs.size, l] := by
          rw [Heap.size_push]; simp only [List.mem_cons, List.mem_singleton, List.not_mem_nil, or_false, not_or]
          exact ⟨Nat.ne_of_lt (Nat.lt_succ_self _), Nat.ne_of_gt hlS⟩
        have hval : ∀ (i : Nat) (v : Value), items[i]? = some v → ∃ p, ks[i]? = some p ∧ v = .ref p.1 := fun i v hv => by
          have q : items.toList[i]? = some v := by rw [Array.getElem?_toList]; exact hv
          rw [hit, List.getElem?_map] at q
          cases hq : ks[i]? with
          | none => rw [hq] at q; cases q
          | some p =>
            rw [hq] at q
            exact ⟨p, rfl, (Option.some.inj q).symm⟩
        have none_of : ∀ b, s.heap.objs.size ≤ b → s.heap.get? b = none := fun b hb => by
          cases q : s.heap.get? b with
          | none => rfl
          | some o => exact absurd (Nat.lt_of_lt_of_le (Heap.lt_size q) hb) (Nat.lt_irrefl _)
        refine set_update_tups ((Walks.tuple hh3 _ l hneI items).toS) s.heap.objs.size
          hSf ks hisz hfew hval s.heap hk (none_of _ (Nat.le_refl _)) (fun b hb => none_of b (by
            rw [List.mem_singleton.mp hb, Heap.size_push]
            exact Nat.le_succ _)) hu (items.size - 0) 0 _ (by omega) (Nat.zero_le _)
          ⟨⟨_, Heap.get?_push_size _ rfl, rfl, rfl⟩, (hl1.push _)⟩ (fun b o e => Heap.get?_push_of_some _ (Heap.get?_push_of_some _ e)) ?hS0 ?hR
        case hS0 =>
          have hget : ((s.heap.push { cls := .type "set", dict := none, data := .set #[] 0 (.fresh 0 0 (!w.params.followText "set-order")) }).push { cls := .type "tuple_iterator", data := .fields #[.ref l, .int 0 0] }).get? s.heap.objs.size
              = some { cls := .type "set", dict := none, data := .set #[] 0 (.fresh 0 0 (!w.params.followText "set-order")) } := Heap.get?_push_of_some _ hS
          exact ⟨[], #[], 0, _, setTR_fresh hget, Got.zero ks⟩
        case hR =>
          intro s' L es ep t hm hS' g' hkp
          obtain ⟨h', g2, d', tk', os'⟩ := s'
          have eg : g2 = s.gens := hm.gens
          have ed : d' = s.drawn := hm.drawn
          have eo : os' = s.os := hm.os
          subst eg; subst ed; subst eo
          show wpAny _ _ _ _ _ _
          refine wpAny_pure ?_
          show wpAny _ _ (ret Value.none) _ _ _
          rw [hisz] at g'
          exact wpAny_pure ⟨rfl, h', tk', L, es, ep, t, rfl, hS', g', hkp⟩

      · cases r₂ with
        | error e => exact hr₂
        | ok fl₂ =>
          cases fl₂ with
          | ret r =>
            obtain ⟨rfl, h', tk, L, es, ep, t, rfl, hS', g', hk'⟩ := hr₂
            repeat (any_goals (first | assumption | wp_step))
            exact h _ _ _ _ _ _ hS' g' hk'
          | _ => exact hr₂.elim
    | _ => exact hr.elim
end
section
variable {X : Cx}
/-- len(set(xs)) of a list or a tuple of tuples of ints: the set -/
def rSetOfTT (K : PySem.W.Frag) (P : Program) (w : World) : List V → Hp → VK → Prop := fun xs H Q => ∃ (l : Addr) (ks : List (Addr × List Int)), xs = [V.ref l] ∧ SqT K H l (ks.map fun p => V.ref p.1) ∧ (∀ p ∈ ks, SqT K H p.1 (p.2.map V.int)) ∧ ks.length < 64 ∧
  ∀ a L, H a = none → (∀ p ∈ L, p ∈ ks) → (∀ p ∈ ks, p.2 ∈ L.map (·.2)) → Q (.ref a) (upd H a (SetTO P w a L))
theorem cr_setOfTT (hc : X.calm = true) (hu : X.A.units + 64 < cLine) : CallR X (.type "set") (rSetOfTT X.K X.prog X.w) := by
  intro pins s σ H xs us Q I r h
  obtain ⟨l, ks, rfl, hl, hk, hf, q⟩ := h
  rw [Vals.ref1 r]
  obtain ⟨its, rv, pl, _⟩ := I.tuple hl
  have h0 : H s.heap.objs.size = none := I.hok.fresh (Nat.le_refl _)
  refine call_set_tupT (P := X.prog) (w := X.w) ks (I.ok.hd hc) pl (by simpa using refs_of_vals rv) (fun p hp => I.isT (hk p hp)) hf (by omega) fun h' tk L es ep t R g k => ?_
  exact ⟨.ref s.heap.objs.size, upd H s.heap.objs.size (SetTO X.prog X.w s.heap.objs.size L), I.laid (t' := tk) k (Nat.le_refl _) (setTO_new R.t0), rfl, q _ L h0 (fun p hp => List.mem_of_mem_take (g.sub p hp)) fun p hp => g.all p (by rw [List.take_length]; exact hp)⟩
end
end L2

set_option Elab.async false
set_option linter.all false
set_option maxRecDepth 100000
set_option maxHeartbeats 4000000
namespace L2
open PySem PySem.Spec PyProof.Rows
/-! tuples that are tracked with their object: no dict -/
def tupObj (us : List Value) : Obj := { cls := .type "tuple", data := .seq us.toArray }
section
variable {X : Cx} {e : Expr} {es : List Expr} {te : TE} {t : TA} {pos : Pos}
def tTupF (t : TA) : TE := fun σ H Q => t σ H fun xs H1 => xs.length ≤ sizeLine ∧ ∀ p us, H1 p = none → Q (.ref p) (upd H1 p (.frz (tupObj us) (.tup xs)))
theorem pe_tupF {x1} (h : PA X es t) : PE X (.Tuple es x1 pos) (tTupF t) := by
  refine ⟨fun pins s σ H Q I hq => ?_⟩
  refine wpAny_Tuple_spliced (thn (h.run pos pins s σ H _ I hq) fun us s1 ⟨xs, H1, I1, r, z, q⟩ => ⟨by rw [← r.length]; exact z, ?_⟩)
  have hf : H1 s1.heap.objs.size = none := I1.hok.fresh (Nat.le_refl _)
  refine ⟨.ref s1.heap.objs.size, _, I1.laid (t' := s1.toks) (o := .frz (tupObj us) (.tup xs)) (fun b u e => Heap.get?_push_of_some _ e) (Nat.le_refl _) ?_, rfl, q _ us hf⟩
  exact ⟨Heap.get?_push_size _ rfl, z, us, r, ⟨_, Heap.get?_push_size _ rfl, rfl, _, rfl⟩⟩
def rCatF (K : PySem.W.Frag) : R2 := fun x y H Q => ∃ a b xs ys, x = .ref a ∧ y = .ref b ∧ SqT K H a xs ∧ SqT K H b ys ∧ xs.length + ys.length ≤ sizeLine ∧
  (xs = [] → Q (.ref b) H) ∧ (xs ≠ [] → ys = [] → Q (.ref a) H) ∧ (xs ≠ [] → ys ≠ [] → ∀ p us, H p = none → Q (.ref p) (upd H p (.frz (tupObj us) (.tup (xs ++ ys)))))
theorem op_catF : OpR X (binaryOp .Add) (rCatF X.K) := by
  intro pins s σ H x y v u Q I rx ry h
  obtain ⟨a, b, xs, ys, rfl, rfl, ha, hb, hz, q0, q1, q2⟩ := h
  cases rx
  cases ry
  obtain ⟨its, r1, p1, _⟩ := I.tuple ha
  obtain ⟨its2, r2, p2, _⟩ := I.tuple hb
  by_cases hx : xs = []
  · subst hx
    cases r1
    exact cat_tup0 p1 p2 ⟨.ref b, H, I, rfl, q0 rfl⟩
  · refine HT.cat_tup p1 p2 (fun z => hx (r1.nil_iff.mp z)) (fun z => ⟨.ref a, H, I, rfl, q1 hx (r2.nil_iff.mp z)⟩) (fun z => ?_) (by rw [← r1.length, ← r2.length]; exact hz)
    refine ⟨.ref s.heap.objs.size, _, I.laid (t' := s.toks) (o := .frz (tupObj (its ++ its2)) (.tup (xs ++ ys))) (fun b ob q => Heap.get?_push_of_some _ q) (Nat.le_refl _) ?_, rfl, q2 hx (fun w => z (r2.nil_iff.mpr w)) _ _ (I.hok.fresh (Nat.le_refl _))⟩
    exact ⟨Heap.get?_push_size _ rfl, by rw [List.length_append]; exact hz, _, r1.append r2, IsTup.new _ _⟩
def rSlF (K : PySem.W.Frag) : V → Option Int → Option Int → Hp → VK → Prop := fun x lo hi H Q => ∃ a xs, x = .ref a ∧ SqT K H a xs ∧
  (HT.sIx xs.length 0 lo = 0 ∧ HT.sIx xs.length xs.length hi = xs.length → Q (.ref a) H) ∧ (¬ (HT.sIx xs.length 0 lo = 0 ∧ HT.sIx xs.length xs.length hi = xs.length) → ∀ p us, H p = none → Q (.ref p) (upd H p (.frz (tupObj us) (.tup (cutV xs lo hi)))))
theorem sl_tupF : SlR X (rSlF X.K) := by
  intro pins s σ H x v vl vu lo hi sl Q I rx hs pl pu h
  obtain ⟨a, xs, rfl, hx, q1, q2⟩ := h
  cases rx
  obtain ⟨its, r, ht, hz⟩ := I.tuple hx
  have hlen : its.toArray.size = xs.length := by rw [List.size_toArray]; exact r.length.symm
  refine ⟨"tuple", _, PyProof.Rows.slot_tuple_getitem.lookup, ht.typeIs, ?_⟩
  by_cases hw : HT.sIx xs.length 0 lo = 0 ∧ HT.sIx xs.length xs.length hi = xs.length
  · exact getItem_tuple_whole ht hs pl pu (by rw [hlen]; exact hw) ⟨.ref a, H, I, rfl, q1 hw⟩
  · refine HT.getItem_tuple_cut ht hs pl pu (by rw [hlen]; exact hw) ?_ (by rw [hlen]; exact hz)
    rw [hlen]
    refine ⟨.ref s.heap.objs.size, _, I.laid (t' := s.toks) (o := .frz (tupObj ((its.drop (HT.sIx xs.length 0 lo)).take (HT.sIx xs.length xs.length hi - HT.sIx xs.length 0 lo))) (.tup (cutV xs lo hi))) (fun b ob q => Heap.get?_push_of_some _ q) (Nat.le_refl _) ?_, rfl, q2 hw _ _ (I.hok.fresh (Nat.le_refl _))⟩
    exact ⟨Heap.get?_push_size _ rfl, Nat.le_trans (cutV_length xs lo hi) hz, _, (r.drop (HT.sIx xs.length 0 lo)).take (HT.sIx xs.length xs.length hi - HT.sIx xs.length 0 lo), IsTup.new _ _⟩
theorem call_tuple_F : CallR X (.type "tuple") (fun xs H Q => ∃ p ys, xs = [.ref p] ∧ ((SqL X.K H p ys ∧ ∀ l us, H l = none → Q (.ref l) (upd H l (.frz (tupObj us) (.tup ys)))) ∨ (SqT X.K H p ys ∧ Q (.ref p) H))) := by
  intro pins s σ H xs us Q I r h
  obtain ⟨p, ys, rfl, h⟩ := h
  obtain ⟨u, rfl, rx⟩ := vals1 r
  cases rx
  rcases h with ⟨hq, q⟩ | ⟨hq, q⟩
  · obtain ⟨its, r', pl, hz⟩ := I.list hq
    have hlen := r'.length
    refine call_tuple_list pl.isList (fun h' kp => ?_) (by simp only [List.size_toArray] <;> omega)
    have I1 : Inv X pins σ H { s with heap := h' } := I.kept (t' := s.toks) kp
    exact ⟨.ref h'.objs.size, _, I1.laid (t' := s.toks) (o := .frz (tupObj its) (.tup ys)) (fun b o e => Heap.get?_push_of_some _ e) (Nat.le_refl _) ⟨Heap.get?_push_size _ rfl, hz, its, r', IsTup.new _ _⟩, rfl, q _ _ (I1.hok.fresh (Nat.le_refl _))⟩
  · obtain ⟨its, r', pl, hz⟩ := I.tuple hq
    exact call_tuple_same pl ⟨.ref p, H, I, rfl, q⟩
end
section
variable {X : Cx}
def rRepF (K : PySem.W.Frag) : R2 := fun x y H Q => ∃ l k xs, x = .ref l ∧ y = .int k ∧ SqT K H l xs ∧ xs ≠ [] ∧ 2 ≤ k ∧ k ≤ 1000 ∧ xs.length ≤ 1000 ∧ ∀ p us, H p = none → Q (.ref p) (upd H p (.frz (tupObj us) (.tup (List.replicate k.toNat xs).flatten)))
theorem op_repF : OpR X (binaryOp .Mult) (rRepF X.K) := by
  intro pins s σ H x y v u Q I rx ry h
  obtain ⟨l, k, xs, rfl, rfl, hT, hne, h1, h2, hz, q⟩ := h
  cases rx
  obtain ⟨t, rfl⟩ := ry
  obtain ⟨its, r, ⟨⟨cls, dd, data, sl⟩, ho, hc, n, hd⟩, hs⟩ := I.tuple hT
  simp only at hc hd
  subst hc hd
  have hle : its.length = xs.length := r.length.symm
  have hn : its ≠ [] := fun e => hne (by
    rw [e] at hle
    exact List.eq_nil_of_length_eq_zero hle.symm)
  have hi : its.toArray.isEmpty = false := by
    cases its with
    | nil => exact absurd rfl hn
    | cons a b => rfl
  have hsz0 : its.toArray.size = xs.length := by rw [List.size_toArray, hle]
  have hm : ((its.toArray.size : Nat) : Int) * k ≤ 1000000 := by
    rw [hsz0]
    have a1 : ((xs.length : Nat) : Int) * k ≤ 1000 * k := Int.mul_le_mul_of_nonneg_right (by omega) (by omega)
    omega
  have flen : (List.replicate k.toNat its).flatten.length ≤ sizeLine := by
    rw [PyProof.Rows.lm_len_rep_flat, hle, sizeLine_eq]
    have a1 : k.toNat * xs.length ≤ 1000 * 1000 := Nat.mul_le_mul (by omega) hz
    omega
  have c0 : (decide (k < -(2 ^ 63)) || decide (k ≥ 2 ^ 63)) = false := by
    rw [decide_eq_false (by omega), decide_eq_false (by omega)] <;> rfl
  have c1 : (its.toArray.isEmpty || k == 1) = false := by
    rw [hi, Bool.false_or]
    exact beq_eq_false_iff_ne.mpr (by omega)
  have c2 : (decide (k ≤ 0) || its.toArray.isEmpty) = false := by
    rw [hi, Bool.or_false]
    exact decide_eq_false (by omega)
  have c4 : Builtin.Tuple.tupleTooMany (((its.toArray.size : Nat) : Int) * k) = false := by
    unfold Builtin.Tuple.tupleTooMany
    rw [sizeLine_eq]
    exact decide_eq_false (by omega)
  refine wpAny_binaryOp_repeat_ref (T := "tuple") (U := "int") (by decide) ⟨_, ho, rfl⟩ (fun s' => typeIs_int s' k t) noFill_tuple_mul F.fills_int_mul F.slot_int_rmul repeat_tuple F.slot_int_index.lookup
    (call_meets F.slot_int_rmul (typeIs_int s k t) F.entry_int_rmul (F.args_int_rmul_2 _ _) (int_rmul_tuple k t l its.toArray n dd sl)
      ⟨ho, rfl, ⟨_, ho, rfl⟩, call_meets F.slot_tuple_mul ⟨_, ho, rfl⟩ F.entry_tuple_mul (F.args_tuple_mul_2 _ _) (tuple_mulW l its.toArray n dd sl k t c0 c1 c2 (by omega) c4 (by rw [size_rep, List.size_toArray]; exact flen)) ⟨ho, ?_⟩⟩)
  rw [size_rep]
  refine ⟨.ref s.heap.objs.size, _, I.laid (t' := s.toks) (o := .frz (tupObj (List.replicate k.toNat its).flatten) (.tup (List.replicate k.toNat xs).flatten)) (fun b ob q => Heap.get?_push_of_some _ q) (Nat.le_refl _) ?_, rfl, q _ _ (I.hok.fresh (Nat.le_refl _))⟩
  exact ⟨Heap.get?_push_size _ rfl, by rw [PyProof.Rows.lm_len_rep_flat, sizeLine_eq]; have a1 : k.toNat * xs.length ≤ 1000 * 1000 := Nat.mul_le_mul (by omega) hz; omega, _, r.rep k.toNat, IsTup.new _ _⟩
end
end L2

set_option Elab.async false
set_option linter.all false
set_option maxRecDepth 100000
set_option maxHeartbeats 4000000
namespace L2
open PySem PySem.Spec PyProof.Rows
/-- several clauses 'except X as n': (the class, the name's slot, the suite) -/
def wManyAs (K : PySem.W.Frag) (n : Nat) (Wout : WX) (D : Ends) : List (Value × Nat × (Addr → Value → Option Addr → TS)) → WX
  | [] => Wout
  | (c, i, ts) :: r => fun cls d σ H => ∃ b, PySem.W.exmOne K cls c = some b ∧
      (b = true → σ.length = n → ∀ a, H a = none → ts a cls d { nx := fun σ' H' => D.nx (σ'.set i none) H', rt := D.rt, bk := fun σ' H' => D.bk (σ'.set i none) H', ct := fun σ' H' => D.ct (σ'.set i none) H' } (σ.set i (some (.ref a))) H) ∧ (b = false → wManyAs K n Wout D r cls d σ H)
inductive HdsAs (X : Cx) : List ExceptHandler → List (Value × Nat × (Addr → Value → Option Addr → TS)) → Prop
  | nil : HdsAs X [] []
  | cons {x n : Str} {c : Value} {i : Nat} {ts : Addr → Value → Option Addr → TS} {b₀ : Stmt} {suite : List Stmt} {np pos' : Pos} {hds : List ExceptHandler} {l : List (Value × Nat × (Addr → Value → Option Addr → TS))} (hc : Names X x c) (hi : X.N[i]? = some n) (hln : X.env.kindOf n = some .local)
      (hsu : ∀ (a : Addr) (oe : Obj) (cls : Value) (d : Option Addr) (pn : List (Addr × Obj)), Zc cls d oe → (∃ vs, oe.data = .fields vs) → PSs (X.suite a ((a, oe) :: pn)) (b₀ :: suite) (ts a cls d)) (r : HdsAs X hds l) :
      HdsAs X (.ExceptHandler (some (.Name x np)) (some n) (b₀ :: suite) pos' :: hds) ((c, i, ts) :: l)
section
variable {X : Cx} {body : List Stmt} {h₀ : ExceptHandler} {hds : List ExceptHandler} {l : List (Value × Nat × (Addr → Value → Option Addr → TS))} {pos : Pos} {tb : WX → TS} {Wout : WX}
theorem ps_try_manyAs (hs : X.stack = X.env :: X.outer) (hf : X.env.frame = some X.env.locals) (hN : X.N.Nodup) (tk : Takes X Wout)
    (hb : ∀ (W : WX) (pn : List (Addr × Obj)) (xe : Value → Shared → Prop), Takes (X.tr pn xe) W → PassesOwn (model X.prog X.w) X.A X.env xe → PSs (X.tr pn xe) body (tb W))
    (hh : HdsAs X (h₀ :: hds) l) : PS X (.Try body (h₀ :: hds) [] [] pos) (fun D σ H => tb (wManyAs X.K X.N.length Wout D l) D σ H) := by
  refine ⟨fun pins s σ H D I h => ?_⟩
  have ok := I.ok
  have hfr : X.A.frames = some (X.env :: X.outer) := by rw [ok.frames, hs]
  refine wpAny_Try_except ?_
  refine wpAny_mono ((hb (wManyAs X.K X.N.length Wout D l) (X.pn ++ pins) (fun e s₁ => wpAny (model X.prog X.w) X.A (noteFrame e X.env) (fun _ s₂ => wpAny (model X.prog X.w) X.A (setFlight e none) (fun _ s₃ =>
    wpAny (model X.prog X.w) X.A (handleBy e X.env (h₀ :: hds)) (SP X pins D) X.xe s₃) X.xe s₂) X.xe s₁) (fun u s' xx => ?_) PassesOwn.looking).run [] s σ H D (I.toTry _) h) (fun f s1 hsp => ?_) (fun e s1 he => he)
  · -- the catch
    obtain ⟨a, B, sI, pins', σ', H', cls, d, rfl, J', nb, up, sky, na, os, ag, w⟩ := xx
    have J : Inv X pins σ' H' sI := J'.ofTry ok
    have sky' : Sky B (X.env :: X.outer) a (Zc cls d) X.env.locals s'.heap := by rw [← hs]; exact sky
    show wpAny (model X.prog X.w) X.A (noteFrame (.ref a) X.env) _ _ _
    refine Sky.land Zc.steady hfr hf sky' fun h3 fl3 up3 => ?_
    have J3 : Inv X pins σ' H' { s' with heap := h3 } := J.landed nb fl3.1 (up.trans up3) os ag
    obtain ⟨oe3, vs3, he3, hz3, hd3⟩ := fl3.there
    have notFr : ∀ {h : Heap} {o : Obj} {vs : Array Value}, h.FunFrames B (X.env :: X.outer) → h.get? a = some o → o.data = .fields vs → a ∉ frs (X.env :: X.outer) := fun {h o vs} ff e dd hm => by
      obtain ⟨_, o', e', hnf⟩ := ff.mem hm
      rw [e] at e'; cases e'
      exact hnf _ dd
    have nfr := notFr fl3.2.2.1 he3 hd3
    have nL : a ≠ X.env.locals := fun z => nfr (List.mem_filterMap.mpr ⟨X.env, List.mem_cons_self, by rw [hf, z]⟩)
    have nF : a ∉ X.fs := fun hm => by
      obtain ⟨e, he, q⟩ := List.mem_filterMap.mp hm
      exact nfr (List.mem_filterMap.mpr ⟨e, List.mem_cons_of_mem _ he, q⟩)
    have S3 := J3.suite he3 hd3 na nL nF
    have go : ∀ {hds' : List ExceptHandler} {l' : List (Value × Nat × (Addr → Value → Option Addr → TS))}, HdsAs X hds' l' → wManyAs X.K X.N.length Wout D l' cls d σ' H' →
        wpAny (model X.prog X.w) X.A (handleBy (.ref a) X.env hds') (SP X pins D) X.xe { s' with heap := h3 } := by
      intro hds' l' hk
      induction hk with
      | nil =>
        intro w
        refine wpAny_handleBy_nil ?_
        obtain ⟨k1, k2, k3, oe, vs, T, oT, ts', he, hz, hd, h1, hr⟩ := id fl3
        unfold PySem.passOn
        refine wpAny_bind (wpAny_field he hd h1 ?_)
        rw [if_neg (show ¬ ((Value.ref T == Value.none) = true) from by simp)]
        have fin : wpAny (model X.prog X.w) X.A (setFlight (.ref a) X.env.frame) (fun _ s4 => wpAny (model X.prog X.w) X.A (throw (.ref a) : Sem Flow) (SP X pins D) X.xe s4) X.xe { s' with heap := h3 } := by
          rw [hf]
          refine HandSPX.setFlight_upZ fl3 fun h4 hh4 up4 => wpAny_throw (tk _ _ ?_)
          exact ⟨a, B, sI, pins, σ', H', cls, d, rfl, J, nb, (up.trans up3).trans up4, .inr (.inr (by rw [hs]; exact hh4)), na, os, ag, w⟩
        first
          | exact wpAny_bind (wpAny_pure (wpAny_bind fin))
          | exact wpAny_bind fin
      | @cons x n c i ts b₀ suite np pos' hds2 l2 hc hi hln hsu r ih =>
        intro w
        obtain ⟨b, hb1, hyes, hno⟩ := w
        refine wpAny_handleBy_cons (codeAny_handlers_test ?_) (by intro q; cases q)
        have LT : PySem.W.Looks (model X.prog X.w) h3 (typeOf (.ref a)) cls := fun A Q E s k q => wpAny_typeOf_ref (k _ _ he3) (by rw [hz3.1]; exact q)
        have LM := PySem.W.exm_one (M := model X.prog X.w) (J3.kIn) LT hb1
        have test : ∀ {Q : Value → Shared → Prop} {E : Value → Shared → Prop}, Q c { s' with heap := h3 } → wpAny (model X.prog X.w) (X.A.mark (some (.ref a))) (eval (.Name x np) X.env) Q E { s' with heap := h3 } := fun {Q E} q => by
          obtain ⟨hg, hdbg, hm | ⟨hm, hv, hnn⟩⟩ := hc
          · exact ld_glob (X := X.suite a ((a, oe3) :: (X.pn ++ pins))) S3 hg hm q hdbg
          · exact ld_blt (X := X.suite a ((a, oe3) :: (X.pn ++ pins))) S3 hg hm hv q hnn hdbg
        refine test (LM.here ?_)
        cases b with
        | true =>
          refine codeAny_handlers_suite_as ?_
          refine HandSPX.lands_againZ fl3 fun h4 fl4 up4 => ?_
          have hloc : Loc X.env.scope n := .inl hln
          have J4 : Inv X pins σ' H' { s' with heap := h4 } := J.landed nb fl4.1 ((up.trans up3).trans up4) os ag
          obtain ⟨oe4, vs4, he4, hz4, hd4⟩ := fl4.there
          have S4 := J4.suite he4 hd4 na nL nF
          refine store_ok (X := X.suite a ((a, oe4) :: (X.pn ++ pins))) (v := .ref a) S4 hN hi hloc rfl (fun s5 S5 => ?_) (.inr hln)
          refine wpAny_mono ((hsu a oe4 cls d (X.pn ++ pins) hz4 ⟨_, hd4⟩).run [] s5 _ H' _ S5 (hyes rfl J.len a na)) (fun f s6 hsp => ?_) (fun _ _ z => False.elim z)
          have end_ : ∀ {σ6 : St} {H6 : Hp} {Q : Shared → Prop}, Inv (X.suite a ((a, oe4) :: (X.pn ++ pins))) [] σ6 H6 s6 → (∀ s7, Inv X pins (σ6.set i none) H6 s7 → Q s7) →
              wpAny (model X.prog X.w) X.A (do bindName X.env n .none; unbindBehindTheSuite X.env n pos') (fun _ s7 => Q s7) X.xe s6 := fun {σ6 H6 Q} S6 hq => gone_ok (S6.unsuite ok) hN hi hln hq
          cases f with
          | next =>
            obtain ⟨σ6, H6, S6, q6⟩ := hsp
            exact end_ S6 fun s7 J7 => ⟨_, _, J7, q6⟩
          | brk =>
            obtain ⟨σ6, H6, S6, q6⟩ := hsp
            exact end_ S6 fun s7 J7 => ⟨_, _, J7, q6⟩
          | cont =>
            obtain ⟨σ6, H6, S6, q6⟩ := hsp
            exact end_ S6 fun s7 J7 => ⟨_, _, J7, q6⟩
          | ret u =>
            obtain ⟨v6, σ6, H6, S6, r6, q6⟩ := hsp
            exact end_ S6 fun s7 J7 => ⟨_, _, _, J7, r6, q6⟩
        | false =>
          show wpAny _ X.A (handleBy (.ref a) X.env hds2) _ _ _
          exact ih (hno rfl)
    exact go hh w
  · cases f with
    | next =>
      obtain ⟨σ', H', J', q⟩ := hsp
      exact wpAny_execs_nil ⟨σ', H', J'.ofTry ok, q⟩
    | brk =>
      obtain ⟨σ', H', J', q⟩ := hsp
      exact ⟨σ', H', J'.ofTry ok, q⟩
    | cont =>
      obtain ⟨σ', H', J', q⟩ := hsp
      exact ⟨σ', H', J'.ofTry ok, q⟩
    | ret u =>
      obtain ⟨v, σ', H', J', r, q⟩ := hsp
      exact ⟨v, σ', H', J'.ofTry ok, r, q⟩
end
end L2

set_option Elab.async false
set_option linter.all false
set_option maxRecDepth 100000
set_option maxHeartbeats 4000000
namespace LamX
open PySem PySem.Spec PyProof.Rows L2
/-- all but what lies at P stays -/
def ExtP (P : Addr) (H H' : Hp) : Prop := ∀ b o, b ≠ P → H b = some o → H' b = some o
section
variable {X : Cx} {pins : List (Addr × Obj)} {σ : L2.St} {H : Hp} {s : Shared}
/-- the lambda is made: its code object is new, or found in the table -/
theorem lam_make3 {c P : Addr} {params : Arguments} {body : Expr} {scope : Scope} {pos : Pos} {E : Value → Shared → Prop} {Q : Value → Shared → Prop} (I : Inv X pins σ H s) (TB : TabB X.base X.mg c P) (hcode : X.env.code = .ref c)
    (hT : TabS H P (X.env.qual ++ "<lambda>")) (hdef : defaultsOf params X.env = ([], [])) (hfree : ∀ y ∈ scope.names, y.2 = .free → ∃ c, X.env.cells.lookup y.1 = some c)
    (h : ∀ (f c' : Addr) (pm ctv : Value) (H1 : Hp) (s' : Shared), Inv X pins σ H1 s' → ExtP P H H1 → TabS H1 P (X.env.qual ++ "<lambda>") →
      s'.heap.get? f = some (PySem.W.kla_obj "<lambda>" (X.env.qual ++ "<lambda>") params body scope (cloFrom X.env.cells scope.names []) pm c' ctv) → H1 f = none → f ∉ frs X.stack → H1 c' = some (CodeO c' (X.env.qual ++ "<lambda>")) → Q (.ref f) s') :
    wpAny (model X.prog X.w) X.A (eval (.Lambda params body scope pos) X.env) Q E s := by
  obtain ⟨ps, hP, ht, ha⟩ := id hT
  refine PySem.W.kla_eval hdef ?_
  have bP : s.heap.BuiltinsAt X.mg P := TB.bm.keeps I.bk
  have hP' : s.heap.get? P = some { cls := .none, data := .fields ps } := I.hok P _ hP
  have nofr : ∀ f, s.heap.objs.size ≤ f → f ∉ frs X.stack := fun f hf z => by
    rcases List.mem_cons.mp (I.stkSub _ z) with e | e
    · have h1 := I.lt
      rw [← e] at h1
      exact Nat.lt_irrefl _ (Nat.lt_of_lt_of_le h1 hf)
    · exact I.nofs hf e
  cases hc : codeAmong pos ps.toList with
  | none =>
    refine PySem.W.kla_makeFunction (mg := X.mg) (c := c) (P := P) (ps := ps) (closure_ok hfree) I.ok.glob (I.mod.glob.keeps I.bk) hcode (TB.code.keeps I.bk) hP' ht hc TB.gP bP fun c' ctv h' tk hx hge hlt hrec htb => ?_
    obtain ⟨c2, oc, vs, t, e2, hoc, hd, hv⟩ := hrec
    cases e2
    have hsz : s.heap.objs.size ≤ h'.objs.size := Nat.le_trans hge (Nat.le_of_lt hlt)
    have nC : H c' = none := I.hok.fresh hge
    have I1 := inv_table (t' := tk) (more := #[rawInt pos.line, rawInt pos.col, .ref c']) (h' := h'.push (PySem.W.kla_obj "<lambda>" (X.env.qual ++ "<lambda>") params body scope (cloFrom X.env.cells scope.names []) ((X.mg "__name__").getD .none) c' ctv)) I hP
      (fun b o hb e => Heap.get?_push_of_some _ (hx b o hb e)) (Heap.get?_push_of_some _ htb) hge ⟨oc, vs, t, Heap.get?_push_of_some _ hoc, hd, hv⟩
    have hE : ExtP P H (upd (upd H P (.tbl (ps ++ #[rawInt pos.line, rawInt pos.col, .ref c']))) c' (CodeO c' (X.env.qual ++ "<lambda>"))) := fun b o hb e => by
      rw [upd_ne (ne_of_none e nC), upd_ne hb]
      exact e
    have nTc : ∀ c0 q0, H c0 = some (CodeO c0 q0) → c0 ≠ P := fun c0 q0 e z => by
      rw [z, hP] at e
      exact codeO_ne _ (Option.some.inj e).symm
    have eL : (ps ++ #[rawInt pos.line, rawInt pos.col, .ref c']).toList = ps.toList ++ [rawInt pos.line, rawInt pos.col, .ref c'] := by simp
    refine h h'.objs.size c' ((X.mg "__name__").getD .none) ctv _ _ I1 hE ?_ (Heap.get?_push_size _ rfl) ?_ (nofr _ hsz) upd_same
    · refine ⟨_, by rw [upd_ne (ne_of_none hP nC), upd_same], by rw [eL]; exact PySem.TriplesOk_snoc _ _ _ _ ht, fun p' cv hcv => ?_⟩
      rw [eL] at hcv
      rcases among_app _ ht hcv with z | z
      · obtain ⟨c0, e1, e2⟩ := ha p' cv z
        exact ⟨c0, e1, hE _ _ (nTc _ _ e2) e2⟩
      · exact ⟨c', z, upd_same⟩
    · have n1 : h'.objs.size ≠ c' := Nat.ne_of_gt hlt
      have n2 : h'.objs.size ≠ P := Nat.ne_of_gt (Nat.lt_of_lt_of_le (Heap.lt_size hP') hsz)
      rw [upd_ne n1, upd_ne n2]
      exact I.hok.fresh hsz
  | some cv =>
    obtain ⟨c', e, hco⟩ := ha pos cv hc
    subst e
    refine PySem.W.kla_makeFunctionHit (mg := X.mg) (c := c) (P := P) (ps := ps) (closure_ok hfree) I.ok.glob (I.mod.glob.keeps I.bk) hcode (TB.code.keeps I.bk) hP' ht hc bP fun ctv h' tk hx hsz => ?_
    have I1 : Inv X pins σ H { s with heap := h'.push (PySem.W.kla_obj "<lambda>" (X.env.qual ++ "<lambda>") params body scope (cloFrom X.env.cells scope.names []) ((X.mg "__name__").getD .none) c' ctv), toks := tk } := I.kept fun b o e => Heap.get?_push_of_some _ (hx b o e)
    exact h h'.objs.size c' ((X.mg "__name__").getD .none) ctv H _ I1 (fun _ _ _ e => e) hT (Heap.get?_push_size _ rfl) (I.hok.fresh hsz) (nofr _ hsz) hco
end
def tLam3 (P : Addr) (q : Str) (TT : (XK → Hp → VK → Prop) → Hp → VK → Prop) (t : XK → TE) : TE := fun σ H Q => TabS H P q ∧ ∀ H1, ExtP P H H1 → TabS H1 P q → TT (fun E H' Q' => t E σ H' Q') H1 Q
section
variable {X : Cx}
/-- x(lambda: body) -/
theorem pe_lamcall3 {TT : (XK → Hp → VK → Prop) → Hp → VK → Prop} {x a : Str} {g c P : Addr} {k : Nat} {pg : Arguments} {bg : List Stmt} {sg : Scope} {dV kV doc pm cdv ct oc : Value} {an od : Option Addr} {osl : Array (Option Value)} {Ng : List Str}
    {params : Arguments} {body : Expr} {scope : Scope} {t : XK → TE} {p lpos pos : Pos} (hg : Gl X x) (hm : X.mg x = some (.ref g)) (hk : PySem.W.keepIn X.K (.ref g) = true)
    (lk : X.K.lookup g = some ⟨oc, od, .func (PySem.W.fnOf x x pg bg sg dV kV doc pm an cdv ct), osl⟩) (hcg : PySem.W.codeIn X.K cdv x = true) (hb : L2.Binds X.K (PySem.W.fnOf x x pg bg sg dV kV doc pm an cdv ct) [a] []) (Sg : FnScope Ng [a] sg) (hNg : Ng[0]? = some a) (hva : Vis sg a)
    (hG : GivesTo X Ng x sg g cdv bg a (X.env.qual ++ "<lambda>") TT)
    (TB : TabB X.base X.mg c P) (hcode : X.env.code = .ref c) (hr : Room (k + 2) X.A) (L : LamS X.env.scope scope) (hdef : defaultsOf params X.env = ([], []))
    (hbind : ∀ (q : Str) (cl : List (Str × Addr)) (pm cv ctv : Value), bindArgs (PySem.W.kla_fn "<lambda>" q params body scope cl pm cv ctv) ⟨[], []⟩ = pure [])
    (hbody : ∀ (A : Around) (outer : List Env) (s : Shared) (H : Hp) (E : XK) (f c' : Addr), Room k (A.deeper (lamEnv X scope s.heap.objs.size f c')) → PE (lamCx X A outer s H E scope f c') body (t E))
    (hdb : (x == ("__debug__" : Str)) = false := by decide) (hd : (a == ("__debug__" : Str)) = false := by decide) (hcd : (a == ("__classdict__" : Str)) = false := by decide) :
    PE X (.Call (.Name x p) [.Lambda params body scope lpos] [] pos) (tLam3 P (X.env.qual ++ "<lambda>") TT t) := by
  refine ⟨fun pins s σ H Q I h => ?_⟩
  obtain ⟨hT, h⟩ := h
  refine wpAny_Call_Name_kw (ld_glob I hg hm ?_ hdb)
  refine PySem.W.callWith_K (h₀ := X.base) I.ok.mod.kin hk ?_ (by rfl) (by rfl)
  show wpAny _ _ (spliced ((false, eval (.Lambda params body scope lpos) X.env) :: backTo pos (starEach [] X.env))) _ _ s
  refine Calls.spliced_cons (lam_make3 I TB hcode hT hdef (L.has I.ok) fun f c' pm' ctv H1 s' I1 eN T1 hf hfn hfr hco => ?_)
  refine Calls.spliced_nil ⟨I1.kIn, ?_⟩
  have rc : codeAny (model X.prog X.w) X.A (.call (.ref g) ⟨[.ref f], []⟩) (CR C8.CX0 X.stack X.prog X.w H1 s' Q C8.E0) s' := by
    refine run_ofS (N := Ng) (ps := [a]) (us := [.ref f]) (vs := [.ref f]) lk hcg Sg hr I1.env0 (hb s' [.ref f] I1.kIn rfl) (.cons rfl .nil) rfl fun hr' => ?_
    obtain ⟨t', ht', hq'⟩ := hG f c' s' H1 Q (fun E H' Q' => t E σ H' Q') (fun W pn xe E p1 p2 tk hW => pe_act (i := 0) I1 L hf hfn hfr (hbind _ _ _ _ _) tk hW hr' (fun A outer s H hr2 => hbody A outer s H E f c' hr2) hNg hva hd hcd) hco (h H1 eN T1)
    exact ⟨t', ht'.nox, hq'⟩
  refine wpAny_call (codeAny_mono rc fun r s2 hq => ?_)
  cases r with
  | error e => exact (show False from hq).elim
  | ok fl =>
    cases fl with
    | ret u => exact I1.after hq
    | next => exact False.elim hq
    | brk => exact False.elim hq
    | cont => exact False.elim hq
end
end LamX

set_option Elab.async false
set_option linter.all false
set_option maxRecDepth 100000
set_option maxHeartbeats 2000000
set_option autoImplicit false
namespace Ev
open PySem PySem.Spec PyProof.Rows L2 GxR

/-- data: frozen lists and tuples are values; lk: a locked list (the script); ref n: the n-th object of the evaluator's heap -/
inductive D where
  | non | bl (b : Bool) | int (i : Int) | str (s : Str) | tup (ds : List D) | lst (ds : List D) | lk (ds : List D) | ref (n : Nat)
  deriving Inhabited

/-- an object of the evaluator's heap -/
inductive Ob where
  | lst (ds : List D)
  | dct (kvs : List (D × D))
  | ins (c : Nat) (fs : List (Str × D))
  deriving Inhabited

/-- the evaluator's heap: where its objects lie; and what it must not touch (a comprehension's list that is being made) -/
structure Fs where
  l : List Addr
  g : List Addr
instance : Membership Addr Fs := ⟨fun f a => a ∈ f.l ∨ a ∈ f.g⟩
theorem Fs.mem {f : Fs} {a : Addr} : a ∈ f ↔ a ∈ f.l ∨ a ∈ f.g := Iff.rfl

mutual
inductive Rep (K : PySem.W.Frag) (f : Fs) (H : Hp) : D → V → Prop
  | non : Rep K f H .non .non
  | bl (b : Bool) : Rep K f H (.bl b) (.bl b)
  | int (i : Int) : Rep K f H (.int i) (.int i)
  | str (s : Str) : Rep K f H (.str s) (.str s)
  | tup {a : Addr} {vs : List V} {ds : List D} : (((∃ us, H a = some (.frz (tupObj us) (.tup vs))) ∧ a ∉ f) ∨ ∃ (o : Obj) (its : Array Value) (n : Nat), K.lookup a = some o ∧ o.cls = .type "tuple" ∧ o.dict = none ∧ o.data = .seq its n ∧ its.size ≤ sizeLine ∧ Vals vs its.toList) → RepL K f H ds vs → Rep K f H (.tup ds) (.ref a)
  | lst {a : Addr} {vs : List V} {ds : List D} : H a = some (.lst vs) → a ∉ f → RepL K f H ds vs → Rep K f H (.lst ds) (.ref a)
  | lk {a : Addr} {vs : List V} {ds : List D} : ((Rd H a (.lst vs) ∧ a ∉ f) ∨ ∃ (o : Obj) (its : Array Value) (n : Nat), K.lookup a = some o ∧ o.cls = .type "list" ∧ o.dict = none ∧ o.data = .seq its n ∧ its.size ≤ sizeLine ∧ Vals vs its.toList) → RepL K f H ds vs → Rep K f H (.lk ds) (.ref a)
  | ref {n : Nat} {a : Addr} : f.l[n]? = some a → Rep K f H (.ref n) (.ref a)
inductive RepL (K : PySem.W.Frag) (f : Fs) (H : Hp) : List D → List V → Prop
  | nil : RepL K f H [] []
  | cons {d : D} {v : V} {ds : List D} {vs : List V} : Rep K f H d v → RepL K f H ds vs → RepL K f H (d :: ds) (v :: vs)
end

section
variable {K : PySem.W.Frag} {f f' : Fs} {H H' : Hp}
theorem RepL.length {ds : List D} {vs : List V} (h : RepL K f H ds vs) : ds.length = vs.length := by
  induction ds generalizing vs with
  | nil => cases h; rfl
  | cons d ds ih => cases h with | cons a b => simp [ih b]
theorem RepL.get {ds : List D} {vs : List V} {i : Nat} {d : D} (h : RepL K f H ds vs) (e : ds[i]? = some d) : ∃ v, vs[i]? = some v ∧ Rep K f H d v := by
  induction ds generalizing vs i with
  | nil => simp at e
  | cons x ds ih =>
    cases h with
    | cons a b =>
      cases i with
      | zero => simp at e; subst e; exact ⟨_, rfl, a⟩
      | succ i => simpa using ih b (by simpa using e)
theorem RepL.getV {ds : List D} {vs : List V} {i : Nat} {v : V} (h : RepL K f H ds vs) (e : vs[i]? = some v) : ∃ d, ds[i]? = some d ∧ Rep K f H d v := by
  induction vs generalizing ds i with
  | nil => simp at e
  | cons x vs ih =>
    cases h with
    | cons a b =>
      cases i with
      | zero => simp at e; subst e; exact ⟨_, rfl, a⟩
      | succ i => simpa using ih b (by simpa using e)
theorem RepL.append {ds es : List D} {vs us : List V} (h : RepL K f H ds vs) (g : RepL K f H es us) : RepL K f H (ds ++ es) (vs ++ us) := by
  induction ds generalizing vs with
  | nil => cases h; exact g
  | cons d ds ih => cases h with | cons a b => exact .cons a (ih b)
theorem RepL.take {ds : List D} {vs : List V} (n : Nat) (h : RepL K f H ds vs) : RepL K f H (ds.take n) (vs.take n) := by
  induction n generalizing ds vs with
  | zero => simp; exact .nil
  | succ n ih => cases h with
    | nil => simp; exact .nil
    | cons a b => simp only [List.take_succ_cons]; exact .cons a (ih b)
theorem RepL.drop {ds : List D} {vs : List V} (n : Nat) (h : RepL K f H ds vs) : RepL K f H (ds.drop n) (vs.drop n) := by
  induction n generalizing ds vs with
  | zero => simpa using h
  | succ n ih => cases h with
    | nil => simp; exact .nil
    | cons a b => simpa using ih b
theorem RepL.set {ds : List D} {vs : List V} {d : D} {v : V} (n : Nat) (h : RepL K f H ds vs) (r : Rep K f H d v) : RepL K f H (ds.set n d) (vs.set n v) := by
  induction n generalizing ds vs with
  | zero => cases h with
    | nil => exact .nil
    | cons a b => exact .cons r b
  | succ n ih => cases h with
    | nil => exact .nil
    | cons a b => exact .cons a (ih b)
theorem RepL.flat {ds : List D} {vs : List V} (h : RepL K f H ds vs) (n : Nat) : RepL K f H (List.replicate n ds).flatten (List.replicate n vs).flatten := by
  induction n with
  | zero => exact .nil
  | succ n ih => simp only [List.replicate_succ, List.flatten_cons]; exact h.append ih

mutual
theorem Rep.mono (hn : ∀ a, a ∈ f' → a ∈ f ∨ H a = none) (hp : ∀ (n : Nat) (a : Addr), f.l[n]? = some a → f'.l[n]? = some a) (hk : ∀ a o, H a = some o → a ∉ f → (∀ ps, o ≠ .tbl ps) → H' a = some o) : ∀ (d : D) (v : V), Rep K f H d v → Rep K f' H' d v
  | .non, _, .non => .non
  | .bl _, _, .bl _ => .bl _
  | .int _, _, .int _ => .int _
  | .str _, _, .str _ => .str _
  | .tup ds, _, .tup h r => by
    refine .tup ?_ (RepL.mono hn hp hk ds _ r)
    rcases h with ⟨h, n⟩ | h
    · refine .inl ⟨?_, fun z => ?_⟩
      · obtain ⟨us, h⟩ := h
        exact ⟨us, hk _ _ h n (by intro ps q; cases q)⟩
      · rcases hn _ z with y | y
        · exact n y
        · obtain ⟨us, h⟩ := h
          rw [y] at h; cases h
    · exact .inr h
  | .lst ds, _, .lst h n r => by
    refine .lst (hk _ _ h n (by intro ps q; cases q)) (fun z => ?_) (RepL.mono hn hp hk ds _ r)
    rcases hn _ z with y | y
    · exact n y
    · rw [y] at h; cases h
  | .lk ds, _, .lk h r => by
    refine .lk ?_ (RepL.mono hn hp hk ds _ r)
    rcases h with ⟨h, n⟩ | h
    · refine .inl ⟨?_, fun z => ?_⟩
      · rcases h with h | ⟨o, h⟩
        · exact .inl (hk _ _ h n (by intro ps q; cases q))
        · exact .inr ⟨o, hk _ _ h n (by intro ps q; cases q)⟩
      · rcases hn _ z with y | y
        · exact n y
        · rcases h with h | ⟨o, h⟩ <;> rw [y] at h <;> cases h
    · exact .inr h
  | .ref n, _, .ref e => .ref (hp _ _ e)
theorem RepL.mono (hn : ∀ a, a ∈ f' → a ∈ f ∨ H a = none) (hp : ∀ (n : Nat) (a : Addr), f.l[n]? = some a → f'.l[n]? = some a) (hk : ∀ a o, H a = some o → a ∉ f → (∀ ps, o ≠ .tbl ps) → H' a = some o) : ∀ (ds : List D) (vs : List V), RepL K f H ds vs → RepL K f' H' ds vs
  | [], _, .nil => .nil
  | d :: ds, _, .cons a b => .cons (Rep.mono hn hp hk d _ a) (RepL.mono hn hp hk ds _ b)
end

/-- the step from (f, H) to (f', H') -/
structure Ext (f : Fs) (H : Hp) (f' : Fs) (H' : Hp) : Prop where
  pre : f.l <+: f'.l
  gs : f'.g = f.g
  gh : ∀ a, a ∈ f.g → H' a = H a
  new : ∀ a, a ∈ f' → a ∈ f ∨ H a = none
  keep : ∀ a o, H a = some o → a ∉ f → (∀ ps, o ≠ .tbl ps) → H' a = some o
  tbl : ∀ a ps, H a = some (.tbl ps) → ∃ ps', H' a = some (.tbl ps')
theorem Ext.at {f f' : Fs} {H H' : Hp} (x : Ext f H f' H') : ∀ (n : Nat) (a : Addr), f.l[n]? = some a → f'.l[n]? = some a := fun n a e => by
  obtain ⟨t, q⟩ := x.pre
  rw [← q, List.getElem?_append_left (List.getElem?_eq_some_iff.mp e).1]; exact e
theorem Rep.ext {d : D} {v : V} (x : Ext f H f' H') (r : Rep K f H d v) : Rep K f' H' d v := r.mono x.new x.at x.keep
theorem RepL.ext {d : List D} {v : List V} (x : Ext f H f' H') (r : RepL K f H d v) : RepL K f' H' d v := r.mono x.new x.at x.keep
theorem Ext.refl : Ext f H f H := ⟨List.prefix_refl _, rfl, fun _ _ => rfl, fun _ h => .inl h, fun _ _ h _ _ => h, fun _ ps h => ⟨ps, h⟩⟩
theorem Ext.trans {f1 f2 : Fs} {H1 H2 : Hp} (a : Ext f H f1 H1) (b : Ext f1 H1 f2 H2) (htr : ∀ c, c ∈ f → H c ≠ none ∧ ∀ ps, H c ≠ some (.tbl ps)) : Ext f H f2 H2 where
  pre := a.pre.trans b.pre
  gs := b.gs.trans a.gs
  gh := fun c h => (b.gh c (by rw [a.gs]; exact h)).trans (a.gh c h)
  new := fun c h => by
    rcases b.new c h with h | h
    · exact a.new c h
    · by_cases hc : c ∈ f
      · exact .inl hc
      · refine .inr ?_
        cases e : H c with
        | none => rfl
        | some o =>
          by_cases ht : ∃ ps, o = .tbl ps
          · obtain ⟨ps, rfl⟩ := ht
            obtain ⟨ps', e'⟩ := a.tbl c ps e
            rw [h] at e'; cases e'
          · have := a.keep c o e hc (fun ps q => ht ⟨ps, q⟩)
            rw [h] at this; cases this
  keep := fun c o e hc hn => by
    have h1 := a.keep c o e hc hn
    refine b.keep c o h1 (fun z => ?_) hn
    rcases a.new c z with y | y
    · exact hc y
    · rw [e] at y; cases y
  tbl := fun c ps e => by
    obtain ⟨ps', e'⟩ := a.tbl c ps e
    exact b.tbl c ps' e'
/-- a new object at p -/
theorem Ext.upd {p : Addr} {o : HO} (h : H p = none) (hg : p ∉ f) : Ext f H f (upd H p o) :=
  ⟨List.prefix_refl _, rfl, fun a ha => upd_ne fun z => hg (.inr (z ▸ ha)), fun _ h => .inl h, fun a u e _ _ => by rw [upd_ne (ne_of_none e h)]; exact e, fun a ps e => ⟨ps, by rw [upd_ne (ne_of_none e h)]; exact e⟩⟩
end

/-- keys of a dict of the evaluator's, and the object: by what is true of it (filled in later) -/
def ObRep (K : PySem.W.Frag) (clsA : Nat → Option Addr) (f : Fs) (H : Hp) (a : Addr) : Ob → Prop
  | .lst ds => ∃ vs, H a = some (.lst vs) ∧ RepL K f H ds vs
  | .dct _ => False
  | .ins c fs => ∃ C dx vs, clsA c = some C ∧ H a = some (.ins C dx ((fs.map (·.1)).zip vs)) ∧ RepL K f H (fs.map (·.2)) vs

/-- what stands still -/
structure Sx where
  P : Program
  w : World
  K : PySem.W.Frag
  mg : Str → Option Value
  base : Heap
  tabs : List Addr
  tq : List (Addr × Str)
  clsA : Nat → Option Addr
  exA : Nat → Option (Addr × List Str)

/-- a table of lambdas is not touched by a write -/
theorem tq_upd {H : Hp} {P p : Addr} {q : Str} {o : HO} (t : LamX.TabS H P q) (h1 : ∀ ps, H p ≠ some (.tbl ps)) (h2 : ∀ c q, H p ≠ some (LamX.CodeO c q)) : LamX.TabS (L2.upd H p o) P q := by
  obtain ⟨ps, a1, a2, a3⟩ := t
  have ne : P ≠ p := fun z => h1 ps (z ▸ a1)
  refine ⟨ps, by rw [upd_ne ne]; exact a1, a2, fun pos cv hc => ?_⟩
  obtain ⟨c, e1, e2⟩ := a3 pos cv hc
  exact ⟨c, e1, by rw [upd_ne (show c ≠ p from fun z => h2 c q (z ▸ e2))]; exact e2⟩
structure RR (S : Sx) (f : Fs) (H : Hp) (h : List Ob) : Prop where
  len : f.l.length = h.length
  nd : f.l.Nodup
  dj : ∀ a, a ∈ f.g → a ∉ f.l
  gt : ∀ a, a ∈ f.g → H a ≠ none ∧ ∀ ps, H a ≠ some (.tbl ps)
  obj : ∀ (n : Nat) (o : Ob), h[n]? = some o → ∃ a, f.l[n]? = some a ∧ ObRep S.K S.clsA f H a o
  tab : ∀ P ∈ S.tabs, TabG H P
  gq : ∀ a, a ∈ f.g → ∀ c q, H a ≠ some (LamX.CodeO c q)
  tq : ∀ p ∈ S.tq, LamX.TabS H p.1 p.2
section
variable {S : Sx} {f f' : Fs} {H H' : Hp} {h h' : List Ob}
theorem ObRep.some {K : PySem.W.Frag} {clsA : Nat → Option Addr} {a : Addr} {o : Ob} (r : ObRep K clsA f H a o) : H a ≠ none ∧ ∀ ps, H a ≠ some (.tbl ps) := by
  cases o with
  | lst ds => obtain ⟨vs, e, _⟩ := r; rw [e]; exact ⟨by simp, fun ps q => by cases q⟩
  | dct _ => exact r.elim
  | ins c fs => obtain ⟨C, dx, vs, _, e, _⟩ := r; rw [e]; exact ⟨by simp, fun ps q => by cases q⟩
theorem ObRep.ncode {K : PySem.W.Frag} {clsA : Nat → Option Addr} {a : Addr} {o : Ob} (r : ObRep K clsA f H a o) (c : Addr) (q : Str) : H a ≠ Option.some (LamX.CodeO c q) := by
  cases o with
  | lst ds => obtain ⟨vs, e, _⟩ := r; rw [e]; intro z; unfold LamX.CodeO at z; cases z
  | dct _ => exact r.elim
  | ins c fs => obtain ⟨C, dx, vs, _, e, _⟩ := r; rw [e]; intro z; unfold LamX.CodeO at z; cases z
theorem RR.at (r : RR S f H h) {a : Addr} (ha : a ∈ f.l) : ∃ (n : Nat) (o : Ob), f.l[n]? = some a ∧ h[n]? = some o ∧ ObRep S.K S.clsA f H a o := by
  obtain ⟨n, hn, e⟩ := List.getElem_of_mem ha
  have hn' : n < h.length := by rw [← r.len]; exact hn
  obtain ⟨b, e1, e2⟩ := r.obj n h[n] (List.getElem?_eq_getElem hn')
  have e0 : f.l[n]? = some a := by rw [List.getElem?_eq_getElem hn, e]
  rw [e0] at e1; cases e1
  exact ⟨n, _, e0, List.getElem?_eq_getElem hn', e2⟩
theorem RR.tr (r : RR S f H h) : ∀ c, c ∈ f → H c ≠ none ∧ ∀ ps, H c ≠ some (.tbl ps) := fun c hc => by
  rcases hc with hc | hc
  · obtain ⟨n, o, _, _, q⟩ := r.at hc
    exact q.some
  · exact r.gt c hc
theorem RR.ntr (r : RR S f H h) {a : Addr} (h0 : H a = none) : a ∉ f := fun z => (r.tr a z).1 h0
theorem ObRep.ext {K : PySem.W.Frag} {clsA : Nat → Option Addr} {a : Addr} {o : Ob} (x : Ext f H f' H') (e : H' a = H a) (r : ObRep K clsA f H a o) : ObRep K clsA f' H' a o := by
  cases o with
  | lst ds => obtain ⟨vs, e1, q⟩ := r; exact ⟨vs, by rw [e]; exact e1, q.ext x⟩
  | dct _ => exact r.elim
  | ins c fs => obtain ⟨C, dx, vs, q1, e1, q⟩ := r; exact ⟨C, dx, vs, q1, by rw [e]; exact e1, q.ext x⟩
/-- a new object at p, not of the evaluator's -/
theorem RR.upd {p : Addr} {o : HO} (r : RR S f H h) (hp : H p = none) : RR S f (L2.upd H p o) h :=
  ⟨r.len, r.nd, r.dj, fun a ha => by rw [upd_ne fun z => (r.gt a ha).1 (by rw [z]; exact hp)]; exact r.gt a ha, fun n ob e => by
    obtain ⟨a, e1, q⟩ := r.obj n ob e
    exact ⟨a, e1, q.ext (.upd hp (r.ntr hp)) (upd_ne fun z => q.some.1 (by rw [z]; exact hp))⟩, fun P hP => by
    obtain ⟨ps, e, t⟩ := r.tab P hP
    exact ⟨ps, by rw [upd_ne (ne_of_none e hp)]; exact e, t⟩, fun a ha => by rw [upd_ne fun z => (r.gt a ha).1 (by rw [z]; exact hp)]; exact r.gq a ha,
   fun q hq => tq_upd (r.tq q hq) (fun ps z => by rw [hp] at z; cases z) (fun c q z => by rw [hp] at z; cases z)⟩
theorem RR.ex {p : Addr} {o : HO} (r : RR S f H h) (hp : H p = none) : Ext f H f (L2.upd H p o) := .upd hp (r.ntr hp)
end
end Ev

set_option Elab.async false
set_option linter.all false
set_option maxRecDepth 100000
set_option maxHeartbeats 2000000
set_option autoImplicit false
namespace Ev
open PySem PySem.Spec PyProof.Rows L2 GxR

/-! ### data as the library's data -/
def pyL (p : D → Option PyData) : List D → Option (List PyData)
  | [] => some []
  | d :: ds => match p d, pyL p ds with
    | some x, some xs => some (x :: xs)
    | _, _ => none
def pyk : Nat → D → Option PyData
  | 0, _ => none
  | k + 1, d => match d with
    | .non => some .none
    | .bl b => some (.bool b)
    | .int i => some (.int i)
    | .str s => some (.str s)
    | .tup ds => (pyL (pyk k) ds).map .tuple
    | .lst ds => (pyL (pyk k) ds).map .list
    | .lk _ => none
    | .ref _ => none
def D.py (d : D) : Option PyData := pyk 12 d
def D.pyL (ds : List D) : Option (List PyData) := Ev.pyL (pyk 11) ds
/-- .. a list of the heap too, at the top -/
def D.pyH (h : List Ob) : D → Option PyData
  | .ref n => match h[n]? with
    | some (.lst ds) => (D.pyL ds).map .list
    | _ => none
  | d => d.py

section
variable {K : PySem.W.Frag} {f : Fs} {H : Hp}
theorem pyL_dp {p : D → Option PyData} (hp : ∀ d v x, Rep K f H d v → p d = some x → Dp K H v x) : ∀ (ds : List D) (vs : List V) (ps : List PyData), RepL K f H ds vs → pyL p ds = some ps → DpAll K H vs ps
  | [], _, _, .nil, e => by simp [pyL] at e; subst e; exact .nil
  | d :: ds, _, ps, .cons a b, e => by
    unfold pyL at e
    split at e
    · rename_i x xs h1 h2
      cases e
      exact .cons (hp d _ _ a h1) (pyL_dp hp ds _ _ b h2)
    · cases e
theorem pyk_dp : ∀ (k : Nat) (d : D) (v : V) (p : PyData), Rep K f H d v → pyk k d = some p → Dp K H v p
  | 0, _, _, _, _, e => by cases e
  | k + 1, d, v, p, r, e => by
    cases r with
    | non => cases e; exact .non
    | bl b => cases e; exact .bl _
    | int b => cases e; exact .int _
    | str b => cases e; exact .str _
    | tup h r =>
      obtain ⟨ps, e1, rfl⟩ := Option.map_eq_some_iff.mp (show (pyL (pyk k) _).map PyData.tuple = some p from e)
      refine .tup ?_ (pyL_dp (fun d v x a b => pyk_dp k d v x a b) _ _ _ r e1)
      rcases h with ⟨⟨us, h⟩, _⟩ | ⟨o, its, n, h1, h2, _, h3⟩
      · exact .inl (.inr ⟨_, h⟩)
      · exact .inr ⟨o, its, n, h1, h2, h3⟩
    | lst h n r =>
      obtain ⟨ps, e1, rfl⟩ := Option.map_eq_some_iff.mp (show (pyL (pyk k) _).map PyData.list = some p from e)
      exact .lst (SqL.of h) (pyL_dp (fun d v x a b => pyk_dp k d v x a b) _ _ _ r e1)
    | lk _ _ => cases e
    | ref _ => cases e
end
theorem pyL_ok {p : D → Option PyData} {m : Nat} (hp : ∀ d x, p d = some x → x.plain = true ∧ x.depth ≤ m) : ∀ (ds : List D) (ps : List PyData), pyL p ds = some ps → PyData.plainAll ps = true ∧ PyData.depthAll ps ≤ m
  | [], _, e => by simp [pyL] at e; subst e; simp [PyData.plainAll, PyData.depthAll]
  | d :: ds, ps, e => by
    unfold pyL at e
    split at e
    · rename_i x xs h1 h2
      cases e
      obtain ⟨a, b⟩ := hp d x h1
      obtain ⟨c, e⟩ := pyL_ok hp ds xs h2
      exact ⟨by simp [PyData.plainAll, a, c], by simp only [PyData.depthAll]; exact Nat.max_le.mpr ⟨b, e⟩⟩
    · cases e
theorem pyk_ok : ∀ (k : Nat) (d : D) (p : PyData), pyk k d = some p → p.plain = true ∧ p.depth ≤ k
  | 0, _, _, e => by cases e
  | k + 1, d, p, e => by
    cases d with
    | non => cases e; simp [PyData.plain, PyData.depth]
    | bl b => cases e; simp [PyData.plain, PyData.depth]
    | int b => cases e; simp [PyData.plain, PyData.depth]
    | str b => cases e; simp [PyData.plain, PyData.depth]
    | tup ds =>
      obtain ⟨ps, e1, rfl⟩ := Option.map_eq_some_iff.mp (show (pyL (pyk k) _).map PyData.tuple = some p from e)
      obtain ⟨a, b⟩ := pyL_ok (fun d x a => pyk_ok k d x a) _ _ e1
      exact ⟨by simp only [PyData.plain]; exact a, by simp only [PyData.depth]; omega⟩
    | lst ds =>
      obtain ⟨ps, e1, rfl⟩ := Option.map_eq_some_iff.mp (show (pyL (pyk k) _).map PyData.list = some p from e)
      obtain ⟨a, b⟩ := pyL_ok (fun d x a => pyk_ok k d x a) _ _ e1
      exact ⟨by simp only [PyData.plain]; exact a, by simp only [PyData.depth]; omega⟩
    | lk _ => cases e
    | ref _ => cases e
theorem D.pyH_ref {h : List Ob} {n : Nat} {p : PyData} (e : D.pyH h (.ref n) = some p) : ∃ ds ps, h[n]? = some (.lst ds) ∧ D.pyL ds = some ps ∧ p = .list ps := by
  have e : (match h[n]? with
    | some (.lst ds) => (D.pyL ds).map PyData.list
    | _ => none) = some p := e
  cases hn : h[n]? with
  | none => rw [hn] at e; cases e
  | some o =>
    rw [hn] at e
    cases o with
    | lst ds =>
      have e : (D.pyL ds).map PyData.list = some p := e
      obtain ⟨ps, e1, e2⟩ := Option.map_eq_some_iff.mp e
      exact ⟨ds, ps, rfl, e1, e2.symm⟩
    | dct _ => cases e
    | ins _ _ => cases e
theorem D.pyH_of_ref {h : List Ob} {n : Nat} {ds : List D} {ps : List PyData} (hn : h[n]? = some (.lst ds)) (e : D.pyL ds = some ps) : D.pyH h (.ref n) = some (.list ps) := by
  show (match h[n]? with
    | some (.lst ds) => (D.pyL ds).map PyData.list
    | _ => none) = _
  rw [hn]
  show (D.pyL ds).map PyData.list = _
  rw [e]; rfl
theorem D.pyH_ok {h : List Ob} {d : D} {p : PyData} (e : d.pyH h = some p) : p.plain = true ∧ p.depth ≤ 12 := by
  cases d with
  | ref n =>
    obtain ⟨ds, ps, hn, e1, rfl⟩ := D.pyH_ref e
    obtain ⟨a, b⟩ := pyL_ok (fun d x a => pyk_ok 11 d x a) _ _ e1
    exact ⟨by simp only [PyData.plain]; exact a, by simp only [PyData.depth]; omega⟩
  | non => exact pyk_ok 12 .non p e
  | bl b => exact pyk_ok 12 (.bl b) p e
  | int b => exact pyk_ok 12 (.int b) p e
  | str b => exact pyk_ok 12 (.str b) p e
  | tup b => exact pyk_ok 12 (.tup b) p e
  | lst b => exact pyk_ok 12 (.lst b) p e
  | lk b => exact pyk_ok 12 (.lk b) p e
theorem Rep.dpH {S : Sx} {f : Fs} {H : Hp} {h : List Ob} {d : D} {v : V} {p : PyData} (r : RR S f H h) (q : Rep S.K f H d v) (e : d.pyH h = some p) : Dp S.K H v p := by
  cases d with
  | ref n =>
    obtain ⟨ds, ps, hn, e1, rfl⟩ := D.pyH_ref e
    cases q with
    | ref ha =>
      obtain ⟨a', e2, vs, e3, q2⟩ := r.obj n _ hn
      rw [ha] at e2; cases e2
      exact .lst (SqL.of e3) (pyL_dp (fun d v x a b => pyk_dp 11 d v x a b) ds _ ps q2 e1)
  | non => exact pyk_dp 12 .non _ p q e
  | bl b => exact pyk_dp 12 (.bl b) _ p q e
  | int b => exact pyk_dp 12 (.int b) _ p q e
  | str b => exact pyk_dp 12 (.str b) _ p q e
  | tup b => exact pyk_dp 12 (.tup b) _ p q e
  | lst b => exact pyk_dp 12 (.lst b) _ p q e
  | lk b => exact pyk_dp 12 (.lk b) _ p q e

/-! ### comparisons -/
inductive Cop | eq | ne | lt | le | gt | ge | isn | isnn | isin | nin
  deriving DecidableEq
def Cop.op : Cop → CmpOp
  | .eq => .Eq | .ne => .NotEq | .lt => .Lt | .le => .LtE | .gt => .Gt | .ge => .GtE | .isn => .Is | .isnn => .IsNot | .isin => .In | .nin => .NotIn
def ordOk (x y : PyData) : Bool := PySem.W.alike x y && (match x with | .none => false | _ => true)
def D.isNon : D → Bool
  | .non => true
  | _ => false
/-- the items of a list or a tuple -/
def D.items (h : List Ob) : D → Option (List D)
  | .tup ds => some ds
  | .lst ds => some ds
  | .lk ds => some ds
  | .ref n => match h[n]? with
    | some (.lst ds) => some ds
    | _ => none
  | _ => none
def inP (ps : List PyData) (x : PyData) : Bool := ps.any fun z => PyData.eqv z x
/-- x is True, x is False: of a truth value -/
def isBl : D → D → Option Bool
  | .bl j, .bl k => some (j == k)
  | _, _ => none
def cmpD (h : List Ob) (o : Cop) (a b : D) : Option Bool :=
  match o with
  | .isn => if b.isNon then some a.isNon else isBl a b
  | .isnn => if b.isNon then some (!a.isNon) else (isBl a b).map (!·)
  | .isin => match a.pyH h, b.items h with
    | some x, some ds => (D.pyL ds).map fun ps => inP ps x
    | _, _ => none
  | .nin => match a.pyH h, b.items h with
    | some x, some ds => (D.pyL ds).map fun ps => !inP ps x
    | _, _ => none
  | .eq => match a.pyH h, b.pyH h with
    | some x, some y => some (PyData.eqv x y)
    | _, _ => none
  | .ne => match a.pyH h, b.pyH h with
    | some x, some y => some (!PyData.eqv x y)
    | _, _ => none
  | .lt => match a.pyH h, b.pyH h with
    | some x, some y => if ordOk x y then some (PySem.W.dataLt x y) else none
    | _, _ => none
  | .le => match a.pyH h, b.pyH h with
    | some x, some y => if ordOk x y then some (!PySem.W.dataLt y x) else none
    | _, _ => none
  | .gt => match a.pyH h, b.pyH h with
    | some x, some y => if ordOk x y then some (PySem.W.dataLt y x) else none
    | _, _ => none
  | .ge => match a.pyH h, b.pyH h with
    | some x, some y => if ordOk x y then some (!PySem.W.dataLt x y) else none
    | _, _ => none

/-- an operation's reading: the evaluator's result -/
def rPure (S : Sx) (op : List Ob → D → D → Option D) : R2 := fun x y H Q => ∃ (f : Fs) (h : List Ob) (a b r : D), RR S f H h ∧ Rep S.K f H a x ∧ Rep S.K f H b y ∧ op h a b = some r ∧
  ∀ H' v, Ext f H f H' → RR S f H' h → Rep S.K f H' r v → Q v H'
def cmpB (o : Cop) (h : List Ob) (a b : D) : Option D := (cmpD h o a b).map .bl

structure XS (S : Sx) (X : Cx) : Prop where
  P : X.prog = S.P
  w : X.w = S.w
  K : X.K = S.K
  mg : X.mg = S.mg
  base : X.base = S.base

theorem Rep.isNon {K : PySem.W.Frag} {f : Fs} {H : Hp} {d : D} {v : V} (r : Rep K f H d v) : d.isNon = decide (v = .non) := by
  cases r <;> simp [D.isNon]
theorem D.items_ref {h : List Ob} {n : Nat} {ds : List D} (e : D.items h (.ref n) = some ds) : h[n]? = some (.lst ds) := by
  have e : (match h[n]? with
    | some (.lst ds) => some ds
    | _ => none) = some ds := e
  cases hn : h[n]? with
  | none => rw [hn] at e; cases e
  | some o =>
    rw [hn] at e
    cases o with
    | lst es => cases e; rfl
    | dct _ => cases e
    | ins _ _ => cases e
/-- items stand as a list or a tuple -/
theorem Rep.items {S : Sx} {f : Fs} {H : Hp} {h : List Ob} {d : D} {v : V} {ds : List D} (r : RR S f H h) (q : Rep S.K f H d v) (e : d.items h = some ds) :
    ∃ a vs, v = .ref a ∧ RepL S.K f H ds vs ∧ ((SqL S.K H a vs ∧ ∀ es, d ≠ .tup es) ∨ (SqT S.K H a vs ∧ d = .tup ds)) := by
  cases q with
  | @tup a vs es h1 rs =>
    cases e
    refine ⟨a, vs, rfl, rs, .inr ⟨?_, rfl⟩⟩
    rcases h1 with ⟨⟨us, h⟩, _⟩ | ⟨o, its, n, h1, h2, _, h3⟩
    · exact .inl (.inr ⟨_, h⟩)
    · exact .inr ⟨o, its, n, h1, h2, h3⟩
  | @lst a vs es h1 _ rs => cases e; exact ⟨a, vs, rfl, rs, .inl ⟨SqL.of h1, fun es z => by cases z⟩⟩
  | @lk a vs es h1 rs =>
    cases e
    refine ⟨a, vs, rfl, rs, .inl ⟨?_, fun es z => by cases z⟩⟩
    rcases h1 with ⟨h1, _⟩ | h1
    · exact .inl h1
    · exact .inr h1
  | ref ha =>
    obtain ⟨a', e2, vs, e3, q2⟩ := r.obj _ _ (D.items_ref e)
    rw [ha] at e2; cases e2
    exact ⟨_, vs, rfl, q2, .inl ⟨SqL.of e3, fun es z => by cases z⟩⟩
  | _ => cases e

section
variable {S : Sx} {X : Cx}
theorem op_cmp (xs : XS S X) (hu : X.A.units + 65 < cLine) (o : Cop) : OpR X (compareOp o.op) (rPure S (cmpB o)) := by
  intro pins s σ H x y v u Q I rx ry ⟨f, h, a, b, r, hR, ra, rb, ho, hq⟩
  unfold cmpB at ho
  simp only [Option.map_eq_some_iff] at ho
  obtain ⟨k, ho, rfl⟩ := ho
  have fin : Q (.bl k) H := hq H (.bl k) .refl hR (.bl k)
  have K := xs.K
  have rda : ∀ {p}, a.pyH h = some p → ∃ as, Reads s.heap v p as := fun e => Dp.reads I _ x v (by rw [K]; exact ra.dpH hR e) rx
  have rdb : ∀ {p}, b.pyH h = some p → ∃ as, Reads s.heap u p as := fun e => Dp.reads I _ y u (by rw [K]; exact rb.dpH hR e) ry
  have its : ∀ {ds ps}, b.items h = some ds → D.pyL ds = some ps → (∃ as, Reads s.heap u (.list ps) as) ∨ ∃ as, Reads s.heap u (.tuple ps) as := fun {ds ps} e1 e2 => by
    obtain ⟨a, vs, rfl, rl, q⟩ := rb.items hR e1
    have dp := pyL_dp (fun d v x a b => pyk_dp 11 d v x a b) ds _ ps rl e2
    rcases q with ⟨q, _⟩ | ⟨q, _⟩
    · exact .inl (Dp.reads I _ _ u (by rw [K]; exact Dp.lst q dp) ry)
    · exact .inr (Dp.reads I _ _ u (by rw [K]; exact Dp.tup q dp) ry)
  have bnd : ∀ {p q : PyData}, p.depth ≤ 12 → X.A.units + min p.depth q.depth < cLine := fun {p q} e => by
    have := Nat.min_le_left p.depth q.depth
    omega
  cases o with
  | isn =>
    simp only [cmpD] at ho
    split at ho
    · rename_i hb
      cases ho
      have e2 := rb.isNon
      rw [hb] at e2
      have e2 : y = .non := by simpa using e2.symm
      rw [ra.isNon] at fin
      exact op_isN pins s σ H x y v u Q I rx ry ⟨e2, fin⟩
    · cases ra <;> cases rb <;> first | (cases ho; done) | skip
      rename_i j l _
      cases ho
      cases (show v = Value.bool j from rx)
      cases (show u = Value.bool l from ry)
      exact wpAny_is_plain rfl (fin_bl I fin (by cases j <;> cases l <;> rfl))
  | isnn =>
    simp only [cmpD] at ho
    split at ho
    · rename_i hb
      cases ho
      have e2 := rb.isNon
      rw [hb] at e2
      have e2 : y = .non := by simpa using e2.symm
      rw [ra.isNon] at fin
      exact op_notN pins s σ H x y v u Q I rx ry ⟨e2, fin⟩
    · obtain ⟨k2, hk, e2⟩ := Option.map_eq_some_iff.mp ho
      clear ho
      subst e2
      cases ra <;> cases rb <;> first | (cases hk; done) | skip
      rename_i j l _
      cases hk
      cases (show v = Value.bool j from rx)
      cases (show u = Value.bool l from ry)
      exact wpAny_isNot_plain rfl (fin_bl I fin (by cases j <;> cases l <;> rfl))
  | isin =>
    simp only [cmpD] at ho
    split at ho
    · rename_i p ds h1 h2
      obtain ⟨ps, e1, rfl⟩ := Option.map_eq_some_iff.mp ho
      obtain ⟨as, r1⟩ := rda h1
      obtain ⟨o1, o2⟩ := D.pyH_ok h1
      obtain ⟨o3, o4⟩ := pyL_ok (fun d x a => pyk_ok 11 d x a) _ _ e1
      have hb : X.A.units + 1 + min (PyData.depthAll ps) p.depth < cLine := by
        have := Nat.min_le_right (PyData.depthAll ps) p.depth
        omega
      rcases its h2 e1 with ⟨bs, r2⟩ | ⟨bs, r2⟩
      · exact SeqAt.in_list_data r2 r1 o3 o1 hb ⟨.bl _, H, I, rfl, fin⟩
      · exact SeqAt.in_tuple_data r2 r1 o3 o1 hb ⟨.bl _, H, I, rfl, fin⟩
    · cases ho
  | nin =>
    simp only [cmpD] at ho
    split at ho
    · rename_i p ds h1 h2
      obtain ⟨ps, e1, rfl⟩ := Option.map_eq_some_iff.mp ho
      obtain ⟨as, r1⟩ := rda h1
      obtain ⟨o1, o2⟩ := D.pyH_ok h1
      obtain ⟨o3, o4⟩ := pyL_ok (fun d x a => pyk_ok 11 d x a) _ _ e1
      have hb : X.A.units + 1 + min (PyData.depthAll ps) p.depth < cLine := by
        have := Nat.min_le_right (PyData.depthAll ps) p.depth
        omega
      rcases its h2 e1 with ⟨bs, r2⟩ | ⟨bs, r2⟩
      · exact SeqAt.notIn_list_data r2 r1 o3 o1 hb ⟨.bl _, H, I, rfl, fin⟩
      · exact SeqAt.notIn_tuple_data r2 r1 o3 o1 hb ⟨.bl _, H, I, rfl, fin⟩
    · cases ho
  | eq =>
    simp only [cmpD] at ho
    split at ho
    · rename_i p q h1 h2
      cases ho
      obtain ⟨as, r1⟩ := rda h1
      obtain ⟨bs, r2⟩ := rdb h2
      exact SeqAt.eq_plain r1 r2 (D.pyH_ok h1).1 (D.pyH_ok h2).1 (bnd (D.pyH_ok h1).2) ⟨.bl _, H, I, rfl, fin⟩
    · cases ho
  | ne =>
    simp only [cmpD] at ho
    split at ho
    · rename_i p q h1 h2
      cases ho
      obtain ⟨as, r1⟩ := rda h1
      obtain ⟨bs, r2⟩ := rdb h2
      exact SeqAt.ne_plain r1 r2 (D.pyH_ok h1).1 (D.pyH_ok h2).1 (bnd (D.pyH_ok h1).2) ⟨.bl _, H, I, rfl, fin⟩
    · cases ho
  | lt =>
    simp only [cmpD] at ho
    split at ho
    · rename_i p q h1 h2
      split at ho
      · rename_i hs
        cases ho
        simp only [ordOk, Bool.and_eq_true] at hs
        obtain ⟨as, r1⟩ := rda h1
        obtain ⟨bs, r2⟩ := rdb h2
        exact PySem.W.lt_data r1 r2 hs.1 (fun z => by rw [z] at hs; simp at hs) (bnd (D.pyH_ok h1).2) ⟨.bl _, H, I, rfl, fin⟩
      · cases ho
    · cases ho
  | le =>
    simp only [cmpD] at ho
    split at ho
    · rename_i p q h1 h2
      split at ho
      · rename_i hs
        cases ho
        simp only [ordOk, Bool.and_eq_true] at hs
        obtain ⟨as, r1⟩ := rda h1
        obtain ⟨bs, r2⟩ := rdb h2
        exact PySem.W.le_data r1 r2 hs.1 (fun z => by rw [z] at hs; simp at hs) (bnd (D.pyH_ok h1).2) ⟨.bl _, H, I, rfl, fin⟩
      · cases ho
    · cases ho
  | gt =>
    simp only [cmpD] at ho
    split at ho
    · rename_i p q h1 h2
      split at ho
      · rename_i hs
        cases ho
        simp only [ordOk, Bool.and_eq_true] at hs
        obtain ⟨as, r1⟩ := rda h1
        obtain ⟨bs, r2⟩ := rdb h2
        exact PySem.W.gt_data r1 r2 hs.1 (fun z => by rw [z] at hs; simp at hs) (bnd (D.pyH_ok h1).2) ⟨.bl _, H, I, rfl, fin⟩
      · cases ho
    · cases ho
  | ge =>
    simp only [cmpD] at ho
    split at ho
    · rename_i p q h1 h2
      split at ho
      · rename_i hs
        cases ho
        simp only [ordOk, Bool.and_eq_true] at hs
        obtain ⟨as, r1⟩ := rda h1
        obtain ⟨bs, r2⟩ := rdb h2
        exact PySem.W.ge_data r1 r2 hs.1 (fun z => by rw [z] at hs; simp at hs) (bnd (D.pyH_ok h1).2) ⟨.bl _, H, I, rfl, fin⟩
      · cases ho
    · cases ho
end
end Ev

set_option Elab.async false
set_option autoImplicit false
namespace Ev
/-! ### a sort that the kernel can run -/
def insS {α : Type} (le : α → α → Bool) (a : α) : List α → List α
  | [] => [a]
  | b :: bs => if le a b then a :: b :: bs else b :: insS le a bs
def isort {α : Type} (le : α → α → Bool) : List α → List α
  | [] => []
  | a :: as => insS le a (isort le as)
theorem insS_at {α : Type} {le : α → α → Bool} {a : α} : ∀ {l1 l2 : List α}, (∀ b ∈ l1, (!le a b) = true) → (∀ b ∈ l2, le a b = true) → insS le a (l1 ++ l2) = l1 ++ a :: l2
  | [], [], _, _ => rfl
  | [], b :: bs, _, h => by
    show (if le a b then a :: b :: bs else b :: insS le a bs) = _
    rw [if_pos (h b List.mem_cons_self)]
    rfl
  | c :: cs, l2, h1, h2 => by
    show (if le a c then a :: c :: (cs ++ l2) else c :: insS le a (cs ++ l2)) = _
    have := h1 c List.mem_cons_self
    rw [if_neg (by simpa using this), insS_at (fun b hb => h1 b (List.mem_cons_of_mem _ hb)) h2]
    rfl
theorem isort_eq {α : Type} {le : α → α → Bool} (tr : ∀ a b c : α, le a b = true → le b c = true → le a c = true) (tot : ∀ a b : α, (le a b || le b a) = true) : ∀ l : List α, l.mergeSort le = isort le l
  | [] => by simp [isort]
  | a :: l => by
    obtain ⟨l1, l2, h1, h2, h3⟩ := List.mergeSort_cons tr tot a l
    have hs := List.pairwise_mergeSort tr tot (a :: l)
    rw [h1] at hs ⊢
    have h4 : ∀ b ∈ l2, le a b = true := fun b hb => (List.pairwise_cons.mp (List.pairwise_append.mp hs).2.1).1 b hb
    show _ = insS le a (isort le l)
    rw [← isort_eq tr tot l, h2, insS_at h3 h4]
end Ev

set_option Elab.async false
set_option linter.all false
set_option maxRecDepth 100000
set_option maxHeartbeats 2000000
set_option autoImplicit false
namespace Ev
open PySem PySem.Spec PyProof.Rows L2 GxR

inductive Bop | add | sub | mul | fdiv | mod | pow
  deriving DecidableEq
def Bop.op : Bop → Operator
  | .add => .Add | .sub => .Sub | .mul => .Mult | .fdiv => .FloorDiv | .mod => .Mod | .pow => .Pow
/-- the items of a list that is no locked one -/
def D.lsts (h : List Ob) : D → Option (List D)
  | .lst ds => some ds
  | .ref n => match h[n]? with
    | some (.lst ds) => some ds
    | _ => none
  | _ => none
def small64 (i : Int) : Bool := decide (-(2 ^ 64) < i) && decide (i < 2 ^ 64)
def addD (h : List Ob) : D → D → Option D
  | .int i, .int j => some (.int (i + j))
  | .bl p, .bl q => some (.int (b2i p + b2i q))
  | .int i, .bl q => some (.int (i + b2i q))
  | .str x, .str y => if x.length + y.length ≤ 16777216 then some (.str (x ++ y)) else none
  | .tup xs, .tup ys => if xs.length + ys.length ≤ 16777216 then some (.tup (xs ++ ys)) else none
  | a, b => match a.lsts h, b.lsts h with
    | some xs, some ys => if xs.length + ys.length ≤ 16777216 then some (.lst (xs ++ ys)) else none
    | _, _ => none
def mulD (h : List Ob) : D → D → Option D
  | .int i, .int j => if small64 i || small64 j then some (.int (i * j)) else none
  | .tup xs, .int k => if !xs.isEmpty && decide (2 ≤ k) && decide (k ≤ 1000) && decide (xs.length ≤ 1000) then some (.tup (List.replicate k.toNat xs).flatten) else none
  | a, .int k => match a.lsts h with
    | some xs => if decide (0 ≤ k) && decide (k ≤ 1000) && decide (xs.length ≤ 1000) then some (.lst (List.replicate k.toNat xs).flatten) else none
    | _ => none
  | _, _ => none
def binD (h : List Ob) (o : Bop) (a b : D) : Option D :=
  match o with
  | .add => addD h a b
  | .mul => mulD h a b
  | .sub => match a, b with
    | .int i, .int j => some (.int (i - j))
    | _, _ => none
  | .fdiv => match a, b with
    | .int i, .int j => if decide (j ≠ 0) && decide (j.natAbs < 1073741824) then some (.int (i.fdiv j)) else none
    | _, _ => none
  | .mod => match a, b with
    | .int i, .int j => if decide (j ≠ 0) then some (.int (i.fmod j)) else none
    | _, _ => none
  | .pow => match a, b with
    | .int i, .int j => if decide (0 ≤ j) && decide (j ≤ 1000) && decide (i.natAbs < 2 ^ 64) then some (.int (i ^ j.toNat)) else none
    | _, _ => none

theorem lsts_ref {h : List Ob} {n : Nat} {ds : List D} (e : D.lsts h (.ref n) = some ds) : h[n]? = some (.lst ds) := by
  have e : (match h[n]? with
    | some (.lst ds) => some ds
    | _ => none) = some ds := e
  cases hn : h[n]? with
  | none => rw [hn] at e; cases e
  | some o =>
    rw [hn] at e
    cases o with
    | lst es => cases e; rfl
    | dct _ => cases e
    | ins _ _ => cases e
theorem Rep.lsts {S : Sx} {f : Fs} {H : Hp} {h : List Ob} {d : D} {v : V} {ds : List D} (r : RR S f H h) (q : Rep S.K f H d v) (e : d.lsts h = some ds) :
    ∃ a vs, v = .ref a ∧ H a = some (.lst vs) ∧ RepL S.K f H ds vs := by
  cases q with
  | @lst a vs es h1 _ rs => cases e; exact ⟨a, vs, rfl, h1, rs⟩
  | ref ha =>
    obtain ⟨a', e2, vs, e3, q2⟩ := r.obj _ _ (lsts_ref e)
    rw [ha] at e2; cases e2
    exact ⟨_, vs, rfl, e3, q2⟩
  | _ => cases e
theorem Rep.tupT {S : Sx} {f : Fs} {H : Hp} {ds : List D} {v : V} (q : Rep S.K f H (.tup ds) v) : ∃ a vs, v = .ref a ∧ SqT S.K H a vs ∧ RepL S.K f H ds vs := by
  cases q with
  | @tup a vs es h1 rs =>
    refine ⟨a, vs, rfl, ?_, rs⟩
    rcases h1 with ⟨⟨us, h⟩, _⟩ | ⟨o, its, n, h1, h2, _, h3⟩
    · exact .inl (.inr ⟨_, h⟩)
    · exact .inr ⟨o, its, n, h1, h2, h3⟩
theorem RR.newT {S : Sx} {f : Fs} {H : Hp} {h : List Ob} {ds : List D} {vs : List V} {p : Addr} {us : List Value} (hR : RR S f H h) (hp : H p = none) (r : RepL S.K f H ds vs) : Rep S.K f (L2.upd H p (.frz (tupObj us) (.tup vs))) (.tup ds) (.ref p) :=
  .tup (.inl ⟨⟨us, upd_same⟩, hR.ntr hp⟩) (r.ext (hR.ex hp))
theorem RR.new {S : Sx} {f : Fs} {H : Hp} {h : List Ob} {ds : List D} {vs : List V} {p : Addr} (hR : RR S f H h) (hp : H p = none) (r : RepL S.K f H ds vs) : Rep S.K f (L2.upd H p (.lst vs)) (.lst ds) (.ref p) :=
  .lst upd_same (hR.ntr hp) (r.ext (hR.ex hp))

section
variable {S : Sx} {X : Cx}
theorem op_add_all (xs : XS S X) : OpR X (binaryOp .Add) (rPure S addD) := by
  intro pins s σ H x y v u Q I rx ry ⟨f, h, a, b, r, hR, ra, rb, ho, hq⟩
  have hK := xs.K
  have fin : ∀ v', Rep S.K f H r v' → Q v' H := fun v' q => hq H v' .refl hR q
  have hl : (sizeLine : Nat) = 16777216 := sizeLine_eq
  unfold addD at ho
  split at ho
  · cases ho; cases ra; cases rb
    exact op_add pins s σ H _ _ v u Q I rx ry ⟨_, _, rfl, rfl, fin _ (.int _)⟩
  · cases ho; cases ra; cases rb; cases rx; cases ry
    exact PyProof.Rows.add_bool ⟨.int _, H, I.tok _, ⟨_, rfl⟩, fin _ (.int _)⟩
  · cases ho; cases ra; cases rb
    exact op_add_ib pins s σ H _ _ v u Q I rx ry ⟨_, _, rfl, rfl, fin _ (.int _)⟩
  · split at ho
    · rename_i hz
      cases ho; cases ra; cases rb
      exact op_add_str pins s σ H _ _ v u Q I rx ry ⟨_, _, rfl, rfl, by omega, fin _ (.str _)⟩
    · cases ho
  · split at ho
    · rename_i hz
      cases ho
      obtain ⟨p, vs, rfl, hv, r1⟩ := ra.tupT
      obtain ⟨q, ws, rfl, hw, r2⟩ := rb.tupT
      refine op_catF pins s σ H _ _ v u Q I rx ry ⟨p, q, vs, ws, rfl, rfl, by rw [hK]; exact hv, by rw [hK]; exact hw, by rw [← r1.length, ← r2.length]; omega, fun e => ?_, fun _ e => ?_, fun _ _ z us hz' => hq _ _ (hR.ex hz') (hR.upd hz') (hR.newT hz' (r1.append r2))⟩
      · subst e
        cases r1
        exact fin _ (by simpa using rb)
      · subst e
        cases r2
        exact fin _ (by simpa using ra)
    · cases ho
  · split at ho
    · rename_i xs' ys' h1 h2
      split at ho
      · rename_i hz
        cases ho
        obtain ⟨p, vs, rfl, hv, r1⟩ := ra.lsts hR h1
        obtain ⟨q, ws, rfl, hw, r2⟩ := rb.lsts hR h2
        exact op_cat pins s σ H _ _ v u Q I rx ry ⟨p, q, vs, ws, rfl, rfl, hv, hw, by rw [← r1.length, ← r2.length]; omega, fun z hz' => hq _ _ (hR.ex hz') (hR.upd hz') (hR.new hz' (r1.append r2))⟩
      · cases ho
    · cases ho
theorem op_mul_all (xs : XS S X) : OpR X (binaryOp .Mult) (rPure S mulD) := by
  intro pins s σ H x y v u Q I rx ry ⟨f, h, a, b, r, hR, ra, rb, ho, hq⟩
  have hK := xs.K
  have fin : ∀ v', Rep S.K f H r v' → Q v' H := fun v' q => hq H v' .refl hR q
  have hl : (sizeLine : Nat) = 16777216 := sizeLine_eq
  unfold mulD at ho
  split at ho
  · split at ho
    · rename_i i j hc
      cases ho; cases ra; cases rb
      simp only [small64, Bool.or_eq_true, Bool.and_eq_true, decide_eq_true_eq] at hc
      exact op_mul pins s σ H _ _ v u Q I rx ry ⟨_, _, rfl, rfl, hc, fin _ (.int _)⟩
    · cases ho
  · split at ho
    · rename_i xs' k hc
      cases ho
      simp only [Bool.and_eq_true, decide_eq_true_eq, Bool.not_eq_true', List.isEmpty_eq_false_iff] at hc
      obtain ⟨p, vs, rfl, hv, r1⟩ := ra.tupT
      cases rb
      have hne : vs ≠ [] := fun z => by subst z; have := r1.length; simp at this; exact hc.1.1.1 this
      exact L2.op_repF pins s σ H _ _ v u Q I rx ry ⟨p, _, vs, rfl, rfl, by rw [hK]; exact hv, hne, hc.1.1.2, hc.1.2, by rw [← r1.length]; exact hc.2, fun z us hz' => hq _ _ (hR.ex hz') (hR.upd hz') (hR.newT hz' (r1.flat _))⟩
    · cases ho
  · split at ho
    · rename_i xs' h1
      split at ho
      · rename_i hc
        cases ho
        simp only [Bool.and_eq_true, decide_eq_true_eq] at hc
        obtain ⟨p, vs, rfl, hv, r1⟩ := ra.lsts hR h1
        cases rb
        have hb : ∀ k : Int, k ≤ 1000 → vs.length * k.toNat ≤ 1000 * 1000 := fun k hk => Nat.mul_le_mul (by rw [← r1.length]; exact hc.2) (by omega)
        have hb := hb _ hc.1.2
        exact op_rep pins s σ H _ _ v u Q I rx ry ⟨p, _, vs, rfl, rfl, hv, by omega, by omega, by omega, fun z hz' => hq _ _ (hR.ex hz') (hR.upd hz') (hR.new hz' (r1.flat _))⟩
      · cases ho
    · cases ho
  · cases ho
theorem op_bin (xs : XS S X) (o : Bop) : OpR X (binaryOp o.op) (rPure S (fun h => binD h o)) := by
  cases o with
  | add => exact op_add_all xs
  | mul => exact op_mul_all xs
  | sub =>
    intro pins s σ H x y v u Q I rx ry ⟨f, h, a, b, r, hR, ra, rb, ho, hq⟩
    simp only [binD] at ho
    split at ho
    · cases ho; cases ra; cases rb
      exact op_sub pins s σ H _ _ v u Q I rx ry ⟨_, _, rfl, rfl, hq H _ .refl hR (.int _)⟩
    · cases ho
  | fdiv =>
    intro pins s σ H x y v u Q I rx ry ⟨f, h, a, b, r, hR, ra, rb, ho, hq⟩
    simp only [binD] at ho
    split at ho
    · split at ho
      · rename_i hc
        simp only [Bool.and_eq_true, decide_eq_true_eq] at hc
        cases ho; cases ra; cases rb
        exact op_fdivN pins s σ H _ _ v u Q I rx ry ⟨_, _, rfl, rfl, hc, hq H _ .refl hR (.int _)⟩
      · cases ho
    · cases ho
  | mod =>
    intro pins s σ H x y v u Q I rx ry ⟨f, h, a, b, r, hR, ra, rb, ho, hq⟩
    simp only [binD] at ho
    split at ho
    · split at ho
      · rename_i hc
        simp only [decide_eq_true_eq] at hc
        cases ho; cases ra; cases rb
        exact op_modN pins s σ H _ _ v u Q I rx ry ⟨_, _, rfl, rfl, hc, hq H _ .refl hR (.int _)⟩
      · cases ho
    · cases ho
  | pow =>
    intro pins s σ H x y v u Q I rx ry ⟨f, h, a, b, r, hR, ra, rb, ho, hq⟩
    simp only [binD] at ho
    split at ho
    · split at ho
      · rename_i hc
        simp only [Bool.and_eq_true, decide_eq_true_eq] at hc
        cases ho; cases ra; cases rb
        exact op_pow pins s σ H _ _ v u Q I rx ry ⟨_, _, rfl, rfl, ⟨hc.1.1, by omega, hc.2⟩, hq H _ .refl hR (.int _)⟩
      · cases ho
    · cases ho
end
end Ev

set_option Elab.async false
set_option linter.all false
set_option maxRecDepth 100000
set_option maxHeartbeats 2000000
set_option autoImplicit false
namespace Ev
open PySem PySem.Spec PyProof.Rows L2 GxR

/-! ### subscripts -/
def ixD (h : List Ob) (a i : D) : Option D :=
  match i with
  | .int k => match a with
    | .str z => if z.length ≤ 16777216 then (L2.atI z.cps.toList k).map fun c => .str ⟨#[c]⟩ else none
    | a => (a.items h).bind fun ds => L2.atI ds k
  | _ => none
theorem RepL.atI {K : PySem.W.Frag} {f : Fs} {H : Hp} {ds : List D} {vs : List V} {k : Int} {d : D} (r : RepL K f H ds vs) (e : L2.atI ds k = some d) : ∃ v, L2.atI vs k = some v ∧ Rep K f H d v := by
  unfold L2.atI at e ⊢
  rw [r.length] at e
  cases hi : L2.ixN vs.length k with
  | none => rw [hi] at e; cases e
  | some j =>
    rw [hi] at e
    simp only [Option.bind_some] at e ⊢
    exact r.get e
section
variable {S : Sx} {X : Cx}
theorem ix_all (xs : XS S X) : IxR X (rPure S ixD) := by
  intro value slice pins s σ H x y v u Q I rx ry ⟨f, h, a, b, r, hR, ra, rb, ho, hq⟩ hs
  have hK := xs.K
  have hl : (sizeLine : Nat) = 16777216 := sizeLine_eq
  have fin : ∀ v', Rep S.K f H r v' → Q v' H := fun v' q => hq H v' .refl hR q
  unfold ixD at ho
  split at ho
  · rename_i k
    cases rb
    split at ho
    · rename_i z
      split at ho
      · rename_i hz
        obtain ⟨c, hc, rfl⟩ := Option.map_eq_some_iff.mp ho
        cases ra
        exact ix_str value slice pins s σ H _ _ v u Q I rx ry ⟨_, _, c, rfl, rfl, by omega, hc, fin _ (.str _)⟩ hs
      · cases ho
    · obtain ⟨ds, h1, h2⟩ := Option.bind_eq_some_iff.mp ho
      obtain ⟨p, vs, rfl, rl, q⟩ := ra.items hR h1
      obtain ⟨w, hw, rw'⟩ := rl.atI h2
      rcases q with ⟨q, _⟩ | ⟨q, _⟩
      · exact ix_list value slice pins s σ H _ _ v u Q I rx ry ⟨p, vs, k, w, rfl, rfl, by rw [hK]; exact q, hw, fin _ rw'⟩ hs
      · exact ix_tup value slice pins s σ H _ _ v u Q I rx ry ⟨p, vs, k, w, rfl, rfl, by rw [hK]; exact q, hw, fin _ rw'⟩ hs
  · cases ho

/-! ### slices -/
def cutD {α : Type} (xs : List α) (lo hi : Option Int) : List α := (xs.drop (HT.sIx xs.length 0 lo)).take (HT.sIx xs.length xs.length hi - HT.sIx xs.length 0 lo)
def slD (h : List Ob) (a : D) (lo hi : Option Int) : Option D :=
  match a with
  | .tup ds => some (.tup (cutD ds lo hi))
  | .str z => if z.length ≤ 16777216 then some (.str (cutS z lo hi)) else none
  | a => (a.items h).map fun ds => .lst (cutD ds lo hi)
def rSl (S : Sx) : V → Option Int → Option Int → Hp → VK → Prop := fun x lo hi H Q => ∃ (f : Fs) (h : List Ob) (a r : D), RR S f H h ∧ Rep S.K f H a x ∧ slD h a lo hi = some r ∧
  ∀ H' v, Ext f H f H' → RR S f H' h → Rep S.K f H' r v → Q v H'
theorem RepL.cut {K : PySem.W.Frag} {f : Fs} {H : Hp} {ds : List D} {vs : List V} (lo hi : Option Int) (r : RepL K f H ds vs) : RepL K f H (cutD ds lo hi) (cutV vs lo hi) := by
  unfold cutD cutV
  rw [r.length]
  exact (r.drop _).take _
theorem sl_all (xs : XS S X) : SlR X (rSl S) := by
  intro pins s σ H x v vl vu lo hi sl Q I rx hs pl pu ⟨f, h, a, r, hR, ra, ho, hq⟩
  have hK := xs.K
  have hl : (sizeLine : Nat) = 16777216 := sizeLine_eq
  unfold slD at ho
  split at ho
  · cases ho
    obtain ⟨p, vs, rfl, hv, r1⟩ := ra.tupT
    refine sl_tupF pins s σ H _ v vl vu lo hi sl Q I rx hs pl pu ⟨p, vs, rfl, by rw [hK]; exact hv, fun e => hq H _ .refl hR ?_, fun _ z us hz => hq _ _ (hR.ex hz) (hR.upd hz) (hR.newT hz (r1.cut lo hi))⟩
    have e1 : cutV vs lo hi = vs := by
      unfold cutV
      rw [e.1, e.2]
      simp
    have r2 := r1.cut lo hi
    rw [e1] at r2
    cases ra with
    | @tup _ vs' _ h1 r3 =>
      have e2 : vs' = vs := by
        have q1 : SqT X.K H p vs' := by
          rw [hK]
          rcases h1 with ⟨⟨us, h⟩, _⟩ | ⟨o, its, n, h1, h2, _, h3⟩
          · exact .inl (.inr ⟨_, h⟩)
          · exact .inr ⟨o, its, n, h1, h2, h3⟩
        exact I.tuple_inj q1 (by rw [hK]; exact hv)
      subst e2
      exact .tup h1 r2
  · split at ho
    · rename_i hz
      cases ho
      cases ra
      exact sl_str pins s σ H _ v vl vu lo hi sl Q I rx hs pl pu ⟨_, rfl, by omega, hq H _ .refl hR (.str _)⟩
    · cases ho
  · rename_i n1 n2
    obtain ⟨ds, h1, rfl⟩ := Option.map_eq_some_iff.mp ho
    obtain ⟨p, vs, rfl, rl, q⟩ := ra.items hR h1
    rcases q with ⟨q, _⟩ | ⟨q, e⟩
    · exact sl_list pins s σ H _ v vl vu lo hi sl Q I rx hs pl pu ⟨p, vs, rfl, by rw [hK]; exact q, fun z hz => hq _ _ (hR.ex hz) (hR.upd hz) (hR.new hz (rl.cut lo hi))⟩
    · exact absurd e (n1 ds)
end
end Ev

set_option Elab.async false
set_option linter.all false
set_option maxRecDepth 100000
set_option maxHeartbeats 2000000
set_option autoImplicit false
namespace Ev
open PySem PySem.Spec PyProof.Rows L2 GxR

/-! ### built-in functions -/
def aaB (ps : List PyData) : Bool := ps.all fun x => ps.all fun y => PySem.W.alike x y
def soB (ps : List PyData) : Bool := (ps.all fun x => match x with | .tuple (_ :: _) => true | _ => false) || (ps.all fun x => match x with | .none => false | .tuple _ => false | _ => true)
def noB (ps : List PyData) : Bool := ps.all fun x => match x with | .none => false | _ => true
def toPy : Nat → PyData → D
  | 0, _ => .non
  | k + 1, p => match p with
    | .none => .non
    | .bool b => .bl b
    | .int i => .int i
    | .str s => .str s
    | .tuple xs => .tup (xs.map (toPy k))
    | .list xs => .lst (xs.map (toPy k))
    | .dict _ => .non
def ofPy (p : PyData) : D := toPy 11 p
def sortP (rev : Bool) (ps : List PyData) : List PyData := isort (PySem.W.dataLe rev id) ps
theorem sortP_eq (rev : Bool) (ps : List PyData) : ps.mergeSort (PySem.W.dataLe rev id) = sortP rev ps :=
  have T : PySem.W.TotalLe (PySem.W.dataLe rev (id : PyData → PyData)) := PySem.W.sortLe_total _ rev _
  isort_eq T.trans (fun a b => Bool.or_eq_true_iff.mpr (T.total a b)) ps
def sortD (rev : Bool) (ds : List D) : Option (List D) :=
  match D.pyL ds with
  | some ps => if aaB ps && soB ps && decide (ps.length ≤ 16777216) then some ((sortP rev ps).map ofPy) else none
  | none => none
def intsD : List D → Option (List Int)
  | [] => some []
  | .int i :: ds => (intsD ds).map (i :: ·)
  | _ => none
/-- 0/1 of bools too -/
def numsD : List D → Option (List Int)
  | [] => some []
  | .int i :: ds => (numsD ds).map (i :: ·)
  | .bl b :: ds => (numsD ds).map ((if b then 1 else 0) :: ·)
  | _ => none
def minP (mx : Bool) : List PyData → Option D
  | [] => none
  | x :: xs => if aaB (x :: xs) && noB (x :: xs) then some (ofPy (if mx then PySem.W.maxD x xs else PySem.W.minD x xs)) else none
inductive Bi | len | sum | min | max | int | str | abs | tuple | list | sorted
  deriving DecidableEq
def biD (o : Bi) (h : List Ob) (xs : List D) : Option D :=
  match o, xs with
  | .len, [.str z] => if z.length ≤ 16777216 then some (.int z.length) else none
  | .len, [a] => (a.items h).map fun ds => .int ds.length
  | .sum, [a] => match a with
    | .tup _ => none
    | a => (a.items h).bind fun ds => (intsD ds).map fun ns => .int ns.sum
  | .min, [.int i, .int j] => some (.int (if j < i then j else i))
  | .max, [.int i, .int j] => some (.int (if j > i then j else i))
  | .int, [.int i] => some (.int i)
  | .int, [.bl k] => some (.int (if k then 1 else 0))
  | .abs, [.int i] => some (.int (if i < 0 then -i else i))
  | .tuple, [a] => (a.items h).map .tup
  | .list, [a] => (a.items h).map .lst
  | .sorted, [a] => (a.items h).bind fun ds => (sortD false ds).map .lst
  | .min, [a] => (a.items h).bind fun ds => (D.pyL ds).bind fun ps => minP false ps
  | .max, [a] => (a.items h).bind fun ds => (D.pyL ds).bind fun ps => minP true ps
  | .str, [.int i] => if i.natAbs < 2 ^ 1900 then some (.str (toString i)) else none
  | _, _ => none
def rPureN (S : Sx) (op : List Ob → List D → Option D) : List V → Hp → VK → Prop := fun xs H Q => ∃ (f : Fs) (h : List Ob) (ds : List D) (r : D), RR S f H h ∧ RepL S.K f H ds xs ∧ op h ds = some r ∧
  ∀ H' v, Ext f H f H' → RR S f H' h → Rep S.K f H' r v → Q v H'

section
variable {K : PySem.W.Frag} {f : Fs} {H : Hp}
theorem intsD_rep : ∀ (ds : List D) (vs : List V) (ns : List Int), RepL K f H ds vs → intsD ds = some ns → vs = ns.map V.int
  | [], _, _, .nil, e => by cases e; rfl
  | d :: ds, _, ns, .cons a b, e => by
    cases d with
    | int i =>
      obtain ⟨ms, e1, rfl⟩ := Option.map_eq_some_iff.mp (show (intsD ds).map (i :: ·) = some ns from e)
      cases a
      rw [intsD_rep ds _ ms b e1]; rfl
    | _ => cases e
theorem one_rep {ds : List D} {a : D} {xs : List V} (r : RepL K f H ds xs) (e : ds = [a]) : ∃ x, xs = [x] ∧ Rep K f H a x := by
  subst e
  cases r with | cons p q => cases q; exact ⟨_, rfl, p⟩
end
theorem pyL_len {p : D → Option PyData} : ∀ (ds : List D) (ps : List PyData), pyL p ds = some ps → ps.length = ds.length
  | [], _, e => by cases e; rfl
  | d :: ds, ps, e => by
    unfold pyL at e
    split at e
    · rename_i x xs h1 h2
      cases e
      simp [pyL_len ds xs h2]
    · cases e
theorem aaB_ok {ps : List PyData} (h : aaB ps = true) : PySem.W.AllAlike ps := by
  simp only [aaB, List.all_eq_true] at h
  exact fun d hd d' hd' => h d hd d' hd'
theorem soB_ok {ps : List PyData} (h : soB ps = true) : PySem.W.Sortable ps := by
  simp only [soB, Bool.or_eq_true, List.all_eq_true] at h
  rcases h with h | h
  · refine .inl fun d hd => ?_
    have := h d hd
    split at this
    · exact ⟨_, _, rfl⟩
    · cases this
  · refine .inr fun d hd => ?_
    have := h d hd
    split at this
    · cases this
    · cases this
    · rename_i a b; exact ⟨a, b⟩
theorem noB_ok {ps : List PyData} (h : noB ps = true) : ∀ x ∈ ps, x ≠ .none := by
  simp only [noB, List.all_eq_true] at h
  intro d hd
  have := h d hd
  split at this
  · cases this
  · assumption
theorem zip_snd : ∀ (ds : List D) (ps : List PyData), ps.length = ds.length → (ds.zip ps).map Prod.snd = ps
  | [], [], _ => rfl
  | d :: ds, p :: ps, e => by simp [zip_snd ds ps (by simpa using e)]
  | [], _ :: _, e => by simp at e
  | _ :: _, [], e => by simp at e

section
variable {S : Sx} {X : Cx} {pins : List (Addr × Obj)} {σ : L2.St} {H : Hp} {s : Shared} {f : Fs} {h : List Ob}
def RZ (S : Sx) (f : Fs) (H : Hp) (hp : Heap) (u : Value) (b : D × PyData) : Prop := (∃ v, RelV v u ∧ Rep S.K f H b.1 v) ∧ ∃ as, Reads hp u b.2 as
theorem each_of (hK : X.K = S.K) (I : Inv X pins σ H s) {p : D → Option PyData} (hp : ∀ d v x, Rep S.K f H d v → p d = some x → Dp S.K H v x) : ∀ (ds : List D) (vs : List V) (us : List Value) (ps : List PyData), RepL S.K f H ds vs → Vals vs us → pyL p ds = some ps →
    PySem.W.EachIs (RZ S f H s.heap) us (ds.zip ps)
  | [], _, _, _, .nil, .nil, _ => by simp; exact .nil
  | d :: ds, _, _, ps, .cons a b, .cons c e, q => by
    unfold pyL at q
    split at q
    · rename_i x xs h1 h2
      cases q
      simp only [List.zip_cons_cons]
      exact .cons ⟨⟨_, c, a⟩, Dp.reads I _ _ _ (by rw [hK]; exact hp d _ _ a h1) c⟩ (each_of hK I hp ds _ _ xs b e h2)
    · cases q
theorem each_back {hp : Heap} : ∀ (out : List Value) (bs : List (D × PyData)), PySem.W.EachIs (RZ S f H hp) out bs → ∃ vs, Vals vs out ∧ RepL S.K f H (bs.map Prod.fst) vs
  | _, _, .nil => ⟨[], .nil, .nil⟩
  | _, _, .cons ⟨⟨v, r, q⟩, _⟩ t => by
    obtain ⟨vs, r2, q2⟩ := each_back _ _ t
    exact ⟨v :: vs, .cons r r2, .cons q q2⟩

theorem dataEach_fst {hp : Heap} {us : List Value} {bs : List (D × PyData)} (e : PySem.W.EachIs (RZ S f H hp) us bs) : PySem.W.EachIs (fun v b => ∃ as, Reads hp v (Prod.snd b) as) us bs := e.mono fun _ _ z => z.2
theorem toPy_pyk : ∀ (k : Nat) (d : D) (p : PyData), pyk k d = some p → toPy k p = d
  | 0, _, _, e => by cases e
  | k + 1, d, p, e => by
    have go : ∀ (ds : List D) (ps : List PyData), pyL (pyk k) ds = some ps → ps.map (toPy k) = ds := by
      intro ds
      induction ds with
      | nil => intro ps e; cases e; rfl
      | cons d ds ih =>
        intro ps e
        unfold pyL at e
        split at e
        · rename_i x xs h1 h2
          cases e
          simp [ih xs h2, toPy_pyk k d x h1]
        · cases e
    cases d with
    | non => cases e; rfl
    | bl b => cases e; rfl
    | int b => cases e; rfl
    | str b => cases e; rfl
    | tup ds =>
      obtain ⟨ps, e1, rfl⟩ := Option.map_eq_some_iff.mp (show (pyL (pyk k) _).map PyData.tuple = some p from e)
      show D.tup (ps.map (toPy k)) = _
      rw [go ds ps e1]
    | lst ds =>
      obtain ⟨ps, e1, rfl⟩ := Option.map_eq_some_iff.mp (show (pyL (pyk k) _).map PyData.list = some p from e)
      show D.lst (ps.map (toPy k)) = _
      rw [go ds ps e1]
    | lk _ => cases e
    | ref _ => cases e
theorem pyL_at {p : D → Option PyData} : ∀ (ds : List D) (ps : List PyData), pyL p ds = some ps → ∀ b ∈ ds.zip ps, p b.1 = some b.2
  | [], _, e, b, hb => by simp at hb
  | d :: ds, ps, e, b, hb => by
    unfold pyL at e
    split at e
    · rename_i x xs h1 h2
      cases e
      simp only [List.zip_cons_cons, List.mem_cons] at hb
      rcases hb with rfl | hb
      · exact h1
      · exact pyL_at ds xs h2 b hb
    · cases e
theorem zip_fst {ds : List D} {ps : List PyData} (e : D.pyL ds = some ps) : ∀ b ∈ ds.zip ps, b.1 = ofPy b.2 := fun b hb => (toPy_pyk 11 _ _ (pyL_at ds ps e b hb)).symm
theorem sort_zip {rev : Bool} {ds : List D} {ps : List PyData} (e : D.pyL ds = some ps) : ((ds.zip ps).mergeSort (PySem.W.dataLe rev Prod.snd)).map Prod.fst = (sortP rev ps).map ofPy := by
  have e1 : ((ds.zip ps).mergeSort (PySem.W.dataLe rev Prod.snd)).map Prod.snd = sortP rev ps := by
    refine (List.map_mergeSort (r := PySem.W.dataLe rev Prod.snd) (s := PySem.W.dataLe rev id) (f := Prod.snd) (l := ds.zip ps) (fun a _ b _ => rfl)).trans ?_
    rw [zip_snd ds ps (pyL_len ds ps e)]
    exact sortP_eq rev ps
  rw [← e1, List.map_map]
  refine List.map_congr_left fun b hb => ?_
  exact zip_fst e b ((List.mergeSort_perm _ _).mem_iff.mp hb)
theorem depthL {ds : List D} {ps : List PyData} (e : D.pyL ds = some ps) : PyData.plainAll ps = true ∧ PyData.depthAll ps ≤ 11 := pyL_ok (fun d x a => pyk_ok 11 d x a) _ _ e
theorem depth_mem : ∀ {ps : List PyData} {p : PyData}, p ∈ ps → p.depth ≤ PyData.depthAll ps
  | q :: ps, p, h => by
    simp only [PyData.depthAll]
    rcases List.mem_cons.mp h with rfl | h
    · exact Nat.le_max_left _ _
    · exact Nat.le_trans (depth_mem h) (Nat.le_max_right _ _)
theorem call_sorted_all (xs : XS S X) (hu : X.A.units + 65 < cLine) : CallR X (.builtin "sorted") (rPureN S (biD .sorted)) := by
  intro pins s σ H vs us Q I rv ⟨f, h, ds, r, hR, rl, ho, hq⟩
  have hK := xs.K
  have hl : (sizeLine : Nat) = 16777216 := sizeLine_eq
  unfold biD at ho
  split at ho <;> first | contradiction | skip
  rename_i a
  obtain ⟨es, h1, h2⟩ := Option.bind_eq_some_iff.mp ho
  obtain ⟨rs, h3, rfl⟩ := Option.map_eq_some_iff.mp h2
  obtain ⟨x, rfl, ra⟩ := one_rep rl rfl
  obtain ⟨p, ws, rfl, rws, q⟩ := ra.items hR h1
  obtain ⟨u, rfl, ru⟩ := vals1 rv
  obtain rfl : u = Value.ref p := ru
  unfold sortD at h3
  split at h3
  · rename_i ps hps
    split at h3
    · rename_i hc
      cases h3
      simp only [Bool.and_eq_true, decide_eq_true_eq] at hc
      have hlen := pyL_len es ps hps
      have key : ∃ its : List Value, Vals ws its ∧ (s.heap.IsList p its.toArray ∨ s.heap.IsTuple p its.toArray) := by
        rcases q with ⟨q, _⟩ | ⟨q, _⟩
        · obtain ⟨its, g1, g2, _⟩ := I.list (by rw [hK]; exact q)
          exact ⟨its, g1, .inl g2.isList⟩
        · obtain ⟨its, g1, g2, _⟩ := I.tuple (by rw [hK]; exact q)
          exact ⟨its, g1, .inr g2⟩
      obtain ⟨its, rits, hlist⟩ := key
      have ee := each_of hK I (fun d v x a b => pyk_dp 11 d v x a b) es ws its ps rws rits hps
      have hz := zip_snd es ps hlen
      refine SrtT.sorted_data2 hlist ee (dataEach_fst ee) (by rw [hz]; exact aaB_ok hc.1.1) (by rw [hz]; exact soB_ok hc.1.2) (by rw [List.length_zip, hlen]; omega) (fun b hb => ?_) fun out ho eo => ?_
      · have : b.2 ∈ ps := by rw [← hz]; exact List.mem_map_of_mem hb
        have := depth_mem this
        have := (depthL hps).2
        omega
      · obtain ⟨zs, r1, r2⟩ := each_back out _ eo
        rw [sort_zip hps] at r2
        obtain ⟨c, hc'⟩ := sortedAll_at s.heap its out.toArray
        have hfr : H (s.heap.objs.size + 1) = none := I.hok.fresh (Nat.le_succ _)
        refine ⟨.ref (s.heap.objs.size + 1), upd H (s.heap.objs.size + 1) (.lst zs), I.laid (t' := s.toks) (fun _ _ => sortedAll_old) (Nat.le_succ _) ⟨?_, out, c, r1, hc'⟩, rfl, hq _ _ (hR.ex hfr) (hR.upd hfr) (hR.new hfr r2)⟩
        rw [r1.length, ho, List.length_zip, hlen]
        omega
    · cases h3
  · cases h3
theorem minD_mem (x : PyData) (xs : List PyData) : PySem.W.minD x xs ∈ x :: xs := by
  unfold PySem.W.minD
  induction xs generalizing x with
  | nil => simp
  | cons y ys ih =>
    simp only [List.foldl_cons]
    split
    · exact List.mem_cons_of_mem _ (ih y)
    · rcases List.mem_cons.mp (ih x) with h | h
      · rw [h]; exact List.mem_cons_self
      · exact List.mem_cons_of_mem _ (List.mem_cons_of_mem _ h)
theorem maxD_mem (x : PyData) (xs : List PyData) : PySem.W.maxD x xs ∈ x :: xs := by
  unfold PySem.W.maxD
  induction xs generalizing x with
  | nil => simp
  | cons y ys ih =>
    simp only [List.foldl_cons]
    split
    · exact List.mem_cons_of_mem _ (ih y)
    · rcases List.mem_cons.mp (ih x) with h | h
      · rw [h]; exact List.mem_cons_self
      · exact List.mem_cons_of_mem _ (List.mem_cons_of_mem _ h)
theorem each_get {α β : Type} {R : α → β → Prop} : ∀ {us : List α} {bs : List β} {i : Nat} {u : α}, PySem.W.EachIs R us bs → us[i]? = some u → ∃ b, bs[i]? = some b ∧ R u b
  | _, _, _, _, .nil, e => by simp at e
  | _, _, 0, _, .cons r _, e => by simp at e; subst e; exact ⟨_, rfl, r⟩
  | _, _, i + 1, u, .cons _ t, e => by
    obtain ⟨b, h1, h2⟩ := each_get (i := i) (u := u) t (by simpa using e)
    exact ⟨b, by simpa using h1, h2⟩
theorem call_minmax_all (mx : Bool) (xs : XS S X) (hc : X.calm = true) (hu : X.A.units + 65 < cLine) : CallR X (.builtin (if mx then "max" else "min")) (rPureN S (biD (if mx then .max else .min))) := by
  intro pins s σ H vs us Q I rv ⟨f, h, ds, r, hR, rl, ho, hq⟩
  have hK := xs.K
  have hl : (sizeLine : Nat) = 16777216 := sizeLine_eq
  have go : ∀ (a : D), ds = [a] → ((a.items h).bind fun ds => (D.pyL ds).bind fun ps => minP mx ps) = some r → wpAny (model X.prog X.w) X.A (call (.builtin (if mx then "max" else "min")) us) (EP X pins σ Q) X.xe s := by
    intro a hds ho'
    clear ho
    subst hds
    obtain ⟨es, h1, h2⟩ := Option.bind_eq_some_iff.mp ho'
    obtain ⟨ps, hps, h3⟩ := Option.bind_eq_some_iff.mp h2
    obtain ⟨x, rfl, ra⟩ := one_rep rl rfl
    obtain ⟨p, ws, rfl, rws, q⟩ := ra.items hR h1
    obtain ⟨u, rfl, ru⟩ := vals1 rv
    obtain rfl : u = Value.ref p := ru
    cases ps with
    | nil => cases h3
    | cons y ys =>
      have h3 : (if aaB (y :: ys) && noB (y :: ys) then some (ofPy (if mx then PySem.W.maxD y ys else PySem.W.minD y ys)) else none) = some r := h3
      split at h3
      · rename_i hcc
        cases h3
        simp only [Bool.and_eq_true] at hcc
        have key : ∃ its : List Value, Vals ws its ∧ (s.heap.IsList p its.toArray ∨ s.heap.IsTuple p its.toArray) := by
          rcases q with ⟨q, _⟩ | ⟨q, _⟩
          · obtain ⟨its, g1, g2, _⟩ := I.list (by rw [hK]; exact q)
            exact ⟨its, g1, .inl g2.isList⟩
          · obtain ⟨its, g1, g2, _⟩ := I.tuple (by rw [hK]; exact q)
            exact ⟨its, g1, .inr g2⟩
        obtain ⟨its, rits, hlist⟩ := key
        have ee := each_of hK I (fun d v x a b => pyk_dp 11 d v x a b) es ws its _ rws rits hps
        obtain ⟨as, hra⟩ := Dp.readsAll I _ ws its (by rw [hK]; exact pyL_dp (fun d v x a b => pyk_dp 11 d v x a b) es ws _ rws hps) rits
        have hal : PySem.W.AlikeAll (y :: ys) := ⟨fun a ha b hb => aaB_ok hcc.1 a ha b hb, noB_ok hcc.2⟩
        have hdp := (depthL hps).2
        have fin : ∀ (m : PyData), m ∈ y :: ys → ∀ (i : Nat) (v : Value) (h' : Heap) (tk : Nat) (bs : List Addr), its.toArray[i]? = some v → Reads h' v m bs → (∀ b o, s.heap.get? b = some o → h'.get? b = some o) → (∀ H' v, Ext f H f H' → RR S f H' h → Rep S.K f H' (ofPy m) v → Q v H') → EP X pins σ Q v { s with heap := h', toks := tk } := by
          intro m hm i v h' tk bs hv hrd hk hq
          obtain ⟨b, hb, ⟨w, rw', qw⟩, ⟨cs, hcs⟩⟩ := each_get ee (show its[i]? = some v by simpa using hv)
          have hb' := List.mem_of_getElem? hb
          have e1 := zip_fst hps b hb'
          have e2 : b.2 ∈ y :: ys := by
            rw [← zip_snd es (y :: ys) (pyL_len es _ hps)]; exact List.mem_map_of_mem hb'
          have e3 : b.2 = m := PySem.W.alike_unique b.2 m v _ _ (hal.1 _ e2 _ hm) (PySem.W.reads_keeps hk hcs) hrd
          rw [e1, e3] at qw
          exact ⟨w, H, I.kept hk, rw', hq H w .refl hR qw⟩
        cases mx with
        | false =>
          rcases hlist with hlist | hlist
          · exact PySem.W.min_list_data (I.ok.hd hc) hlist hra hal (by omega) fun i v h' tk bs hv hrd hk => fin _ (minD_mem _ _) i v h' tk bs hv hrd hk hq
          · exact PySem.W.min_tuple_data (I.ok.hd hc) hlist hra hal (by omega) fun i v h' tk bs hv hrd hk => fin _ (minD_mem _ _) i v h' tk bs hv hrd hk hq
        | true =>
          rcases hlist with hlist | hlist
          · exact PySem.W.max_list_data (I.ok.hd hc) hlist hra hal (by omega) fun i v h' tk bs hv hrd hk => fin _ (maxD_mem _ _) i v h' tk bs hv hrd hk hq
          · exact PySem.W.max_tuple_data (I.ok.hd hc) hlist hra hal (by omega) fun i v h' tk bs hv hrd hk => fin _ (maxD_mem _ _) i v h' tk bs hv hrd hk hq
      · cases h3
  have fin : ∀ v', Rep S.K f H r v' → Q v' H := fun v' q => hq H v' .refl hR q
  cases mx with
  | false =>
    have ho : biD .min h ds = some r := ho
    unfold biD at ho
    split at ho <;> first | contradiction | skip
    · cases ho
      cases rl with | cons a rl => cases rl with | cons b rl => cases rl; cases a; cases b; exact call_min2 hc pins s σ H _ us Q I rv ⟨_, _, rfl, fin _ (.int _)⟩
    · exact go _ rfl ho
  | true =>
    have ho : biD .max h ds = some r := ho
    unfold biD at ho
    split at ho <;> first | contradiction | skip
    · cases ho
      cases rl with | cons a rl => cases rl with | cons b rl => cases rl; cases a; cases b; exact call_max2 hc pins s σ H _ us Q I rv ⟨_, _, rfl, fin _ (.int _)⟩
    · exact go _ rfl ho
def Bi.val : Bi → Value
  | .len => .builtin "len" | .sum => .builtin "sum" | .min => .builtin "min" | .max => .builtin "max" | .int => .type "int" | .str => .type "str" | .abs => .builtin "abs" | .tuple => .type "tuple" | .list => .type "list" | .sorted => .builtin "sorted"
theorem call_bi (o : Bi) (xs : XS S X) (hc : X.calm = true) (hu : X.A.units + 65 < cLine) : CallR X o.val (rPureN S (biD o)) := by
  cases o with
  | sorted => exact call_sorted_all xs hu
  | min => exact call_minmax_all false xs hc hu
  | max => exact call_minmax_all true xs hc hu
  | len =>
    intro pins s σ H vs us Q I rv ⟨f, h, ds, r, hR, rl, ho, hq⟩
    have hK := xs.K
    have hl : (sizeLine : Nat) = 16777216 := sizeLine_eq
    have fin : ∀ v', Rep S.K f H r v' → Q v' H := fun v' q => hq H v' .refl hR q
    unfold biD at ho
    split at ho <;> first | contradiction | skip
    · split at ho
      · rename_i hz
        cases ho
        obtain ⟨x, rfl, ra⟩ := one_rep rl rfl
        cases ra
        exact call_len_str pins s σ H _ us Q I rv ⟨_, rfl, by omega, fin _ (.int _)⟩
      · cases ho
    · obtain ⟨es, h1, rfl⟩ := Option.map_eq_some_iff.mp ho
      obtain ⟨x, rfl, ra⟩ := one_rep rl rfl
      obtain ⟨p, ws, rfl, rws, q⟩ := ra.items hR h1
      refine call_len_seq pins s σ H _ us Q I rv ⟨p, ws, rfl, ?_, by rw [← rws.length]; exact fin _ (.int _)⟩
      rw [hK]
      rcases q with ⟨q, _⟩ | ⟨q, _⟩
      · exact .inl q
      · exact .inr q
  | sum =>
    intro pins s σ H vs us Q I rv ⟨f, h, ds, r, hR, rl, ho, hq⟩
    have hK := xs.K
    have fin : ∀ v', Rep S.K f H r v' → Q v' H := fun v' q => hq H v' .refl hR q
    unfold biD at ho
    split at ho <;> first | contradiction | skip
    split at ho
    · cases ho
    · rename_i a hnt
      obtain ⟨es, h1, h2⟩ := Option.bind_eq_some_iff.mp ho
      obtain ⟨ns, h3, rfl⟩ := Option.map_eq_some_iff.mp h2
      obtain ⟨x, rfl, ra⟩ := one_rep rl rfl
      obtain ⟨p, ws, rfl, rws, q⟩ := ra.items hR h1
      have e := intsD_rep es ws ns rws h3
      subst e
      rcases q with ⟨q, _⟩ | ⟨q, e⟩
      · exact cr_sum hc pins s σ H _ us Q I rv ⟨p, ns, rfl, by rw [hK]; exact q, fin _ (.int _)⟩
      · exact absurd e (hnt _)
  | int =>
    intro pins s σ H vs us Q I rv ⟨f, h, ds, r, hR, rl, ho, hq⟩
    have fin : ∀ v', Rep S.K f H r v' → Q v' H := fun v' q => hq H v' .refl hR q
    unfold biD at ho
    split at ho <;> first | contradiction | skip
    · cases ho
      obtain ⟨x, rfl, ra⟩ := one_rep rl rfl
      cases ra
      exact call_int1 pins s σ H _ us Q I rv (.inl ⟨_, rfl, fin _ (.int _)⟩)
    · cases ho
      obtain ⟨x, rfl, ra⟩ := one_rep rl rfl
      cases ra
      exact call_int1 pins s σ H _ us Q I rv (.inr ⟨_, rfl, fin _ (.int _)⟩)
  | abs =>
    intro pins s σ H vs us Q I rv ⟨f, h, ds, r, hR, rl, ho, hq⟩
    have fin : ∀ v', Rep S.K f H r v' → Q v' H := fun v' q => hq H v' .refl hR q
    unfold biD at ho
    split at ho <;> first | contradiction | skip
    · cases ho
      obtain ⟨x, rfl, ra⟩ := one_rep rl rfl
      cases ra
      exact call_abs pins s σ H _ us Q I rv ⟨_, rfl, fin _ (.int _)⟩
  | str =>
    intro pins s σ H vs us Q I rv ⟨f, h, ds, r, hR, rl, ho, hq⟩
    have fin : ∀ v', Rep S.K f H r v' → Q v' H := fun v' q => hq H v' .refl hR q
    unfold biD at ho
    split at ho <;> first | contradiction | skip
    · split at ho
      · rename_i hz
        cases ho
        obtain ⟨x, rfl, ra⟩ := one_rep rl rfl
        rename_i i _
        cases ra
        refine call_str_int pins s σ H _ us Q I rv ⟨_, rfl, ?_, fin _ (.str _)⟩
        by_cases h0 : i.natAbs = 0
        · rw [h0]; decide
        · have := (Nat.log2_lt h0).mpr hz
          omega
      · cases ho
  | tuple =>
    intro pins s σ H vs us Q I rv ⟨f, h, ds, r, hR, rl, ho, hq⟩
    have hK := xs.K
    have fin : ∀ v', Rep S.K f H r v' → Q v' H := fun v' q => hq H v' .refl hR q
    unfold biD at ho
    split at ho <;> first | contradiction | skip
    obtain ⟨es, h1, rfl⟩ := Option.map_eq_some_iff.mp ho
    obtain ⟨x, rfl, ra⟩ := one_rep rl rfl
    obtain ⟨p, ws, rfl, rws, q⟩ := ra.items hR h1
    refine call_tuple_F pins s σ H _ us Q I rv ⟨p, ws, rfl, ?_⟩
    rw [hK]
    rcases q with ⟨q, _⟩ | ⟨q, e⟩
    · exact .inl ⟨q, fun l us hl => hq _ _ (hR.ex hl) (hR.upd hl) (hR.newT hl rws)⟩
    · subst e
      exact .inr ⟨q, fin _ ra⟩
  | list =>
    intro pins s σ H vs us Q I rv ⟨f, h, ds, r, hR, rl, ho, hq⟩
    have hK := xs.K
    unfold biD at ho
    split at ho <;> first | contradiction | skip
    obtain ⟨es, h1, rfl⟩ := Option.map_eq_some_iff.mp ho
    obtain ⟨x, rfl, ra⟩ := one_rep rl rfl
    obtain ⟨p, ws, rfl, rws, q⟩ := ra.items hR h1
    refine call_list_of pins s σ H _ us Q I rv ⟨p, ws, rfl, ?_, fun l hl => hq _ _ (hR.ex hl) (hR.upd hl) (hR.new hl rws)⟩
    rw [hK]
    rcases q with ⟨q, _⟩ | ⟨q, _⟩
    · exact .inl q
    · exact .inr q
end
end Ev

set_option Elab.async false
set_option linter.all false
set_option maxRecDepth 100000
set_option maxHeartbeats 2000000
set_option autoImplicit false
namespace Ev
open PySem PySem.Spec PyProof.Rows L2 GxR

/-! ### results -/
inductive Rs (α : Type) where
  | ok (a : α) (h : List Ob)
  | exc (c : Nat) (vs : List D) (h : List Ob)
  | bad
def Rs.bind {α β : Type} (r : Rs α) (k : α → List Ob → Rs β) : Rs β :=
  match r with
  | .ok a h => k a h
  | .exc c vs h => .exc c vs h
  | .bad => .bad
def opt {α : Type} (o : Option α) (h : List Ob) : Rs α :=
  match o with
  | some a => .ok a h
  | none => .bad

/-! ### the syntax: slots, no positions -/
inductive Ty | int | bool | str | tuple | list | dict
  deriving DecidableEq
/-- targets -/
inductive Tg where
  | v (n : Nat)
  | t (ts : List Tg)
mutual
inductive Ex where
  | cst (d : D)
  | var (n : Nat)
  | tup (es : List Ex)
  | lst (es : List Ex)
  | mk (es : List Ex)
  | bin (o : Bop) (a b : Ex)
  | neg (a : Ex)
  | not (a : Ex)
  | and (a b : Ex)
  | or (a b : Ex)
  | ite (c a b : Ex)
  | cmp (o : Cop) (a b : Ex)
  | cmp2 (o o' : Cop) (a b c : Ex)
  | cmp3 (o o' o'' : Cop) (a b c d : Ex)
  | isi (ts : List Ty) (a : Ex)
  | call (g : Nat) (es : List Ex)
  | bi (o : Bi) (es : List Ex)
  | ix (a i : Ex)
  | sl (a : Ex) (lo hi : List Ex)
  | lc (t : Tg) (w : It) (cs : List Ex) (vs : List Nat) (e : Ex)
  | al (k : Bool) (t : Tg) (w : It) (cs : List Ex) (vs : List Nat) (e : Ex)
  | app (a e : Ex)
  | ext (a e : Ex)
  | pop (a e : Ex)
  | idx (a e : Ex)
  | sset (a : Ex)
  | lset (a : Ex)
  | heard (e : Ex)
inductive It where
  | seq (e : Ex)
  | rng1 (a : Ex)
  | rng2 (a b : Ex)
  | zip (a b : Ex)
  | enm (a : Ex)
end
instance : Inhabited Ex := ⟨.cst .non⟩
inductive St where
  | ex (e : Ex)
  | as (t : Tg) (e : Ex)
  | six (o i e : Ex)
  | aug (n : Nat) (o : Bop) (e : Ex)
  | iff (c : Ex) (a b : List St)
  | lop (t : Tg) (w : It) (b : List St)
  | whl (c : Ex) (b : List St)
  | ret (e : Ex)
  | rse (c : Nat) (es : List Ex)
  | brk
  | cnt
  | pss
instance : Inhabited St := ⟨.pss⟩

/-! ### environments, targets, walks -/
abbrev En := List (Option D)
abbrev Oh := List Ob
mutual
def bindT : Tg → D → En → Option En
  | .v n, d, env => if n < env.length then some (env.set n (some d)) else none
  | .t ts, .tup ds, env => bindTs ts ds env
  | .t _, _, _ => none
def bindTs : List Tg → List D → En → Option En
  | [], [], env => some env
  | t :: ts, d :: ds, env => match bindT t d env with
    | some e2 => bindTs ts ds e2
    | none => none
  | _, _, _ => none
end
def wipeE (env : En) : List Nat → En
  | [] => env
  | n :: ns => (wipeE env ns).set n none
inductive Wk where
  | seq (d : D) (n : Nat)
  | rng (lo : Int) (n : Nat)
  | zip (a b : D) (n m : Nat)
  | enm (a : D) (n : Nat)
def Wk.len : Wk → Nat
  | .seq _ n => n
  | .rng _ n => n
  | .zip _ _ n m => Nat.min n m
  | .enm _ n => n
def stays (h : Oh) (d : D) (n : Nat) : Option (List D) := (d.items h).bind fun ds => if ds.length = n then some ds else none
/-- the walk as it stands: its items -/
def Wk.now (h : Oh) : Wk → Option (List D)
  | .seq d n => stays h d n
  | .rng lo n => some ((List.range n).map fun i : Nat => .int (lo + (i : Int)))
  | .zip a b n m => match stays h a n, stays h b m with
    | some xs, some ys => some ((xs.zip ys).map fun p => .tup [p.1, p.2])
    | _, _ => none
  | .enm a n => (stays h a n).map fun xs => xs.mapIdx fun i x => .tup [.int i, x]
/-- what raises in a comprehension is not covered -/
def noX {α : Type} : Rs α → Rs α
  | .ok a h => .ok a h
  | _ => .bad
def consO : Option D → List D → List D
  | none, ds => ds
  | some x, ds => x :: ds
/-- a list that is made of a walk's items -/
def lcGo (body : D → Oh → Rs (Option D)) (w : Wk) : Nat → Nat → Oh → Rs (List D)
  | 0, _, h => match w.now h with
    | some _ => .ok [] h
    | none => .bad
  | m + 1, i, h => match (w.now h).bind (fun ds => ds[i]?) with
    | none => .bad
    | some d => (noX (body d h)).bind fun o h1 => (noX (lcGo body w m (i + 1) h1)).bind fun ds h2 => .ok (consO o ds) h2
def alGo (k : Bool) (body : D → Oh → Rs (Option Bool)) (w : Wk) : Nat → Nat → Oh → Rs D
  | 0, _, h => match w.now h with
    | some _ => .ok (.bl k) h
    | none => .bad
  | m + 1, i, h => match (w.now h).bind (fun ds => ds[i]?) with
    | none => .bad
    | some d => (noX (body d h)).bind fun o h1 => match o with
      | none => alGo k body w m (i + 1) h1
      | some c => if c = k then alGo k body w m (i + 1) h1 else .ok (.bl (!k)) h1
def asB (r : Rs D) : Rs Bool := r.bind fun d h => match d with
  | .bl b => .ok b h
  | _ => .bad
def asI (r : Rs (List D)) : Rs (Option Int) := r.bind fun ds h => match ds with
  | [] => .ok none h
  | [.int i] => .ok (some i) h
  | _ => .bad
def tyOf (h : Oh) : D → Option Ty
  | .bl _ => some .bool
  | .int _ => some .int
  | .str _ => some .str
  | .tup _ => some .tuple
  | .lst _ => some .list
  | .lk _ => some .list
  | .non => none
  | .ref n => match h[n]? with
    | some (.lst _) => some .list
    | some (.dct _) => some .dict
    | _ => none
def isaD (ts : List Ty) (h : Oh) (d : D) : Option Bool :=
  match d with
  | .ref n => match h[n]? with
    | some (.lst _) => some (ts.any fun t => t == .list)
    | _ => none
  | d => some (ts.any fun t => match tyOf h d with
    | none => false
    | some u => u == t || (u == .bool && t == .int))
def appD (h : Oh) (a d : D) : Option Oh :=
  match a with
  | .ref n => match h[n]? with
    | some (.lst ds) => if ds.length < 16777216 then some (h.set n (.lst (ds ++ [d]))) else none
    | _ => none
  | _ => none
def extD (h : Oh) (a e : D) : Option Oh :=
  match a with
  | .ref n => match h[n]?, e with
    | some (.lst ds), .lst es => if ds.length + es.length ≤ 16777216 then some (h.set n (.lst (ds ++ es))) else none
    | _, _ => none
  | _ => none
def setD (h : Oh) (o i v : D) : Option Oh :=
  match o, i with
  | .ref n, .int k => match h[n]? with
    | some (.lst ds) => (L2.ixN ds.length k).map fun j => h.set n (.lst (ds.set j v))
    | _ => none
  | _, _ => none
/-- the place of the first item that equals x -/
def placeOf (x : PyData) : List PyData → Nat → Option Nat
  | [], _ => none
  | p :: ps, i => if PyData.eqv p x then some i else placeOf x ps (i + 1)
def idxD (h : Oh) (a e : D) : Option D :=
  match e.pyH h with
  | some x => (a.items h).bind fun ds => (D.pyL ds).bind fun ps => (placeOf x ps 0).map fun i : Nat => .int (i : Int)
  | none => none
/-- a set of ints, in order -/
def insU (x : Int) : List Int → List Int
  | [] => [x]
  | y :: ys => if x < y then x :: y :: ys else if x = y then y :: ys else y :: insU x ys
def setI (ns : List Int) : List Int := ns.foldr insU []
/-- the tuples of ints of a list of plain data -/
def tupsD : List D → Option (List (List Int))
  | [] => some []
  | .tup ds :: r => match intsD ds, tupsD r with
    | some ns, some ks => some (ns :: ks)
    | _, _ => none
  | _ => none
/-- without what comes again -/
def nubT : List (List Int) → List (List Int)
  | [] => []
  | k :: ks => if k ∈ ks then nubT ks else k :: nubT ks
/-- pairs of small numbers, in order -/
def cd2 : List Int → Int
  | [x, y] => x * 64 + y
  | _ => 0
def ok2 : List Int → Bool
  | [x, y] => decide (0 ≤ x) && decide (x < 64) && decide (0 ≤ y) && decide (y < 64)
  | _ => false
def ssetT (ks : List (List Int)) : List (List Int) := isort (fun a b => decide (cd2 a ≤ cd2 b)) (nubT ks)
def ssetD (h : Oh) (a : D) : Option D := match (a.items h).bind fun ds => (intsD ds).bind fun ns => if ns.length < 64 then some (D.lst ((setI ns).map .int)) else none with
  | some d => some d
  | none => match a with
    | .tup ds => (tupsD ds).bind fun ks => if ks.length < 64 && ks.all ok2 then some (.lst ((ssetT ks).map fun k => .tup (k.map .int))) else none
    | _ => none
def lsetD (h : Oh) (a : D) : Option D := match (a.items h).bind fun ds => (intsD ds).bind fun ns => if ns.length < 64 then some (D.int (setI ns).length) else none with
  | some d => some d
  | none => match a with
    | .tup ds => (tupsD ds).bind fun ks => if ks.length < 64 then some (.int (nubT ks).length) else none
    | _ => none
def isLs (h : Oh) : D → Bool
  | .ref n => match h[n]? with
    | some (.lst _) => true
    | _ => false
  | _ => false
/-- what _law_heard answers -/
structure Hd where
  tag : Str
  sub : Bool
def heardD (t : List Hd) (c : Nat) (vs : List D) : Option D :=
  (t[c]?).map fun d => .tup (.str d.tag :: vs ++ [.bl d.sub])

section
variable (c : Nat → List D → Oh → Rs D) (ht : List Hd)
mutual
def evE : Ex → En → Oh → Rs D
  | .cst d, _, h => .ok d h
  | .var n, env, h => match env[n]? with
    | some (some d) => .ok d h
    | _ => .bad
  | .tup es, env, h => (evL es env h).bind fun ds h1 => if ds.length ≤ 16777216 then .ok (.tup ds) h1 else .bad
  | .lst es, env, h => (evL es env h).bind fun ds h1 => if ds.length ≤ 16777216 then .ok (.lst ds) h1 else .bad
  | .mk es, env, h => (evL es env h).bind fun ds h1 => if ds.length ≤ 16777216 then .ok (.ref h1.length) (h1 ++ [.lst ds]) else .bad
  | .bin o a b, env, h => (evE a env h).bind fun x h1 => (evE b env h1).bind fun y h2 => opt (binD h2 o x y) h2
  | .neg a, env, h => (evE a env h).bind fun x h1 => match x with
    | .int i => .ok (.int (-i)) h1
    | _ => .bad
  | .not a, env, h => (asB (evE a env h)).bind fun x h1 => .ok (.bl (!x)) h1
  | .and a b, env, h => (asB (evE a env h)).bind fun x h1 => if x then (asB (evE b env h1)).bind fun y h2 => .ok (.bl y) h2 else .ok (.bl false) h1
  | .or a b, env, h => (asB (evE a env h)).bind fun x h1 => if x then .ok (.bl true) h1 else (asB (evE b env h1)).bind fun y h2 => .ok (.bl y) h2
  | .ite q a b, env, h => (asB (evE q env h)).bind fun x h1 => if x then evE a env h1 else evE b env h1
  | .cmp o a b, env, h => (evE a env h).bind fun x h1 => (evE b env h1).bind fun y h2 => opt (cmpB o h2 x y) h2
  | .cmp2 o o' a b d, env, h => (evE a env h).bind fun x h1 => (evE b env h1).bind fun y h2 => (opt (cmpD h2 o x y) h2).bind fun k h3 =>
      if k then (evE d env h3).bind fun z h4 => opt (cmpB o' h4 y z) h4 else .ok (.bl false) h3
  | .cmp3 o o' o'' a b d e, env, h => (evE a env h).bind fun x h1 => (evE b env h1).bind fun y h2 => (opt (cmpD h2 o x y) h2).bind fun k h3 =>
      if k then (evE d env h3).bind fun z h4 => (opt (cmpD h4 o' y z) h4).bind fun k2 h5 => if k2 then (evE e env h5).bind fun w h6 => opt (cmpB o'' h6 z w) h6 else .ok (.bl false) h5 else .ok (.bl false) h3
  | .isi ts a, env, h => (evE a env h).bind fun x h1 => (opt (isaD ts h1 x) h1).bind fun b h2 => .ok (.bl b) h2
  | .call g es, env, h => (evL es env h).bind fun ds h1 => c g ds h1
  | .bi o es, env, h => (evL es env h).bind fun ds h1 => opt (biD o h1 ds) h1
  | .ix a i, env, h => (evE a env h).bind fun x h1 => (evE i env h1).bind fun y h2 => opt (ixD h2 x y) h2
  | .sl a lo hi, env, h => (evE a env h).bind fun x h1 => (asI (evL lo env h1)).bind fun l h2 => (asI (evL hi env h2)).bind fun u h3 => opt (slD h3 x l u) h3
  | .lc t w cs vs e, env, h => (evI w env h).bind fun wk h1 => (noX (lcGo (fun d h2 => match bindT t d (wipeE env vs) with
      | none => .bad
      | some e2 => (evC cs e2 h2).bind fun b h3 => if b then (evE e e2 h3).bind fun v h4 => .ok (some v) h4 else .ok none h3) wk wk.len 0 h1)).bind fun ds h2 => .ok (.lst ds) h2
  | .al k t w cs vs e, env, h => (evI w env h).bind fun wk h1 => noX (alGo k (fun d h2 => match bindT t d (wipeE env vs) with
      | none => .bad
      | some e2 => (evC cs e2 h2).bind fun b h3 => if b then (asB (evE e e2 h3)).bind fun v h4 => .ok (some v) h4 else .ok none h3) wk wk.len 0 h1)
  | .app a e, env, h => (evE a env h).bind fun x h1 => if !isLs h1 x then .bad else (evE e env h1).bind fun y h2 => match appD h2 x y with
    | some h3 => .ok .non h3
    | none => .bad
  | .ext a e, env, h => (evE a env h).bind fun x h1 => if !isLs h1 x then .bad else (evE e env h1).bind fun y h2 => match extD h2 x y with
    | some h3 => .ok .non h3
    | none => .bad
  | .pop _ _, _, _ => .bad
  | .idx a e, env, h => (evE a env h).bind fun x h1 => if (x.items h1).isNone then .bad else (evE e env h1).bind fun y h2 => opt (idxD h2 x y) h2
  | .sset a, env, h => (evE a env h).bind fun x h1 => opt (ssetD h1 x) h1
  | .lset a, env, h => (evE a env h).bind fun x h1 => opt (lsetD h1 x) h1
  | .heard e, env, h => match evE e env h with
    | .ok _ h1 => .ok (.tup []) h1
    | .exc k vs h1 => opt (heardD ht k vs) h1
    | .bad => .bad
def evL : List Ex → En → Oh → Rs (List D)
  | [], _, h => .ok [] h
  | e :: es, env, h => (evE e env h).bind fun x h1 => (evL es env h1).bind fun xs h2 => .ok (x :: xs) h2
def evC : List Ex → En → Oh → Rs Bool
  | [], _, h => .ok true h
  | e :: es, env, h => (asB (evE e env h)).bind fun b h1 => if b then evC es env h1 else .ok false h1
def evI : It → En → Oh → Rs Wk
  | .seq e, env, h => (evE e env h).bind fun d h1 => opt ((d.items h1).bind fun ds => if ds.length ≤ 16777216 then some (.seq d ds.length) else none) h1
  | .rng1 a, env, h => (evE a env h).bind fun d h1 => match d with
    | .int i => if i ≤ 16777216 && -16777216 ≤ i then .ok (.rng 0 i.toNat) h1 else .bad
    | _ => .bad
  | .rng2 a b, env, h => (evE a env h).bind fun d h1 => (evE b env h1).bind fun e h2 => match d, e with
    | .int i, .int j => if i ≤ 8388608 && -8388608 ≤ i && j ≤ 8388608 && -8388608 ≤ j then .ok (.rng i (j - i).toNat) h2 else .bad
    | _, _ => .bad
  | .zip a b, env, h => (evE a env h).bind fun d h1 => (evE b env h1).bind fun e h2 => opt (match d, e with
    | .tup xs, .tup ys => if xs.length ≤ 16777216 then some (.zip d e xs.length ys.length) else none
    | .tup _, _ => none
    | _, .tup _ => none
    | d, e => (d.items h2).bind fun xs => (e.items h2).bind fun ys => if xs.length ≤ 16777216 then some (.zip d e xs.length ys.length) else none) h2
  | .enm a, env, h => (evE a env h).bind fun d h1 => opt (match d with
    | .tup _ => none
    | d => (d.items h1).bind fun ds => if ds.length ≤ 16777216 then some (.enm d ds.length) else none) h1
end

/-! ### statements -/
/-- the argument of an own error -/
def okX : List D → Bool
  | [.str y] => y.length ≤ 16000000
  | _ => false
inductive Fl where
  | nx
  | rt (d : D)
  | bk
  | ct
variable (W : Nat)
def wGo (test : En → Oh → Rs Bool) (body : En → Oh → Rs (Fl × En)) : Nat → En → Oh → Rs (Fl × En)
  | 0, _, _ => .bad
  | m + 1, env, h => (test env h).bind fun b h1 => if b then (body env h1).bind fun r h2 => match r.1 with
    | .nx => wGo test body m r.2 h2
    | .ct => wGo test body m r.2 h2
    | .bk => .ok (.nx, r.2) h2
    | .rt d => .ok (.rt d, r.2) h2
    else .ok (.nx, env) h1
def fGo (body : D → En → Oh → Rs (Fl × En)) (w : Wk) : Nat → Nat → En → Oh → Rs (Fl × En)
  | 0, _, env, h => match w.now h with
    | some _ => .ok (.nx, env) h
    | none => .bad
  | m + 1, i, env, h => match (w.now h).bind (fun ds => ds[i]?) with
    | none => .bad
    | some d => (body d env h).bind fun r h1 => match r.1 with
      | .nx => fGo body w m (i + 1) r.2 h1
      | .ct => fGo body w m (i + 1) r.2 h1
      | .bk => .ok (.nx, r.2) h1
      | .rt d => .ok (.rt d, r.2) h1
mutual
def evS : St → En → Oh → Rs (Fl × En)
  | .ex e, env, h => (evE c ht e env h).bind fun _ h1 => .ok (.nx, env) h1
  | .as t e, env, h => (evE c ht e env h).bind fun d h1 => match bindT t d env with
    | some e2 => .ok (.nx, e2) h1
    | none => .bad
  | .six o i e, env, h => (evE c ht e env h).bind fun v h1 => (evE c ht o env h1).bind fun x h2 => (evE c ht i env h2).bind fun y h3 => match setD h3 x y v with
    | some h4 => .ok (.nx, env) h4
    | none => .bad
  | .aug n o e, env, h => match env[n]? with
    | some (some (.int i)) => (evE c ht e env h).bind fun y h1 => match y with
      | .int j => match o with
        | .add => .ok (.nx, env.set n (some (.int (i + j)))) h1
        | .sub => .ok (.nx, env.set n (some (.int (i - j)))) h1
        | _ => .bad
      | _ => .bad
    | _ => .bad
  | .iff q a b, env, h => (asB (evE c ht q env h)).bind fun k h1 => if k then evSs a env h1 else evSs b env h1
  | .lop t w b, env, h => (evI c ht w env h).bind fun wk h1 => fGo (fun d e1 h2 => match bindT t d e1 with
      | none => .bad
      | some e2 => evSs b e2 h2) wk wk.len 0 env h1
  | .whl q b, env, h => wGo (fun e h => asB (evE c ht q e h)) (fun e h => evSs b e h) W env h
  | .ret e, env, h => (evE c ht e env h).bind fun d h1 => .ok (.rt d, env) h1
  | .rse k es, env, h => (evL c ht es env h).bind fun ds h1 => if okX ds then .exc k ds h1 else .bad
  | .brk, env, h => .ok (.bk, env) h
  | .cnt, env, h => .ok (.ct, env) h
  | .pss, env, h => .ok (.nx, env) h
def evSs : List St → En → Oh → Rs (Fl × En)
  | [], env, h => .ok (.nx, env) h
  | s :: ss, env, h => (evS s env h).bind fun r h1 => match r.1 with
    | .nx => evSs ss r.2 h1
    | f => .ok (f, r.2) h1
end
end

/-! ### defs -/
mutual
def below (k : Nat) : D → Bool
  | .ref n => n < k
  | .tup ds => belowL k ds
  | .lst ds => belowL k ds
  | .lk ds => belowL k ds
  | _ => true
def belowL (k : Nat) : List D → Bool
  | [] => true
  | d :: ds => below k d && belowL k ds
end
def obBelow (k : Nat) : Ob → Bool
  | .lst ds => belowL k ds
  | .dct kvs => kvs.all fun p => below k p.1 && below k p.2
  | .ins _ fs => belowL k (fs.map (·.2))
/-- lists of a def that has ended are frozen -/
def mapO {α β : Type} (g : α → Option β) : List α → Option (List β)
  | [] => some []
  | x :: xs => match g x, mapO g xs with
    | some y, some ys => some (y :: ys)
    | _, _ => none
def frz (h : Oh) (k : Nat) : Nat → D → Option D
  | 0, _ => none
  | m + 1, d => match d with
    | .ref n => if n < k then some (.ref n) else match h[n]? with
      | some (.lst ds) => (mapO (frz h k m) ds).map .lst
      | _ => none
    | .tup ds => (mapO (frz h k m) ds).map .tup
    | .lst ds => (mapO (frz h k m) ds).map .lst
    | .lk ds => (mapO (frz h k m) ds).map .lk
    | d => some d
def fin (k : Nat) (v : D) (h : Oh) : Rs D :=
  if h.length = k then .ok v h
  else if (h.take k).all (obBelow k) then opt (if below k v then some v else frz h k 12 v) (h.take k) else .bad
def finX (k c : Nat) (vs : List D) (h : Oh) : Rs D :=
  if h.length = k then .exc c vs h
  else if (h.take k).all (obBelow k) then (match (if belowL k vs then some vs else mapO (frz h k 12) vs) with | some us => .exc c us (h.take k) | none => .bad) else .bad
structure Df where
  np : Nat
  ns : Nat
  keep : Bool
  body : List St
def runD (c : Nat → List D → Oh → Rs D) (ht : List Hd) (W : Nat) (d : Df) (xs : List D) (h : Oh) : Rs D :=
  if xs.length = d.np then match evSs c ht W d.body (xs.map some ++ List.replicate (d.ns - d.np) none) h with
    | .ok r h1 => match r.1 with
      | .nx => if d.keep then .ok .non h1 else fin h.length .non h1
      | .rt v => if d.keep then .ok v h1 else fin h.length v h1
      | _ => .bad
    | .exc k vs h1 => if d.keep then .exc k vs h1 else finX h.length k vs h1
    | .bad => .bad
  else .bad
def callE (df : Nat → Option Df) (ht : List Hd) (W : Nat) : Nat → Nat → List D → Oh → Rs D
  | 0, _, _, _ => .bad
  | n + 1, g, xs, h => match df g with
    | some d => runD (callE df ht W n) ht W d xs h
    | none => .bad
end Ev

set_option Elab.async false
set_option linter.all false
set_option maxRecDepth 100000
set_option maxHeartbeats 2000000
set_option autoImplicit false
namespace Ev
open PySem PySem.Spec PyProof.Rows L2 GxR

/-! ### what is behind an evaluation -/
structure ER (K : PySem.W.Frag) (f : Fs) (H : Hp) (env : En) (σ : L2.St) : Prop where
  len : env.length = σ.length
  get : ∀ (i : Nat) (d : D), env[i]? = some (some d) → ∃ v, σ[i]? = some (some v) ∧ Rep K f H d v
def XRep (S : Sx) (f : Fs) (H : Hp) (c : Nat) (vs : List D) (C : Value) (dd : Option Addr) : Prop :=
  ∃ (A : Addr) (fs : List Str) (d : Addr) (us : List V), S.exA c = some (A, fs) ∧ C = .ref A ∧ dd = some d ∧ H d = some (.xd (fs.zip us)) ∧ RepL S.K f H vs us ∧ fs.length = us.length
/-- the rest, from (f, H) -/
def Po {α β : Type} (S : Sx) (E : XK) (R : Fs → Hp → α → β → Prop) (f : Fs) (H : Hp) (r : Rs α) (Q : β → Hp → Prop) : Prop :=
  match r with
  | .ok a h' => ∀ (f' : Fs) (H' : Hp) (b : β), Ext f H f' H' → RR S f' H' h' → R f' H' a b → Q b H'
  | .exc c vs h' => ∀ (f' : Fs) (H' : Hp) (C : Value) (dd : Option Addr), Ext f H f' H' → RR S f' H' h' → XRep S f' H' c vs C dd → E C dd H'
  | .bad => False
abbrev RD (S : Sx) : Fs → Hp → D → V → Prop := fun f H d v => Rep S.K f H d v
abbrev RL (S : Sx) : Fs → Hp → List D → List V → Prop := fun f H d v => RepL S.K f H d v
def REq {α : Type} : Fs → Hp → α → α → Prop := fun _ _ a b => a = b

section
variable {S : Sx} {E : XK} {f f' : Fs} {H H' : Hp} {h h' : Oh}
theorem ER.ext {K : PySem.W.Frag} {env : En} {σ : L2.St} (x : Ext f H f' H') (e : ER K f H env σ) : ER K f' H' env σ := ⟨e.len, fun i d q => by
  obtain ⟨v, a, b⟩ := e.get i d q
  exact ⟨v, a, b.ext x⟩⟩
theorem Po.base {α β : Type} {R : Fs → Hp → α → β → Prop} {r : Rs α} {Q : β → Hp → Prop} (hR : RR S f H h) (x : Ext f H f' H') (p : Po S E R f H r Q) : Po S E R f' H' r Q := by
  cases r with
  | ok a h1 => exact fun f2 H2 b y => p f2 H2 b (x.trans y hR.tr)
  | exc c vs h1 => exact fun f2 H2 b dd y => p f2 H2 b dd (x.trans y hR.tr)
  | bad => exact p.elim
theorem Po.bind {α β γ δ : Type} {R : Fs → Hp → α → β → Prop} {R' : Fs → Hp → γ → δ → Prop} {r : Rs α} {k : α → Oh → Rs γ} {Q : δ → Hp → Prop} (hR : RR S f H h) (p : Po S E R' f H (r.bind k) Q) :
    Po S E R f H r (fun v H1 => ∃ a f1 h1, Ext f H f1 H1 ∧ RR S f1 H1 h1 ∧ R f1 H1 a v ∧ Po S E R' f1 H1 (k a h1) Q) := by
  cases r with
  | ok a h1 => exact fun f2 H2 b x r q => ⟨a, f2, h1, x, r, q, p.base hR x⟩
  | exc c vs h1 => exact p
  | bad => exact p
theorem Po.imp {α β : Type} {R : Fs → Hp → α → β → Prop} {r : Rs α} {Q Q' : β → Hp → Prop} (p : Po S E R f H r Q) (i : ∀ b H', Q b H' → Q' b H') : Po S E R f H r Q' := by
  cases r with
  | ok a h1 => exact fun f2 H2 b x y z => i _ _ (p f2 H2 b x y z)
  | exc c vs h1 => exact p
  | bad => exact p
/-- an option's rest -/
theorem Po.opt {α β : Type} {R : Fs → Hp → α → β → Prop} {o : Option α} {Q : β → Hp → Prop} (p : Po S E R f H (opt o h) Q) : ∃ a, o = some a ∧ Po S E R f H (.ok a h) Q := by
  cases o with
  | some a => exact ⟨a, rfl, p⟩
  | none => exact p.elim
end

/-! ### readings -/
abbrev Ef (α : Type) := En → Oh → Rs α
def TEv (S : Sx) (E : XK) (ev : Ef D) : TE := fun σ H Q => ∃ (f : Fs) (h : Oh) (env : En), ER S.K f H env σ ∧ RR S f H h ∧ Po S E (RD S) f H (ev env h) Q
def TTv (S : Sx) (E : XK) (ev : Ef D) : TT := fun σ H Q => ∃ (f : Fs) (h : Oh) (env : En), ER S.K f H env σ ∧ RR S f H h ∧ Po S E REq f H (asB (ev env h)) Q
def TLv (S : Sx) (E : XK) (ev : Ef (List D)) : TA := fun σ H Q => ∃ (f : Fs) (h : Oh) (env : En), ER S.K f H env σ ∧ RR S f H h ∧ Po S E (RL S) f H (ev env h) Q

/-! ### contexts -/
/-- what may be made here: generator expressions, lambdas -/
inductive Gm | no | ge | la
  deriving DecidableEq
structure Gd (S : Sx) (N : List Str) (sc : Scope) (k : Nat) (g : Gm) (E : XK) (X : Cx) : Prop where
  xs : XS S X
  calm : X.calm = true
  nm : X.N = N
  nd : N.Nodup
  room : Room k X.A
  sc : X.env.scope = sc
  tk : Takes X (fun c d _ H => E c d H)
  cd : g = .ge → ∃ c P, X.env.code = .ref c ∧ TabB X.base X.mg c P ∧ P ∈ S.tabs ∧ ∀ p ∈ S.tq, p.1 ≠ P
  ld : g = .la → ∃ c P, X.env.code = .ref c ∧ LamX.TabB X.base X.mg c P ∧ (P, X.env.qual ++ "<lambda>") ∈ S.tq ∧ ∀ p ∈ S.tq, p.1 = P → p.2 = X.env.qual ++ "<lambda>"
theorem Gd.hu {S : Sx} {N : List Str} {sc : Scope} {k : Nat} {g : Gm} {E : XK} {X : Cx} (G : Gd S N sc k g E X) : X.A.units + 65 < cLine := by
  have := G.room.un
  omega
theorem Gd.hu1 {S : Sx} {N : List Str} {sc : Scope} {k : Nat} {g : Gm} {E : XK} {X : Cx} (G : Gd S N sc k g E X) : X.A.units < cLine := by
  have := G.hu
  omega
def Go (S : Sx) (N : List Str) (sc : Scope) (k : Nat) (g : Gm) (e : Expr) (ev : Ef D) : Prop := ∀ (E : XK) (X : Cx), Gd S N sc k g E X → PE X e (TEv S E ev)
def GoT (S : Sx) (N : List Str) (sc : Scope) (k : Nat) (g : Gm) (e : Expr) (ev : Ef D) : Prop := ∀ (E : XK) (X : Cx), Gd S N sc k g E X → PT X e (TTv S E ev)
def GoW (S : Sx) (N : List Str) (sc : Scope) (k : Nat) (g : Gm) (e : Expr) (ev : Ef D) : Prop := ∀ (E : XK) (X : Cx), Gd S N sc k g E X → PW X e (TTv S E ev)
def GoL (S : Sx) (N : List Str) (sc : Scope) (k : Nat) (g : Gm) (es : List Expr) (ev : Ef (List D)) : Prop := ∀ (E : XK) (X : Cx), Gd S N sc k g E X → PA X es (TLv S E ev)

theorem peImp {X : Cx} {e : Expr} {t t' : TE} (h : PE X e t) (i : ∀ σ H Q, t' σ H Q → t σ H Q) : PE X e t' := ⟨fun pins s σ H Q I q => h.run pins s σ H Q I (i _ _ _ q)⟩
theorem ptImp {X : Cx} {e : Expr} {t t' : TT} (h : PT X e t) (i : ∀ σ H Q, t' σ H Q → t σ H Q) : PT X e t' := ⟨fun pins s σ H Q I q => h.run pins s σ H Q I (i _ _ _ q)⟩
theorem pwImp {X : Cx} {e : Expr} {t t' : TT} (h : PW X e t) (i : ∀ σ H Q, t' σ H Q → t σ H Q) : PW X e t' := ⟨fun wh pins s σ H Q I q => h.run wh pins s σ H Q I (i _ _ _ q)⟩
theorem paImp {X : Cx} {e : List Expr} {t t' : TA} (h : PA X e t) (i : ∀ σ H Q, t' σ H Q → t σ H Q) : PA X e t' := ⟨fun pos pins s σ H Q I q => h.run pos pins s σ H Q I (i _ _ _ q)⟩

section
variable {S : Sx} {N : List Str} {sc : Scope} {k : Nat} {g : Gm}
/-- a test whose value is asked -/
theorem got_val {e : Expr} {ev : Ef D} (h : Go S N sc k g e ev) (he : ∀ (env : Env) whole, isTrue e env whole = (do let v ← whole; standAt e.pos; holding [v] (truthy v))) : GoT S N sc k g e ev := fun E X G => by
  refine ptImp (pt_val (h E X G) (he _)) fun σ H Q ⟨f, h, env, er, rr, p⟩ => ⟨f, h, env, er, rr, ?_⟩
  refine (Po.bind (R := RD S) rr p).imp fun v H1 ⟨a, f1, h1, x, r1, q, p1⟩ => ?_
  cases q with
  | bl b => exact ⟨b, rfl, p1 f1 H1 b .refl r1 rfl⟩
  | _ => exact p1.elim
theorem GoW.t {e : Expr} {ev : Ef D} (h : GoW S N sc k g e ev) : GoT S N sc k g e ev := fun E X G => (h E X G).pt
variable {c : Nat → List D → Oh → Rs D} {ht : List Hd}
theorem go_int {i : Int} {j pos} : Go S N sc k g (.Constant (.int i) j pos) (evE c ht (.cst (.int i))) := fun E X G => by
  refine peImp pe_int fun σ H Q ⟨f, h, env, er, rr, p⟩ => ?_
  simp only [evE] at p
  exact p f H _ .refl rr (.int _)
theorem go_bool {i : Bool} {j pos} : Go S N sc k g (.Constant (.bool i) j pos) (evE c ht (.cst (.bl i))) := fun E X G => by
  refine peImp pe_bl fun σ H Q ⟨f, h, env, er, rr, p⟩ => ?_
  simp only [evE] at p
  exact p f H _ .refl rr (.bl _)
theorem go_non {j pos} : Go S N sc k g (.Constant .none j pos) (evE c ht (.cst .non)) := fun E X G => by
  refine peImp pe_non fun σ H Q ⟨f, h, env, er, rr, p⟩ => ?_
  simp only [evE] at p
  exact p f H _ .refl rr .non
theorem go_str {i : Str} {j pos} : Go S N sc k g (.Constant (.str i) j pos) (evE c ht (.cst (.str i))) := fun E X G => by
  refine peImp pe_str fun σ H Q ⟨f, h, env, er, rr, p⟩ => ?_
  simp only [evE] at p
  exact p f H _ .refl rr (.str _)
/-- a constant of the module -/
theorem go_glob {x : Str} {d : D} {pos} (hg : sc.names.lookup x = some .globalImplicit) (hm : ∃ v u, S.mg x = some u ∧ RelV v u ∧ ∀ f H h, RR S f H h → Rep S.K f H d v) (hd : (x == ("__debug__" : Str)) = false) : Go S N sc k g (.Name x pos) (evE c ht (.cst d)) := fun E X G => by
  obtain ⟨v, u, h1, h2, h3⟩ := hm
  have e1 : Gl X x := by unfold Gl Env.kindOf; rw [G.sc]; exact hg
  refine peImp (pe_glob e1 (by rw [G.xs.mg]; exact h1) h2 hd) fun σ H Q ⟨f, h, env, er, rr, p⟩ => ?_
  simp only [evE] at p
  exact p f H _ .refl rr (h3 f H h rr)
theorem go_var {x : Str} {i : Nat} {pos} (hN : N[i]? = some x) (hv : Vis sc x) (hd : (x == ("__debug__" : Str)) = false) (hcd : (x == ("__classdict__" : Str)) = false) : Go S N sc k g (.Name x pos) (evE c ht (.var i)) := fun E X G => by
  refine peImp (pe_var (i := i) (by rw [G.nm]; exact hN) (by rw [G.sc]; exact hv) hd hcd) fun σ H Q ⟨f, h, env, er, rr, p⟩ => ?_
  simp only [evE] at p
  split at p
  · rename_i d hd
    obtain ⟨v, e1, e2⟩ := er.get i d hd
    exact ⟨v, e1, p f H v .refl rr e2⟩
  · exact p.elim
theorem gol_nil : GoL S N sc k g [] (evL c ht []) := fun E X G => by
  refine paImp pa_nil fun σ H Q ⟨f, h, env, er, rr, p⟩ => ?_
  simp only [evL] at p
  exact p f H [] .refl rr .nil
theorem gol_cons {e : Expr} {es : List Expr} {x : Ex} {xs : List Ex} (h1 : Go S N sc k g e (evE c ht x)) (h2 : GoL S N sc k g es (evL c ht xs)) (hs : ∀ env, starEach (e :: es) env = (false, eval e env) :: starEach es env) : GoL S N sc k g (e :: es) (evL c ht (x :: xs)) := fun E X G => by
  refine paImp (pa_cons (h1 E X G) (h2 E X G) (hs _)) fun σ H Q ⟨f, h, env, er, rr, p⟩ => ⟨f, h, env, er, rr, ?_⟩
  simp only [evL] at p
  refine (Po.bind (R := RD S) rr p).imp fun v H1 ⟨a, f1, h1, x1, r1, q1, p1⟩ => ⟨f1, h1, env, er.ext x1, r1, ?_⟩
  refine (Po.bind (R := RL S) r1 p1).imp fun vs H2 ⟨as, f2, h2, x2, r2, q2, p2⟩ => ?_
  exact p2 f2 H2 _ .refl r2 (.cons (q1.ext x2) q2)
theorem go_tup {es : List Expr} {xs : List Ex} {j pos} (h1 : GoL S N sc k g es (evL c ht xs)) : Go S N sc k g (.Tuple es j pos) (evE c ht (.tup xs)) := fun E X G => by
  refine peImp (pe_tupF (h1 E X G)) fun σ H Q ⟨f, h, env, er, rr, p⟩ => ⟨f, h, env, er, rr, ?_⟩
  simp only [evE] at p
  refine (Po.bind (R := RL S) rr p).imp fun vs H1 ⟨as, f1, h1, x1, r1, q1, p1⟩ => ?_
  split at p1
  · rename_i hl
    have e := sizeLine_eq
    exact ⟨by rw [← q1.length, e]; exact hl, fun p us hp => p1 f1 _ _ (r1.ex hp) (r1.upd hp) (r1.newT hp q1)⟩
  · exact p1.elim
theorem go_lst {es : List Expr} {xs : List Ex} {pos} (h1 : GoL S N sc k g es (evL c ht xs)) : Go S N sc k g (.List es pos) (evE c ht (.lst xs)) := fun E X G => by
  refine peImp (pe_lst (h1 E X G)) fun σ H Q ⟨f, h, env, er, rr, p⟩ => ⟨f, h, env, er, rr, ?_⟩
  simp only [evE] at p
  refine (Po.bind (R := RL S) rr p).imp fun vs H1 ⟨as, f1, h1, x1, r1, q1, p1⟩ => ?_
  split at p1
  · rename_i hl
    have e := sizeLine_eq
    exact ⟨by rw [← q1.length, e]; exact hl, fun p hp => p1 f1 _ _ (r1.ex hp) (r1.upd hp) (r1.new hp q1)⟩
  · exact p1.elim
/-- a new object of the evaluator's -/
theorem RR.push {f : Fs} {H : Hp} {h : Oh} {p : Addr} {u : HO} {o : Ob} (r : RR S f H h) (hp : H p = none) (ht : ∀ ps, u ≠ .tbl ps) (ho : ∀ f', Ext f H f' (L2.upd H p u) → ObRep S.K S.clsA f' (L2.upd H p u) p o) : Ext f H ⟨f.l ++ [p], f.g⟩ (L2.upd H p u) ∧ RR S ⟨f.l ++ [p], f.g⟩ (L2.upd H p u) (h ++ [o]) := by
  have np : p ∉ f := r.ntr hp
  have x : Ext f H ⟨f.l ++ [p], f.g⟩ (L2.upd H p u) := by
    have y := r.ex (o := u) hp
    refine ⟨⟨[p], rfl⟩, rfl, y.gh, fun a ha => ?_, y.keep, y.tbl⟩
    rcases ha with ha | ha
    · rcases List.mem_append.mp ha with ha | ha
      · exact .inl (.inl ha)
      · simp at ha; subst ha; exact .inr hp
    · exact .inl (.inr ha)
  refine ⟨x, ?_, ?_, fun a ha hl => ?_, fun a ha => ?_, fun n ob e => ?_, fun P hP => ?_, fun a ha => ?_, fun q hq => tq_upd (r.tq q hq) (fun ps z => by rw [hp] at z; cases z) (fun c q z => by rw [hp] at z; cases z)⟩
  · simp [r.len]
  · show (f.l ++ [p]).Nodup
    rw [List.nodup_append]
    refine ⟨r.nd, by simp, fun a ha b hb => ?_⟩
    simp at hb; subst hb
    exact fun e => np (.inl (e ▸ ha))
  · rcases List.mem_append.mp hl with hl | hl
    · exact r.dj a ha hl
    · simp at hl; subst hl; exact np (.inr ha)
  · have := r.gt a ha
    rw [upd_ne fun z => this.1 (by rw [z]; exact hp)]
    exact this
  · by_cases hn : n < h.length
    · rw [List.getElem?_append_left hn] at e
      obtain ⟨a, e1, q⟩ := r.obj n ob e
      refine ⟨a, ?_, q.ext x (upd_ne fun z => q.some.1 (by rw [z]; exact hp))⟩
      show (f.l ++ [p])[n]? = some a
      rw [List.getElem?_append_left (by rw [r.len]; exact hn)]
      exact e1
    · have hn : h.length ≤ n := Nat.le_of_not_lt hn
      rw [List.getElem?_append_right hn] at e
      have hz : n - h.length = 0 := by
        cases hd : n - h.length with
        | zero => rfl
        | succ m => rw [hd] at e; simp at e
      rw [hz] at e
      simp at e
      subst e
      have : n = f.l.length := by rw [r.len]; omega
      subst this
      refine ⟨p, ?_, ho _ x⟩
      show (f.l ++ [p])[f.l.length]? = some p
      simp
  · obtain ⟨ps, e, t⟩ := r.tab P hP
    exact ⟨ps, by rw [upd_ne (ne_of_none e hp)]; exact e, t⟩
  · have := (r.gt a ha).1
    rw [upd_ne fun z => this (by rw [z]; exact hp)]
    exact r.gq a ha
theorem go_mk {es : List Expr} {xs : List Ex} {pos} (h1 : GoL S N sc k g es (evL c ht xs)) : Go S N sc k g (.List es pos) (evE c ht (.mk xs)) := fun E X G => by
  refine peImp (pe_lst (h1 E X G)) fun σ H Q ⟨f, h, env, er, rr, p⟩ => ⟨f, h, env, er, rr, ?_⟩
  simp only [evE] at p
  refine (Po.bind (R := RL S) rr p).imp fun vs H1 ⟨as, f1, h1, x1, r1, q1, p1⟩ => ?_
  split at p1
  · rename_i hl
    have e := sizeLine_eq
    refine ⟨by rw [← q1.length, e]; exact hl, fun p hp => ?_⟩
    obtain ⟨x2, r2⟩ := r1.push (u := .lst vs) (o := .lst as) hp (fun ps q => by cases q) fun f' x => ⟨vs, upd_same, q1.ext x⟩
    refine p1 _ _ _ x2 r2 (.ref ?_)
    show (f1.l ++ [p])[h1.length]? = some p
    rw [← r1.len]
    simp
  · exact p1.elim
theorem go_bin {a b : Expr} {x y : Ex} {o : Bop} {pos} (ha : Go S N sc k g a (evE c ht x)) (hb : Go S N sc k g b (evE c ht y)) : Go S N sc k g (.BinOp a o.op b pos) (evE c ht (.bin o x y)) := fun E X G => by
  refine peImp (pe_op (op_bin G.xs o) (ha E X G) (hb E X G)) fun σ H Q ⟨f, h, env, er, rr, p⟩ => ⟨f, h, env, er, rr, ?_⟩
  simp only [evE] at p
  refine (Po.bind (R := RD S) rr p).imp fun v H1 ⟨a1, f1, h1, x1, r1, q1, p1⟩ => ⟨f1, h1, env, er.ext x1, r1, ?_⟩
  refine (Po.bind (R := RD S) r1 p1).imp fun u H2 ⟨a2, f2, h2, x2, r2, q2, p2⟩ => ?_
  obtain ⟨r, e, p3⟩ := p2.opt
  exact ⟨f2, h2, a1, a2, r, r2, q1.ext x2, q2, e, fun H' v' x3 r3 q3 => p3 f2 H' v' x3 r3 q3⟩
theorem go_cmp {a b : Expr} {x y : Ex} {o : Cop} {pos} (ha : Go S N sc k g a (evE c ht x)) (hb : Go S N sc k g b (evE c ht y)) (hm : behindInMarks o.op b = false) : Go S N sc k g (.Compare a [o.op] [b] pos) (evE c ht (.cmp o x y)) := fun E X G => by
  refine peImp (pe_cmpR (op_cmp G.xs G.hu o) (ha E X G) (hb E X G) hm) fun σ H Q ⟨f, h, env, er, rr, p⟩ => ⟨f, h, env, er, rr, ?_⟩
  simp only [evE] at p
  refine (Po.bind (R := RD S) rr p).imp fun v H1 ⟨a1, f1, h1, x1, r1, q1, p1⟩ => ⟨f1, h1, env, er.ext x1, r1, ?_⟩
  refine (Po.bind (R := RD S) r1 p1).imp fun u H2 ⟨a2, f2, h2, x2, r2, q2, p2⟩ => ?_
  obtain ⟨r, e, p3⟩ := p2.opt
  exact ⟨f2, h2, a1, a2, r, r2, q1.ext x2, q2, e, fun H' v' x3 r3 q3 => p3 f2 H' v' x3 r3 q3⟩
end
end Ev

set_option Elab.async false
set_option linter.all false
set_option maxRecDepth 100000
set_option maxHeartbeats 2000000
set_option autoImplicit false
namespace Ev
open PySem PySem.Spec PyProof.Rows L2 GxR

section
variable {S : Sx} {N : List Str} {sc : Scope} {k : Nat} {g : Gm} {c : Nat → List D → Oh → Rs D} {ht : List Hd}
theorem ttv_tev {E : XK} {ev : Ef D} {σ : L2.St} {H : Hp} {Q : Bool → Hp → Prop} (t : TTv S E ev σ H Q) : TEv S E ev σ H (fun x H' => ∃ k, x = .bl k ∧ Q k H') := by
  obtain ⟨f, h, env, er, rr, p⟩ := t
  refine ⟨f, h, env, er, rr, ?_⟩
  refine (Po.bind (R := RD S) rr p).imp fun v H1 ⟨a, f1, h1, x, r1, q, p1⟩ => ?_
  cases q with
  | bl b => exact ⟨b, rfl, p1 f1 H1 b .refl r1 rfl⟩
  | _ => exact p1.elim
/-- a value that is made from a test: asB -/
theorem Po.asB {E : XK} {f : Fs} {H : Hp} {r : Rs D} {Q : VK} {γ δ : Type} {R' : Fs → Hp → γ → δ → Prop} {Q' : δ → Hp → Prop} {kk : Bool → Oh → Rs γ} {h : Oh} (hR : RR S f H h) (p : Po S E R' f H ((asB r).bind kk) Q') :
    Po S E (RD S) f H r (fun v H1 => ∃ b f1 h1, v = .bl b ∧ Ext f H f1 H1 ∧ RR S f1 H1 h1 ∧ Po S E R' f1 H1 (kk b h1) Q') := by
  have p : Po S E R' f H (r.bind fun d h => (match d with | .bl b => Rs.ok b h | _ => Rs.bad : Rs Bool).bind kk) Q' := by
    cases r with
    | ok d h1 => cases d <;> exact p
    | exc _ _ _ => exact p
    | bad => exact p
  refine (Po.bind (R := RD S) hR p).imp fun v H1 ⟨a, f1, h1, x, r1, q, p1⟩ => ?_
  cases q with
  | bl b => exact ⟨b, f1, h1, rfl, x, r1, p1⟩
  | _ => exact p1.elim

theorem key_cmp {E : XK} {x y : Ex} {o : Cop} : ∀ σ H Q, TEv S E (evE c ht (.cmp o x y)) σ H Q → tOp (rPure S (cmpB o)) (TEv S E (evE c ht x)) (TEv S E (evE c ht y)) σ H Q := fun σ H Q ⟨f, h, env, er, rr, p⟩ => by
  refine ⟨f, h, env, er, rr, ?_⟩
  simp only [evE] at p
  refine (Po.bind (R := RD S) rr p).imp fun v H1 ⟨a1, f1, h1, x1, r1, q1, p1⟩ => ⟨f1, h1, env, er.ext x1, r1, ?_⟩
  refine (Po.bind (R := RD S) r1 p1).imp fun u H2 ⟨a2, f2, h2, x2, r2, q2, p2⟩ => ?_
  obtain ⟨r, e, p3⟩ := p2.opt
  exact ⟨f2, h2, a1, a2, r, r2, q1.ext x2, q2, e, fun H' v' x3 r3 q3 => p3 f2 H' v' x3 r3 q3⟩
theorem got_cmp {a b : Expr} {x y : Ex} {o : Cop} {pos} (ha : Go S N sc k g a (evE c ht x)) (hb : Go S N sc k g b (evE c ht y)) (hm : behindInMarks o.op b = false) : GoT S N sc k g (.Compare a [o.op] [b] pos) (evE c ht (.cmp o x y)) := fun E X G =>
  ptImp (pt_cmpR (op_cmp G.xs G.hu o) (ha E X G) (hb E X G) hm) fun σ H Q t => key_cmp σ H _ (ttv_tev t)
theorem key_cmp2 {E : XK} {x y z : Ex} {o o' : Cop} : ∀ σ H Q, TEv S E (evE c ht (.cmp2 o o' x y z)) σ H Q → tChain (rPure S (cmpB o)) (rPure S (cmpB o')) (TEv S E (evE c ht x)) (TEv S E (evE c ht y)) (TEv S E (evE c ht z)) σ H Q := fun σ H Q ⟨f, h, env, er, rr, p⟩ => by
  refine ⟨f, h, env, er, rr, ?_⟩
  simp only [evE] at p
  refine (Po.bind (R := RD S) rr p).imp fun v H1 ⟨a1, f1, h1, x1, r1, q1, p1⟩ => ⟨f1, h1, env, er.ext x1, r1, ?_⟩
  refine (Po.bind (R := RD S) r1 p1).imp fun u H2 ⟨a2, f2, h2, x2, r2, q2, p2⟩ => ?_
  have p2' : ∃ b, cmpD h2 o a1 a2 = some b ∧ Po S E (RD S) f2 H2 (if b then (evE c ht z env h2).bind fun z h4 => opt (cmpB o' h4 a2 z) h4 else .ok (.bl false) h2) Q := by
    cases e : cmpD h2 o a1 a2 with
    | none => rw [e] at p2; exact p2.elim
    | some b => rw [e] at p2; exact ⟨b, rfl, p2⟩
  obtain ⟨b, e, p3⟩ := p2'
  refine ⟨f2, h2, a1, a2, .bl b, r2, q1.ext x2, q2, by unfold cmpB; rw [e]; rfl, fun H3 v3 x3 r3 q3 => ?_⟩
  cases q3
  refine ⟨b, rfl, ?_⟩
  cases b with
  | false => exact p3 f2 H3 _ x3 r3 (.bl _)
  | true =>
    refine ⟨f2, h2, env, (er.ext (x1.trans x2 rr.tr)).ext x3, r3, ?_⟩
    have p4 := p3.base r2 x3
    refine (Po.bind (R := RD S) r3 p4).imp fun w H4 ⟨a4, f4, h4, x4, r4, q4, p5⟩ => ?_
    obtain ⟨r, e5, p6⟩ := p5.opt
    exact ⟨f4, h4, a2, a4, r, r4, (q2.ext x3).ext x4, q4, e5, fun H' v' x' r' q' => p6 f4 H' v' x' r' q'⟩
theorem go_cmp2 {a b d : Expr} {x y z : Ex} {o o' : Cop} {pos} (ha : Go S N sc k g a (evE c ht x)) (hb : Go S N sc k g b (evE c ht y)) (hd : Go S N sc k g d (evE c ht z)) (hm : lastMarks [o.op, o'.op] [b, d] = false) : Go S N sc k g (.Compare a [o.op, o'.op] [b, d] pos) (evE c ht (.cmp2 o o' x y z)) := fun E X G =>
  peImp (pe_chain (op_cmp G.xs G.hu o) (op_cmp G.xs G.hu o') (ha E X G) (hb E X G) (hd E X G) hm) key_cmp2
theorem got_cmp2 {a b d : Expr} {x y z : Ex} {o o' : Cop} {pos} (ha : Go S N sc k g a (evE c ht x)) (hb : Go S N sc k g b (evE c ht y)) (hd : Go S N sc k g d (evE c ht z)) (hm : lastMarks [o.op, o'.op] [b, d] = false) : GoT S N sc k g (.Compare a [o.op, o'.op] [b, d] pos) (evE c ht (.cmp2 o o' x y z)) := fun E X G =>
  ptImp (pt_chain (op_cmp G.xs G.hu o) (op_cmp G.xs G.hu o') (ha E X G) (hb E X G) (hd E X G) hm) fun σ H Q t => key_cmp2 σ H _ (ttv_tev t)
theorem go_neg {a : Expr} {x : Ex} {pos} (ha : Go S N sc k g a (evE c ht x)) : Go S N sc k g (.UnaryOp .USub a pos) (evE c ht (.neg x)) := fun E X G => by
  refine peImp (pe_un un_neg (ha E X G)) fun σ H Q ⟨f, h, env, er, rr, p⟩ => ⟨f, h, env, er, rr, ?_⟩
  simp only [evE] at p
  refine (Po.bind (R := RD S) rr p).imp fun v H1 ⟨a1, f1, h1, x1, r1, q1, p1⟩ => ?_
  cases q1 with
  | int i => exact ⟨i, rfl, p1 f1 H1 _ .refl r1 (.int _)⟩
  | _ => exact p1.elim
theorem go_not {a : Expr} {x : Ex} {pos} (ha : Go S N sc k g a (evE c ht x)) : Go S N sc k g (.UnaryOp .Not a pos) (evE c ht (.not x)) := fun E X G => by
  refine peImp (pe_not (ha E X G)) fun σ H Q ⟨f, h, env, er, rr, p⟩ => ⟨f, h, env, er, rr, ?_⟩
  simp only [evE] at p
  refine (Po.asB (Q := Q) rr p).imp fun v H1 ⟨b, f1, h1, e, x1, r1, p1⟩ => ⟨b, e, p1 f1 H1 _ .refl r1 (.bl _)⟩
theorem got_not {a : Expr} {x : Ex} {pos} (ha : GoT S N sc k g a (evE c ht x)) : GoT S N sc k g (.UnaryOp .Not a pos) (evE c ht (.not x)) := fun E X G => by
  refine ptImp (pt_not (ha E X G)) fun σ H Q ⟨f, h, env, er, rr, p⟩ => ⟨f, h, env, er, rr, ?_⟩
  simp only [evE] at p
  cases hr : Ev.asB (evE c ht x env h) with
  | ok b h1 =>
    rw [hr] at p
    exact fun f1 H1 b' x1 r1 q => by
      cases q
      exact p f1 H1 _ x1 r1 rfl
  | exc _ _ _ => rw [hr] at p; exact p
  | bad => rw [hr] at p; exact p
theorem go_and {a b : Expr} {rest : List Expr} {x y : Ex} {pos} (ha : Go S N sc k g a (evE c ht x)) (hb : Go S N sc k g (.BoolOp .And (b :: rest) pos) (evE c ht y)) : Go S N sc k g (.BoolOp .And (a :: b :: rest) pos) (evE c ht (.and x y)) := fun E X G => by
  refine peImp (pe_and (ha E X G) (hb E X G)) fun σ H Q ⟨f, h, env, er, rr, p⟩ => ⟨f, h, env, er, rr, ?_⟩
  simp only [evE] at p
  refine (Po.asB (Q := Q) rr p).imp fun v H1 ⟨b, f1, h1, e, x1, r1, p1⟩ => ⟨b, e, ?_⟩
  cases b with
  | false => exact p1 f1 H1 _ .refl r1 (.bl _)
  | true =>
    refine ⟨f1, h1, env, er.ext x1, r1, ?_⟩
    refine (Po.asB (Q := Q) r1 p1).imp fun v H2 ⟨b, f2, h2, e, x2, r2, p2⟩ => ?_
    subst e
    exact p2 f2 H2 _ .refl r2 (.bl _)
theorem go_or {a b : Expr} {rest : List Expr} {x y : Ex} {pos} (ha : Go S N sc k g a (evE c ht x)) (hb : Go S N sc k g (.BoolOp .Or (b :: rest) pos) (evE c ht y)) : Go S N sc k g (.BoolOp .Or (a :: b :: rest) pos) (evE c ht (.or x y)) := fun E X G => by
  refine peImp (pe_or (ha E X G) (hb E X G)) fun σ H Q ⟨f, h, env, er, rr, p⟩ => ⟨f, h, env, er, rr, ?_⟩
  simp only [evE] at p
  refine (Po.asB (Q := Q) rr p).imp fun v H1 ⟨b, f1, h1, e, x1, r1, p1⟩ => ⟨b, e, ?_⟩
  cases b with
  | true => exact p1 f1 H1 _ .refl r1 (.bl _)
  | false =>
    refine ⟨f1, h1, env, er.ext x1, r1, ?_⟩
    refine (Po.asB (Q := Q) r1 p1).imp fun v H2 ⟨b, f2, h2, e, x2, r2, p2⟩ => ?_
    subst e
    exact p2 f2 H2 _ .refl r2 (.bl _)
theorem asB_and {r : Rs Bool} {kk : Oh → Rs Bool} : asB (r.bind fun x h1 => if x then (kk h1).bind fun y h2 => .ok (.bl y) h2 else .ok (.bl false) h1) = r.bind fun x h1 => if x then kk h1 else .ok false h1 := by
  cases r with
  | ok b h1 =>
    cases b with
    | false => rfl
    | true =>
      show asB ((kk h1).bind fun y h2 => .ok (.bl y) h2) = kk h1
      cases kk h1 <;> rfl
  | exc _ _ _ => rfl
  | bad => rfl
theorem asB_or {r : Rs Bool} {kk : Oh → Rs Bool} : asB (r.bind fun x h1 => if x then .ok (.bl true) h1 else (kk h1).bind fun y h2 => .ok (.bl y) h2) = r.bind fun x h1 => if x then .ok true h1 else kk h1 := by
  cases r with
  | ok b h1 =>
    cases b with
    | true => rfl
    | false =>
      show asB ((kk h1).bind fun y h2 => .ok (.bl y) h2) = kk h1
      cases kk h1 <;> rfl
  | exc _ _ _ => rfl
  | bad => rfl
theorem gow_and {a b : Expr} {rest : List Expr} {x y : Ex} {pos} (ha : GoT S N sc k g a (evE c ht x)) (hb : GoW S N sc k g (.BoolOp .And (b :: rest) pos) (evE c ht y)) : GoW S N sc k g (.BoolOp .And (a :: b :: rest) pos) (evE c ht (.and x y)) := fun E X G => by
  refine pwImp (pw_and (ha E X G) (hb E X G)) fun σ H Q ⟨f, h, env, er, rr, p⟩ => ⟨f, h, env, er, rr, ?_⟩
  simp only [evE] at p
  rw [asB_and] at p
  refine (Po.bind (R := REq) rr p).imp fun v H1 ⟨b, f1, h1, x1, r1, e, p1⟩ => ?_
  cases e
  cases v with
  | false => exact p1 f1 H1 _ .refl r1 rfl
  | true => exact ⟨f1, h1, env, er.ext x1, r1, p1⟩
theorem gow_or {a b : Expr} {rest : List Expr} {x y : Ex} {pos} (ha : GoT S N sc k g a (evE c ht x)) (hb : GoW S N sc k g (.BoolOp .Or (b :: rest) pos) (evE c ht y)) : GoW S N sc k g (.BoolOp .Or (a :: b :: rest) pos) (evE c ht (.or x y)) := fun E X G => by
  refine pwImp (pw_or (ha E X G) (hb E X G)) fun σ H Q ⟨f, h, env, er, rr, p⟩ => ⟨f, h, env, er, rr, ?_⟩
  simp only [evE] at p
  rw [asB_or] at p
  refine (Po.bind (R := REq) rr p).imp fun v H1 ⟨b, f1, h1, x1, r1, e, p1⟩ => ?_
  cases e
  cases v with
  | true => exact p1 f1 H1 _ .refl r1 rfl
  | false => exact ⟨f1, h1, env, er.ext x1, r1, p1⟩
theorem go_one {a : Expr} {x : Ex} {op pos} (ha : Go S N sc k g a (evE c ht x)) : Go S N sc k g (.BoolOp op [a] pos) (evE c ht x) := fun E X G => pe_one (ha E X G)
theorem gow_one {a : Expr} {x : Ex} {op pos} (ha : GoT S N sc k g a (evE c ht x)) : GoW S N sc k g (.BoolOp op [a] pos) (evE c ht x) := fun E X G => by
  cases op with
  | And => exact pw_and1 (ha E X G)
  | Or => exact pw_or1 (ha E X G)
theorem go_ite {q a b : Expr} {z x y : Ex} {pos} (hq : GoT S N sc k g q (evE c ht z)) (ha : Go S N sc k g a (evE c ht x)) (hb : Go S N sc k g b (evE c ht y)) : Go S N sc k g (.IfExp q a b pos) (evE c ht (.ite z x y)) := fun E X G => by
  refine peImp (pe_ifExp (hq E X G) (ha E X G) (hb E X G)) fun σ H Q ⟨f, h, env, er, rr, p⟩ => ⟨f, h, env, er, rr, ?_⟩
  simp only [evE] at p
  refine (Po.bind (R := REq) rr p).imp fun v H1 ⟨b, f1, h1, x1, r1, e, p1⟩ => ?_
  cases e
  cases v with
  | true => exact ⟨f1, h1, env, er.ext x1, r1, p1⟩
  | false => exact ⟨f1, h1, env, er.ext x1, r1, p1⟩
end
end Ev

set_option Elab.async false
set_option linter.all false
set_option maxRecDepth 100000
set_option maxHeartbeats 4000000
set_option autoImplicit false
namespace Ev
open PySem PySem.Spec PyProof.Rows L2 GxR

/-! ### shapes of expressions -/
/-- no star, no slice, no tuple display -/
def shp : Expr → Bool
  | .Starred .. => false
  | .Slice .. => false
  | .Set .. => false
  | _ => true
theorem shp_star {e : Expr} (h : shp e = true) (es : List Expr) (env : Env) : starEach (e :: es) env = (false, eval e env) :: starEach es env := by
  cases e <;> first | rfl | cases h
theorem shp_any {pos : Pos} {env : Env} : ∀ {es : List Expr}, es.all shp = true → (backTo pos (starEach es env)).any (·.1) = false
  | [], _ => rfl
  | e :: es, h => by
    simp only [List.all_cons, Bool.and_eq_true] at h
    rw [shp_star h.1]
    show (false || (backTo pos (starEach es env)).any (·.1)) = false
    rw [shp_any h.2]; rfl
theorem shp_all {pos : Pos} {env : Env} : ∀ {es : List Expr}, es.all shp = true → (backTo pos (starEach es env)).all (fun x => !x.1) = true
  | [], _ => rfl
  | e :: es, h => by
    simp only [List.all_cons, Bool.and_eq_true] at h
    rw [shp_star h.1]
    show (!false && (backTo pos (starEach es env)).all (fun x => !x.1)) = true
    rw [shp_all h.2]; rfl
theorem shp_beh {e : Expr} (h : shp e = true) (op : CmpOp) : behindInMarks op e = false := by
  cases e <;> first | rfl | cases h
def shpI : Expr → Bool
  | .Starred .. => false
  | .Slice .. => false
  | .Tuple .. => false
  | _ => true
theorem shpI_pix {e : Expr} (h : shpI e = true) : PlainIx e := by
  cases e <;> first | exact fun _ _ => rfl | cases h

def Ty.nm : Ty → String
  | .int => "int" | .bool => "bool" | .str => "str" | .tuple => "tuple" | .list => "list" | .dict => "dict"
def Bi.nm : Bi → Str
  | .len => "len" | .sum => "sum" | .min => "min" | .max => "max" | .int => "int" | .str => "str" | .abs => "abs" | .tuple => "tuple" | .list => "list" | .sorted => "sorted"
def bltNames : List Str := ["len", "sum", "min", "max", "int", "str", "abs", "tuple", "list", "sorted", "isinstance", "bool", "dict", "range", "zip", "enumerate", "all", "any", "set", "super"]
def Nb (S : Sx) : Prop := ∀ x ∈ bltNames, S.mg x = none

section
variable {S : Sx} {N : List Str} {sc : Scope} {k : Nat} {g : Gm} {c : Nat → List D → Oh → Rs D} {ht : List Hd}
theorem Gd.gl {E : XK} {X : Cx} (G : Gd S N sc k g E X) {x : Str} (h : sc.names.lookup x = some .globalImplicit) : Gl X x := by
  unfold Gl Env.kindOf; rw [G.sc]; exact h
theorem Gd.mg {E : XK} {X : Cx} (G : Gd S N sc k g E X) {x : Str} {o : Option Value} (h : S.mg x = o) : X.mg x = o := by rw [G.xs.mg]; exact h
theorem got_ite {q a b : Expr} {z x y : Ex} {pos} (hq : GoT S N sc k g q (evE c ht z)) (ha : GoT S N sc k g a (evE c ht x)) (hb : GoT S N sc k g b (evE c ht y)) : GoT S N sc k g (.IfExp q a b pos) (evE c ht (.ite z x y)) := fun E X G => by
  refine ⟨fun pins s σ H Q I ⟨f, h, env, er, rr, p⟩ => ?_⟩
  have p : Po S E REq f H ((asB (evE c ht z env h)).bind fun x1 h1 => asB (if x1 then evE c ht x env h1 else evE c ht y env h1)) Q := by
    simp only [evE] at p
    cases hz : asB (evE c ht z env h) with
    | ok b h1 => rw [hz] at p; exact p
    | exc _ _ _ => rw [hz] at p; exact p
    | bad => rw [hz] at p; exact p
  refine isTrue_IfExp (thn ((hq E X G).run pins s σ H _ I ⟨f, h, env, er, rr, Po.bind (R := REq) rr p⟩) fun b s1 ⟨H1, I1, b', f1, h1, x1, r1, e, p1⟩ => ?_)
  cases e
  cases b with
  | true => exact (ha E X G).run pins s1 σ H1 Q I1 ⟨f1, h1, env, er.ext x1, r1, p1⟩
  | false => exact (hb E X G).run pins s1 σ H1 Q I1 ⟨f1, h1, env, er.ext x1, r1, p1⟩
theorem go_bi {o : Bi} {e : Expr} {es : List Expr} {xs : List Ex} {p pos} (nb : Nb S) (hg : sc.names.lookup o.nm = some .globalImplicit) (ha : GoL S N sc k g (e :: es) (evL c ht xs)) (hs : (e :: es).all shp = true) : Go S N sc k g (.Call (.Name o.nm p) (e :: es) [] pos) (evE c ht (.bi o xs)) := fun E X G => by
  have hm : X.mg o.nm = none := G.mg (nb _ (by cases o <;> decide))
  simp only [List.all_cons, Bool.and_eq_true] at hs
  have i : ∀ σ H Q, TEv S E (evE c ht (.bi o xs)) σ H Q → tCB (rPureN S (biD o)) (TLv S E (evL c ht xs)) σ H Q := fun σ H Q ⟨f, h, env, er, rr, p⟩ => by
    refine ⟨f, h, env, er, rr, ?_⟩
    simp only [evE] at p
    refine (Po.bind (R := RL S) rr p).imp fun vs H1 ⟨as, f1, h1, x1, r1, q1, p1⟩ => ?_
    obtain ⟨r, e, p2⟩ := p1.opt
    exact ⟨f1, h1, as, r, r1, q1, e, fun H' v' x3 r3 q3 => p2 f1 H' v' x3 r3 q3⟩
  have hc := call_bi (S := S) (X := X) o G.xs G.calm G.hu
  cases o
  case int => exact peImp (pe_callTy (T := "int") hc (G.gl hg) hm (by decide) (ha E X G) (by decide) (by decide) (shp_star hs.1 _ _) (shp_any hs.2)) i
  case str => exact peImp (pe_callTy (T := "str") hc (G.gl hg) hm (by decide) (ha E X G) (by decide) (by decide) (shp_star hs.1 _ _) (shp_any hs.2)) i
  case tuple => exact peImp (pe_callTy (T := "tuple") hc (G.gl hg) hm (by decide) (ha E X G) (by decide) (by decide) (shp_star hs.1 _ _) (shp_any hs.2)) i
  case list => exact peImp (pe_callTy (T := "list") hc (G.gl hg) hm (by decide) (ha E X G) (by decide) (by decide) (shp_star hs.1 _ _) (shp_any hs.2)) i
  all_goals exact peImp (pe_callB hc (G.gl hg) hm (by decide) (ha E X G) (by decide) (by decide) (shp_star hs.1 _ _) (shp_any hs.2)) i

/-! ### isinstance -/
theorem kit_ty (K : PySem.W.Frag) (u : String) (hu : u ∈ ["NoneType", "bool", "int", "str", "tuple", "list"]) (t : Ty) : PySem.W.kitOne K (.type u) (.type t.nm) = some (u == t.nm || (u == "bool" && t == .int)) := by
  simp only [List.mem_cons, List.not_mem_nil, or_false] at hu
  rcases hu with rfl | rfl | rfl | rfl | rfl | rfl <;> cases t <;> rfl
theorem kit_tys (K : PySem.W.Frag) (u : String) (hu : u ∈ ["NoneType", "bool", "int", "str", "tuple", "list"]) : ∀ ts : List Ty, PySem.W.kitAny K (.type u) (ts.map fun t : Ty => Value.type t.nm) = some (ts.any fun t : Ty => u == t.nm || (u == "bool" && t == .int))
  | [] => rfl
  | t :: ts => by
    show (match PySem.W.kitOne K (.type u) (.type t.nm) with
      | some true => some true
      | some false => PySem.W.kitAny K (.type u) (ts.map fun t : Ty => Value.type t.nm)
      | none => none) = _
    rw [kit_ty K u hu t, kit_tys K u hu ts, List.any_cons]
    cases (u == t.nm || (u == "bool" && t == .int)) <;> rfl
theorem isaD_ok {f : Fs} {H : Hp} {h : Oh} {d : D} {v : V} {ts : List Ty} {b : Bool} (hR : RR S f H h) (r : Rep S.K f H d v) (e : isaD ts h d = some b) :
    ∃ u, TyX S.K H v (.type u) ∧ u ∈ ["NoneType", "bool", "int", "str", "tuple", "list"] ∧ (ts.any fun t : Ty => u == t.nm || (u == "bool" && t == .int)) = b := by
  cases r with
  | non => cases e; exact ⟨"NoneType", .base .non, by decide, by congr 1; funext t; cases t <;> rfl⟩
  | bl b => cases e; exact ⟨"bool", .base (.bl _), by decide, by congr 1; funext t; cases t <;> rfl⟩
  | int b => cases e; exact ⟨"int", .base (.int _), by decide, by congr 1; funext t; cases t <;> rfl⟩
  | str b => cases e; exact ⟨"str", .base (.str _), by decide, by congr 1; funext t; cases t <;> rfl⟩
  | tup h1 _ =>
    cases e
    refine ⟨"tuple", ?_, by decide, by congr 1; funext t; cases t <;> rfl⟩
    rcases h1 with ⟨⟨us, h1⟩, _⟩ | ⟨o, its, n, h1, h2, _⟩
    · exact .fTuple h1
    · exact .kTuple h1 h2
  | lst h1 _ _ => cases e; exact ⟨"list", .base (.lst h1), by decide, by congr 1; funext t; cases t <;> rfl⟩
  | lk h1 _ =>
    cases e
    refine ⟨"list", ?_, by decide, by congr 1; funext t; cases t <;> rfl⟩
    rcases h1 with ⟨h1 | ⟨o, h1⟩, _⟩ | ⟨o, its, n, h1, h2, _⟩
    · exact .base (.lst h1)
    · exact .base (.frz h1)
    · exact .kList h1 h2
  | @ref n a ha =>
    unfold isaD at e
    dsimp only at e
    split at e
    · rename_i ds hn
      cases e
      obtain ⟨a', e2, vs, e3, _⟩ := hR.obj _ _ hn
      rw [ha] at e2; cases e2
      exact ⟨"list", .base (.lst e3), by decide, by congr 1; funext t; cases t <;> rfl⟩
    · cases e
theorem key_isi {E : XK} {x : Ex} {ts : List Ty} {σ : L2.St} {H : Hp} {Q : VK} (t : TEv S E (evE c ht (.isi ts x)) σ H Q) : TEv S E (evE c ht x) σ H fun v H1 => ∃ u b, TyX S.K H1 v (.type u) ∧ u ∈ ["NoneType", "bool", "int", "str", "tuple", "list"] ∧ (ts.any fun t : Ty => u == t.nm || (u == "bool" && t == .int)) = b ∧ ∀ H2, (∀ a o, H1 a = some o → H2 a = some o) → (H2 = H1 ∨ ∃ p o, H1 p = none ∧ H2 = L2.upd H1 p o) → Q (.bl b) H2 := by
  obtain ⟨f, h, env, er, rr, p⟩ := t
  refine ⟨f, h, env, er, rr, ?_⟩
  simp only [evE] at p
  refine (Po.bind (R := RD S) rr p).imp fun v H1 ⟨a1, f1, h1, x1, r1, q1, p1⟩ => ?_
  cases e : isaD ts h1 a1 with
  | none => rw [e] at p1; exact p1.elim
  | some b =>
    rw [e] at p1
    obtain ⟨u, t1, t2, t3⟩ := isaD_ok r1 q1 e
    refine ⟨u, b, t1, t2, t3, fun H2 _ hh => ?_⟩
    rcases hh with rfl | ⟨p, o, hp, rfl⟩
    · exact p1 f1 H2 _ .refl r1 (.bl _)
    · exact p1 f1 _ _ (r1.ex hp) (r1.upd hp) (.bl _)
theorem bootTy (t : Ty) : bootBuiltins t.nm = some (.type t.nm) := by cases t <;> decide
theorem go_isi1 {e : Expr} {x : Ex} {t : Ty} {p p2 pos} (nb : Nb S) (hg : sc.names.lookup ("isinstance" : Str) = some .globalImplicit) (hg2 : sc.names.lookup (t.nm : Str) = some .globalImplicit) (ha : Go S N sc k g e (evE c ht x)) (hs : shp e = true) :
    Go S N sc k g (.Call (.Name "isinstance" p) [e, .Name (t.nm : Str) p2] [] pos) (evE c ht (.isi [t] x)) := fun E X G => by
  have e1 : PE X (.Name (t.nm : Str) p2) (tC (.ty t.nm)) := pe_bltn (G.gl hg2) (G.mg (nb _ (by cases t <;> decide))) (bootTy t) rfl (by cases t <;> decide) (by cases t <;> decide)
  refine peImp (pe_callB (id := "isinstance") call_isi (G.gl hg) (G.mg (nb _ (by decide))) (by decide) (pa_cons (ha E X G) (pa_cons e1 pa_nil) (shp_star hs _ _)) (by decide) (by decide) (shp_star hs _ _) (by rfl)) fun σ H Q tt => ?_
  have tt := key_isi tt
  obtain ⟨f, h, env, er, rr, p⟩ := tt
  refine ⟨f, h, env, er, rr, p.imp fun v H1 ⟨u, b, t1, t2, t3, q⟩ => ?_⟩
  refine ⟨v, .ty t.nm, .type u, .type t.nm, b, rfl, .ty _, by rw [G.xs.K]; exact t1, ?_, q H1 (fun _ _ z => z) (.inl rfl)⟩
  rw [kit_ty _ u t2 t, ← t3]; simp
def tyArgs (ts : List Ty) (ps : List Pos) : List Expr := List.zipWith (fun t p => .Name (t.nm : Str) p) ts ps
theorem pa_tys {E : XK} {X : Cx} (nb : Nb S) (G : Gd S N sc k g E X) : ∀ (ts : List Ty) (ps : List Pos), ts.length = ps.length → (∀ t ∈ ts, sc.names.lookup (t.nm : Str) = some .globalImplicit) → PA X (tyArgs ts ps) (fun _ H Q => Q (ts.map fun t : Ty => V.ty t.nm) H)
  | [], [], _, _ => paImp pa_nil fun _ _ _ q => q
  | t :: ts, p :: ps, hl, hg => by
    have e1 : PE X (.Name (t.nm : Str) p) (tC (.ty t.nm)) := pe_bltn (G.gl (hg t List.mem_cons_self)) (G.mg (nb _ (by cases t <;> decide))) (bootTy t) rfl (by cases t <;> decide) (by cases t <;> decide)
    exact paImp (pa_cons e1 (pa_tys nb G ts ps (by simpa using hl) fun t h => hg t (List.mem_cons_of_mem _ h))) fun _ _ _ q => q
  | [], _ :: _, h, _ => by simp at h
  | _ :: _, [], h, _ => by simp at h
theorem paired_cls : ∀ ts : List Ty, Paired ClsV (ts.map fun t : Ty => V.ty t.nm) (ts.map fun t => Value.type t.nm)
  | [] => .nil
  | t :: ts => .cons (.ty _) (paired_cls ts)
theorem go_isiT {e : Expr} {x : Ex} {ts : List Ty} {ps : List Pos} {kk : Nat} {p p2 pos} (nb : Nb S) (hl : ts.length = ps.length) (hz : ts.length ≤ 100) (hg : sc.names.lookup ("isinstance" : Str) = some .globalImplicit) (hg2 : ∀ t ∈ ts, sc.names.lookup (t.nm : Str) = some .globalImplicit) (ha : Go S N sc k g e (evE c ht x)) (hs : shp e = true) :
    Go S N sc k g (.Call (.Name "isinstance" p) [e, .Tuple (tyArgs ts ps) kk p2] [] pos) (evE c ht (.isi ts x)) := fun E X G => by
  refine peImp (pe_callB (id := "isinstance") call_isiT (G.gl hg) (G.mg (nb _ (by decide))) (by decide) (pa_cons (ha E X G) (pa_cons (pe_tup (pa_tys nb G ts ps hl hg2)) pa_nil) (shp_star hs _ _)) (by decide) (by decide) (shp_star hs _ _) (by rfl)) fun σ H Q tt => ?_
  have tt := key_isi tt
  obtain ⟨f, h, env, er, rr, p⟩ := tt
  refine ⟨f, h, env, er, rr, p.imp fun v H1 ⟨u, b, t1, t2, t3, q⟩ => ?_⟩
  refine ⟨by have := sizeLine_eq; simp only [List.length_map]; omega, fun p hp => ?_⟩
  have hk : ∀ a o, H1 a = some o → (L2.upd H1 p (.tup (ts.map fun t : Ty => V.ty t.nm))) a = some o := fun a o e => by rw [upd_ne (ne_of_none e hp)]; exact e
  refine ⟨v, p, _, .type u, _, b, rfl, upd_same, paired_cls ts, ?_, ?_, q _ hk (.inr ⟨p, _, hp, rfl⟩)⟩
  · rw [G.xs.K]
    cases t1 with
    | base b =>
      refine .base ?_
      cases b with
      | non => exact .non
      | bl _ => exact .bl _
      | int _ => exact .int _
      | str _ => exact .str _
      | flt _ => exact .flt _
      | lst e => exact .lst (hk _ _ e)
      | frz e => exact .frz (hk _ _ e)
      | tup e => exact .tup (hk _ _ e)
      | dK e => exact .dK (hk _ _ e)
      | dT e => exact .dT (hk _ _ e)
    | byt y => exact .byt y
    | set e => exact .set (hk _ _ e)
    | kList a b => exact .kList a b
    | kTuple a b => exact .kTuple a b
    | kDict a b => exact .kDict a b
    | fTuple e => exact .fTuple (hk _ _ e)
    | fDict e => exact .fDict (hk _ _ e)
  · rw [kit_tys _ u t2 ts, ← t3]
end
end Ev

set_option Elab.async false
set_option linter.all false
set_option maxRecDepth 100000
set_option maxHeartbeats 4000000
set_option autoImplicit false
namespace Ev
open PySem PySem.Spec PyProof.Rows L2 GxR

def TOv (S : Sx) (E : XK) (ev : Ef (List D)) : TO := fun σ H Q => ∃ (f : Fs) (h : Oh) (env : En), ER S.K f H env σ ∧ RR S f H h ∧ Po S E REq f H (asI (ev env h)) Q
def GoO (S : Sx) (N : List Str) (sc : Scope) (k : Nat) (g : Gm) (e : Option Expr) (ev : Ef (List D)) : Prop := ∀ (E : XK) (X : Cx), Gd S N sc k g E X → PO X e (TOv S E ev)
theorem poImp {X : Cx} {e : Option Expr} {t t' : TO} (h : PO X e t) (i : ∀ σ H Q, t' σ H Q → t σ H Q) : PO X e t' := ⟨fun pins s σ H Q I q => h.run pins s σ H Q I (i _ _ _ q)⟩
/-- a def's promise, by the evaluator -/
def spOf (S : Sx) (cg : List D → Oh → Rs D) : Sp := fun vs H Q E => ∃ (f : Fs) (h : Oh) (ds : List D), RR S f H h ∧ RepL S.K f H ds vs ∧ Po S E (RD S) f H (cg ds h) Q
def FnAt (S : Sx) (k : Nat) (cg : List D → Oh → Rs D) (x : Str) : Prop :=
  ∃ (f : Addr) (fd : FuncData) (ps : List Str), FnOk S.P S.w S.K S.mg S.base (CX S.P S.w) k f fd ps (spOf S cg) ∧ S.mg x = some (.ref f) ∧ PySem.W.keepIn S.K (.ref f) = true ∧ Binds S.K fd ps []

section
variable {S : Sx} {N : List Str} {sc : Scope} {k : Nat} {g : Gm} {c : Nat → List D → Oh → Rs D} {ht : List Hd}
theorem go_ix {a b : Expr} {x y : Ex} {pos} (ha : Go S N sc k g a (evE c ht x)) (hb : Go S N sc k g b (evE c ht y)) (hs : shpI b = true) : Go S N sc k g (.Subscript a b pos) (evE c ht (.ix x y)) := fun E X G => by
  refine peImp (pe_ix (ix_all G.xs) (ha E X G) (hb E X G) (shpI_pix hs)) fun σ H Q ⟨f, h, env, er, rr, p⟩ => ⟨f, h, env, er, rr, ?_⟩
  simp only [evE] at p
  refine (Po.bind (R := RD S) rr p).imp fun v H1 ⟨a1, f1, h1, x1, r1, q1, p1⟩ => ⟨f1, h1, env, er.ext x1, r1, ?_⟩
  refine (Po.bind (R := RD S) r1 p1).imp fun u H2 ⟨a2, f2, h2, x2, r2, q2, p2⟩ => ?_
  obtain ⟨r, e, p3⟩ := p2.opt
  exact ⟨f2, h2, a1, a2, r, r2, q1.ext x2, q2, e, fun H' v' x3 r3 q3 => p3 f2 H' v' x3 r3 q3⟩
theorem goo_none : GoO S N sc k g none (evL c ht []) := fun E X G => by
  refine poImp po_none fun σ H Q ⟨f, h, env, er, rr, p⟩ => ?_
  simp only [evL] at p
  exact p f H _ .refl rr rfl
theorem goo_some {e : Expr} {x : Ex} (h1 : Go S N sc k g e (evE c ht x)) : GoO S N sc k g (some e) (evL c ht [x]) := fun E X G => by
  refine poImp (po_some (h1 E X G)) fun σ H Q ⟨f, h, env, er, rr, p⟩ => ⟨f, h, env, er, rr, ?_⟩
  have p : Po S E REq f H ((evE c ht x env h).bind fun d h1 => asI (.ok [d] h1)) Q := by
    simp only [evL] at p
    cases hz : evE c ht x env h with
    | ok b h1 => rw [hz] at p; exact p
    | exc _ _ _ => rw [hz] at p; exact p
    | bad => rw [hz] at p; exact p
  refine (Po.bind (R := RD S) rr p).imp fun v H1 ⟨a1, f1, h1, x1, r1, q1, p1⟩ => ?_
  cases q1 with
  | int i => exact ⟨i, rfl, p1 f1 H1 _ .refl r1 rfl⟩
  | _ => exact p1.elim
theorem go_sl {a : Expr} {lo hi : Option Expr} {x : Ex} {ls us : List Ex} {p2 pos} (ha : Go S N sc k g a (evE c ht x)) (hl : GoO S N sc k g lo (evL c ht ls)) (hu : GoO S N sc k g hi (evL c ht us)) : Go S N sc k g (.Subscript a (.Slice lo hi none p2) pos) (evE c ht (.sl x ls us)) := fun E X G => by
  refine peImp (pe_slice (sl_all G.xs) (ha E X G) (hl E X G) (hu E X G)) fun σ H Q ⟨f, h, env, er, rr, p⟩ => ⟨f, h, env, er, rr, ?_⟩
  simp only [evE] at p
  refine (Po.bind (R := RD S) rr p).imp fun v H1 ⟨a1, f1, h1, x1, r1, q1, p1⟩ => ⟨f1, h1, env, er.ext x1, r1, ?_⟩
  refine (Po.bind (R := REq) r1 p1).imp fun u H2 ⟨a2, f2, h2, x2, r2, q2, p2⟩ => ⟨f2, h2, env, (er.ext x1).ext x2, r2, ?_⟩
  cases q2
  refine (Po.bind (R := REq) r2 p2).imp fun u H3 ⟨a3, f3, h3, x3, r3, q3, p3⟩ => ?_
  cases q3
  obtain ⟨r, e, p4⟩ := p3.opt
  exact ⟨f3, h3, a1, r, r3, (q1.ext x2).ext x3, e, fun H' v' x3 r3 q3 => p4 f3 H' v' x3 r3 q3⟩
theorem key_call {E : XK} {gi : Nat} {xs : List Ex} {σ : L2.St} {H : Hp} {Q : VK} (t : TEv S E (evE c ht (.call gi xs)) σ H Q) : TLv S E (evL c ht xs) σ H fun vs H1 => spOf S (c gi) (vs ++ []) H1 Q E := by
  obtain ⟨f, h, env, er, rr, p⟩ := t
  refine ⟨f, h, env, er, rr, ?_⟩
  simp only [evE] at p
  refine (Po.bind (R := RL S) rr p).imp fun v H1 ⟨a1, f1, h1, x1, r1, q1, p1⟩ => ⟨f1, h1, a1, r1, by rw [List.append_nil]; exact q1, p1⟩
theorem go_call {gi : Nat} {x : Str} {e : Expr} {es : List Expr} {xs : List Ex} {p pos} (F : FnAt S k (c gi) x) (hg : sc.names.lookup x = some .globalImplicit) (hd : (x == ("__debug__" : Str)) = false) (ha : GoL S N sc k g (e :: es) (evL c ht xs)) (hs : (e :: es).all shp = true) :
    Go S N sc k g (.Call (.Name x p) (e :: es) [] pos) (evE c ht (.call gi xs)) := fun E X G => by
  obtain ⟨f, fd, ps, F, hm, hk, hb⟩ := F
  simp only [List.all_cons, Bool.and_eq_true] at hs
  have F' : FnOk X.prog X.w X.K X.mg X.base (CX X.prog X.w) k f fd ps (spOf S (c gi)) := by rw [G.xs.P, G.xs.w, G.xs.K, G.xs.mg, G.xs.base]; exact F
  exact peImp (pe_call F' G.room (G.gl hg) (G.mg hm) (by rw [G.xs.K]; exact hk) (by rw [G.xs.K]; exact hb) .nil (passes_call G.tk fun _ _ _ _ z => z) (ha E X G) hd (shp_star hs.1 _ _) (shp_any hs.2)) fun σ H Q t => key_call t
theorem go_call0 {gi : Nat} {x : Str} {p pos} (F : FnAt S k (c gi) x) (hg : sc.names.lookup x = some .globalImplicit) (hd : (x == ("__debug__" : Str)) = false) :
    Go S N sc k g (.Call (.Name x p) [] [] pos) (evE c ht (.call gi [])) := fun E X G => by
  obtain ⟨f, fd, ps, F, hm, hk, hb⟩ := F
  have F' : FnOk X.prog X.w X.K X.mg X.base (CX X.prog X.w) k f fd ps (spOf S (c gi)) := by rw [G.xs.P, G.xs.w, G.xs.K, G.xs.mg, G.xs.base]; exact F
  refine peImp (pe_call0 F' G.room (G.gl hg) (G.mg hm) (by rw [G.xs.K]; exact hk) (by rw [G.xs.K]; exact hb) .nil (passes_call G.tk fun _ _ _ _ z => z) hd) fun σ H Q t => ?_
  obtain ⟨f, h, env, er, rr, p⟩ := key_call t
  simp only [evL] at p
  exact p f H [] .refl rr .nil

/-! ### lists that change -/
/-- an object of the evaluator's is written -/
theorem RR.wr {f : Fs} {H : Hp} {h : Oh} {n : Nat} {a : Addr} {o o' : Ob} {u : HO} (r : RR S f H h) (hn : h[n]? = some o) (ha : f.l[n]? = some a) (ho : ∀ f', Ext f H f' (L2.upd H a u) → ObRep S.K S.clsA f' (L2.upd H a u) a o') :
    Ext f H f (L2.upd H a u) ∧ RR S f (L2.upd H a u) (h.set n o') := by
  have hm : a ∈ f.l := List.mem_of_getElem? ha
  obtain ⟨h0, ht⟩ := r.tr a (.inl hm)
  have ne : ∀ b, b ∉ f.l → b ≠ a := fun b hb e => hb (e ▸ hm)
  have x : Ext f H f (L2.upd H a u) := by
    refine ⟨List.prefix_refl _, rfl, fun b hb => upd_ne (ne b (r.dj b hb)), fun _ z => .inl z, fun b o e hb _ => by rw [upd_ne (ne b fun z => hb (.inl z))]; exact e, fun b ps e => ⟨ps, ?_⟩⟩
    have : b ≠ a := fun z => ht ps (z ▸ e)
    rw [upd_ne this]; exact e
  obtain ⟨a0, ea0, qa0⟩ := r.obj n o hn
  rw [ha] at ea0; cases ea0
  refine ⟨x, by rw [List.length_set]; exact r.len, r.nd, r.dj, fun b hb => ?_, fun m ob e => ?_, fun P hP => ?_, fun b hb => by rw [upd_ne (ne b (r.dj b hb))]; exact r.gq b hb, fun q hq => tq_upd (r.tq q hq) (fun ps z => ht ps z) (fun c q => qa0.ncode c q)⟩
  · rw [upd_ne (ne b (r.dj b hb))]; exact r.gt b hb
  · by_cases hmn : n = m
    · subst hmn
      have hl : n < h.length := (List.getElem?_eq_some_iff.mp hn).1
      rw [List.getElem?_set_self hl] at e
      cases e
      exact ⟨a, ha, ho f x⟩
    · rw [List.getElem?_set_ne hmn] at e
      obtain ⟨b, e1, q⟩ := r.obj m ob e
      have hb : b ≠ a := by
        rintro rfl
        obtain ⟨l1, e2⟩ := List.getElem?_eq_some_iff.mp ha
        obtain ⟨l2, e3⟩ := List.getElem?_eq_some_iff.mp e1
        exact hmn ((List.getElem_inj r.nd).mp (e2.trans e3.symm))
      exact ⟨b, e1, q.ext x (upd_ne hb)⟩
  · obtain ⟨ps, e, t⟩ := r.tab P hP
    have : P ≠ a := fun z => ht ps (z ▸ e)
    exact ⟨ps, by rw [upd_ne this]; exact e, t⟩
theorem isLs_ok {f : Fs} {H : Hp} {h : Oh} {d : D} {v : V} (r : RR S f H h) (q : Rep S.K f H d v) (e : isLs h d = true) : ∃ n a ds vs, d = .ref n ∧ v = .ref a ∧ f.l[n]? = some a ∧ h[n]? = some (.lst ds) ∧ H a = some (.lst vs) ∧ RepL S.K f H ds vs := by
  cases q with
  | @ref n a ha =>
    unfold isLs at e
    dsimp only at e
    split at e
    · rename_i ds hn
      obtain ⟨a', e2, vs, e3, e4⟩ := r.obj _ _ hn
      rw [ha] at e2; cases e2
      exact ⟨n, _, ds, vs, rfl, rfl, ha, hn, e3, e4⟩
    · cases e
  | _ => cases e
theorem go_app {a b : Expr} {x y : Ex} {apos cpos} (ha : Go S N sc k g a (evE c ht x)) (hb : Go S N sc k g b (evE c ht y)) (hs : shp b = true) (hbase : ∀ env, attributeBase a "append" env (eval a env) = eval a env) (hline : (apos.endLine == cpos.line) = true) :
    Go S N sc k g (.Call (.Attribute a "append" apos) [b] [] cpos) (evE c ht (.app x y)) := fun E X G => by
  have hall : (backTo cpos (starEach [b] X.env)).all (fun x => !x.1) = true := shp_all (by simp [hs])
  refine peImp (pe_bm PySem.F.plainAttrs_list PySem.F.slot_list_append PySem.F.type_list_append mt_append (ha E X G) (pa_cons (hb E X G) pa_nil (shp_star hs _ _)) (hbase _) (by rw [hall]; rfl) hline (shp_star hs _ _) (by rfl)) fun σ H Q ⟨f, h, env, er, rr, p⟩ => ⟨f, h, env, er, rr, ?_⟩
  simp only [evE] at p
  refine (Po.bind (R := RD S) rr p).imp fun v H1 ⟨a1, f1, h1, x1, r1, q1, p1⟩ => ?_
  cases hl : isLs h1 a1 with
  | false => rw [hl] at p1; exact p1.elim
  | true =>
    rw [hl] at p1
    obtain ⟨n, a, ds, vs, rfl, rfl, fa, hn, hH, rl⟩ := isLs_ok r1 q1 hl
    refine ⟨.inl ⟨rfl, vs, SqL.of hH⟩, f1, h1, env, er.ext x1, r1, ?_⟩
    refine (Po.bind (R := RD S) r1 p1).imp fun u H2 ⟨a2, f2, h2, x2, r2, q2, p2⟩ => ?_
    have fa2 := x2.at n a fa
    unfold appD at p2
    dsimp only at p2
    split at p2
    · rename_i h3 hap
      split at hap
      · rename_i es hn2
        split at hap
        · rename_i hz
          cases hap
          obtain ⟨a', e2, ws, e3, e4⟩ := r2.obj _ _ hn2
          rw [fa2] at e2; cases e2
          have hl := sizeLine_eq
          refine ⟨a, ws, u, rfl, rfl, e3, by rw [← e4.length, hl]; exact hz, ?_⟩
          obtain ⟨x3, r3⟩ := r2.wr (o' := .lst (es ++ [a2])) (u := .lst (ws ++ [u])) hn2 fa2 fun f' x => ⟨_, upd_same, (e4.ext x).append (.cons (q2.ext x) .nil)⟩
          exact p2 f2 _ _ x3 r3 .non
        · cases hap
      · cases hap
    · exact p2.elim
theorem go_ext {a b : Expr} {x y : Ex} {apos cpos} (ha : Go S N sc k g a (evE c ht x)) (hb : Go S N sc k g b (evE c ht y)) (hs : shp b = true) (hbase : ∀ env, attributeBase a "extend" env (eval a env) = eval a env) (hline : (apos.endLine == cpos.line) = true) :
    Go S N sc k g (.Call (.Attribute a "extend" apos) [b] [] cpos) (evE c ht (.ext x y)) := fun E X G => by
  have hall : (backTo cpos (starEach [b] X.env)).all (fun x => !x.1) = true := shp_all (by simp [hs])
  refine peImp (pe_bm PySem.F.plainAttrs_list PySem.F.slot_list_extend PySem.F.type_list_extend mt_extend (ha E X G) (pa_cons (hb E X G) pa_nil (shp_star hs _ _)) (hbase _) (by rw [hall]; rfl) hline (shp_star hs _ _) (by rfl)) fun σ H Q ⟨f, h, env, er, rr, p⟩ => ⟨f, h, env, er, rr, ?_⟩
  simp only [evE] at p
  refine (Po.bind (R := RD S) rr p).imp fun v H1 ⟨a1, f1, h1, x1, r1, q1, p1⟩ => ?_
  cases hl : isLs h1 a1 with
  | false => rw [hl] at p1; exact p1.elim
  | true =>
    rw [hl] at p1
    obtain ⟨n, a, ds, vs, rfl, rfl, fa, hn, hH, rl⟩ := isLs_ok r1 q1 hl
    refine ⟨.inl ⟨rfl, vs, SqL.of hH⟩, f1, h1, env, er.ext x1, r1, ?_⟩
    refine (Po.bind (R := RD S) r1 p1).imp fun u H2 ⟨a2, f2, h2, x2, r2, q2, p2⟩ => ?_
    have fa2 := x2.at n a fa
    unfold extD at p2
    dsimp only at p2
    split at p2
    · rename_i h3 hap
      split at hap
      · rename_i es es2 hn2
        split at hap
        · rename_i hz
          cases hap
          obtain ⟨a', e2, ws, e3, e4⟩ := r2.obj _ _ hn2
          rw [fa2] at e2; cases e2
          have hl := sizeLine_eq
          cases q2 with
          | @lst b zs _ h1 _ rz =>
            refine ⟨a, b, ws, zs, rfl, rfl, e3, h1, by rw [← e4.length, ← rz.length, hl]; exact hz, ?_⟩
            obtain ⟨x3, r3⟩ := r2.wr (o' := .lst (es ++ es2)) (u := .lst (ws ++ zs)) hn2 fa2 fun f' x => ⟨_, upd_same, (e4.ext x).append (rz.ext x)⟩
            exact p2 f2 _ _ x3 r3 .non
        · cases hap
      · cases hap
    · exact p2.elim
end
end Ev

set_option Elab.async false
set_option linter.all false
set_option maxRecDepth 100000
set_option maxHeartbeats 4000000
set_option autoImplicit false
namespace Ev
open PySem PySem.Spec PyProof.Rows L2 GxR RZ

/-! ### targets -/
/-- a value that may be a walk's own pair -/
def WR (S : Sx) (b : Bool) (f : Fs) (H : Hp) (d : D) (v : V) : Prop := Rep S.K f H d v ∨ (b = true ∧ ∃ a vs ds, d = .tup ds ∧ v = .ref a ∧ SqT S.K H a vs ∧ RepL S.K f H ds vs)
mutual
def Tg.sl : Tg → List Nat
  | .v n => [n]
  | .t ts => Tg.sls ts
def Tg.sls : List Tg → List Nat
  | [] => []
  | u :: us => u.sl ++ Tg.sls us
end
/-- alike but at those slots -/
def Sim (ns : List Nat) (σ σ' : L2.St) : Prop := σ'.length = σ.length ∧ ∀ i, i ∉ ns → σ'[i]? = σ[i]?
theorem Sim.refl (ns : List Nat) (σ : L2.St) : Sim ns σ σ := ⟨rfl, fun _ _ => rfl⟩
theorem Sim.mono {ns ms : List Nat} {σ σ' : L2.St} (h : Sim ns σ σ') (s : ∀ i ∈ ns, i ∈ ms) : Sim ms σ σ' := ⟨h.1, fun i hi => h.2 i fun z => hi (s i z)⟩
theorem Sim.trans {ns : List Nat} {σ σ' σ'' : L2.St} (h : Sim ns σ σ') (g : Sim ns σ' σ'') : Sim ns σ σ'' := ⟨g.1.trans h.1, fun i hi => (g.2 i hi).trans (h.2 i hi)⟩
theorem wipe_get (σ : L2.St) : ∀ (vs : List Nat) (i : Nat), (wipe σ vs)[i]? = if i ∈ vs then (if i < σ.length then some none else none) else σ[i]?
  | [], i => by simp [wipe]
  | v :: vs, i => by
    unfold wipe
    by_cases h : v = i
    · subst h
      by_cases hl : v < σ.length
      · rw [List.getElem?_set_self (by rw [wipe_length]; exact hl)]; simp [hl]
      · rw [List.getElem?_eq_none (by rw [List.length_set, wipe_length]; omega)]; simp [hl]
    · rw [List.getElem?_set_ne h, wipe_get σ vs i]
      simp only [List.mem_cons]
      by_cases h2 : i ∈ vs
      · simp [h2]
      · have : ¬ (i = v ∨ i ∈ vs) := by simp [h2]; exact fun e => h e.symm
        rw [if_neg h2, if_neg this]
theorem Sim.wipe {ns vs : List Nat} {σ σ' : L2.St} (h : Sim ns σ σ') (s : ∀ i ∈ ns, i ∈ vs) : L2.wipe σ' vs = L2.wipe σ vs := by
  refine List.ext_getElem? fun i => ?_
  rw [wipe_get, wipe_get, h.1]
  by_cases hi : i ∈ vs
  · simp [hi]
  · simp only [hi, if_false]
    exact h.2 i fun z => hi (s i z)
theorem Sim.of_wipe (σ : L2.St) (vs : List Nat) : Sim vs σ (L2.wipe σ vs) := ⟨wipe_length σ vs, fun i hi => by rw [wipe_get, if_neg hi]⟩
theorem wipeE_get (env : En) : ∀ (vs : List Nat) (i : Nat), (wipeE env vs)[i]? = if i ∈ vs then (if i < env.length then some none else none) else env[i]?
  | [], i => by simp [wipeE]
  | v :: vs, i => by
    unfold wipeE
    have hl : ∀ vs, (wipeE env vs).length = env.length := fun vs => by
      induction vs with
      | nil => rfl
      | cons a b ih => unfold wipeE; rw [List.length_set, ih]
    by_cases h : v = i
    · subst h
      by_cases hv : v < env.length
      · rw [List.getElem?_set_self (by rw [hl]; exact hv)]; simp [hv]
      · rw [List.getElem?_eq_none (by rw [List.length_set, hl]; omega)]; simp [hv]
    · rw [List.getElem?_set_ne h, wipeE_get env vs i]
      simp only [List.mem_cons]
      by_cases h2 : i ∈ vs
      · simp [h2]
      · have : ¬ (i = v ∨ i ∈ vs) := by simp [h2]; exact fun e => h e.symm
        rw [if_neg h2, if_neg this]
theorem wipeE_length (env : En) (vs : List Nat) : (wipeE env vs).length = env.length := by
  induction vs with
  | nil => rfl
  | cons a b ih => unfold wipeE; rw [List.length_set, ih]
theorem ER.wipe {K : PySem.W.Frag} {f : Fs} {H : Hp} {env : En} {σ : L2.St} (vs : List Nat) (e : ER K f H env σ) : ER K f H (wipeE env vs) (L2.wipe σ vs) := ⟨by rw [wipeE_length, wipe_length]; exact e.len, fun i d q => by
  rw [wipeE_get] at q
  by_cases hi : i ∈ vs
  · rw [if_pos hi] at q
    split at q <;> cases q
  · rw [if_neg hi] at q
    rw [wipe_get, if_neg hi]
    exact e.get i d q⟩
def TGv (S : Sx) (b : Bool) (t : Tg) : TG := fun v σ H Q => ∃ (f : Fs) (h : Oh) (env : En) (d : D) (e2 : En), ER S.K f H env σ ∧ RR S f H h ∧ WR S b f H d v ∧ env.length = σ.length ∧ bindT t d env = some e2 ∧ ∀ σ2, ER S.K f H e2 σ2 → Sim t.sl σ σ2 → e2.length = env.length → Q σ2 H
def TGvs (S : Sx) (ts : List Tg) : TGs := fun vs σ H Q => ∃ (f : Fs) (h : Oh) (env : En) (ds : List D) (e2 : En), ER S.K f H env σ ∧ RR S f H h ∧ RepL S.K f H ds vs ∧ env.length = σ.length ∧ bindTs ts ds env = some e2 ∧ ∀ σ2, ER S.K f H e2 σ2 → Sim (Tg.sls ts) σ σ2 → e2.length = env.length → Q σ2 H
mutual
inductive TgR (N : List Str) (P : Str → Prop) : Expr → Tg → Prop
  | v {i : Nat} {x : Str} {pos : Pos} : N[i]? = some x → P x → TgR N P (.Name x pos) (.v i)
  | t {es : List Expr} {ts : List Tg} {k : Nat} {pos : Pos} : TgRs N P es ts → TgR N P (.Tuple es k pos) (.t ts)
inductive TgRs (N : List Str) (P : Str → Prop) : List Expr → List Tg → Prop
  | nil : TgRs N P [] []
  | cons {e : Expr} {t : Tg} {es : List Expr} {ts : List Tg} : TgR N P e t → TgRs N P es ts → TgRs N P (e :: es) (t :: ts)
end
theorem pgImp {X : Cx} {e : Expr} {t t' : TG} (h : PG X e t) (i : ∀ v σ H Q, t' v σ H Q → t v σ H Q) : PG X e t' := ⟨fun pins s σ H v u Q I r q => h.run pins s σ H v u Q I r (i _ _ _ _ q)⟩
theorem pgsImp {X : Cx} {e : List Expr} {t t' : TGs} (h : PGs X e t) (i : ∀ v σ H Q, t' v σ H Q → t v σ H Q) : PGs X e t' := ⟨fun pins s σ H v u Q I r q => h.run pins s σ H v u Q I r (i _ _ _ _ q)⟩
theorem pg_v {S : Sx} {X : Cx} {N : List Str} {i : Nat} {x : Str} {pos : Pos} (nm : X.N = N) (nd : N.Nodup) (hi : N[i]? = some x) (hx : Loc X.env.scope x ∧ (X.fn x = true ∨ X.env.scope.names.lookup x = some .local)) : PG X (.Name x pos) (TGv S false (.v i)) := by
  refine pgImp (pg_name (i := i) (by rw [nm]; exact nd) (by rw [nm]; exact hi) hx.1 hx.2) fun v σ H Q ⟨f, h, env, d, e2, er, rr, wr, hl, hb, q⟩ => ?_
  rcases wr with wr | ⟨z, _⟩
  · unfold bindT at hb
    split at hb
    · rename_i hn
      cases hb
      refine q _ ⟨by simp [hl], fun j e he => ?_⟩ ⟨by simp, fun j hj => ?_⟩ (by simp)
      · by_cases hij : i = j
        · subst hij
          rw [List.getElem?_set_self hn] at he
          cases he
          exact ⟨v, by rw [List.getElem?_set_self (by rw [← hl]; exact hn)], wr⟩
        · rw [List.getElem?_set_ne hij] at he ⊢
          exact er.get j e he
      · have : j ≠ i := by simpa [Tg.sl] using hj
        rw [List.getElem?_set_ne (Ne.symm this)]
    · cases hb
  · cases z
theorem assignEach_ok {X : Cx} {N : List Str} {P : Str → Prop} : ∀ {es : List Expr} {ts : List Tg}, TgRs N P es ts → (assignEach es X.env).length = ts.length ∧ (assignEach es X.env).findIdx? (·.1) = none
  | _, _, .nil => ⟨rfl, rfl⟩
  | e :: es, t :: ts, .cons a b => by
    obtain ⟨h1, h2⟩ := assignEach_ok (X := X) b
    have : assignEach (e :: es) X.env = (false, assign e X.env) :: assignEach es X.env := by cases a <;> rfl
    rw [this]
    refine ⟨by simp [h1], ?_⟩
    simp [List.findIdx?_cons, h2]
theorem bindTs_len : ∀ (ts : List Tg) (ds : List D) (env e2 : En), bindTs ts ds env = some e2 → ds.length = ts.length
  | [], [], _, _, _ => rfl
  | [], _ :: _, _, _, h => by unfold bindTs at h; cases h
  | _ :: _, [], _, _, h => by unfold bindTs at h; cases h
  | t :: ts, d :: ds, env, e2, h => by
    unfold bindTs at h
    split at h
    · simp [bindTs_len ts ds _ _ h]
    · cases h
mutual
theorem pg_of {S : Sx} {X : Cx} {N : List Str} (K : X.K = S.K) (hc : X.calm = true) (nm : X.N = N) (nd : N.Nodup) : ∀ {e : Expr} {t : Tg} (b : Bool), TgR N (fun x => Loc X.env.scope x ∧ (X.fn x = true ∨ X.env.scope.names.lookup x = some .local)) e t → (b = true → ∃ ts, t = .t ts) → PG X e (TGv S b t)
  | _, _, b, .v hi hx, hb => by
    cases b with
    | false => exact pg_v nm nd hi hx
    | true => obtain ⟨_, z⟩ := hb rfl; cases z
  | .Tuple es k pos, .t ts, b, .t r, _ => by
    obtain ⟨a1, a2⟩ := assignEach_ok (X := X) r
    refine pgImp (pg_tup hc (pgs_of K hc nm nd r) a1 a2) fun v σ H Q ⟨f, h, env, d, e2, er, rr, wr, hl, hb, q⟩ => ?_
    cases d with
    | tup ds =>
      have hb : bindTs ts ds env = some e2 := by unfold bindT at hb; exact hb
      have key : ∃ a vs, v = .ref a ∧ SqT S.K H a vs ∧ RepL S.K f H ds vs := by
        rcases wr with wr | ⟨_, a, vs, es, q1, q2, q3, q4⟩
        · exact wr.tupT
        · cases q1; exact ⟨a, vs, q2, q3, q4⟩
      obtain ⟨a, vs, rfl, sq, rl⟩ := key
      have hlen : ds.length = ts.length := bindTs_len ts ds env e2 hb
      exact ⟨a, vs, rfl, by rw [K]; exact sq, by rw [← rl.length, hlen], f, h, env, ds, e2, er, rr, rl, hl, hb, fun σ2 e3 s3 l3 => q σ2 e3 (by unfold Tg.sl; exact s3) l3⟩
    | _ => unfold bindT at hb; cases hb
theorem pgs_of {S : Sx} {X : Cx} {N : List Str} (K : X.K = S.K) (hc : X.calm = true) (nm : X.N = N) (nd : N.Nodup) : ∀ {es : List Expr} {ts : List Tg}, TgRs N (fun x => Loc X.env.scope x ∧ (X.fn x = true ∨ X.env.scope.names.lookup x = some .local)) es ts → PGs X es (TGvs S ts)
  | _, _, .nil => by
    refine pgsImp pgs_nil fun vs σ H Q ⟨f, h, env, ds, e2, er, rr, rl, hl, hb, q⟩ => ?_
    cases ds with
    | nil =>
      unfold bindTs at hb
      cases hb
      cases rl
      exact ⟨rfl, q σ er (.refl _ _) rfl⟩
    | cons _ _ => unfold bindTs at hb; cases hb
  | e :: es, t :: ts, .cons a b => by
    have hs : (assignEach (e :: es) X.env).map (·.2) = assign e X.env :: (assignEach es X.env).map (·.2) := by cases a <;> rfl
    refine pgsImp (pgs_cons (pg_of K hc nm nd false a (fun z => by cases z)) (pgs_of K hc nm nd b) hs) fun vs σ H Q ⟨f, h, env, ds, e2, er, rr, rl, hl, hb, q⟩ => ?_
    cases ds with
    | nil => unfold bindTs at hb; cases hb
    | cons d ds =>
      cases rl with
      | cons r1 r2 =>
        unfold bindTs at hb
        split at hb
        · rename_i e1 he
          refine ⟨_, _, rfl, f, h, env, d, e1, er, rr, .inl r1, hl, he, fun σ2 er2 s2 l2 => ?_⟩
          refine ⟨f, h, e1, ds, e2, er2, rr, r2, by rw [l2, hl, s2.1], hb, fun σ3 er3 s3 l3 => q σ3 er3 ?_ (by rw [l3, l2])⟩
          exact (s2.mono fun i hi => by unfold Tg.sls; exact List.mem_append_left _ hi).trans (s3.mono fun i hi => by unfold Tg.sls; exact List.mem_append_right _ hi)
        · cases hb
end

/-! ### walks -/
/-- what was represented is represented there -/
structure Mo (f : Fs) (H : Hp) (f' : Fs) (H' : Hp) : Prop where
  new : ∀ a, a ∈ f' → a ∈ f ∨ H a = none
  at' : ∀ (n : Nat) (a : Addr), f.l[n]? = some a → f'.l[n]? = some a
  keep : ∀ a o, H a = some o → a ∉ f → (∀ ps, o ≠ .tbl ps) → H' a = some o
theorem Ext.mo {f f' : Fs} {H H' : Hp} (x : Ext f H f' H') : Mo f H f' H' := ⟨x.new, x.at, x.keep⟩
theorem Rep.mo {K : PySem.W.Frag} {f f' : Fs} {H H' : Hp} {d : D} {v : V} (m : Mo f H f' H') (r : Rep K f H d v) : Rep K f' H' d v := r.mono m.new m.at' m.keep
theorem RepL.mo {K : PySem.W.Frag} {f f' : Fs} {H H' : Hp} {d : List D} {v : List V} (m : Mo f H f' H') (r : RepL K f H d v) : RepL K f' H' d v := r.mono m.new m.at' m.keep
theorem ER.mo {K : PySem.W.Frag} {f f' : Fs} {H H' : Hp} {env : En} {σ : L2.St} (m : Mo f H f' H') (e : ER K f H env σ) : ER K f' H' env σ := ⟨e.len, fun i d q => by
  obtain ⟨v, a, b⟩ := e.get i d q
  exact ⟨v, a, b.mo m⟩⟩
structure WOk (S : Sx) (b : Bool) (f : Fs) (H : Hp) (wk : Wk) (J : L2.It) : Prop where
  len : wk.len ≤ 16777216
  go : ∀ (f' : Fs) (H' : Hp) (h' : Oh) (i : Nat) (d : D), Mo f H f' H' → RR S f' H' h' → (wk.now h').bind (fun ds => ds[i]?) = some d → J.go i H' ∧ ∀ x H'', J.yld i H' x H'' → Ext f' H' f' H'' ∧ RR S f' H'' h' ∧ WR S b f' H'' d x
  stop : ∀ (f' : Fs) (H' : Hp) (h' : Oh) (ds : List D), Mo f H f' H' → RR S f' H' h' → wk.now h' = some ds → J.stop wk.len H'
def TIv (S : Sx) (E : XK) (b : Bool) (ev : Ef Wk) : TI := fun σ H R => ∃ (f : Fs) (h : Oh) (env : En), ER S.K f H env σ ∧ RR S f H h ∧ Po S E (WOk S b) f H (ev env h) R
def GoI (S : Sx) (N : List Str) (sc : Scope) (k : Nat) (g : Gm) (b : Bool) (tg : Expr) (e : Expr) (ev : Ef Wk) : Prop := ∀ (E : XK) (X : Cx), Gd S N sc k g E X → PI X tg e (TIv S E b ev)
theorem piImp {X : Cx} {tg e : Expr} {t t' : TI} (h : PI X tg e t) (i : ∀ σ H Q, t' σ H Q → t σ H Q) : PI X tg e t' := ⟨fun pins s σ H Q I q => h.run pins s σ H Q I (i _ _ _ q)⟩
/-- over a list or a tuple -/
theorem pi_seq {X : Cx} {tg l : Expr} {tl : TE} (hl : PE X l tl) : PI X tg l (fun σ H R => tl σ H fun x H1 => ∃ a, x = .ref a ∧ (((∃ xs, SqL X.K H1 a xs) ∧ R (Itl X.K a) H1) ∨ ((∃ xs, SqT X.K H1 a xs) ∧ R (Itt X.K a) H1))) := by
  refine ⟨fun pins s σ H R I h => ?_⟩
  refine thn (hl.run pins s σ H _ I h) fun v s1 ⟨x, H1, I1, r1, q1⟩ => ?_
  obtain ⟨a, e, q1⟩ := q1
  subst e
  cases r1
  rcases q1 with ⟨⟨xs, hq⟩, q⟩ | ⟨⟨xs, hq⟩, q⟩
  · obtain ⟨its, rv, p, hz⟩ := I1.list hq
    refine wpAny_pyIter_list p.isList ?_
    refine ⟨s1.heap.objs.size, [s1.heap.objs.size], _, _, H1, rfl, I1.kept (t' := s1.toks) fun b o e => Heap.get?_push_of_some _ e, turn_list a _, ⟨_, Heap.get?_push_size _ rfl, rfl, rfl⟩, fun b hb => ?_, q⟩
    have e : b = s1.heap.objs.size := by simpa using hb
    subst e
    exact I1.fpOk (Nat.le_refl _) (I1.hok.fresh (Nat.le_refl _))
  · obtain ⟨its, rv, p, hz⟩ := I1.tuple hq
    refine wpAny_pyIter_tuple (show s1.heap.IsTuple a its.toArray from p) ?_
    refine ⟨s1.heap.objs.size, [s1.heap.objs.size], _, _, H1, rfl, I1.kept (t' := s1.toks) fun b o e => Heap.get?_push_of_some _ e, turn_tuple a _, ⟨_, Heap.get?_push_size _ rfl, rfl, rfl⟩, fun b hb => ?_, q⟩
    have e : b = s1.heap.objs.size := by simpa using hb
    subst e
    exact I1.fpOk (Nat.le_refl _) (I1.hok.fresh (Nat.le_refl _))

section
variable {S : Sx} {N : List Str} {sc : Scope} {k : Nat} {g : Gm} {c : Nat → List D → Oh → Rs D} {ht : List Hd}
theorem stays_ok {h : Oh} {d : D} {n : Nat} {ds : List D} (e : stays h d n = some ds) : d.items h = some ds ∧ ds.length = n := by
  unfold stays at e
  obtain ⟨es, e1, e2⟩ := Option.bind_eq_some_iff.mp e
  split at e2
  · rename_i hl; cases e2; exact ⟨e1, hl⟩
  · cases e2
theorem now_len {h : Oh} {wk : Wk} {ds : List D} (e : wk.now h = some ds) : ds.length = wk.len := by
  cases wk with
  | seq d n => exact (stays_ok e).2
  | rng lo n => cases e; simp [Wk.len]
  | zip a b n m =>
    have e : (match stays h a n, stays h b m with
      | some xs, some ys => some ((xs.zip ys).map fun p => D.tup [p.1, p.2])
      | _, _ => none) = some ds := e
    split at e
    · rename_i xs ys h1 h2
      cases e
      simp [Wk.len, (stays_ok h1).2, (stays_ok h2).2]
    · cases e
  | enm a n =>
    obtain ⟨xs, h1, rfl⟩ := Option.map_eq_some_iff.mp (show (stays h a n).map (fun xs => xs.mapIdx fun i x => D.tup [.int i, x]) = some ds from e)
    simp [Wk.len, (stays_ok h1).2]
theorem wok_seqL {f : Fs} {H : Hp} {d : D} {n : Nat} {a : Addr} (hd : ∀ es, d ≠ .tup es) (r : Rep S.K f H d (.ref a)) (hz : n ≤ 16777216) : WOk S false f H (.seq d n) (Itl S.K a) := by
  refine ⟨hz, fun f' H' h' i x e rr hx => ?_, fun f' H' h' ds e rr hx => ?_⟩
  · obtain ⟨ds, h1, h2⟩ := Option.bind_eq_some_iff.mp hx
    obtain ⟨h3, _⟩ := stays_ok h1
    obtain ⟨a', vs, q1, rl, q⟩ := (r.mo e).items rr h3
    cases q1
    rcases q with ⟨q, _⟩ | ⟨_, q⟩
    · obtain ⟨v, hv, rv⟩ := rl.get h2
      refine ⟨⟨vs, v, q, hv⟩, fun y H'' ⟨e1, e2⟩ => ?_⟩
      subst e1
      have := e2 vs q
      rw [hv] at this
      cases this
      exact ⟨.refl, rr, .inl rv⟩
    · exact absurd q (hd ds)
  · obtain ⟨h3, hl⟩ := stays_ok hx
    obtain ⟨a', vs, q1, rl, q⟩ := (r.mo e).items rr h3
    cases q1
    rcases q with ⟨q, _⟩ | ⟨_, q⟩
    · exact ⟨vs, q, by rw [← rl.length, hl]; exact Nat.le_refl _⟩
    · exact absurd q (hd ds)
theorem wok_seqT {f : Fs} {H : Hp} {es : List D} {n : Nat} {a : Addr} (r : Rep S.K f H (.tup es) (.ref a)) (hz : n ≤ 16777216) : WOk S false f H (.seq (.tup es) n) (Itt S.K a) := by
  refine ⟨hz, fun f' H' h' i x e rr hx => ?_, fun f' H' h' ds e rr hx => ?_⟩
  · obtain ⟨ds, h1, h2⟩ := Option.bind_eq_some_iff.mp hx
    obtain ⟨h3, _⟩ := stays_ok h1
    cases h3
    obtain ⟨a', vs, q1, q, rl⟩ := (r.mo e).tupT
    cases q1
    obtain ⟨v, hv, rv⟩ := rl.get h2
    refine ⟨⟨vs, v, q, hv⟩, fun y H'' ⟨e1, e2⟩ => ?_⟩
    subst e1
    have := e2 vs q
    rw [hv] at this
    cases this
    exact ⟨.refl, rr, .inl rv⟩
  · obtain ⟨h3, hl⟩ := stays_ok hx
    cases h3
    obtain ⟨a', vs, q1, q, rl⟩ := (r.mo e).tupT
    cases q1
    exact ⟨vs, q, by rw [← rl.length, hl]; exact Nat.le_refl _⟩
theorem wok_rng {f : Fs} {H : Hp} {lo : Int} {n : Nat} (hz : n ≤ 16777216) : WOk S false f H (.rng lo n) (Itr lo n) := by
  refine ⟨hz, fun f' H' h' i x e rr hx => ?_, fun f' H' h' ds e rr hx => ?_⟩
  · have hx : ((List.range n).map fun i : Nat => D.int (lo + (i : Int)))[i]? = some x := hx
    rw [List.getElem?_map] at hx
    obtain ⟨j, h1, h2⟩ := Option.map_eq_some_iff.mp hx
    obtain ⟨hl, h3⟩ := List.getElem?_eq_some_iff.mp h1
    simp at h3 hl
    subst h3
    subst h2
    refine ⟨hl, fun y H'' ⟨e1, e2⟩ => ?_⟩
    subst e1 e2
    exact ⟨.refl, rr, .inl (.int _)⟩
  · exact Nat.le_refl _
theorem goi_seq {e tg : Expr} {x : Ex} (h1 : Go S N sc k g e (evE c ht x)) : GoI S N sc k g false tg e (evI c ht (.seq x)) := fun E X G => by
  refine piImp (pi_seq (h1 E X G)) fun σ H R ⟨f, h, env, er, rr, p⟩ => ⟨f, h, env, er, rr, ?_⟩
  simp only [evI] at p
  refine (Po.bind (R := RD S) rr p).imp fun v H1 ⟨d, f1, h1, x1, r1, q1, p1⟩ => ?_
  obtain ⟨wk, e1, p2⟩ := p1.opt
  obtain ⟨ds, e2, e3⟩ := Option.bind_eq_some_iff.mp e1
  split at e3
  · rename_i hz
    cases e3
    obtain ⟨a, vs, rfl, rl, q⟩ := q1.items r1 e2
    refine ⟨a, rfl, ?_⟩
    rw [G.xs.K]
    rcases q with ⟨q, hd⟩ | ⟨q, rfl⟩
    · exact .inl ⟨⟨vs, q⟩, p2 f1 H1 _ .refl r1 (wok_seqL hd q1 hz)⟩
    · exact .inr ⟨⟨vs, q⟩, p2 f1 H1 _ .refl r1 (wok_seqT q1 hz)⟩
  · cases e3
theorem goi_rng1 {e tg : Expr} {x : Ex} {p pos} (nb : Nb S) (hg : sc.names.lookup ("range" : Str) = some .globalImplicit) (h1 : Go S N sc k g e (evE c ht x)) (hs : shp e = true) : GoI S N sc k g false tg (.Call (.Name "range" p) [e] [] pos) (evI c ht (.rng1 x)) := fun E X G => by
  refine piImp (pi_range1 (G.gl hg) (G.mg (nb _ (by decide))) (pa_cons (h1 E X G) pa_nil (shp_star hs _ _)) (shp_star hs _ _)) fun σ H R ⟨f, h, env, er, rr, p⟩ => ⟨f, h, env, er, rr, ?_⟩
  simp only [evI] at p
  refine (Po.bind (R := RD S) rr p).imp fun v H1 ⟨d, f1, h1, x1, r1, q1, p1⟩ => ?_
  cases q1 with
  | int i =>
    dsimp only at p1
    split at p1
    · rename_i hz
      simp only [Bool.and_eq_true, decide_eq_true_eq] at hz
      exact ⟨i, rfl, by omega, by omega, p1 f1 H1 _ .refl r1 (wok_rng (by omega))⟩
    · exact p1.elim
  | _ => exact p1.elim
theorem goi_rng2 {a b tg : Expr} {x y : Ex} {p pos} (nb : Nb S) (hg : sc.names.lookup ("range" : Str) = some .globalImplicit) (ha : Go S N sc k g a (evE c ht x)) (hb : Go S N sc k g b (evE c ht y)) (hs : shp a = true) (hs2 : shp b = true) : GoI S N sc k g false tg (.Call (.Name "range" p) [a, b] [] pos) (evI c ht (.rng2 x y)) := fun E X G => by
  refine piImp (pi_range2 (G.gl hg) (G.mg (nb _ (by decide))) (pa_cons (ha E X G) (pa_cons (hb E X G) pa_nil (shp_star hs2 _ _)) (shp_star hs _ _)) (by rw [shp_star hs, shp_star hs2]; rfl) (shp_star hs2 _ _)) fun σ H R ⟨f, h, env, er, rr, p⟩ => ⟨f, h, env, er, rr, ?_⟩
  simp only [evI] at p
  refine (Po.bind (R := RD S) rr p).imp fun v H1 ⟨d, f1, h1, x1, r1, q1, p1⟩ => ⟨f1, h1, env, er.ext x1, r1, ?_⟩
  refine (Po.bind (R := RD S) r1 p1).imp fun v2 H2 ⟨d2, f2, h2, x2, r2, q2, p2⟩ => ?_
  cases q1 with
  | int i =>
    cases q2 with
    | int j =>
      dsimp only at p2
      split at p2
      · rename_i hz
        simp only [Bool.and_eq_true, decide_eq_true_eq] at hz
        exact ⟨i, j, rfl, by omega, p2 f2 H2 _ .refl r2 (wok_rng (by omega))⟩
      · exact p2.elim
    | _ => exact p2.elim
  | _ => cases q2 <;> exact p2.elim
theorem stays_of {f : Fs} {H : Hp} {h : Oh} {d : D} {n : Nat} {ds : List D} {a : Addr} (rr : RR S f H h) (r : Rep S.K f H d (.ref a)) (e : stays h d n = some ds) : ∃ vs, RepL S.K f H ds vs ∧ vs.length = n ∧ ((SqL S.K H a vs ∧ ∀ es, d ≠ .tup es) ∨ (SqT S.K H a vs ∧ d = .tup ds)) := by
  obtain ⟨h3, hl⟩ := stays_ok e
  obtain ⟨a', vs, q1, rl, q⟩ := r.items rr h3
  cases q1
  exact ⟨vs, rl, by rw [← rl.length]; exact hl, q⟩
theorem wr_pair {f : Fs} {H : Hp} {h : Oh} {T : Addr} {d1 d2 : D} {x y : V} (rr : RR S f H h) (hT : H T = none) (r1 : Rep S.K f H d1 x) (r2 : Rep S.K f H d2 y) : WR S true f (L2.upd H T (.tup [x, y])) (.tup [d1, d2]) (.ref T) :=
  .inr ⟨rfl, T, [x, y], [d1, d2], rfl, rfl, .inl (.inl upd_same), .cons (r1.ext (rr.ex hT)) (.cons (r2.ext (rr.ex hT)) .nil)⟩
theorem wok_zipL {f : Fs} {H : Hp} {d e : D} {n m : Nat} {a b : Addr} (hd : ∀ es, d ≠ .tup es) (he : ∀ es, e ≠ .tup es) (r : Rep S.K f H d (.ref a)) (q : Rep S.K f H e (.ref b)) (hz : n ≤ 16777216) : WOk S true f H (.zip d e n m) (Itz S.K a b) := by
  have key : ∀ (h' : Oh) (ds : List D), Wk.now h' (.zip d e n m) = some ds → ∃ xs ys, stays h' d n = some xs ∧ stays h' e m = some ys ∧ ds = (xs.zip ys).map fun p => D.tup [p.1, p.2] := fun h' ds e1 => by
    have e1 : (match stays h' d n, stays h' e m with
      | some xs, some ys => some ((xs.zip ys).map fun p => D.tup [p.1, p.2])
      | _, _ => none) = some ds := e1
    split at e1
    · rename_i xs ys h1 h2; cases e1; exact ⟨xs, ys, h1, h2, rfl⟩
    · cases e1
  refine ⟨Nat.le_trans (Nat.min_le_left n m) hz, fun f' H' h' i x x1 rr hx => ?_, fun f' H' h' ds x1 rr hx => ?_⟩
  · obtain ⟨ds, h1, h2⟩ := Option.bind_eq_some_iff.mp hx
    obtain ⟨xs, ys, e1, e2, rfl⟩ := key h' ds h1
    obtain ⟨vs, rl, _, qq⟩ := stays_of rr (r.mo x1) e1
    obtain ⟨ws, rl2, _, qq2⟩ := stays_of rr (q.mo x1) e2
    have q1 : SqL S.K H' a vs := qq.elim (·.1) fun z => absurd z.2 (hd _)
    have q2 : SqL S.K H' b ws := qq2.elim (·.1) fun z => absurd z.2 (he _)
    rw [List.getElem?_map] at h2
    obtain ⟨pr, h3, rfl⟩ := Option.map_eq_some_iff.mp h2
    rw [List.getElem?_zip_eq_some] at h3
    obtain ⟨v, hv, rv⟩ := rl.get h3.1
    obtain ⟨w, hw, rw'⟩ := rl2.get h3.2
    refine ⟨⟨vs, ws, v, w, q1, q2, hv, hw⟩, fun y H'' ⟨T, y1, y2, e3, hT, e4, e5, e6⟩ => ?_⟩
    subst e3 e4
    have z1 := e5 vs q1
    have z2 := e6 ws q2
    rw [hv] at z1; rw [hw] at z2
    cases z1; cases z2
    exact ⟨rr.ex hT, rr.upd hT, wr_pair rr hT rv rw'⟩
  · obtain ⟨xs, ys, e1, e2, rfl⟩ := key h' ds hx
    obtain ⟨vs, rl, l1, qq⟩ := stays_of rr (r.mo x1) e1
    obtain ⟨ws, rl2, l2, qq2⟩ := stays_of rr (q.mo x1) e2
    have q1 : SqL S.K H' a vs := qq.elim (·.1) fun z => absurd z.2 (hd _)
    have q2 : SqL S.K H' b ws := qq2.elim (·.1) fun z => absurd z.2 (he _)
    refine ⟨vs, ws, q1, q2, ?_⟩
    rw [l1, l2]
    show n ≤ Nat.min n m ∨ m ≤ Nat.min n m
    rcases Nat.le_total n m with z | z
    · left; rw [show Nat.min n m = n from Nat.min_eq_left z]; exact Nat.le_refl _
    · right; rw [show Nat.min n m = m from Nat.min_eq_right z]; exact Nat.le_refl _
theorem wok_zipT {f : Fs} {H : Hp} {es1 es2 : List D} {n m : Nat} {a b : Addr} (r : Rep S.K f H (.tup es1) (.ref a)) (q : Rep S.K f H (.tup es2) (.ref b)) (hz : n ≤ 16777216) : WOk S true f H (.zip (.tup es1) (.tup es2) n m) (ItzT S.K a b) := by
  have key : ∀ (h' : Oh) (ds : List D), Wk.now h' (.zip (.tup es1) (.tup es2) n m) = some ds → stays h' (.tup es1) n = some es1 ∧ stays h' (.tup es2) m = some es2 ∧ ds = (es1.zip es2).map fun p => D.tup [p.1, p.2] := fun h' ds e1 => by
    have e1 : (match stays h' (.tup es1) n, stays h' (.tup es2) m with
      | some xs, some ys => some ((xs.zip ys).map fun p => D.tup [p.1, p.2])
      | _, _ => none) = some ds := e1
    split at e1
    · rename_i xs ys h1 h2
      cases e1
      have := (stays_ok h1).1
      have z2 := (stays_ok h2).1
      cases this; cases z2
      exact ⟨h1, h2, rfl⟩
    · cases e1
  refine ⟨Nat.le_trans (Nat.min_le_left n m) hz, fun f' H' h' i x x1 rr hx => ?_, fun f' H' h' ds x1 rr hx => ?_⟩
  · obtain ⟨ds, h1, h2⟩ := Option.bind_eq_some_iff.mp hx
    obtain ⟨e1, e2, rfl⟩ := key h' ds h1
    obtain ⟨_, vs, z1, q1, rl⟩ := (r.mo x1).tupT
    cases z1
    obtain ⟨_, ws, z1, q2, rl2⟩ := (q.mo x1).tupT
    cases z1
    rw [List.getElem?_map] at h2
    obtain ⟨pr, h3, rfl⟩ := Option.map_eq_some_iff.mp h2
    rw [List.getElem?_zip_eq_some] at h3
    obtain ⟨v, hv, rv⟩ := rl.get h3.1
    obtain ⟨w, hw, rw'⟩ := rl2.get h3.2
    refine ⟨⟨vs, ws, v, w, q1, q2, hv, hw⟩, fun y H'' ⟨T, y1, y2, e3, hT, e4, e5, e6⟩ => ?_⟩
    subst e3 e4
    have z1 := e5 vs q1
    have z2 := e6 ws q2
    rw [hv] at z1; rw [hw] at z2
    cases z1; cases z2
    exact ⟨rr.ex hT, rr.upd hT, wr_pair rr hT rv rw'⟩
  · obtain ⟨e1, e2, rfl⟩ := key h' ds hx
    obtain ⟨_, vs, z1, q1, rl⟩ := (r.mo x1).tupT
    cases z1
    obtain ⟨_, ws, z1, q2, rl2⟩ := (q.mo x1).tupT
    cases z1
    have l1 := (stays_ok e1).2
    have l2 := (stays_ok e2).2
    refine ⟨vs, ws, q1, q2, ?_⟩
    rw [← rl.length, ← rl2.length, l1, l2]
    show n ≤ Nat.min n m ∨ m ≤ Nat.min n m
    rcases Nat.le_total n m with z | z
    · left; rw [show Nat.min n m = n from Nat.min_eq_left z]; exact Nat.le_refl _
    · right; rw [show Nat.min n m = m from Nat.min_eq_right z]; exact Nat.le_refl _
theorem wok_enm {f : Fs} {H : Hp} {d : D} {n : Nat} {a : Addr} (hd : ∀ es, d ≠ .tup es) (r : Rep S.K f H d (.ref a)) (hz : n ≤ 16777216) : WOk S true f H (.enm d n) (Ite S.K a) := by
  refine ⟨hz, fun f' H' h' i x x1 rr hx => ?_, fun f' H' h' ds x1 rr hx => ?_⟩
  · obtain ⟨ds, h1, h2⟩ := Option.bind_eq_some_iff.mp hx
    obtain ⟨xs, e1, rfl⟩ := Option.map_eq_some_iff.mp (show (stays h' d n).map (fun xs => xs.mapIdx fun i x => D.tup [.int i, x]) = some ds from h1)
    obtain ⟨vs, rl, _, qq⟩ := stays_of rr (r.mo x1) e1
    have q1 : SqL S.K H' a vs := qq.elim (·.1) fun z => absurd z.2 (hd _)
    rw [List.getElem?_mapIdx] at h2
    obtain ⟨y, h3, rfl⟩ := Option.map_eq_some_iff.mp h2
    obtain ⟨v, hv, rv⟩ := rl.get h3
    refine ⟨⟨vs, v, q1, hv⟩, fun y H'' ⟨T, y1, e3, hT, e4, e5⟩ => ?_⟩
    subst e3 e4
    have z1 := e5 vs q1
    rw [hv] at z1
    cases z1
    exact ⟨rr.ex hT, rr.upd hT, wr_pair rr hT (.int _) rv⟩
  · obtain ⟨xs, e1, rfl⟩ := Option.map_eq_some_iff.mp (show (stays h' d n).map (fun xs => xs.mapIdx fun i x => D.tup [.int i, x]) = some ds from hx)
    obtain ⟨vs, rl, l1, qq⟩ := stays_of rr (r.mo x1) e1
    have q1 : SqL S.K H' a vs := qq.elim (·.1) fun z => absurd z.2 (hd _)
    exact ⟨vs, q1, by rw [l1]; exact Nat.le_refl _⟩
theorem goi_zip {a b : Expr} {elts : List Expr} {kk : Nat} {x y : Ex} {p pos tpos} (nb : Nb S) (hg : sc.names.lookup ("zip" : Str) = some .globalImplicit) (ha : Go S N sc k g a (evE c ht x)) (hb : Go S N sc k g b (evE c ht y)) (hs : shp a = true) (hs2 : shp b = true) : GoI S N sc k g true (.Tuple elts kk tpos) (.Call (.Name "zip" p) [a, b] [] pos) (evI c ht (.zip x y)) := fun E X G => by
  refine piImp (pi_zipA (G.gl hg) (G.mg (nb _ (by decide))) (pa_cons (ha E X G) (pa_cons (hb E X G) pa_nil (shp_star hs2 _ _)) (shp_star hs _ _)) (shp_star hs _ _) (shp_any (by simp [hs2]))) fun σ H R ⟨f, h, env, er, rr, p⟩ => ⟨f, h, env, er, rr, ?_⟩
  simp only [evI] at p
  refine (Po.bind (R := RD S) rr p).imp fun v H1 ⟨d, f1, h1, x1, r1, q1, p1⟩ => ⟨f1, h1, env, er.ext x1, r1, ?_⟩
  refine (Po.bind (R := RD S) r1 p1).imp fun v2 H2 ⟨d2, f2, h2, x2, r2, q2, p2⟩ => ?_
  obtain ⟨wk, e1, p3⟩ := p2.opt
  have q1 := q1.ext x2
  rw [G.xs.K]
  split at e1
  · split at e1
    · rename_i hz
      cases e1
      obtain ⟨a, vs, rfl, z1, rl⟩ := q1.tupT
      obtain ⟨b, ws, rfl, z2, rl2⟩ := q2.tupT
      exact ⟨a, b, vs, ws, rfl, .inr ⟨z1, z2, p3 f2 H2 _ .refl r2 (wok_zipT q1 q2 hz)⟩⟩
    · cases e1
  · cases e1
  · cases e1
  · rename_i n1 n2 n3
    obtain ⟨xs, e2, e3⟩ := Option.bind_eq_some_iff.mp e1
    obtain ⟨ys, e4, e5⟩ := Option.bind_eq_some_iff.mp e3
    split at e5
    · rename_i hz
      cases e5
      obtain ⟨a, vs, rfl, rl, z1⟩ := q1.items r2 e2
      obtain ⟨b, ws, rfl, rl2, z2⟩ := q2.items r2 e4
      rcases z1 with ⟨z1, hd⟩ | ⟨_, z⟩
      · rcases z2 with ⟨z2, he⟩ | ⟨_, z⟩
        · exact ⟨a, b, vs, ws, rfl, .inl ⟨z1, z2, p3 f2 H2 _ .refl r2 (wok_zipL hd he q1 q2 hz)⟩⟩
        · exact absurd z (n2 _)
      · exact absurd z (n1 _)
    · cases e5
theorem goi_enm {a : Expr} {elts : List Expr} {kk : Nat} {x : Ex} {p pos tpos} (nb : Nb S) (hg : sc.names.lookup ("enumerate" : Str) = some .globalImplicit) (ha : Go S N sc k g a (evE c ht x)) (hs : shp a = true) : GoI S N sc k g true (.Tuple elts kk tpos) (.Call (.Name "enumerate" p) [a] [] pos) (evI c ht (.enm x)) := fun E X G => by
  refine piImp (pi_enum (G.gl hg) (G.mg (nb _ (by decide))) (pa_cons (ha E X G) pa_nil (shp_star hs _ _)) (shp_star hs _ _)) fun σ H R ⟨f, h, env, er, rr, p⟩ => ⟨f, h, env, er, rr, ?_⟩
  simp only [evI] at p
  refine (Po.bind (R := RD S) rr p).imp fun v H1 ⟨d, f1, h1, x1, r1, q1, p1⟩ => ?_
  obtain ⟨wk, e1, p3⟩ := p1.opt
  rw [G.xs.K]
  split at e1
  · cases e1
  · rename_i d n1
    obtain ⟨xs, e2, e3⟩ := Option.bind_eq_some_iff.mp e1
    split at e3
    · rename_i hz
      cases e3
      obtain ⟨a, vs, rfl, rl, z1⟩ := q1.items r1 e2
      rcases z1 with ⟨z1, hd⟩ | ⟨_, z⟩
      · exact ⟨a, vs, rfl, z1, p3 f1 H1 _ .refl r1 (wok_enm hd q1 hz)⟩
      · exact absurd z (n1 _)
    · cases e3
end
end Ev

set_option Elab.async false
set_option linter.all false
set_option maxRecDepth 100000
set_option maxHeartbeats 4000000
set_option autoImplicit false
namespace Ev
open PySem PySem.Spec PyProof.Rows L2 GxR RZ

/-! ### ghosts -/
section
variable {S : Sx} {f f' : Fs} {H H' : Hp} {h h' : Oh}
theorem Mo.refl : Mo f H f H := ⟨fun _ z => .inl z, fun _ _ e => e, fun _ _ e _ _ => e⟩
theorem ObRep.mo {K : PySem.W.Frag} {clsA : Nat → Option Addr} {a : Addr} {o : Ob} (m : Mo f H f' H') (e : H' a = H a) (r : ObRep K clsA f H a o) : ObRep K clsA f' H' a o := by
  cases o with
  | lst ds => obtain ⟨vs, e1, q⟩ := r; exact ⟨vs, by rw [e]; exact e1, q.mo m⟩
  | dct _ => exact r.elim
  | ins c fs => obtain ⟨C, dx, vs, q1, e1, q⟩ := r; exact ⟨C, dx, vs, q1, by rw [e]; exact e1, q.mo m⟩
theorem RR.mo (r : RR S f H h) (m : Mo f H f' H') (hl : f'.l = f.l) (dj : ∀ a, a ∈ f'.g → a ∉ f'.l) (gt : ∀ a, a ∈ f'.g → H' a ≠ none ∧ ∀ ps, H' a ≠ some (.tbl ps)) (he : ∀ a, a ∈ f.l → H' a = H a) (tab : ∀ P ps, H P = some (.tbl ps) → H' P = some (.tbl ps)) (gq : ∀ a, a ∈ f'.g → ∀ c q, H' a ≠ some (LamX.CodeO c q)) (cod : ∀ c q, H c = some (LamX.CodeO c q) → H' c = some (LamX.CodeO c q)) : RR S f' H' h :=
  ⟨by rw [hl]; exact r.len, by rw [hl]; exact r.nd, dj, gt, fun n o e => by
    obtain ⟨a, e1, q⟩ := r.obj n o e
    exact ⟨a, by rw [hl]; exact e1, q.mo m (he a (List.mem_of_getElem? e1))⟩, fun P hP => by
    obtain ⟨ps, e, t⟩ := r.tab P hP
    exact ⟨ps, tab P ps e, t⟩, gq, fun p hp => by
    obtain ⟨ps, a1, a2, a3⟩ := r.tq p hp
    refine ⟨ps, tab _ _ a1, a2, fun pos cv hc => ?_⟩
    obtain ⟨c, e1, e2⟩ := a3 pos cv hc
    exact ⟨c, e1, cod _ _ e2⟩⟩
theorem RR.gin {D : Addr} {o : HO} (r : RR S f H h) (hD : H D = none) (ho : ∀ ps, o ≠ .tbl ps) (ho2 : ∀ c q, o ≠ LamX.CodeO c q) : RR S ⟨f.l, D :: f.g⟩ (L2.upd H D o) h ∧ Mo f H ⟨f.l, D :: f.g⟩ (L2.upd H D o) := by
  have nD := r.ntr hD
  have m : Mo f H ⟨f.l, D :: f.g⟩ (L2.upd H D o) := by
    refine ⟨fun a ha => ?_, fun _ _ e => e, fun a u e _ _ => by rw [upd_ne (ne_of_none e hD)]; exact e⟩
    rcases ha with ha | ha
    · exact .inl (.inl ha)
    · rcases List.mem_cons.mp ha with rfl | ha
      · exact .inr hD
      · exact .inl (.inr ha)
  refine ⟨r.mo m rfl (fun a ha => ?_) (fun a ha => ?_) (fun a ha => upd_ne fun z => nD (.inl (z ▸ ha))) (fun P ps e => by rw [upd_ne (ne_of_none e hD)]; exact e) (fun a ha c q => ?_) (fun c q e => by rw [upd_ne (ne_of_none e hD)]; exact e), m⟩
  · rcases List.mem_cons.mp ha with rfl | ha
    · exact fun z => nD (.inl z)
    · exact r.dj a ha
  · rcases List.mem_cons.mp ha with rfl | ha
    · rw [upd_same]; exact ⟨by simp, fun ps z => ho ps (by injection z)⟩
    · have := r.gt a ha
      rw [upd_ne fun z => this.1 (by rw [z]; exact hD)]; exact this
  · rcases List.mem_cons.mp ha with rfl | ha
    · rw [upd_same]; exact fun z => ho2 c q (by injection z)
    · have := r.gt a ha
      rw [upd_ne fun z => this.1 (by rw [z]; exact hD)]; exact r.gq a ha c q
theorem RR.gout {D : Addr} {g : List Addr} (r : RR S f H h) (hg : f.g = D :: g) : RR S ⟨f.l, g⟩ H h ∧ Mo f H ⟨f.l, g⟩ H := by
  have m : Mo f H ⟨f.l, g⟩ H := ⟨fun a ha => .inl (ha.elim .inl fun z => .inr (by rw [hg]; exact List.mem_cons_of_mem _ z)), fun _ _ e => e, fun _ _ e _ _ => e⟩
  exact ⟨r.mo m rfl (fun a ha => r.dj a (by rw [hg]; exact List.mem_cons_of_mem _ ha)) (fun a ha => r.gt a (by rw [hg]; exact List.mem_cons_of_mem _ ha)) (fun _ _ => rfl) (fun _ _ e => e) (fun a ha => r.gq a (by rw [hg]; exact List.mem_cons_of_mem _ ha)) (fun _ _ e => e), m⟩
theorem RR.gset {D : Addr} {o : HO} (r : RR S f H h) (hg : D ∈ f.g) (ho : ∀ ps, o ≠ .tbl ps) (ho2 : ∀ c q, o ≠ LamX.CodeO c q) : RR S f (L2.upd H D o) h ∧ Mo f H f (L2.upd H D o) := by
  have ne : ∀ a, a ∉ f → a ≠ D := fun a ha z => ha (.inr (z ▸ hg))
  have m : Mo f H f (L2.upd H D o) := ⟨fun a ha => .inl ha, fun _ _ e => e, fun a u e ha _ => by rw [upd_ne (ne a ha)]; exact e⟩
  refine ⟨r.mo m rfl r.dj (fun a ha => ?_) (fun a ha => upd_ne fun z => r.dj D hg (z ▸ ha)) (fun P ps e => ?_) (fun a ha c q => ?_) (fun c q e => by rw [upd_ne (show c ≠ D from fun z => r.gq D hg c q (z ▸ e))]; exact e), m⟩
  · by_cases hz : a = D
    · subst hz; rw [upd_same]; exact ⟨by simp, fun ps z => ho ps (by injection z)⟩
    · rw [upd_ne hz]; exact r.gt a ha
  · have : P ≠ D := fun z => (r.gt D hg).2 ps (z ▸ e)
    rw [upd_ne this]; exact e
  · by_cases hz : a = D
    · subst hz; rw [upd_same]; exact fun z => ho2 c q (by injection z)
    · rw [upd_ne hz]; exact r.gq a ha c q
theorem Mo.trans {f1 f2 : Fs} {H1 H2 : Hp} (a : Mo f H f1 H1) (b : Mo f1 H1 f2 H2) (ht : ∀ a ps, H a = some (.tbl ps) → ∃ ps', H1 a = some (.tbl ps')) (hf : ∀ c, c ∈ f → H c ≠ none) (hk : ∀ c, c ∈ f → c ∈ f2 → True) : Mo f H f2 H2 := by
  refine ⟨fun c hc => ?_, fun n c e => b.at' n c (a.at' n c e), fun c o e hc ho => b.keep c o (a.keep c o e hc ho) (fun z => ?_) ho⟩
  · rcases b.new c hc with h | h
    · exact a.new c h
    · by_cases hcf : c ∈ f
      · exact .inl hcf
      · refine .inr ?_
        cases e : H c with
        | none => rfl
        | some o =>
          by_cases htt : ∃ ps, o = .tbl ps
          · obtain ⟨ps, rfl⟩ := htt
            obtain ⟨ps', e'⟩ := ht c ps e
            rw [h] at e'; cases e'
          · have := a.keep c o e hcf (fun ps q => htt ⟨ps, q⟩)
            rw [h] at this; cases this
  · rcases a.new c z with y | y
    · exact hc y
    · rw [e] at y; cases y
end

mutual
theorem TgR.imp {N : List Str} {P P' : Str → Prop} (h : ∀ x, P x → P' x) : ∀ {e : Expr} {t : Tg}, TgR N P e t → TgR N P' e t
  | _, _, .v hi hx => .v hi (h _ hx)
  | _, _, .t r => .t (TgRs.imp h r)
theorem TgRs.imp {N : List Str} {P P' : Str → Prop} (h : ∀ x, P x → P' x) : ∀ {e : List Expr} {t : List Tg}, TgRs N P e t → TgRs N P' e t
  | _, _, .nil => .nil
  | _, _, .cons a b => .cons (TgR.imp h a) (TgRs.imp h b)
end

/-! ### a block's context -/
theorem takes_false {X : Cx} {W : WX} (h : ∀ c d σ H, ¬ W c d σ H) : Takes X W := fun u s' ⟨_, _, _, _, _, _, _, _, _, _, _, _, _, _, _, _, w⟩ => absurd w (h _ _ _ _)
abbrev XE0 : XK := fun _ _ _ => False
section
variable {S : Sx} {N : List Str} {sc : Scope} {k : Nat} {g : Gm} {c : Nat → List D → Oh → Rs D} {ht : List Hd}
theorem Gd.blk {E : XK} {X : Cx} (G : Gd S N sc k g E X) (s : Shared) (H : Hp) (scope : Scope) (C : Addr) (cl : List (Str × Addr)) (fp : List Addr) : Gd S N (relS scope sc) k g XE0 (X.blk s H scope (compEnvC scope cl C X.env) fp) :=
  ⟨⟨G.xs.P, G.xs.w, G.xs.K, G.xs.mg, G.xs.base⟩, G.calm, G.nm, G.nd, G.room, by show relS scope X.env.scope = _; rw [G.sc], takes_false fun _ _ _ _ z => z, G.cd, G.ld⟩
theorem noX_ok {α : Type} {r : Rs α} {a : α} {h : Oh} (e : noX r = .ok a h) : r = .ok a h := by
  cases r with
  | ok b h' => exact e
  | exc _ _ _ => cases e
  | bad => cases e
theorem Po.nox {α β : Type} {E : XK} {R : Fs → Hp → α → β → Prop} {f : Fs} {H : Hp} {r : Rs α} {Q : β → Hp → Prop} (p : Po S E R f H (noX r) Q) : ∃ a h, r = .ok a h ∧ Po S E R f H (.ok a h) Q := by
  cases r with
  | ok b h' => exact ⟨b, h', rfl, p⟩
  | exc _ _ _ => exact p.elim
  | bad => exact p.elim
/-- conditions -/
def GoC (S : Sx) (N : List Str) (sc : Scope) (k : Nat) (g : Gm) (c : Nat → List D → Oh → Rs D) (ht : List Hd) (ifs : List Expr) (cs : List Ex) : Prop := (ifs = [] ∧ cs = []) ∨ ∃ q y, ifs = [q] ∧ cs = [y] ∧ GoT S N sc k g q (evE c ht y)
def TCv (S : Sx) (E : XK) (ev : Ef Bool) : TT := fun σ H Q => ∃ (f : Fs) (h : Oh) (env : En), ER S.K f H env σ ∧ RR S f H h ∧ Po S E REq f H (ev env h) Q
theorem ptsImp {X : Cx} {es : List Expr} {t t' : TT} (h : PTs X es t) (i : ∀ σ H Q, t' σ H Q → t σ H Q) : PTs X es t' := ⟨fun pins s σ H Q I q => h.run pins s σ H Q I (i _ _ _ q)⟩
theorem goc_ok {ifs : List Expr} {cs : List Ex} (h : GoC S N sc k g c ht ifs cs) {E : XK} {X : Cx} (G : Gd S N sc k g E X) : PTs X ifs (TCv S E (evC c ht cs)) := by
  rcases h with ⟨rfl, rfl⟩ | ⟨q, y, rfl, rfl, hq⟩
  · refine ptsImp pts_nil fun σ H Q ⟨f, h, env, er, rr, p⟩ => ?_
    simp only [evC] at p
    exact p f H true .refl rr rfl
  · refine ptsImp (pts_one (hq E X G)) fun σ H Q ⟨f, h, env, er, rr, p⟩ => ⟨f, h, env, er, rr, ?_⟩
    have p : Po S E REq f H ((asB (evE c ht y env h)).bind fun b h1 => if b then .ok true h1 else .ok false h1) Q := by
      simp only [evC] at p; exact p
    cases hz : asB (evE c ht y env h) with
    | ok b h1 =>
      rw [hz] at p
      cases b <;> exact p
    | exc _ _ _ => rw [hz] at p; exact p
    | bad => rw [hz] at p; exact p
theorem wipe_idem (σ : L2.St) (vs : List Nat) : L2.wipe (L2.wipe σ vs) vs = L2.wipe σ vs := (Sim.of_wipe σ vs).wipe fun _ h => h
/-- the shared part of a block's turn: store, conditions -/
def bodyLc (c : Nat → List D → Oh → Rs D) (ht : List Hd) (t : Tg) (cs : List Ex) (vs : List Nat) (x : Ex) (env : En) : D → Oh → Rs (Option D) := fun d h2 => match bindT t d (wipeE env vs) with
  | none => .bad
  | some e2 => (evC c ht cs e2 h2).bind fun b h3 => if b then (evE c ht x e2 h3).bind fun v h4 => .ok (some v) h4 else .ok none h3
theorem key_lc {own : List (Str × Nat)} {b : Bool} {t : Tg} {w : It} {cs : List Ex} {x : Ex} {E : XK} (hsl : ∀ i ∈ t.sl, i ∈ own.map (·.2)) :
    ∀ σ H Q, TEv S E (evE c ht (.lc t w cs (own.map (·.2)) x)) σ H Q → tLc (TIv S E b (evI c ht w)) (TGv S b t) (TCv S XE0 (evC c ht cs)) (TEv S XE0 (evE c ht x)) (own.map (·.2)) σ H Q := fun σ H Q ⟨f, h, env, er, rr, p⟩ => by
  refine ⟨f, h, env, er, rr, ?_⟩
  simp only [evE] at p
  refine (Po.bind (R := WOk S b) rr p).imp fun J H1 ⟨wk, f1, h1, x1, r1, wok, p1⟩ => ?_
  intro Dd hD
  have p1 : Po S E (RD S) f1 H1 ((noX (lcGo (bodyLc c ht t cs (own.map (·.2)) x env) wk wk.len 0 h1)).bind fun ds h2 => .ok (.lst ds) h2) Q := p1
  have hw : ∃ dsF hF, lcGo (bodyLc c ht t cs (own.map (·.2)) x env) wk wk.len 0 h1 = .ok dsF hF ∧ Po S E (RD S) f1 H1 (.ok (.lst dsF) hF) Q := by
    cases e : lcGo (bodyLc c ht t cs (own.map (·.2)) x env) wk wk.len 0 h1 with
    | ok dsF hF => rw [e] at p1; exact ⟨dsF, hF, rfl, p1⟩
    | exc _ _ _ => rw [e] at p1; exact p1.elim
    | bad => rw [e] at p1; exact p1.elim
  obtain ⟨dsF, hF, ew, pF⟩ := hw
  have er1 := er.ext x1
  obtain ⟨r0, m0⟩ := r1.gin (o := .lst []) hD (fun ps z => by cases z) (fun c q z => by unfold LamX.CodeO at z; cases z)
  have nD1 := r1.ntr hD
  -- the walk's state
  let Wt : Nat → Nat → Hp → Prop := fun i m H => m = wk.len - i ∧ i ≤ wk.len ∧ ∃ (f : Fs) (h : Oh) (acc : List V) (ds0 ds1 : List D), f.g = Dd :: f1.g ∧ Ext f1 H1 ⟨f.l, f1.g⟩ H ∧ Mo f1 H1 f H ∧ RR S f H h ∧ H Dd = some (.lst acc) ∧ RepL S.K f H ds0 acc ∧ ds0.length ≤ i ∧
    lcGo (bodyLc c ht t cs (own.map (·.2)) x env) wk (wk.len - i) i h = .ok ds1 hF ∧ dsF = ds0 ++ ds1
  have hlen := wok.len
  have hsz := sizeLine_eq
  refine ⟨Wt, ⟨wk.len, by simp, Nat.zero_le _, ⟨f1.l, Dd :: f1.g⟩, h1, [], [], dsF, rfl, r1.ex hD, m0, r0, upd_same, .nil, Nat.le_refl _, by simpa using ew, by simp⟩, ?_⟩
  rintro i m H ⟨hm, hi', f2, h2, acc, ds0, ds1, hg2, x2, m2, r2, hDH, racc, hl0, e2, e3⟩
  by_cases hlt : i < wk.len
  · right
    obtain ⟨m', hm'⟩ : ∃ m', wk.len - i = m' + 1 := ⟨wk.len - i - 1, by omega⟩
    rw [hm'] at e2
    unfold lcGo at e2
    cases hnow : (wk.now h2).bind (fun ds => ds[i]?) with
    | none => rw [hnow] at e2; cases e2
    | some d =>
      rw [hnow] at e2
      obtain ⟨j1, j2⟩ := wok.go f2 H h2 i d m2 r2 hnow
      refine ⟨j1, fun H' => ∃ m'', m'' < m ∧ Wt (i + 1) m'' H', fun H' z => z, fun xv H' hy => ?_⟩
      obtain ⟨x3, r3, wr⟩ := j2 xv H' hy
      have e2 : (noX (bodyLc c ht t cs (own.map (·.2)) x env d h2)).bind (fun o h1 => (noX (lcGo (bodyLc c ht t cs (own.map (·.2)) x env) wk m' (i + 1) h1)).bind fun ds h2 => Rs.ok (consO o ds) h2) = .ok ds1 hF := e2
      cases hbd : noX (bodyLc c ht t cs (own.map (·.2)) x env d h2) with
      | exc _ _ _ => rw [hbd] at e2; cases e2
      | bad => rw [hbd] at e2; cases e2
      | ok o h3 =>
        rw [hbd] at e2
        have hbd := noX_ok hbd
        have e2 : (noX (lcGo (bodyLc c ht t cs (own.map (·.2)) x env) wk m' (i + 1) h3)).bind (fun ds h2 => Rs.ok (consO o ds) h2) = .ok ds1 hF := e2
        cases hrest : noX (lcGo (bodyLc c ht t cs (own.map (·.2)) x env) wk m' (i + 1) h3) with
        | exc _ _ _ => rw [hrest] at e2; cases e2
        | bad => rw [hrest] at e2; cases e2
        | ok ds2 h4 =>
          rw [hrest] at e2
          have hrest := noX_ok hrest
          cases e2
          unfold bodyLc at hbd
          cases hbt : bindT t d (wipeE env (own.map (·.2))) with
          | none => rw [hbt] at hbd; cases hbd
          | some env2 =>
            rw [hbt] at hbd
            have hbd : (evC c ht cs env2 h2).bind (fun b h3 => if b then (evE c ht x env2 h3).bind fun v h4 => .ok (some v) h4 else .ok none h3) = Rs.ok o h3 := hbd
            have er3 : ER S.K f2 H' (wipeE env (own.map (·.2))) (L2.wipe σ (own.map (·.2))) := ((er1.mo m2).ext x3).wipe _
            refine ⟨f2, h2, _, d, env2, er3, r3, wr, er3.len, hbt, fun σ2 er4 sim _ => ⟨?_, ?_⟩⟩
            · rw [sim.wipe hsl, wipe_idem]
            cases hcv : evC c ht cs env2 h2 with
            | exc _ _ _ => rw [hcv] at hbd; cases hbd
            | bad => rw [hcv] at hbd; cases hbd
            | ok bb h5 =>
              rw [hcv] at hbd
              refine ⟨f2, h2, env2, er4, r3, ?_⟩
              rw [hcv]
              intro f5 H5 b' x5 r5 hbb
              have hbb : bb = b' := hbb
              subst hbb
              -- what the next turn starts from
              have fin : ∀ (f6 : Fs) (H6 : Hp) (acc' : List V) (ds' : List D), f6.g = Dd :: f1.g → Ext f1 H1 ⟨f6.l, f1.g⟩ H6 → Mo f1 H1 f6 H6 → RR S f6 H6 h3 → H6 Dd = some (.lst acc') → RepL S.K f6 H6 ds' acc' → ds'.length ≤ i + 1 → dsF = ds' ++ ds2 → ∃ m'', m'' < m ∧ Wt (i + 1) m'' H6 := fun f6 H6 acc' ds' g6 x6 m6 r6 h6 rl6 hl6 ho =>
                ⟨m', by omega, by omega, by omega, f6, h3, acc', ds', ds2, g6, x6, m6, r6, h6, rl6, hl6, by rw [show wk.len - (i + 1) = m' by omega]; exact hrest, ho⟩
              -- the two steps so far
              have x25 : Ext f2 H f5 H5 := x3.trans x5 r2.tr
              have g5 : f5.g = Dd :: f1.g := by rw [x25.gs, hg2]
              have goX : ∀ (f6 : Fs) (H6 : Hp), (∀ a, a ∈ f6.g → a ∉ f6.l) → Ext f2 H f6 H6 → Ext f1 H1 ⟨f6.l, f1.g⟩ H6 ∧ Mo f1 H1 f6 H6 ∧ H6 Dd = some (.lst acc) ∧ RepL S.K f6 H6 ds0 acc := fun f6 H6 dj6 x6 => by
                have g6 : f6.g = Dd :: f1.g := by rw [x6.gs, hg2]
                obtain ⟨ru, mu⟩ := r2.gout hg2
                have xs : Ext ⟨f2.l, f1.g⟩ H ⟨f6.l, f1.g⟩ H6 := ⟨x6.pre, rfl, fun a ha => x6.gh a (by rw [hg2]; exact List.mem_cons_of_mem _ ha), fun a ha => by
                  rcases x6.new a (ha.elim .inl fun z => .inr (by rw [g6]; exact List.mem_cons_of_mem _ z)) with z | z
                  · rcases z with z | z
                    · exact .inl (.inl z)
                    · rcases ha with ha | ha
                      · rcases x6.new a (.inl ha) with y | y
                        · rcases y with y | y
                          · exact .inl (.inl y)
                          · rw [hg2] at y
                            rcases List.mem_cons.mp y with rfl | y
                            · exact absurd ha (dj6 _ (by rw [g6]; exact List.mem_cons_self))
                            · exact .inl (.inr y)
                        · exact .inr y
                      · exact .inl (.inr ha)
                  · exact .inr z, fun a o e na nt => by
                    by_cases hz : a = Dd
                    · subst hz
                      have := x6.gh a (by rw [hg2]; exact List.mem_cons_self)
                      rw [this]; exact e
                    · exact x6.keep a o e (fun z => z.elim (fun y => na (.inl y)) fun y => by
                        rw [hg2] at y
                        rcases List.mem_cons.mp y with y | y
                        · exact hz y
                        · exact na (.inr y)) nt, x6.tbl⟩
                have h6 : H6 Dd = some (.lst acc) := by rw [x6.gh Dd (by rw [hg2]; exact List.mem_cons_self)]; exact hDH
                exact ⟨x2.trans xs r1.tr, m2.trans x6.mo (fun a ps e => x2.tbl a ps e) (fun c hc => (r1.tr c hc).1) (fun _ _ _ => trivial), h6, racc.ext x6⟩
              cases bb with
              | false =>
                have hbd : Rs.ok none h5 = Rs.ok o h3 := hbd
                cases hbd
                obtain ⟨y1, y2, y3, y4⟩ := goX f5 H5 r5.dj x25
                exact fin f5 H5 acc ds0 g5 y1 y2 r5 y3 y4 (by omega) e3
              | true =>
                have hbd : (evE c ht x env2 h5).bind (fun v h4 => Rs.ok (some v) h4) = Rs.ok o h3 := hbd
                refine ⟨f5, h5, env2, er4.ext x5, r5, ?_⟩
                cases hev : evE c ht x env2 h5 with
                | exc _ _ _ => rw [hev] at hbd; cases hbd
                | bad => rw [hev] at hbd; cases hbd
                | ok v h6 =>
                  rw [hev] at hbd
                  have hbd : Rs.ok (some v) h6 = Rs.ok o h3 := hbd
                  cases hbd
                  intro f6 H6 y x6 r6 ry
                  have x26 : Ext f2 H f6 H6 := x25.trans x6 r2.tr
                  have g6 : f6.g = Dd :: f1.g := by rw [x26.gs, hg2]
                  obtain ⟨y1, y2, y3, y4⟩ := goX f6 H6 r6.dj x26
                  refine ⟨acc, y3, by rw [hsz, ← racc.length]; omega, ?_⟩
                  have hDg : Dd ∈ f6.g := by rw [g6]; exact List.mem_cons_self
                  obtain ⟨r7, m7⟩ := r6.gset (o := .lst (acc ++ [y])) hDg (fun ps z => by cases z) (fun c q z => by unfold LamX.CodeO at z; cases z)
                  refine fin f6 _ (acc ++ [y]) (ds0 ++ [v]) g6 ?_ ?_ r7 upd_same ((y4.mo m7).append (.cons (ry.mo m7) .nil)) (by simp; omega) (by rw [e3]; simp [consO])
                  · refine ⟨y1.pre, rfl, fun a ha => ?_, y1.new, fun a o e na nt => ?_, fun a ps e => ?_⟩
                    · rw [upd_ne (show a ≠ Dd from fun z => nD1 (.inr (by rw [← z]; exact ha)))]; exact y1.gh a ha
                    · rw [upd_ne (ne_of_none e hD)]; exact y1.keep a o e na nt
                    · obtain ⟨ps', e'⟩ := y1.tbl a ps e
                      exact ⟨ps', by rw [upd_ne (ne_of_none e hD)]; exact e'⟩
                  · exact y2.trans m7 (fun a ps e => y1.tbl a ps e) (fun c hc => (r1.tr c hc).1) (fun _ _ _ => trivial)
  · left
    have hi2 : i = wk.len := by omega
    rw [hi2, Nat.sub_self] at e2
    unfold lcGo at e2
    cases hnow : wk.now h2 with
    | none => rw [hnow] at e2; cases e2
    | some dd =>
      rw [hnow] at e2
      cases e2
      refine ⟨by rw [hi2]; exact wok.stop f2 H _ dd m2 r2 hnow, ?_⟩
      obtain ⟨ru, mu⟩ := r2.gout hg2
      rw [List.append_nil] at e3
      subst e3
      refine pF ⟨f2.l, f1.g⟩ H _ x2 ru (.lst hDH (fun z => ?_) (racc.mo mu))
      rcases z with z | z
      · exact r2.dj Dd (by rw [hg2]; exact List.mem_cons_self) z
      · exact nD1 (.inr z)
/-- what a comprehension may bind: its local names, its cells -/
def CT (scope sc : Scope) (x : Str) : Prop := (relS scope sc).names.lookup x = some .local ∨ (scope.names.lookup x = some .cell ∧ (relS scope sc).names.lookup x = some .cell)
theorem blk_pg {tg : Expr} {scope : Scope} {b : Bool} {t : Tg} (tr : TgR N (CT scope sc) tg t) (hb : b = true → ∃ ts, t = .t ts) {E : XK} {X : Cx} (G : Gd S N sc k g E X) (s : Shared) (H : Hp) (C : Addr) (cl : List (Str × Addr)) (fp : List Addr) :
    PG (X.blk s H scope (compEnvC scope cl C X.env) fp) tg (TGv S b t) := by
  have Gb := G.blk s H scope C cl fp
  have tr' : TgR N (fun x => Loc (compEnvC scope cl C X.env).scope x ∧ ((scope.names.lookup x == some .cell) = true ∨ (compEnvC scope cl C X.env).scope.names.lookup x = some .local)) tg t := by
    have hm : ∀ x, CT scope sc x → Loc (compEnvC scope cl C X.env).scope x ∧ ((scope.names.lookup x == some .cell) = true ∨ (compEnvC scope cl C X.env).scope.names.lookup x = some .local) := fun x hx => by
      have e : (compEnvC scope cl C X.env).scope = relS scope sc := by show relS scope X.env.scope = _; rw [G.sc]
      rw [e]
      rcases hx with hx | ⟨hx, hx2⟩
      · exact ⟨.inl hx, .inr hx⟩
      · exact ⟨.inr hx2, .inl (by rw [hx]; rfl)⟩
    exact TgR.imp hm tr
  exact pg_of (X := X.blk s H scope (compEnvC scope cl C X.env) fp) Gb.xs.K Gb.calm Gb.nm Gb.nd b tr' hb
theorem go_lc {elt tg iter : Expr} {ifs : List Expr} {scope : Scope} {own : List (Str × Nat)} {pos : Pos} {b : Bool} {t : Tg} {w : It} {cs : List Ex} {x : Ex}
    (hi : GoI S N sc k g b tg iter (evI c ht w)) (ok : BlkOk N sc scope own) (tr : TgR N (CT scope sc) tg t) (hb : b = true → ∃ ts, t = .t ts) (hsl : ∀ i ∈ t.sl, i ∈ own.map (·.2))
    (hc : GoC S N (relS scope sc) k g c ht ifs cs) (he : Go S N (relS scope sc) k g elt (evE c ht x)) (hf : ∀ env v, foldedSetIterable iter env v = pure v) :
    Go S N sc k g (.ListComp elt [⟨tg, iter, ifs, 0⟩] scope pos) (evE c ht (.lc t w cs (own.map (·.2)) x)) := fun E X G => by
  have ok' : BlkOk X.N X.env.scope scope own := by rw [G.nm, G.sc]; exact ok
  exact peImp (pe_lc G.calm (by rw [G.nm]; exact G.nd) (hi E X G) ok' (blk_pg tr hb G) (fun s H C cl fp => goc_ok hc (G.blk s H scope C cl fp)) (fun s H C cl fp => he XE0 _ (G.blk s H scope C cl fp)) (hf _)) (key_lc hsl)
end
end Ev

set_option Elab.async false
set_option linter.all false
set_option maxRecDepth 100000
set_option maxHeartbeats 4000000
set_option autoImplicit false
namespace Ev
open PySem PySem.Spec PyProof.Rows L2 GxR RZ

section
variable {S : Sx} {N : List Str} {sc : Scope} {k : Nat} {g : Gm} {c : Nat → List D → Oh → Rs D} {ht : List Hd}
theorem RR.tabbed {f : Fs} {H H' : Hp} {h : Oh} {P : Addr} (r : RR S f H h) (hT : TabG H P) (hq : ∀ p ∈ S.tq, p.1 ≠ P) (t : Tabbed P H H') : Ext f H f H' ∧ RR S f H' h := by
  obtain ⟨ps, hP, _⟩ := hT
  have nP : ∀ a, a ∈ f → a ≠ P := fun a ha z => (r.tr a ha).2 ps (z ▸ hP)
  have x : Ext f H f H' := by
    refine ⟨List.prefix_refl _, rfl, fun a ha => t.2 a (nP a (.inr ha)), fun _ z => .inl z, fun a o e _ ho => ?_, fun a ps' e => ?_⟩
    · rw [t.2 a fun z => by subst z; rw [hP] at e; cases e; exact ho _ rfl]; exact e
    · by_cases hz : a = P
      · subst hz; obtain ⟨q, e', _⟩ := t.1; exact ⟨q, e'⟩
      · exact ⟨ps', by rw [t.2 a hz]; exact e⟩
  refine ⟨x, r.len, r.nd, r.dj, fun a ha => by rw [t.2 a (nP a (.inr ha))]; exact r.gt a ha, fun n o e => ?_, fun Q hQ => ?_, fun a ha => by rw [t.2 a (nP a (.inr ha))]; exact r.gq a ha, fun p hp => ?_⟩
  · obtain ⟨a, e1, q⟩ := r.obj n o e
    exact ⟨a, e1, q.ext x (t.2 a (nP a (.inl (List.mem_of_getElem? e1))))⟩
  · by_cases hz : Q = P
    · subst hz; exact t.1
    · obtain ⟨q, e, w⟩ := r.tab Q hQ
      exact ⟨q, by rw [t.2 Q hz]; exact e, w⟩
  · obtain ⟨ps', a1, a2, a3⟩ := r.tq p hp
    refine ⟨ps', by rw [t.2 _ (hq p hp)]; exact a1, a2, fun pos cv hc => ?_⟩
    obtain ⟨c, e1, e2⟩ := a3 pos cv hc
    refine ⟨c, e1, ?_⟩
    rw [t.2 c fun z => by subst z; rw [hP] at e2; unfold LamX.CodeO at e2; cases e2]
    exact e2
theorem Gd.gen {E : XK} {X : Cx} (G : Gd S N sc (k + 1) g E X) (s : Shared) (H : Hp) (scope : Scope) (C : Addr) (cl : List (Str × Addr)) (code : Value) (A' : Around) (fp : List Addr) (pn : List (Addr × Obj)) (ga : GAr X A' (genEnv scope cl C code builtinsNs X.env)) :
    Gd S N scope k .no XE0 (X.gen s H A' (genEnv scope cl C code builtinsNs X.env) fp pn) :=
  ⟨⟨G.xs.P, G.xs.w, G.xs.K, G.xs.mg, G.xs.base⟩, G.calm, G.nm, G.nd, ⟨by show A'.handled = none; rw [ga.hd]; exact G.room.hd, by show A'.depth + 3 * k + 5 < _; have := G.room.dp; have := ga.dp; omega, by show A'.units + 16 * k + 200 < _; have := G.room.un; have := ga.un; omega⟩, rfl, takes_false fun _ _ _ _ z => z, fun z => (by cases z), fun z => (by cases z)⟩
/-- what is asked of a generator expression's place -/
structure GenP (N : List Str) (sc scope : Scope) (own : List (Str × Nat)) (tg : Expr) (t : Tg) (b : Bool) : Prop where
  ok : BlkOk N sc scope own
  cell : ∀ y ∈ scope.names, y.2 ≠ .cell
  co : scope.isCoroutine = false
  dot : scope.names.lookup (".0" : Str) = some NameKind.local
  tr : TgR N (fun x => scope.names.lookup x = some .local) tg t
  hb : b = true → ∃ ts, t = .t ts
  hsl : ∀ i ∈ t.sl, i ∈ own.map (·.2)
def bodyAl (c : Nat → List D → Oh → Rs D) (ht : List Hd) (t : Tg) (cs : List Ex) (vs : List Nat) (x : Ex) (env : En) : D → Oh → Rs (Option Bool) := fun d h2 => match bindT t d (wipeE env vs) with
  | none => .bad
  | some e2 => (evC c ht cs e2 h2).bind fun b h3 => if b then (asB (evE c ht x e2 h3)).bind fun v h4 => .ok (some v) h4 else .ok none h3
theorem key_al {kk : Bool} {own : List (Str × Nat)} {b : Bool} {t : Tg} {w : It} {cs : List Ex} {x : Ex} {E : XK} {P : Addr} (hP : P ∈ S.tabs) (hPq : ∀ p ∈ S.tq, p.1 ≠ P) (hsl : ∀ i ∈ t.sl, i ∈ own.map (·.2)) :
    ∀ σ H Q, TEv S E (evE c ht (.al kk t w cs (own.map (·.2)) x)) σ H Q → tAll kk P (TIv S E b (evI c ht w)) (TGv S b t) (TCv S XE0 (evC c ht cs)) (TEv S XE0 (evE c ht x)) (own.map (·.2)) σ H Q := fun σ H Q ⟨f, h, env, er, rr, p⟩ => by
  refine ⟨f, h, env, er, rr, ?_⟩
  simp only [evE] at p
  refine (Po.bind (R := WOk S b) rr p).imp fun J H1 ⟨wk, f1, h1, x1, r1, wok, p1⟩ => ⟨r1.tab P hP, fun H1' htb => ?_⟩
  have p1 : Po S E (RD S) f1 H1 (noX (alGo kk (bodyAl c ht t cs (own.map (·.2)) x env) wk wk.len 0 h1)) Q := p1
  obtain ⟨dF, hF, ew, pF⟩ := Po.nox p1
  obtain ⟨x1', r1'⟩ := r1.tabbed (r1.tab P hP) hPq htb
  have er1 := (er.ext x1).ext x1'
  have pF' := Po.base r1 x1' pF
  let Wt : Nat → Nat → Hp → Prop := fun i m H => m = wk.len - i ∧ i ≤ wk.len ∧ ∃ (f : Fs) (h : Oh), Ext f1 H1 f H ∧ Ext f1 H1' f H ∧ RR S f H h ∧ alGo kk (bodyAl c ht t cs (own.map (·.2)) x env) wk (wk.len - i) i h = .ok dF hF
  refine ⟨Wt, ⟨wk.len, by simp, Nat.zero_le _, f1, h1, x1', .refl, r1', by simpa using ew⟩, ?_⟩
  rintro i m H ⟨hm, hi', f2, h2, x2, x2', r2, e2⟩
  by_cases hlt : i < wk.len
  · right
    obtain ⟨m', hm'⟩ : ∃ m', wk.len - i = m' + 1 := ⟨wk.len - i - 1, by omega⟩
    rw [hm'] at e2
    unfold alGo at e2
    cases hnow : (wk.now h2).bind (fun ds => ds[i]?) with
    | none => rw [hnow] at e2; cases e2
    | some d =>
      rw [hnow] at e2
      obtain ⟨j1, j2⟩ := wok.go f2 H h2 i d x2.mo r2 hnow
      refine ⟨j1, fun H' => ∃ m'', m'' < m ∧ Wt (i + 1) m'' H', fun H' z => z, fun xv H' hy => ?_⟩
      obtain ⟨x3, r3, wr⟩ := j2 xv H' hy
      have e2 : (noX (bodyAl c ht t cs (own.map (·.2)) x env d h2)).bind (fun o h1 => match o with
        | none => alGo kk (bodyAl c ht t cs (own.map (·.2)) x env) wk m' (i + 1) h1
        | some cc => if cc = kk then alGo kk (bodyAl c ht t cs (own.map (·.2)) x env) wk m' (i + 1) h1 else .ok (.bl (!kk)) h1) = .ok dF hF := e2
      cases hbd : noX (bodyAl c ht t cs (own.map (·.2)) x env d h2) with
      | exc _ _ _ => rw [hbd] at e2; cases e2
      | bad => rw [hbd] at e2; cases e2
      | ok o h3 =>
        rw [hbd] at e2
        have hbd := noX_ok hbd
        unfold bodyAl at hbd
        cases hbt : bindT t d (wipeE env (own.map (·.2))) with
        | none => rw [hbt] at hbd; cases hbd
        | some env2 =>
          rw [hbt] at hbd
          have hbd : (evC c ht cs env2 h2).bind (fun b h3 => if b then (asB (evE c ht x env2 h3)).bind fun v h4 => .ok (some v) h4 else .ok none h3) = Rs.ok o h3 := hbd
          have er3 : ER S.K f2 H' (wipeE env (own.map (·.2))) (L2.wipe σ (own.map (·.2))) := ((er1.ext x2').ext x3).wipe _
          refine ⟨f2, h2, _, d, env2, er3, r3, wr, er3.len, hbt, fun σ2 er4 sim _ => ⟨?_, ?_⟩⟩
          · rw [sim.wipe hsl, wipe_idem]
          cases hcv : evC c ht cs env2 h2 with
          | exc _ _ _ => rw [hcv] at hbd; cases hbd
          | bad => rw [hcv] at hbd; cases hbd
          | ok bb h5 =>
            rw [hcv] at hbd
            refine ⟨f2, h2, env2, er4, r3, ?_⟩
            rw [hcv]
            intro f5 H5 b' x5 r5 hbb
            have hbb : bb = b' := hbb
            subst hbb
            have x25 : Ext f2 H f5 H5 := x3.trans x5 r2.tr
            have fin : ∀ (f6 : Fs) (H6 : Hp), Ext f2 H f6 H6 → RR S f6 H6 h3 → alGo kk (bodyAl c ht t cs (own.map (·.2)) x env) wk m' (i + 1) h3 = .ok dF hF → ∃ m'', m'' < m ∧ Wt (i + 1) m'' H6 := fun f6 H6 x6 r6 hrest =>
              ⟨m', by omega, by omega, by omega, f6, h3, x2.trans x6 r1.tr, x2'.trans x6 r1'.tr, r6, by rw [show wk.len - (i + 1) = m' by omega]; exact hrest⟩
            cases bb with
            | false =>
              have hbd : Rs.ok none h5 = Rs.ok o h3 := hbd
              cases hbd
              exact fin f5 H5 x25 r5 e2
            | true =>
              have hbd : (asB (evE c ht x env2 h5)).bind (fun v h4 => Rs.ok (some v) h4) = Rs.ok o h3 := hbd
              refine ⟨f5, h5, env2, er4.ext x5, r5, ?_⟩
              cases hev : evE c ht x env2 h5 with
              | exc _ _ _ => rw [hev] at hbd; cases hbd
              | bad => rw [hev] at hbd; cases hbd
              | ok v h6 =>
                rw [hev] at hbd
                intro f6 H6 y x6 r6 ry
                have x26 : Ext f2 H f6 H6 := x25.trans x6 r2.tr
                cases ry with
                | bl cc =>
                  have hbd : Rs.ok (some cc) h6 = Rs.ok o h3 := hbd
                  cases hbd
                  refine ⟨cc, rfl, fun hk => ?_, fun hk => ?_⟩
                  · have e2 : (if cc = kk then alGo kk (bodyAl c ht t cs (own.map (·.2)) x env) wk m' (i + 1) h3 else .ok (.bl (!kk)) h3) = .ok dF hF := e2
                    rw [if_pos hk] at e2
                    exact fin f6 H6 x26 r6 e2
                  · have e2 : (if cc = kk then alGo kk (bodyAl c ht t cs (own.map (·.2)) x env) wk m' (i + 1) h3 else .ok (.bl (!kk)) h3) = .ok dF hF := e2
                    rw [if_neg hk] at e2
                    cases e2
                    exact pF f6 H6 _ (x2.trans x26 r1.tr) r6 (.bl _)
                | _ => cases hbd
  · left
    have hi2 : i = wk.len := by omega
    rw [hi2, Nat.sub_self] at e2
    unfold alGo at e2
    cases hnow : wk.now h2 with
    | none => rw [hnow] at e2; cases e2
    | some dd =>
      rw [hnow] at e2
      cases e2
      exact ⟨by rw [hi2]; exact wok.stop f2 H _ dd x2.mo r2 hnow, pF f2 H _ x2 r2 (.bl _)⟩
theorem go_al {kk : Bool} {elt tg iter : Expr} {ifs : List Expr} {scope : Scope} {own : List (Str × Nat)} {pos p gpos : Pos} {b : Bool} {t : Tg} {w : It} {cs : List Ex} {x : Ex} (nb : Nb S) (hg : sc.names.lookup ((if kk then "all" else "any" : String) : Str) = some .globalImplicit)
    (hi : GoI S N sc (k + 1) .ge b tg iter (evI c ht w)) (gp : GenP N sc scope own tg t b) (hc : GoC S N scope k .no c ht ifs cs) (he : Go S N scope k .no elt (evE c ht x)) (hf : ∀ env v, genFold iter env v = pure v) :
    Go S N sc (k + 1) .ge (.Call (.Name ((if kk then "all" else "any" : String) : Str) p) [.GeneratorExp elt [⟨tg, iter, ifs, 0⟩] scope gpos] [] pos) (evE c ht (.al kk t w cs (own.map (·.2)) x)) := fun E X G => by
  obtain ⟨cc, P, hcd, hTB, hP, hPq⟩ := G.cd rfl
  have ok' : BlkOk X.N X.env.scope scope own := by rw [G.nm, G.sc]; exact gp.ok
  have hgt : ∀ (s : Shared) (H : Hp) (C : Addr) (cl : List (Str × Addr)) (code : Value) (A' : Around) (fp : List Addr) (pn : List (Addr × Obj)), GAr X A' (genEnv scope cl C code builtinsNs X.env) → PG (X.gen s H A' (genEnv scope cl C code builtinsNs X.env) fp pn) tg (TGv S b t) := fun s H C cl code A' fp pn ga => by
    have Gb := G.gen s H scope C cl code A' fp pn ga
    exact pg_of (X := X.gen s H A' (genEnv scope cl C code builtinsNs X.env) fp pn) Gb.xs.K Gb.calm Gb.nm Gb.nd b (TgR.imp (fun x hx => ⟨.inl hx, .inr hx⟩) gp.tr) gp.hb
  have htt := fun s H C cl code A' fp pn ga => goc_ok hc (G.gen s H scope C cl code A' fp pn ga)
  have hee := fun s H C cl code A' fp pn ga => he XE0 _ (G.gen s H scope C cl code A' fp pn ga)
  cases kk with
  | true => exact peImp (pe_allG G.calm G.room (by rw [G.nm]; exact G.nd) (G.gl hg) (G.mg (nb _ (by decide))) hTB hcd ok' gp.cell gp.co gp.dot (hi E X G) hgt htt hee (hf _)) (key_al hP hPq gp.hsl)
  | false => exact peImp (pe_anyG G.calm G.room (by rw [G.nm]; exact G.nd) (G.gl hg) (G.mg (nb _ (by decide))) hTB hcd ok' gp.cell gp.co gp.dot (hi E X G) hgt htt hee (hf _)) (key_al hP hPq gp.hsl)
end
end Ev

set_option Elab.async false
set_option linter.all false
set_option maxRecDepth 100000
set_option maxHeartbeats 4000000
set_option autoImplicit false
namespace Ev
open PySem PySem.Spec PyProof.Rows L2 GxR RZ

theorem placeOf_ok {x : PyData} : ∀ {ps : List PyData} {i j : Nat}, placeOf x ps i = some j → ∃ m, j = i + m ∧ m < ps.length ∧ (∃ p, ps[m]? = some p ∧ PyData.eqv p x = true) ∧ ∀ m', m' < m → ∃ p, ps[m']? = some p ∧ PyData.eqv p x = false
  | [], _, _, e => by cases e
  | p :: ps, i, j, e => by
    unfold placeOf at e
    split at e
    · rename_i h
      cases e
      exact ⟨0, rfl, by simp, ⟨p, rfl, h⟩, fun m' h => absurd h (Nat.not_lt_zero _)⟩
    · rename_i h
      obtain ⟨m, h1, h2, ⟨q, h3, h4⟩, h5⟩ := placeOf_ok e
      refine ⟨m + 1, by omega, by simp; omega, ⟨q, by simpa using h3, h4⟩, fun m' hm => ?_⟩
      cases m' with
      | zero => exact ⟨p, rfl, by simpa using h⟩
      | succ m' =>
        obtain ⟨q', a, b⟩ := h5 m' (by omega)
        exact ⟨q', by simpa using a, b⟩
theorem readsAll_get {h : Heap} : ∀ {vs : List Value} {ps : List PyData} {as : List Addr} {i : Nat} {p : PyData}, ReadsAll h vs ps as → ps[i]? = some p → ∃ v bs, vs[i]? = some v ∧ Reads h v p bs
  | _, _, _, _, _, .nil, e => by simp at e
  | _, _, _, 0, _, .cons r _, e => by simp at e; subst e; exact ⟨_, _, rfl, r⟩
  | _, _, _, i + 1, p, .cons _ t, e => by
    obtain ⟨v, bs, h1, h2⟩ := readsAll_get (i := i) (p := p) t (by simpa using e)
    exact ⟨v, bs, by simpa using h1, h2⟩
theorem readsAll_len2 {h : Heap} : ∀ {vs : List Value} {ps : List PyData} {as : List Addr}, ReadsAll h vs ps as → vs.length = ps.length
  | _, _, _, .nil => rfl
  | _, _, _, .cons _ t => by simp [readsAll_len2 t]

theorem plain_memL : ∀ {ps : List PyData} {p : PyData}, PyData.plainAll ps = true → p ∈ ps → p.plain = true
  | q :: ps, p, h, hm => by
    simp only [PyData.plainAll, Bool.and_eq_true] at h
    rcases List.mem_cons.mp hm with rfl | hm
    · exact h.1
    · exact plain_memL h.2 hm
section
variable {S : Sx} {N : List Str} {sc : Scope} {k : Nat} {g : Gm} {c : Nat → List D → Oh → Rs D} {ht : List Hd}
theorem idx_raw {X : Cx} {pins : List (Addr × Obj)} {σ : L2.St} {H : Hp} {s : Shared} {Q : VK} {a : Addr} {vs : List V} {ds : List D} {ps : List PyData} {x : PyData} {d : D} {v : V} {u : Value} {j : Nat} {f : Fs} {h : Oh}
    (xs : XS S X) (hu : X.A.units + 65 < cLine) (I : Inv X pins σ H s) (hR : RR S f H h) (rl : RepL S.K f H ds vs) (hps : D.pyL ds = some ps) (rd : Rep S.K f H d v) (hx : d.pyH h = some x) (ru : RelV v u) (hj : placeOf x ps 0 = some j) (q : Q (.int j) H) :
    (SqT S.K H a vs → wpAny (model X.prog X.w) X.A (call (.builtin "tuple.index") [.ref a, u]) (EP X pins σ Q) X.xe s) ∧ (SqL S.K H a vs → wpAny (model X.prog X.w) X.A (call (.builtin "list.index") [.ref a, u]) (EP X pins σ Q) X.xe s) := by
  have hK := xs.K
  obtain ⟨bs, hrx⟩ := Dp.reads I x v u (by rw [hK]; exact rd.dpH hR hx) ru
  obtain ⟨m, e0, hm, ⟨p, hp, hpe⟩, hno⟩ := placeOf_ok hj
  have e0 : j = m := by omega
  subst e0
  obtain ⟨hpl, hdp⟩ := depthL hps
  obtain ⟨ox, dx⟩ := D.pyH_ok hx
  have plain_at : ∀ (i : Nat) (p : PyData), ps[i]? = some p → p.plain = true ∧ p.depth ≤ 11 := fun i p e =>
    ⟨plain_memL hpl (List.mem_of_getElem? e), Nat.le_trans (depth_mem (List.mem_of_getElem? e)) hdp⟩
  have key : ∀ (its : List Value), Vals vs its → ∃ as, ReadsAll s.heap its ps as := fun its rv => Dp.readsAll I ps vs its (by rw [hK]; exact pyL_dp (fun d v x a b => pyk_dp 11 d v x a b) ds vs ps rl hps) rv
  let e : Nat → Bool := fun i => match ps[i]? with | some p => PyData.eqv p x | none => false
  have eq : ∀ (A : Around) (its : List Value), A.units ≤ X.A.units + 3 → Vals vs its → ∀ i (hi : i < its.toArray.size), PySem.SeqAt.EqAt A s its.toArray[i] u (e i) := fun A its hA rv i hi => by
    obtain ⟨as, ra⟩ := key its rv
    have hl := readsAll_len2 ra
    have hi' : i < ps.length := by rw [← hl]; simpa using hi
    obtain ⟨w, cs, hw, hr⟩ := readsAll_get ra (List.getElem?_eq_getElem hi')
    show PySem.SeqAt.EqAt A s its.toArray[i] u (match ps[i]? with | some p => PyData.eqv p x | none => false)
    rw [List.getElem?_eq_getElem hi']
    have ew : its.toArray[i] = w := by
      obtain ⟨z1, z2⟩ := List.getElem?_eq_some_iff.mp hw
      simpa using z2
    rw [ew]
    obtain ⟨o1, o2⟩ := plain_at i _ (List.getElem?_eq_getElem hi')
    refine PySem.SeqAt.eqAt_plain _ _ A s w u cs bs hr hrx o1 ox ?_
    have := Nat.min_le_left (ps[i]).depth x.depth
    omega
  have hit : e j = true := by show (match ps[j]? with | some p => PyData.eqv p x | none => false) = true; rw [hp]; exact hpe
  have hno' : ∀ m', m' < j → e m' = false := fun m' hm' => by
    obtain ⟨p', h1, h2⟩ := hno m' hm'
    show (match ps[m']? with | some p => PyData.eqv p x | none => false) = false
    rw [h1]; exact h2
  have hun : X.A.in1.in1.units ≤ X.A.units + 3 := by show X.A.units + 1 + 1 ≤ _; omega
  have hun1 : X.A.in1.units ≤ X.A.units + 3 := by show X.A.units + 1 ≤ _; omega
  refine ⟨fun hs => ?_, fun hs => ?_⟩
  · obtain ⟨its, rv, ⟨⟨cls, dd, data, sl⟩, ho, hc, n, hd⟩, hz⟩ := I.tuple (by rw [hK]; exact hs)
    simp only at hc hd
    subst hc hd
    obtain ⟨as, ra⟩ := key its rv
    have hl := readsAll_len2 ra
    have hjs : j < its.toArray.size := by rw [List.size_toArray, hl]; exact hm
    refine PySem.call_meets PySem.F.slot_tuple_index ⟨_, ho, rfl⟩ PySem.F.entry_tuple_index (PySem.F.args_tuple_index_2 _ _)
      (PySem.SeqAt.tuple_index2_found a its.toArray n dd sl u e j hjs (Nat.zero_le _) hjs hit fun m' _ _ h => hno' m' h) ⟨ho, fun i hi => eq _ its (by first | exact hun | exact hun1) rv i hi, ⟨.int j, H, I.tok _, ⟨_, rfl⟩, q⟩⟩
  · obtain ⟨its, rv, ⟨⟨cls, dd, data, sl⟩, n, ho, hc, hdn, hd⟩, hz⟩ := I.list (by rw [hK]; exact hs)
    simp only at hc hd
    subst hc hd
    obtain ⟨as, ra⟩ := key its rv
    have hl := readsAll_len2 ra
    have hjs : j < its.toArray.size := by rw [List.size_toArray, hl]; exact hm
    have hsz := sizeLine_eq
    have rvl := rv.length
    refine PySem.call_meets PySem.F.slot_list_index ⟨_, ho, rfl⟩ PySem.F.entry_list_index (PySem.F.args_list_index_2 _ _)
      (PySem.SeqAt.list_index2_found a its.toArray n dd sl u e j hjs (Nat.zero_le _) (by simp at hjs; omega) hit fun m' _ _ h => hno' m' h) ⟨ho, fun i hi => eq _ its (by first | exact hun | exact hun1) rv i hi, ⟨.int j, H, I.tok _, ⟨_, rfl⟩, q⟩⟩
theorem go_idx {a b : Expr} {x y : Ex} {apos cpos} (ha : Go S N sc k g a (evE c ht x)) (hb : Go S N sc k g b (evE c ht y)) (hs : shp b = true) (hbase : ∀ env, attributeBase a "index" env (eval a env) = eval a env) (hline : (apos.endLine == cpos.line) = true) :
    Go S N sc k g (.Call (.Attribute a "index" apos) [b] [] cpos) (evE c ht (.idx x y)) := fun E X G => by
  refine ⟨fun pins s σ H Q I ⟨f, h, env, er, rr, p⟩ => ?_⟩
  simp only [evE] at p
  have htr : backTo cpos (starEach [b] X.env) = [(false, eval b X.env)] := by rw [shp_star hs]; rfl
  refine PySem.wpAny_Call_method1_late (hbase _) hline htr (thn ((ha E X G).run pins s σ H _ I ⟨f, h, env, er, rr, Po.bind (R := RD S) rr p⟩) fun v s1 ⟨x1, H1, I1, r1, d1, f1, h1, e1, rr1, q1, p1⟩ => ?_)
  cases hi : d1.items h1 with
  | none => rw [hi] at p1; exact p1.elim
  | some es =>
    rw [hi] at p1
    obtain ⟨l, vs, rfl, rl, sq⟩ := q1.items rr1 hi
    cases r1
    have p1 : Po S E (RD S) f1 H1 ((evE c ht y env h1).bind fun y h2 => opt (idxD h2 d1 y) h2) Q := p1
    have go : ∀ id, (∀ (u : Value) (s2 : Shared) (v2 : V) (H2 : Hp) (d2 : D) (f2 : Fs) (h2 : Oh), Inv X pins σ H2 s2 → RelV v2 u → Ext f1 H1 f2 H2 → RR S f2 H2 h2 → Rep S.K f2 H2 d2 v2 → Po S E (RD S) f2 H2 (opt (idxD h2 d1 d2) h2) Q → wpAny (model X.prog X.w) X.A (call (.builtin id) [.ref l, u]) (EP X pins σ Q) X.xe s2) →
        wpAny (model X.prog X.w) X.A (callWith cpos (.builtin id) [.ref l] [(false, eval b X.env)] []) (EP X pins σ Q) X.xe s1 := fun id hcall => by
      refine Calls.callWith_builtin rfl (Calls.evalArgs_plain ?_)
      refine Calls.spliced_cons (thn ((hb E X G).run pins s1 σ H1 _ I1 ⟨f1, h1, env, er.ext e1, rr1, Po.bind (R := RD S) rr1 p1⟩) fun u s2 ⟨v2, H2, I2, ru, d2, f2, h2, e2, rr2, q2, p2⟩ => ?_)
      exact Calls.spliced_nil (hcall u s2 v2 H2 d2 f2 h2 I2 ru e2 rr2 q2 p2)
    have fin : ∀ (u : Value) (s2 : Shared) (v2 : V) (H2 : Hp) (d2 : D) (f2 : Fs) (h2 : Oh), Inv X pins σ H2 s2 → RelV v2 u → Ext f1 H1 f2 H2 → RR S f2 H2 h2 → Rep S.K f2 H2 d2 v2 → Po S E (RD S) f2 H2 (opt (idxD h2 d1 d2) h2) Q →
        ∃ vs2, (SqT S.K H2 l vs2 → wpAny (model X.prog X.w) X.A (call (.builtin "tuple.index") [.ref l, u]) (EP X pins σ Q) X.xe s2) ∧ (SqL S.K H2 l vs2 → wpAny (model X.prog X.w) X.A (call (.builtin "list.index") [.ref l, u]) (EP X pins σ Q) X.xe s2) ∧
          ((SqL S.K H2 l vs2 ∧ ∀ es, d1 ≠ .tup es) ∨ (SqT S.K H2 l vs2 ∧ ∃ ds, d1 = .tup ds)) := fun u s2 v2 H2 d2 f2 h2 I2 ru e2 rr2 q2 p2 => by
      obtain ⟨r, er', p3⟩ := p2.opt
      unfold idxD at er'
      split at er'
      · rename_i px hpx
        obtain ⟨ds2, hd2, er'⟩ := Option.bind_eq_some_iff.mp er'
        obtain ⟨ps, hps, er'⟩ := Option.bind_eq_some_iff.mp er'
        obtain ⟨j, hj, rfl⟩ := Option.map_eq_some_iff.mp er'
        obtain ⟨l', vs2, e4, rl2, sq2⟩ := (q1.ext e2).items rr2 hd2
        cases e4
        obtain ⟨c1, c2⟩ := idx_raw (a := l) G.xs G.hu I2 rr2 rl2 hps q2 hpx ru hj (p3 f2 H2 _ .refl rr2 (.int _))
        exact ⟨vs2, c1, c2, sq2.imp (fun z => z) fun z => ⟨z.1, _, z.2⟩⟩
      · cases er'
    cases q1 with
    | tup ht' rl' =>
      refine ⟨"tuple", "tuple.index", PySem.F.plainAttrs_tuple, PySem.F.slot_tuple_index, PySem.F.type_tuple_index, ?_, ?_, go _ fun u s2 v2 H2 d2 f2 h2 I2 ru e2 rr2 q2 p2 => ?_⟩
      · rcases ht' with ⟨⟨us, h1⟩, _⟩ | ⟨o, its, n, g1, g2, _⟩
        · exact ⟨_, (I1.hok _ _ h1).1, rfl⟩
        · exact ⟨o, I1.kIn _ o (by rw [G.xs.K]; exact g1), g2⟩
      · intro a' ea
        cases ea
        rcases ht' with ⟨⟨us, h1⟩, _⟩ | ⟨o, its, n, g1, g2, g3, _⟩
        · exact ⟨_, (I1.hok _ _ h1).1, rfl⟩
        · exact ⟨o, I1.kIn _ o (by rw [G.xs.K]; exact g1), g3⟩
      · obtain ⟨vs2, c1, c2, z⟩ := fin u s2 v2 H2 d2 f2 h2 I2 ru e2 rr2 q2 p2
        rcases z with ⟨_, z⟩ | ⟨z, _⟩
        · exact absurd rfl (z _)
        · exact c1 z
    | _ =>
      have hL : SqL S.K H1 l vs := by
        rcases sq with ⟨z, _⟩ | ⟨_, z⟩
        · exact z
        · cases z
      obtain ⟨its, _, pl, _⟩ := I1.list (by rw [G.xs.K]; exact hL)
      refine ⟨"list", "list.index", PySem.F.plainAttrs_list, PySem.F.slot_list_index, PySem.F.type_list_index, pl.isList.typeIs, ?_, go _ fun u s2 v2 H2 d2 f2 h2 I2 ru e2 rr2 q2 p2 => ?_⟩
      · intro a' ea
        cases ea
        obtain ⟨o, n, e, c, hd, _⟩ := pl
        exact ⟨o, e, hd⟩
      · obtain ⟨vs2, c1, c2, z⟩ := fin u s2 v2 H2 d2 f2 h2 I2 ru e2 rr2 q2 p2
        rcases z with ⟨z, _⟩ | ⟨_, _, z⟩
        · exact c2 z
        · cases z
end
end Ev

set_option Elab.async false
set_option linter.all false
set_option maxRecDepth 100000
set_option maxHeartbeats 2000000
set_option autoImplicit false
namespace Ev
open PySem PySem.Spec PyProof.Rows L2 GxR
def rLenSetT (K : PySem.W.Frag) (P : Program) (w : World) : List V → Hp → VK → Prop := fun xs H Q => ∃ (a : Addr) (L : List (Addr × List Int)), xs = [V.ref a] ∧ H a = some (SetTO P w a L) ∧ (∀ p ∈ L, SqT K H p.1 (p.2.map V.int)) ∧ ((L.map (·.2)).Nodup → Q (.int L.length) H)
theorem cr_lenSetT {X : Cx} : CallR X (.builtin "len") (rLenSetT X.K X.prog X.w) := by
  intro pins s σ H xs us Q I r h
  obtain ⟨a, L, rfl, ha, hL, q⟩ := h
  obtain ⟨u, rfl, ru⟩ := vals1 r
  obtain rfl : u = Value.ref a := ru
  have ob : ObjOk X.prog X.w H s.heap a (SetTO X.prog X.w a L) := I.hok a _ ha
  have R : SetT0 X.prog X.w s.heap a L := ob.1
  obtain ⟨es, ep, t, R⟩ := R.full fun p hp => I.isT (hL p hp)
  have e := R.size
  obtain ⟨o, ho, hex, hd⟩ := R.ob
  refine call_len_set ho hex hd R.fits (by have := R.few; omega) ⟨.int L.length, H, I.tok _, ⟨_, by rw [e]⟩, q R.nd⟩
theorem nubT_mem {k : List Int} : ∀ {ks : List (List Int)}, k ∈ nubT ks ↔ k ∈ ks
  | [] => Iff.rfl
  | x :: xs => by
    unfold nubT
    split
    · rename_i h
      rw [nubT_mem (ks := xs), List.mem_cons]
      exact ⟨.inr, fun q => q.elim (fun e => e ▸ h) id⟩
    · rw [List.mem_cons, List.mem_cons, nubT_mem (ks := xs)]
theorem nubT_nodup : ∀ ks : List (List Int), (nubT ks).Nodup
  | [] => List.nodup_nil
  | x :: xs => by
    unfold nubT
    split
    · exact nubT_nodup xs
    · rename_i h
      rw [List.nodup_cons]
      exact ⟨fun q => h (nubT_mem.mp q), nubT_nodup xs⟩
theorem tups_rep {S : Sx} {f : Fs} {H : Hp} : ∀ {ds : List D} {vs : List V} {ks : List (List Int)}, RepL S.K f H ds vs → tupsD ds = some ks → ∃ ps : List (Addr × List Int), ps.map (·.2) = ks ∧ vs = ps.map (fun p => V.ref p.1) ∧ ∀ p ∈ ps, SqT S.K H p.1 (p.2.map V.int)
  | [], _, ks, .nil, e => by cases e; exact ⟨[], rfl, rfl, by simp⟩
  | d :: ds, _, ks, .cons r rl, e => by
    unfold tupsD at e
    split at e
    · rename_i h; cases h
    · rename_i us rest hd
      injection hd with h1 h2
      subst h1 h2
      split at e
      · rename_i ns ks' h1 h2
        cases e
        obtain ⟨ps, a1, a2, a3⟩ := tups_rep rl h2
        obtain ⟨a, vs', rfl, sq, rl'⟩ := r.tupT
        have := intsD_rep us vs' ns rl' h1
        subst this
        refine ⟨(a, ns) :: ps, by simp [a1], by simp [a2], fun p hp => ?_⟩
        rcases List.mem_cons.mp hp with rfl | hp
        · exact sq
        · exact a3 p hp
      · cases e
    · cases e
theorem nubT_len {L ks : List (List Int)} (h : L.Nodup) (hm : ∀ k, k ∈ L ↔ k ∈ ks) : L.length = (nubT ks).length :=
  ((List.perm_ext_iff_of_nodup h (nubT_nodup ks)).mpr fun k => (hm k).trans nubT_mem.symm).length_eq
theorem intsD_eq : ∀ {ds : List D} {ns : List Int}, intsD ds = some ns → ds = ns.map .int
  | [], _, e => by cases e; rfl
  | d :: ds, ns, e => by
    cases d with
    | int i =>
      obtain ⟨ms, e1, rfl⟩ := Option.map_eq_some_iff.mp (show (intsD ds).map (i :: ·) = some ns from e)
      rw [intsD_eq e1]; rfl
    | _ => cases e
theorem tups_rep2 {S : Sx} {f : Fs} {H : Hp} : ∀ {ds : List D} {vs : List V} {ks : List (List Int)}, RepL S.K f H ds vs → tupsD ds = some ks → ∃ ps : List (Addr × List Int), ps.map (·.2) = ks ∧ vs = ps.map (fun p => V.ref p.1) ∧ ∀ p ∈ ps, SqT S.K H p.1 (p.2.map V.int) ∧ Rep S.K f H (.tup (p.2.map .int)) (.ref p.1)
  | [], _, ks, .nil, e => by cases e; exact ⟨[], rfl, rfl, by simp⟩
  | d :: ds, _, ks, .cons r rl, e => by
    unfold tupsD at e
    split at e
    · rename_i h; cases h
    · rename_i us rest hd
      injection hd with h1 h2
      subst h1 h2
      split at e
      · rename_i ns ks' h1 h2
        cases e
        obtain ⟨ps, a1, a2, a3⟩ := tups_rep2 rl h2
        have hr := r
        obtain ⟨a, vs', rfl, sq, rl'⟩ := r.tupT
        have e0 := intsD_eq h1
        have := intsD_rep us vs' ns rl' h1
        subst this
        rw [e0] at hr
        refine ⟨(a, ns) :: ps, by simp [a1], by simp [a2], fun p hp => ?_⟩
        rcases List.mem_cons.mp hp with rfl | hp
        · exact ⟨sq, hr⟩
        · exact a3 p hp
      · cases e
    · cases e
theorem ok2_ex {k : List Int} (h : ok2 k = true) : ∃ x y, k = [x, y] ∧ 0 ≤ x ∧ x < 64 ∧ 0 ≤ y ∧ y < 64 := by
  unfold ok2 at h
  split at h
  · rename_i x y
    simp only [Bool.and_eq_true, decide_eq_true_eq] at h
    exact ⟨x, y, rfl, h.1.1.1, h.1.1.2, h.1.2, h.2⟩
  · cases h
theorem ins_perm {le : List Int → List Int → Bool} (a : List Int) : ∀ l : List (List Int), (insS le a l).Perm (a :: l)
  | [] => .refl _
  | b :: bs => by
    unfold insS
    split
    · exact .refl _
    · exact ((ins_perm a bs).cons b).trans (List.Perm.swap _ _ _)
theorem srt_perm {le : List Int → List Int → Bool} : ∀ l : List (List Int), (isort le l).Perm l
  | [] => .refl _
  | b :: bs => (ins_perm b _).trans ((srt_perm bs).cons b)
theorem ssetT_pw (ks : List (List Int)) : (ssetT ks).Pairwise fun a b => cd2 a ≤ cd2 b := by
  have tr : ∀ a b c : List Int, decide (cd2 a ≤ cd2 b) = true → decide (cd2 b ≤ cd2 c) = true → decide (cd2 a ≤ cd2 c) = true := fun a b c h1 h2 => by
    simp only [decide_eq_true_eq] at *; omega
  have to : ∀ a b : List Int, (decide (cd2 a ≤ cd2 b) || decide (cd2 b ≤ cd2 a)) = true := fun a b => by
    simp only [Bool.or_eq_true, decide_eq_true_eq]; omega
  unfold ssetT
  rw [← isort_eq tr to]
  exact (List.pairwise_mergeSort tr to (nubT ks)).imp fun h => of_decide_eq_true h
theorem ssetT_is {ks : List (List Int)} (hk : ks.all ok2 = true) {L : List (List Int)} (hn : L.Nodup) (hm : ∀ k, k ∈ L ↔ k ∈ ks) (hp : L.Pairwise fun a b => TS.code 64 a ≤ TS.code 64 b) : L = ssetT ks := by
  have pm : (ssetT ks).Perm L := (srt_perm _).trans ((List.perm_ext_iff_of_nodup (nubT_nodup ks) hn).mpr fun k => nubT_mem.trans (hm k).symm)
  have hok : ∀ k ∈ L, ok2 k = true := fun k h => List.all_eq_true.mp hk k ((hm k).mp h)
  have hp2 : L.Pairwise fun a b => cd2 a ≤ cd2 b := by
    refine hp.imp_of_mem fun {a b} ha hb h => ?_
    obtain ⟨x, y, rfl, _⟩ := ok2_ex (hok a ha)
    obtain ⟨x', y', rfl, _⟩ := ok2_ex (hok b hb)
    rw [code_pair, code_pair] at h
    exact h
  refine (List.Perm.eq_of_pairwise (le := fun a b => cd2 a ≤ cd2 b) (fun a b ha hb h1 h2 => ?_) (ssetT_pw ks) hp2 pm).symm
  obtain ⟨x, y, rfl, q1, q2, q3, q4⟩ := ok2_ex (hok a (pm.mem_iff.mp ha))
  obtain ⟨x', y', rfl, p1, p2, p3, p4⟩ := ok2_ex (hok b hb)
  simp only [cd2] at h1 h2
  have : x = x' ∧ y = y' := by omega
  rw [this.1, this.2]
end Ev

set_option Elab.async false
set_option linter.all false
set_option maxRecDepth 100000
set_option maxHeartbeats 4000000
set_option autoImplicit false
namespace Ev
open PySem PySem.Spec PyProof.Rows L2 GxR RZ

/-! ### sets of ints -/
theorem insU_mem {x k : Int} : ∀ {l : List Int}, k ∈ insU x l ↔ k = x ∨ k ∈ l
  | [] => by simp [insU]
  | y :: ys => by
    unfold insU
    split
    · simp
    · split
      · rename_i h; subst h; simp
      · simp [insU_mem (l := ys)]
        constructor
        · rintro (h | h | h) <;> simp [h]
        · rintro (h | h | h) <;> simp [h]
theorem insU_pw {x : Int} : ∀ {l : List Int}, l.Pairwise (· < ·) → (insU x l).Pairwise (· < ·)
  | [], _ => by simp [insU]
  | y :: ys, h => by
    unfold insU
    rw [List.pairwise_cons] at h
    split
    · rename_i hxy
      rw [List.pairwise_cons]
      refine ⟨fun a ha => ?_, by rw [List.pairwise_cons]; exact h⟩
      rcases List.mem_cons.mp ha with rfl | ha
      · exact hxy
      · exact Int.lt_trans hxy (h.1 a ha)
    · split
      · rw [List.pairwise_cons]; exact h
      · rename_i h1 h2
        rw [List.pairwise_cons]
        refine ⟨fun a ha => ?_, insU_pw h.2⟩
        rcases insU_mem.mp ha with rfl | ha
        · omega
        · exact h.1 a ha
theorem setI_mem {ns : List Int} {k : Int} : k ∈ setI ns ↔ k ∈ ns := by
  induction ns with
  | nil => simp [setI]
  | cons n ns ih =>
    show k ∈ insU n (setI ns) ↔ _
    rw [insU_mem, ih]; simp
theorem setI_pw (ns : List Int) : (setI ns).Pairwise (· < ·) := by
  induction ns with
  | nil => simp [setI]
  | cons n ns ih => exact insU_pw ih
theorem pw_unique : ∀ {l m : List Int}, l.Pairwise (· < ·) → m.Pairwise (· < ·) → (∀ k, k ∈ l ↔ k ∈ m) → l = m
  | [], [], _, _, _ => rfl
  | [], y :: _, _, _, h => absurd ((h y).mpr List.mem_cons_self) (by simp)
  | x :: _, [], _, _, h => absurd ((h x).mp List.mem_cons_self) (by simp)
  | x :: xs, y :: ys, h1, h2, h => by
    rw [List.pairwise_cons] at h1 h2
    have e : x = y := by
      rcases List.mem_cons.mp ((h x).mp List.mem_cons_self) with e | e
      · exact e
      · rcases List.mem_cons.mp ((h y).mpr List.mem_cons_self) with e' | e'
        · exact e'.symm
        · have a := h2.1 x e
          have b := h1.1 y e'
          omega
    subst e
    refine congrArg (x :: ·) (pw_unique h1.2 h2.2 fun k => ⟨fun hk => ?_, fun hk => ?_⟩)
    · rcases List.mem_cons.mp ((h k).mp (List.mem_cons_of_mem _ hk)) with e | e
      · have := h1.1 k hk; omega
      · exact e
    · rcases List.mem_cons.mp ((h k).mpr (List.mem_cons_of_mem _ hk)) with e | e
      · have := h2.1 k hk; omega
      · exact e
def rLenSetI (w : World) : List V → Hp → VK → Prop := fun xs H Q => ∃ (a : Addr) (ns : List Int) (n : Nat), xs = [V.ref a] ∧ H a = some (SetO w a (fun k => decide (k ∈ ns)) n) ∧ Q (.int (setI ns).length) H
theorem cr_lenSetI {X : Cx} : CallR X (.builtin "len") (rLenSetI X.w) := by
  intro pins s σ H xs us Q I r h
  obtain ⟨a, ns, n, rfl, ha, q⟩ := h
  obtain ⟨u, rfl, ru⟩ := vals1 r
  obtain rfl : u = Value.ref a := ru
  obtain ⟨o, es, ep, t, ho, hex, hd, g, nd, hm, hb, hf, hn, _⟩ := setO_get I ha
  have e : es.size = (setI ns).length := by
    have nd2 : (setI ns).Nodup := (setI_pw ns).imp fun h => by omega
    have pm : (es.toList.map keyOf).Perm (setI ns) := (List.perm_ext_iff_of_nodup nd nd2).mpr fun k => by
      rw [← hm k, setI_mem]; simp
    have := pm.length_eq
    simpa using this
  have hfit : (es.size : Int) < 2 ^ 63 := by unfold scanBound at hb; omega
  exact call_len_set ho hex hd hf hfit ⟨.int (setI ns).length, H, I.tok _, ⟨_, by rw [e]⟩, q⟩

section
variable {S : Sx} {N : List Str} {sc : Scope} {k : Nat} {g : Gm} {c : Nat → List D → Oh → Rs D} {ht : List Hd}
theorem set_args {f : Fs} {H : Hp} {h : Oh} {d : D} {v : V} {ds : List D} {ns : List Int} (rr : RR S f H h) (r : Rep S.K f H d v) (hi : d.items h = some ds) (hn : intsD ds = some ns) : ∃ a, v = .ref a ∧ (SqL S.K H a (ns.map V.int) ∨ SqT S.K H a (ns.map V.int)) := by
  obtain ⟨a, vs, rfl, rl, q⟩ := r.items rr hi
  have e := intsD_rep ds vs ns rl hn
  subst e
  exact ⟨a, rfl, q.imp (·.1) (·.1)⟩
theorem bootSet : bootBuiltins "set" = some (.type "set") := by decide
def rSetAny (X : Cx) : List V → Hp → VK → Prop := fun xs H Q => rSetOfI X.K X.w xs H Q ∨ rSetOfTT X.K X.prog X.w xs H Q
theorem cr_setAny {X : Cx} (hc : X.calm = true) (hu : X.A.units + 64 < cLine) : CallR X (.type "set") (rSetAny X) := by
  intro pins s σ H xs us Q I r h
  rcases h with h | h
  · exact cr_setOfI hc pins s σ H xs us Q I r h
  · exact cr_setOfTT hc hu pins s σ H xs us Q I r h
def rLenAny (X : Cx) : List V → Hp → VK → Prop := fun xs H Q => rLenSetI X.w xs H Q ∨ rLenSetT X.K X.prog X.w xs H Q
theorem cr_lenAny {X : Cx} : CallR X (.builtin "len") (rLenAny X) := by
  intro pins s σ H xs us Q I r h
  rcases h with h | h
  · exact cr_lenSetI pins s σ H xs us Q I r h
  · exact cr_lenSetT pins s σ H xs us Q I r h
def rSortAny (X : Cx) : List V → Hp → VK → Prop := fun xs H Q => rSortedSet X.w xs H Q ∨ rSortedT X.K X.prog X.w xs H Q
theorem cr_sortAny {X : Cx} (hc : X.calm = true) : CallR X (.builtin "sorted") (rSortAny X) := by
  intro pins s σ H xs us Q I r h
  rcases h with h | h
  · exact cr_sortedSet hc pins s σ H xs us Q I r h
  · exact cr_sortedT hc pins s σ H xs us Q I r h
theorem go_sset {a : Expr} {x : Ex} {p p2 q pos} (nb : Nb S) (hg : sc.names.lookup ("sorted" : Str) = some .globalImplicit) (hg2 : sc.names.lookup ("set" : Str) = some .globalImplicit) (ha : Go S N sc k g a (evE c ht x)) (hs : shp a = true) :
    Go S N sc k g (.Call (.Name "sorted" p) [.Call (.Name "set" p2) [a] [] q] [] pos) (evE c ht (.sset x)) := fun E X G => by
  have e1 := pe_callTy (X := X) (T := "set") (x := "set") (p := p2) (pos := q) (cr_setAny G.calm (by have := G.hu; omega)) (G.gl hg2) (G.mg (nb _ (by decide))) bootSet (pa_cons (ha E X G) pa_nil (shp_star hs _ _)) (by decide) (by decide) (shp_star hs _ _) (by rfl)
  refine peImp (pe_callB (id := "sorted") (cr_sortAny G.calm) (G.gl hg) (G.mg (nb _ (by decide))) (by decide) (pa_cons e1 pa_nil) (by decide) (by decide)) fun σ H Q ⟨f, h, env, er, rr, p⟩ => ⟨f, h, env, er, rr, ?_⟩
  simp only [evE] at p
  refine (Po.bind (R := RD S) rr p).imp fun v H1 ⟨d, f1, h1, x1, r1, q1, p1⟩ => ?_
  obtain ⟨r, er', p2⟩ := p1.opt
  unfold ssetD at er'
  split at er'
  · rename_i d' hd'
    cases er'
    obtain ⟨ds, hd, er'⟩ := Option.bind_eq_some_iff.mp hd'
    obtain ⟨ns, hn, er'⟩ := Option.bind_eq_some_iff.mp er'
    split at er'
    · rename_i hl
      cases er'
      obtain ⟨a, rfl, hseq⟩ := set_args r1 q1 hd hn
      refine .inl ⟨a, ns, rfl, by rw [G.xs.K]; exact hseq, by omega, fun b cc hb hcc => .inl ⟨b, _, cc, rfl, upd_same, by omega, fun ns' p hpw hmem _ hp => ?_⟩⟩
      have e : ns' = setI ns := pw_unique hpw (setI_pw ns) fun k => by rw [hmem k, setI_mem]; simp
      subst e
      have r2 := r1.upd (o := SetO X.w b (fun k => decide (k ∈ ns)) cc) hb
      refine p2 f1 _ _ ((r1.ex hb).trans (r2.ex hp) r1.tr) (r2.upd hp) (.lst upd_same (r2.ntr hp) ?_)
      have : ∀ l : List Int, RepL S.K f1 (L2.upd (L2.upd H1 b (SetO X.w b (fun k => decide (k ∈ ns)) cc)) p (.lst ((setI ns).map V.int))) (l.map D.int) (l.map V.int) := fun l => by
        induction l with
        | nil => exact .nil
        | cons y ys ih => exact .cons (.int _) ih
      exact this _
    · cases er'
  · cases d with
    | tup ds =>
      obtain ⟨ks, hk, er'⟩ := Option.bind_eq_some_iff.mp er'
      split at er'
      · rename_i hl
        cases er'
        simp only [Bool.and_eq_true, decide_eq_true_eq] at hl
        obtain ⟨hl, hok⟩ := hl
        obtain ⟨a, vs, rfl, sq, rl⟩ := q1.tupT
        obtain ⟨ps, a1, a2, a3⟩ := tups_rep2 rl hk
        subst a2
        have hlen : ps.length < 64 := by rw [← a1, List.length_map] at hl; exact hl
        refine .inr ⟨a, ps, rfl, by rw [G.xs.K]; exact sq, by rw [G.xs.K]; exact fun p hp => (a3 p hp).1, hlen, fun b L hb hL hL2 => .inr ⟨b, L, 2, 64, rfl, upd_same, fun p hp => ?_, by omega, fun p hp => ?_, fun L' q pm nd hfew pw hq => ?_⟩⟩
        · rw [G.xs.K]
          have kp : ∀ c o, H1 c = some o → (L2.upd H1 b (SetTO X.prog X.w b L)) c = some o := fun c o e => by rw [upd_ne (ne_of_none e hb)]; exact e
          rcases (a3 p (hL p hp)).1 with (z | ⟨o, z⟩) | z
          · exact .inl (.inl (kp _ _ z))
          · exact .inl (.inr ⟨o, kp _ _ z⟩)
          · exact .inr z
        · have hm : p.2 ∈ ks := by rw [← a1]; exact List.mem_map.mpr ⟨p, hL p hp, rfl⟩
          obtain ⟨x, y, e, q1, q2, q3, q4⟩ := ok2_ex (List.all_eq_true.mp hok _ hm)
          rw [e]
          refine ⟨rfl, fun z hz => ?_⟩
          simp only [List.mem_cons, List.not_mem_nil, or_false] at hz
          rcases hz with rfl | rfl
          · exact ⟨q1, q2⟩
          · exact ⟨q3, q4⟩
        · have r2 := r1.upd (o := SetTO X.prog X.w b L) hb
          have ee : L'.map (·.2) = ssetT ks := by
            refine ssetT_is hok nd (fun kk => ⟨fun hk => ?_, fun hk => ?_⟩) (List.pairwise_map.mpr pw)
            · obtain ⟨p, hp, rfl⟩ := List.mem_map.mp hk
              rw [← a1]; exact List.mem_map.mpr ⟨p, hL p (pm.mem_iff.mp hp), rfl⟩
            · rw [← a1] at hk
              obtain ⟨p, hp, rfl⟩ := List.mem_map.mp hk
              obtain ⟨p', hp', e'⟩ := List.mem_map.mp (hL2 p hp)
              exact List.mem_map.mpr ⟨p', pm.mem_iff.mpr hp', e'⟩
          have x2 := (r1.ex hb).trans (r2.ex (o := .lst (L'.map fun q => V.ref q.1)) hq) r1.tr
          refine p2 f1 _ _ x2 (r2.upd hq) (.lst upd_same (r2.ntr hq) ?_)
          rw [← ee, List.map_map]
          have : ∀ l : List (Addr × List Int), (∀ p ∈ l, p ∈ L') → RepL S.K f1 (L2.upd (L2.upd H1 b (SetTO X.prog X.w b L)) q (.lst (L'.map fun q => V.ref q.1))) (l.map ((fun k => D.tup (k.map .int)) ∘ fun x => x.2)) (l.map fun q => V.ref q.1) := fun l => by
            induction l with
            | nil => exact fun _ => .nil
            | cons y ys ih => exact fun hh => .cons ((a3 y (hL y (pm.mem_iff.mp (hh y List.mem_cons_self)))).2.ext x2) (ih fun p hp => hh p (List.mem_cons_of_mem _ hp))
          exact this _ fun p hp => hp
      · cases er'
    | _ => cases er'
theorem go_lset {a : Expr} {x : Ex} {p p2 q pos} (nb : Nb S) (hg : sc.names.lookup ("len" : Str) = some .globalImplicit) (hg2 : sc.names.lookup ("set" : Str) = some .globalImplicit) (ha : Go S N sc k g a (evE c ht x)) (hs : shp a = true) :
    Go S N sc k g (.Call (.Name "len" p) [.Call (.Name "set" p2) [a] [] q] [] pos) (evE c ht (.lset x)) := fun E X G => by
  have e1 := pe_callTy (X := X) (T := "set") (x := "set") (p := p2) (pos := q) (cr_setAny G.calm (by have := G.hu; omega)) (G.gl hg2) (G.mg (nb _ (by decide))) bootSet (pa_cons (ha E X G) pa_nil (shp_star hs _ _)) (by decide) (by decide) (shp_star hs _ _) (by rfl)
  refine peImp (pe_callB (id := "len") cr_lenAny (G.gl hg) (G.mg (nb _ (by decide))) (by decide) (pa_cons e1 pa_nil) (by decide) (by decide)) fun σ H Q ⟨f, h, env, er, rr, p⟩ => ⟨f, h, env, er, rr, ?_⟩
  simp only [evE] at p
  refine (Po.bind (R := RD S) rr p).imp fun v H1 ⟨d, f1, h1, x1, r1, q1, p1⟩ => ?_
  obtain ⟨r, er', p2⟩ := p1.opt
  unfold lsetD at er'
  split at er'
  · rename_i d' hd'
    cases er'
    obtain ⟨ds, hd, er'⟩ := Option.bind_eq_some_iff.mp hd'
    obtain ⟨ns, hn, er'⟩ := Option.bind_eq_some_iff.mp er'
    split at er'
    · rename_i hl
      cases er'
      obtain ⟨a, rfl, hseq⟩ := set_args r1 q1 hd hn
      refine .inl ⟨a, ns, rfl, by rw [G.xs.K]; exact hseq, by omega, fun b cc hb hcc => .inl ⟨b, ns, cc, rfl, upd_same, ?_⟩⟩
      exact p2 f1 _ _ (r1.ex hb) (r1.upd hb) (.int _)
    · cases er'
  · cases d with
    | tup ds =>
      obtain ⟨ks, hk, er'⟩ := Option.bind_eq_some_iff.mp er'
      split at er'
      · rename_i hl
        cases er'
        obtain ⟨a, vs, rfl, sq, rl⟩ := q1.tupT
        obtain ⟨ps, a1, a2, a3⟩ := tups_rep rl hk
        subst a2
        have hlen : ps.length < 64 := by rw [← a1, List.length_map] at hl; exact hl
        refine .inr ⟨a, ps, rfl, by rw [G.xs.K]; exact sq, by rw [G.xs.K]; exact a3, hlen, fun b L hb hL hL2 => .inr ⟨b, L, rfl, upd_same, fun p hp => ?_, fun hnd => ?_⟩⟩
        · rw [G.xs.K]
          have kp : ∀ c o, H1 c = some o → (L2.upd H1 b (SetTO X.prog X.w b L)) c = some o := fun c o e => by rw [upd_ne (ne_of_none e hb)]; exact e
          rcases a3 p (hL p hp) with (z | ⟨o, z⟩) | z
          · exact .inl (.inl (kp _ _ z))
          · exact .inl (.inr ⟨o, kp _ _ z⟩)
          · exact .inr z
        · have e : L.length = (nubT ks).length := by
            rw [← List.length_map (f := fun p : Addr × List Int => p.2)]
            refine nubT_len hnd fun kk => ⟨fun hk => ?_, fun hk => ?_⟩
            · obtain ⟨p, hp, rfl⟩ := List.mem_map.mp hk
              rw [← a1]; exact List.mem_map.mpr ⟨p, hL p hp, rfl⟩
            · rw [← a1] at hk
              obtain ⟨p, hp, rfl⟩ := List.mem_map.mp hk
              exact hL2 p hp
          rw [e]
          exact p2 f1 _ _ (r1.ex hb) (r1.upd hb) (.int _)
      · cases er'
    | _ => cases er'
end
end Ev

set_option Elab.async false
set_option linter.all false
set_option maxRecDepth 100000
set_option maxHeartbeats 4000000
set_option autoImplicit false
namespace Ev
open PySem PySem.Spec PyProof.Rows L2 GxR RZ

/-! ### statements -/
inductive Out where
  | nx (σ : L2.St)
  | bk (σ : L2.St)
  | ct (σ : L2.St)
  | rt (v : V)
def RS (S : Sx) (f : Fs) (H : Hp) (r : Fl × En) (o : Out) : Prop :=
  match r.1, o with
  | .nx, .nx σ => ER S.K f H r.2 σ
  | .bk, .bk σ => ER S.K f H r.2 σ
  | .ct, .ct σ => ER S.K f H r.2 σ
  | .rt d, .rt v => Rep S.K f H d v
  | _, _ => False
def QD (D : Ends) (o : Out) (H : Hp) : Prop :=
  match o with
  | .nx σ => D.nx σ H
  | .bk σ => D.bk σ H
  | .ct σ => D.ct σ H
  | .rt v => D.rt v H
abbrev Es := Ef (Fl × En)
def TSv (S : Sx) (E : XK) (ev : Es) : TS := fun D σ H => ∃ (f : Fs) (h : Oh) (env : En), ER S.K f H env σ ∧ RR S f H h ∧ Po S E (RS S) f H (ev env h) (QD D)
structure Gs (S : Sx) (N : List Str) (sc : Scope) (k : Nat) (g : Gm) (E : XK) (X : Cx) : Prop extends Gd S N sc k g E X where
  fn : ∀ x, X.fn x = true
  po : PassesOwn (model X.prog X.w) X.A X.env X.xe
  kd : X.env.scope.kind = .function
def GoS (S : Sx) (N : List Str) (sc : Scope) (k : Nat) (g : Gm) (st : Stmt) (ev : Es) : Prop := ∀ (E : XK) (X : Cx), Gs S N sc k g E X → PS X st (TSv S E ev)
def GoSs (S : Sx) (N : List Str) (sc : Scope) (k : Nat) (g : Gm) (sts : List Stmt) (ev : Es) : Prop := ∀ (E : XK) (X : Cx), Gs S N sc k g E X → PSs X sts (TSv S E ev)
theorem psImp {X : Cx} {e : Stmt} {t t' : TS} (h : PS X e t) (i : ∀ D σ H, t' D σ H → t D σ H) : PS X e t' := ⟨fun pins s σ H D I q => h.run pins s σ H D I (i _ _ _ q)⟩
theorem pssImp {X : Cx} {e : List Stmt} {t t' : TS} (h : PSs X e t) (i : ∀ D σ H, t' D σ H → t D σ H) : PSs X e t' := ⟨fun pins s σ H D I q => h.run pins s σ H D I (i _ _ _ q)⟩

section
variable {S : Sx} {N : List Str} {sc : Scope} {k : Nat} {g : Gm} {c : Nat → List D → Oh → Rs D} {ht : List Hd} {W : Nat}
theorem Po.nx {E : XK} {f : Fs} {H : Hp} {h : Oh} {env : En} {σ : L2.St} {D : Ends} (rr : RR S f H h) (er : ER S.K f H env σ) (p : Po S E (RS S) f H (.ok (.nx, env) h) (QD D)) : D.nx σ H := p f H (.nx σ) .refl rr er

theorem goss_nil : GoSs S N sc k g [] (evSs c ht W []) := fun E X G => by
  refine pssImp pss_nil fun D σ H ⟨f, h, env, er, rr, p⟩ => ?_
  simp only [evSs] at p
  exact p.nx rr er
theorem goss_cons {st : Stmt} {sts : List Stmt} {x : St} {xs : List St} (h1 : GoS S N sc k g st (evS c ht W x)) (h2 : GoSs S N sc k g sts (evSs c ht W xs)) : GoSs S N sc k g (st :: sts) (evSs c ht W (x :: xs)) := fun E X G => by
  refine pssImp (pss_cons (h1 E X G) (h2 E X G)) fun D σ H ⟨f, h, env, er, rr, p⟩ => ⟨f, h, env, er, rr, ?_⟩
  simp only [evSs] at p
  refine (Po.bind (R := RS S) rr p).imp fun o H1 ⟨⟨fl, e1⟩, f1, h1, x1, r1, q1, p1⟩ => ?_
  cases fl with
  | nx =>
    cases o with
    | nx σ1 => exact ⟨f1, h1, e1, q1, r1, p1⟩
    | _ => exact q1.elim
  | bk =>
    cases o with
    | bk σ1 => exact p1 f1 H1 (.bk σ1) .refl r1 q1
    | _ => exact q1.elim
  | ct =>
    cases o with
    | ct σ1 => exact p1 f1 H1 (.ct σ1) .refl r1 q1
    | _ => exact q1.elim
  | rt d =>
    cases o with
    | rt v => exact p1 f1 H1 (.rt v) .refl r1 q1
    | _ => exact q1.elim
theorem gos_pass {pos} : GoS S N sc k g (.Pass pos) (evS c ht W .pss) := fun E X G => by
  refine psImp ps_pass fun D σ H ⟨f, h, env, er, rr, p⟩ => ?_
  simp only [evS] at p
  exact p.nx rr er
theorem gos_brk {pos} : GoS S N sc k g (.Break pos) (evS c ht W .brk) := fun E X G => by
  refine psImp ps_break fun D σ H ⟨f, h, env, er, rr, p⟩ => ?_
  simp only [evS] at p
  exact p f H (.bk σ) .refl rr er
theorem gos_cnt {pos} : GoS S N sc k g (.Continue pos) (evS c ht W .cnt) := fun E X G => by
  refine psImp ps_continue fun D σ H ⟨f, h, env, er, rr, p⟩ => ?_
  simp only [evS] at p
  exact p f H (.ct σ) .refl rr er
theorem gos_doc {x : Str} {j pos pos'} : GoS S N sc k g (.Expr (.Constant (.str x) j pos) pos') (evS c ht W .pss) := fun E X G => by
  refine psImp ps_doc fun D σ H ⟨f, h, env, er, rr, p⟩ => ?_
  simp only [evS] at p
  exact p.nx rr er
theorem gos_ex {e : Expr} {x : Ex} {pos} (h1 : Go S N sc k g e (evE c ht x)) (hs : ∀ l env, swapsWith e none l env = pure false) : GoS S N sc k g (.Expr e pos) (evS c ht W (.ex x)) := fun E X G => by
  refine psImp (ps_expr (h1 E X G.toGd) (hs _ _)) fun D σ H ⟨f, h, env, er, rr, p⟩ => ⟨f, h, env, er, rr, ?_⟩
  simp only [evS] at p
  refine (Po.bind (R := RD S) rr p).imp fun v H1 ⟨a, f1, h1, x1, r1, q1, p1⟩ => p1.nx r1 (er.ext x1)
theorem gos_ret {e : Expr} {x : Ex} {pos} (h1 : Go S N sc k g e (evE c ht x)) : GoS S N sc k g (.Return (some e) pos) (evS c ht W (.ret x)) := fun E X G => by
  refine psImp (ps_ret (h1 E X G.toGd)) fun D σ H ⟨f, h, env, er, rr, p⟩ => ⟨f, h, env, er, rr, ?_⟩
  simp only [evS] at p
  refine (Po.bind (R := RD S) rr p).imp fun v H1 ⟨a, f1, h1, x1, r1, q1, p1⟩ => p1 f1 H1 (.rt v) .refl r1 q1
theorem gos_if {q : Expr} {a b : List Stmt} {x : Ex} {xs ys : List St} {pos} (hq : GoT S N sc k g q (evE c ht x)) (ha : GoSs S N sc k g a (evSs c ht W xs)) (hb : GoSs S N sc k g b (evSs c ht W ys)) : GoS S N sc k g (.If q a b pos) (evS c ht W (.iff x xs ys)) := fun E X G => by
  refine psImp (ps_if (hq E X G.toGd) (ha E X G) (hb E X G)) fun D σ H ⟨f, h, env, er, rr, p⟩ => ⟨f, h, env, er, rr, ?_⟩
  simp only [evS] at p
  refine (Po.bind (R := REq) rr p).imp fun v H1 ⟨b1, f1, h1, x1, r1, e, p1⟩ => ?_
  cases e
  cases v with
  | true => exact ⟨f1, h1, env, er.ext x1, r1, p1⟩
  | false => exact ⟨f1, h1, env, er.ext x1, r1, p1⟩

/-! ### assignments -/
theorem key_as {E : XK} {t : Tg} {x : Ex} : ∀ D σ H, TSv S E (evS c ht W (.as t x)) D σ H → tAsg (TEv S E (evE c ht x)) (TGv S false t) D σ H := fun D σ H ⟨f, h, env, er, rr, p⟩ => by
  refine ⟨f, h, env, er, rr, ?_⟩
  simp only [evS] at p
  refine (Po.bind (R := RD S) rr p).imp fun v H1 ⟨d, f1, h1, x1, r1, q1, p1⟩ => ?_
  cases hb : bindT t d env with
  | none => rw [hb] at p1; exact p1.elim
  | some e2 =>
    rw [hb] at p1
    exact ⟨f1, h1, env, d, e2, er.ext x1, r1, .inl q1, er.len, hb, fun σ2 e3 _ _ => p1.nx r1 e3⟩
/-- the names of a target are the def's own -/
theorem gos_as {tg e : Expr} {t : Tg} {x : Ex} {pos} (h1 : Go S N sc k g e (evE c ht x)) (tr : TgR N (fun y => Loc sc y) tg t) (hs : ∀ env : Env, env.scope = sc → swapsWithSole [tg] e pos.line env = pure false) (hw : ∀ env : Env, env.scope = sc → swappedStores [tg] e env = pure none) :
    GoS S N sc k g (.Assign [tg] e pos) (evS c ht W (.as t x)) := fun E X G => by
  have tr' : TgR N (fun x => Loc X.env.scope x ∧ (X.fn x = true ∨ X.env.scope.names.lookup x = some .local)) tg t := TgR.imp (fun y hy => ⟨by rw [G.sc]; exact hy, .inl (G.fn y)⟩) tr
  have hg := pg_of (X := X) G.xs.K G.calm G.nm G.nd false tr' (fun z => by cases z)
  have ha : (assignEach [tg] X.env).map (·.2) = [assign tg X.env] := by cases tr <;> rfl
  exact psImp (ps_asg (h1 E X G.toGd) hg (hs _ G.sc) (hw _ G.sc) ha) key_as
theorem gos_setLc {y : Str} {i : Nat} {py : Pos} {elt tg iter : Expr} {ifs : List Expr} {scope : Scope} {own : List (Str × Nat)} {pos spos : Pos} {b : Bool} {t : Tg} {w : It} {cs : List Ex} {x : Ex}
    (hi : GoI S N sc k g b tg iter (evI c ht w)) (ok : BlkOk N sc scope own) (tr : TgR N (CT scope sc) tg t) (hb : b = true → ∃ ts, t = .t ts) (hsl : ∀ i ∈ t.sl, i ∈ own.map (·.2))
    (hc : GoC S N (relS scope sc) k g c ht ifs cs) (he : Go S N (relS scope sc) k g elt (evE c ht x)) (hf : ∀ env v, foldedSetIterable iter env v = pure v)
    (hy : N[i]? = some y) (hyl : sc.names.lookup y = some .local) (hl : (py.line == pos.line) = true) (ha : (scope.names.any fun (n, k) => n == y && (k == .local || k == .cell)) = false) :
    GoS S N sc k g (.Assign [.Name y py] (.ListComp elt [⟨tg, iter, ifs, 0⟩] scope pos) spos) (evS c ht W (.as (.v i) (.lc t w cs (own.map (·.2)) x))) := fun E X G => by
  have ok' : BlkOk X.N X.env.scope scope own := by rw [G.nm, G.sc]; exact ok
  have hyl' : X.env.scope.names.lookup y = some .local := by rw [G.sc]; exact hyl
  have hsw := sw_true (elt := elt) (gs := [⟨tg, iter, ifs, 0⟩]) (scope := scope) (pos := pos) (py := py) (l := spos.line) (env := X.env) G.kd hyl' hl ha
  refine psImp (ps_setLc G.calm (by rw [G.nm]; exact G.nd) (by rw [G.nm]; exact hy) hyl' hsw (hi E X G.toGd) ok' (blk_pg tr hb G.toGd) (fun s H C cl fp => goc_ok hc (G.toGd.blk s H scope C cl fp)) (fun s H C cl fp => he XE0 _ (G.toGd.blk s H scope C cl fp)) (hf _)) fun D σ H t => ?_
  have z := key_as D σ H t
  obtain ⟨f, h, env, er, rr, p⟩ := z
  refine key_lc hsl σ H _ ⟨f, h, env, er, rr, p.imp fun v H1 hq => ?_⟩
  -- a name is stored
  obtain ⟨f1, h1, env1, d, e2, er1, rr1, wr, hl1, hb1, q⟩ := hq
  rcases wr with wr | ⟨z, _⟩
  · unfold bindT at hb1
    split at hb1
    · rename_i hn
      cases hb1
      refine q _ ⟨by simp [hl1], fun j e he => ?_⟩ ⟨by simp, fun j hj => ?_⟩ (by simp)
      · by_cases hij : i = j
        · subst hij
          rw [List.getElem?_set_self hn] at he
          cases he
          exact ⟨v, by rw [List.getElem?_set_self (by rw [← hl1]; exact hn)], wr⟩
        · rw [List.getElem?_set_ne hij] at he ⊢
          exact er1.get j e he
      · have : j ≠ i := by simpa [Tg.sl] using hj
        rw [List.getElem?_set_ne (Ne.symm this)]
    · cases hb1
  · cases z
end
end Ev

set_option Elab.async false
set_option linter.all false
set_option maxRecDepth 100000
set_option maxHeartbeats 4000000
set_option autoImplicit false
namespace Ev
open PySem PySem.Spec PyProof.Rows L2 GxR RZ

section
variable {S : Sx} {N : List Str} {sc : Scope} {k : Nat} {g : Gm} {c : Nat → List D → Oh → Rs D} {ht : List Hd} {W : Nat}
/-- stored names -/
theorem ER.put {K : PySem.W.Frag} {f : Fs} {H : Hp} {env : En} {σ : L2.St} {i : Nat} {d : D} {v : V} (er : ER K f H env σ) (r : Rep K f H d v) (hi : i < env.length) : ER K f H (env.set i (some d)) (σ.set i (some v)) :=
  ⟨by simp [er.len], fun j e he => by
    by_cases hij : i = j
    · subst hij
      rw [List.getElem?_set_self hi] at he
      cases he
      exact ⟨v, by rw [List.getElem?_set_self (by rw [← er.len]; exact hi)], r⟩
    · rw [List.getElem?_set_ne hij] at he ⊢
      exact er.get j e he⟩
theorem key_par {E : XK} {ts : List Tg} {xs : List Ex} {D : Ends} {σ : L2.St} {H : Hp} (t : TSv S E (evS c ht W (.as (.t ts) (.tup xs))) D σ H) :
    TLv S E (evL c ht xs) σ H fun vs H1 => ∃ (f : Fs) (h : Oh) (env e2 : En) (ds : List Ev.D), ER S.K f H1 env σ ∧ RR S f H1 h ∧ RepL S.K f H1 ds vs ∧ bindTs ts ds env = some e2 ∧ ∀ σ2, ER S.K f H1 e2 σ2 → D.nx σ2 H1 := by
  obtain ⟨f, h, env, er, rr, p⟩ := t
  refine ⟨f, h, env, er, rr, ?_⟩
  simp only [evS, evE] at p
  have p : Po S E (RS S) f H ((evL c ht xs env h).bind fun ds h1 => (if ds.length ≤ 16777216 then Rs.ok (Ev.D.tup ds) h1 else .bad).bind fun d h1 => match bindT (.t ts) d env with | some e2 => .ok (.nx, e2) h1 | none => .bad) (QD D) := by
    cases hz : evL c ht xs env h with
    | ok ds h1 => rw [hz] at p; exact p
    | exc _ _ _ => rw [hz] at p; exact p
    | bad => rw [hz] at p; exact p
  refine (Po.bind (R := RL S) rr p).imp fun vs H1 ⟨ds, f1, h1, x1, r1, q1, p1⟩ => ?_
  split at p1
  · have p1 : Po S E (RS S) f1 H1 (match bindT (.t ts) (.tup ds) env with | some e2 => .ok (.nx, e2) h1 | none => .bad) (QD D) := p1
    cases hb : bindT (.t ts) (.tup ds) env with
    | none => rw [hb] at p1; exact p1.elim
    | some e2 =>
      rw [hb] at p1
      unfold bindT at hb
      exact ⟨f1, h1, env, e2, ds, er.ext x1, r1, q1, hb, fun σ2 e3 => p1.nx r1 e3⟩
  · exact p1.elim
theorem bind_v {i : Nat} {d : D} {env e2 : En} (h : bindT (.v i) d env = some e2) : i < env.length ∧ e2 = env.set i (some d) := by
  unfold bindT at h
  split at h
  · rename_i hn; cases h; exact ⟨hn, rfl⟩
  · cases h
theorem gos_par2 {i j : Nat} {x y : Str} {a b : Expr} {xa xb : Ex} {px py pt : Pos} {kt k2 pt2 pos} (hi : N[i]? = some x) (hj : N[j]? = some y) (hij : i ≠ j) (hx : sc.names.lookup x = some .local) (hy : sc.names.lookup y = some .local)
    (ha : GoL S N sc k g [a, b] (evL c ht [xa, xb])) (hw : ∀ env : Env, env.scope = sc → env.scope.kind = .function → swappedStores [.Tuple [.Name x px, .Name y py] kt pt] (.Tuple [a, b] k2 pt2) env = pure (some [x, y])) :
    GoS S N sc k g (.Assign [.Tuple [.Name x px, .Name y py] kt pt] (.Tuple [a, b] k2 pt2) pos) (evS c ht W (.as (.t [.v i, .v j]) (.tup [xa, xb]))) := fun E X G => by
  refine psImp (ps_par G.calm (by rw [G.nm]; exact G.nd) (by rw [G.nm]; exact hi) (by rw [G.nm]; exact hj) hij (by rw [G.sc]; exact hx) (by rw [G.sc]; exact hy) (ha E X G.toGd) (hw _ G.sc G.kd) (by rfl)) fun D σ H t => ?_
  obtain ⟨f, h, env, er, rr, p⟩ := key_par t
  refine ⟨f, h, env, er, rr, p.imp fun vs H1 ⟨f1, h1, env, e2, ds, er1, r1, rl, hb, q⟩ => ?_⟩
  cases rl with
  | nil => simp [bindTs] at hb
  | cons p1 rl =>
    unfold bindTs at hb
    split at hb
    · rename_i e1 h1'
      obtain ⟨l1, rfl⟩ := bind_v h1'
      cases rl with
      | nil => simp [bindTs] at hb
      | cons p2 rl =>
        unfold bindTs at hb
        split at hb
        · rename_i e3 h2'
          obtain ⟨l2, rfl⟩ := bind_v h2'
          cases rl with
          | nil =>
            simp only [bindTs] at hb
            cases hb
            exact ⟨_, _, rfl, q _ ((er1.put p1 l1).put p2 l2)⟩
          | cons _ _ => simp [bindTs] at hb
        · cases hb
    · cases hb
theorem gos_par3 {i j l : Nat} {x y z : Str} {a b d : Expr} {xa xb xd : Ex} {px py pz pt : Pos} {kt k2 pt2 pos} (hi : N[i]? = some x) (hj : N[j]? = some y) (hl : N[l]? = some z) (hij : i ≠ j) (hil : i ≠ l) (hjl : j ≠ l) (hx : sc.names.lookup x = some .local) (hy : sc.names.lookup y = some .local) (hz : sc.names.lookup z = some .local)
    (ha : GoL S N sc k g [a, b, d] (evL c ht [xa, xb, xd])) (hw : ∀ env : Env, env.scope = sc → env.scope.kind = .function → swappedStores [.Tuple [.Name x px, .Name y py, .Name z pz] kt pt] (.Tuple [a, b, d] k2 pt2) env = pure (some [x, y, z])) :
    GoS S N sc k g (.Assign [.Tuple [.Name x px, .Name y py, .Name z pz] kt pt] (.Tuple [a, b, d] k2 pt2) pos) (evS c ht W (.as (.t [.v i, .v j, .v l]) (.tup [xa, xb, xd]))) := fun E X G => by
  refine psImp (ps_par3 G.calm (by rw [G.nm]; exact G.nd) (by rw [G.nm]; exact hi) (by rw [G.nm]; exact hj) (by rw [G.nm]; exact hl) hij hil hjl (by rw [G.sc]; exact hx) (by rw [G.sc]; exact hy) (by rw [G.sc]; exact hz) (ha E X G.toGd) (hw _ G.sc G.kd) (by rfl)) fun D σ H t => ?_
  obtain ⟨f, h, env, er, rr, p⟩ := key_par t
  refine ⟨f, h, env, er, rr, p.imp fun vs H1 ⟨f1, h1, env, e2, ds, er1, r1, rl, hb, q⟩ => ?_⟩
  cases rl with
  | nil => simp [bindTs] at hb
  | cons p1 rl =>
    unfold bindTs at hb
    split at hb
    · rename_i e1 h1'
      obtain ⟨l1, rfl⟩ := bind_v h1'
      cases rl with
      | nil => simp [bindTs] at hb
      | cons p2 rl =>
        unfold bindTs at hb
        split at hb
        · rename_i e3 h2'
          obtain ⟨l2, rfl⟩ := bind_v h2'
          cases rl with
          | nil => simp [bindTs] at hb
          | cons p3 rl =>
            unfold bindTs at hb
            split at hb
            · rename_i e4 h3'
              obtain ⟨l3, rfl⟩ := bind_v h3'
              cases rl with
              | nil =>
                simp only [bindTs] at hb
                cases hb
                exact ⟨_, _, _, rfl, q _ (((er1.put p1 l1).put p2 l2).put p3 l3)⟩
              | cons _ _ => simp [bindTs] at hb
            · cases hb
        · cases hb
    · cases hb
theorem shpI_assign {o i : Expr} {ppos : Pos} (h : shpI i = true) (env : Env) (v : Value) : assign (.Subscript o i ppos) env v = (do
      let ov ← holding [v] (eval o env)
      let iv ← holding [v, ov] (eval i env)
      standAt ppos
      holding [v, ov, iv] (setItem ov iv v)
      release [v, ov, iv] []) := by
  cases i <;> first | rfl | cases h
/-- o[i] = e -/
theorem gos_six {o i e : Expr} {xo xi x : Ex} {ppos pos} (hsi : shpI i = true) (ho : Go S N sc k g o (evE c ht xo)) (hi : Go S N sc k g i (evE c ht xi)) (he : Go S N sc k g e (evE c ht x)) (hs : ∀ env : Env, swapsWithSole [.Subscript o i ppos] e pos.line env = pure false) (hw : ∀ env : Env, swappedStores [.Subscript o i ppos] e env = pure none) :
    GoS S N sc k g (.Assign [.Subscript o i ppos] e pos) (evS c ht W (.six xo xi x)) := fun E X G => by
  refine psImp (ps_asg (he E X G.toGd) (pg_sub (ho E X G.toGd) (hi E X G.toGd) set_list (shpI_assign hsi _)) (hs _) (hw _)) fun D σ H ⟨f, h, env, er, rr, p⟩ => ⟨f, h, env, er, rr, ?_⟩
  simp only [evS] at p
  refine (Po.bind (R := RD S) rr p).imp fun v H1 ⟨d1, f1, h1, x1, r1, q1, p1⟩ => ⟨f1, h1, env, er.ext x1, r1, ?_⟩
  refine (Po.bind (R := RD S) r1 p1).imp fun vo H2 ⟨d2, f2, h2, x2, r2, q2, p2⟩ => ⟨f2, h2, env, (er.ext x1).ext x2, r2, ?_⟩
  refine (Po.bind (R := RD S) r2 p2).imp fun vi H3 ⟨d3, f3, h3, x3, r3, q3, p3⟩ => ?_
  cases hs : setD h3 d2 d3 d1 with
  | none => rw [hs] at p3; exact p3.elim
  | some h4 =>
    rw [hs] at p3
    unfold setD at hs
    split at hs
    · rename_i n kk
      split at hs
      · rename_i ds hn
        obtain ⟨j, hj, rfl⟩ := Option.map_eq_some_iff.mp hs
        have q2 := q2.ext x3
        cases q2 with
        | @ref _ a ha =>
          cases q3
          obtain ⟨a', e2, vs, e3, e4⟩ := r3.obj _ _ hn
          rw [ha] at e2; cases e2
          refine ⟨a, vs, _, j, rfl, rfl, e3, by rw [← e4.length]; exact hj, ?_⟩
          obtain ⟨x4, r4⟩ := r3.wr (o' := .lst (ds.set j d1)) (u := .lst (vs.set j v)) hn ha fun f' x => ⟨_, upd_same, (e4.ext x).set j (((q1.ext x2).ext x3).ext x)⟩
          exact p3 f3 _ (.nx σ) x4 r4 ((((er.ext x1).ext x2).ext x3).ext x4)
      · cases hs
    · cases hs
theorem gos_aug {i : Nat} {y : Str} {e : Expr} {x : Ex} {o : Bop} {py pos} (hy : N[i]? = some y) (hl : Loc sc y) (he : Go S N sc k g e (evE c ht x)) (ho : o = .add ∨ o = .sub) : GoS S N sc k g (.AugAssign (.Name y py) o.op e pos) (evS c ht W (.aug i o x)) := fun E X G => by
  have key : ∀ (gg : Int → Int → Int) (hop : PIp X o.op (ipI gg)) (hg : ∀ i j, (match o with | .add => Rs.ok (α := Int) (i + j) [] | .sub => .ok (i - j) [] | _ => .bad) = .ok (gg i j) []), PS X (.AugAssign (.Name y py) o.op e pos) (TSv S E (evS c ht W (.aug i o x))) := fun gg hop hg => by
    refine psImp (ps_aug (i := i) (by rw [G.nm]; exact G.nd) (by rw [G.nm]; exact hy) (by rw [G.sc]; exact hl) (he E X G.toGd) hop (.inl (G.fn y))) fun D σ H ⟨f, h, env, er, rr, p⟩ => ?_
    simp only [evS] at p
    split at p
    · rename_i ii hen
      obtain ⟨v, e1, r1⟩ := er.get _ _ hen
      cases r1
      refine ⟨_, e1, f, h, env, er, rr, ?_⟩
      refine (Po.bind (R := RD S) rr p).imp fun v H1 ⟨d1, f1, h1, x1, r1, q1, p1⟩ => ?_
      cases q1 with
      | int jj =>
        refine ⟨ii, jj, rfl, rfl, ?_⟩
        have hlt : i < env.length := (List.getElem?_eq_some_iff.mp hen).1
        have hgg := hg ii jj
        rcases ho with rfl | rfl
        · injection hgg with hgg
          rw [← hgg]
          exact p1.nx r1 ((er.ext x1).put (.int _) hlt)
        · injection hgg with hgg
          rw [← hgg]
          exact p1.nx r1 ((er.ext x1).put (.int _) hlt)
      | _ => exact p1.elim
    · exact p.elim
  rcases ho with rfl | rfl
  · exact key (fun i j => i + j) ip_add fun _ _ => rfl
  · exact key (fun i j => i - j) ip_sub fun _ _ => rfl
end
end Ev

set_option Elab.async false
set_option linter.all false
set_option maxRecDepth 100000
set_option maxHeartbeats 4000000
set_option autoImplicit false
namespace Ev
open PySem PySem.Spec PyProof.Rows L2 GxR RZ

/-- an own error's class: one argument, a str -/
def ExAt (S : Sx) (ci : Nat) (x : Str) : Prop :=
  ∃ (C fI cc cda : Addr) (f qual : Str) (ae : Expr), PySem.SupX.ExTxt S.P S.K C fI cc cda f qual ae ∧ S.mg x = some (.ref C) ∧ S.mg "super" = none ∧ S.exA ci = some (C, [f]) ∧
    ∀ (y : Str) (t : Tok), y.length ≤ 16000000 → PySem.SupX.AeOk S.P S.w f ae (.str y t)

section
variable {S : Sx} {N : List Str} {sc : Scope} {k : Nat} {g : Gm} {c : Nat → List D → Oh → Rs D} {ht : List Hd} {W : Nat}
theorem gos_rse {ci : Nat} {x : Str} {a : Expr} {xa : Ex} {p pos pos'} (X0 : ExAt S ci x) (hg : sc.names.lookup x = some .globalImplicit) (hd : (x == ("__debug__" : Str)) = false) (ha : Go S N sc k g a (evE c ht xa)) (hs : shp a = true) :
    GoS S N sc k g (.Raise (some (.Call (.Name x p) [a] [] pos')) none pos) (evS c ht W (.rse ci [xa])) := fun E X G => by
  obtain ⟨C, fI, cc, cda, f, qual, ae, T, hm, hsup, hex, hae⟩ := X0
  have T' : PySem.SupX.ExTxt X.prog X.K C fI cc cda f qual ae := by rw [G.xs.P, G.xs.K]; exact T
  refine psImp (ps_raise G.calm G.tk (pmk_ex T' G.room (G.toGd.gl hg) (G.toGd.mg hm) (G.toGd.mg hsup) (pa_cons (ha E X G.toGd) pa_nil (shp_star hs _ _)) hd (shp_star hs _ _) (by rfl))) fun D σ H ⟨f', h, env, er, rr, pp⟩ => ⟨f', h, env, er, rr, ?_⟩
  simp only [evS, evL] at pp
  have pp : Po S E (RS S) f' H ((evE c ht xa env h).bind fun d h1 => if okX [d] then .exc ci [d] h1 else .bad) (QD D) := by
    cases hz : evE c ht xa env h with
    | ok ds h1 => rw [hz] at pp; exact pp
    | exc _ _ _ => rw [hz] at pp; exact pp
    | bad => rw [hz] at pp; exact pp
  refine (Po.bind (R := RD S) rr pp).imp fun v H1 ⟨d, f1, h1, x1, r1, q1, p1⟩ => ?_
  split at p1
  · rename_i hok
    cases q1 with
    | str y =>
      have hy : y.length ≤ 16000000 := by simpa [okX] using hok
      refine ⟨_, rfl, fun u hu => ?_, fun dd hdd => ?_⟩
      · obtain ⟨t, rfl⟩ := hu
        rw [G.xs.P, G.xs.w]
        exact hae y t hy
      · exact p1 f1 _ _ _ (r1.ex hdd) (r1.upd hdd) ⟨C, [f], dd, [.str y], hex, rfl, rfl, upd_same, .cons (.str _) .nil, rfl⟩
    | _ => simp [okX] at hok
  · exact p1.elim

/-! ### loops -/
theorem gos_whl {q : Expr} {body : List Stmt} {x : Ex} {xs : List St} {pos} (hq : GoT S N sc k g q (evE c ht x)) (hb : GoSs S N sc k g body (evSs c ht W xs)) : GoS S N sc k g (.While q body [] pos) (evS c ht W (.whl x xs)) := fun E X G => by
  refine psImp (ps_while G.po (hq E X G.toGd) (hb E X G)) fun D σ H ⟨f, h, env, er, rr, p⟩ => ?_
  simp only [evS] at p
  refine ⟨fun m σ H => ∃ (f : Fs) (h : Oh) (env : En), ER S.K f H env σ ∧ RR S f H h ∧ Po S E (RS S) f H (wGo (fun e h => asB (evE c ht x e h)) (fun e h => evSs c ht W xs e h) m env h) (QD D), ⟨W, f, h, env, er, rr, p⟩, ?_⟩
  rintro m σ H ⟨f, h, env, er, rr, p⟩
  cases m with
  | zero => exact p.elim
  | succ m =>
    have p : Po S E (RS S) f H ((asB (evE c ht x env h)).bind fun b h1 => if b then (evSs c ht W xs env h1).bind fun r h2 => match r.1 with
      | .nx => wGo (fun e h => asB (evE c ht x e h)) (fun e h => evSs c ht W xs e h) m r.2 h2
      | .ct => wGo (fun e h => asB (evE c ht x e h)) (fun e h => evSs c ht W xs e h) m r.2 h2
      | .bk => .ok (.nx, r.2) h2
      | .rt d => .ok (.rt d, r.2) h2
      else .ok (.nx, env) h1) (QD D) := p
    refine ⟨f, h, env, er, rr, (Po.bind (R := REq) rr p).imp fun v H1 ⟨b1, f1, h1, x1, r1, e, p1⟩ => ?_⟩
    cases e
    cases v with
    | false => exact p1.nx r1 (er.ext x1)
    | true =>
      refine ⟨fun σ' H' => ∃ m', m' < m + 1 ∧ ∃ (f : Fs) (h : Oh) (env : En), ER S.K f H' env σ' ∧ RR S f H' h ∧ Po S E (RS S) f H' (wGo (fun e h => asB (evE c ht x e h)) (fun e h => evSs c ht W xs e h) m' env h) (QD D), fun σ' H' z => z, f1, h1, env, er.ext x1, r1, ?_⟩
      refine (Po.bind (R := RS S) r1 p1).imp fun o H2 ⟨⟨fl, e2⟩, f2, h2, x2, r2, q2, p2⟩ => ?_
      cases fl with
      | nx =>
        cases o with
        | nx σ2 => exact ⟨m, Nat.lt_succ_self _, f2, h2, e2, q2, r2, p2⟩
        | _ => exact q2.elim
      | ct =>
        cases o with
        | ct σ2 => exact ⟨m, Nat.lt_succ_self _, f2, h2, e2, q2, r2, p2⟩
        | _ => exact q2.elim
      | bk =>
        cases o with
        | bk σ2 => exact p2.nx r2 q2
        | _ => exact q2.elim
      | rt d =>
        cases o with
        | rt v => exact p2 f2 H2 (.rt v) .refl r2 q2
        | _ => exact q2.elim
theorem gos_for {tg iter : Expr} {body : List Stmt} {b : Bool} {t : Tg} {w : It} {xs : List St} {pos} (hi : GoI S N sc k g b tg iter (evI c ht w)) (tr : TgR N (fun y => Loc sc y) tg t) (hbt : b = true → ∃ ts, t = .t ts) (hb : GoSs S N sc k g body (evSs c ht W xs)) (hf : ∀ env v, foldedSetIterable iter env v = pure v) :
    GoS S N sc k g (.For tg iter body [] pos) (evS c ht W (.lop t w xs)) := fun E X G => by
  have tr' : TgR N (fun x => Loc X.env.scope x ∧ (X.fn x = true ∨ X.env.scope.names.lookup x = some .local)) tg t := TgR.imp (fun y hy => ⟨by rw [G.sc]; exact hy, .inl (G.fn y)⟩) tr
  have hg := pg_of (X := X) G.xs.K G.calm G.nm G.nd b tr' hbt
  refine psImp (ps_for G.po G.calm (hi E X G.toGd) hg (hb E X G) (hf _)) fun D σ H ⟨f, h, env, er, rr, p⟩ => ⟨f, h, env, er, rr, ?_⟩
  simp only [evS] at p
  refine (Po.bind (R := WOk S b) rr p).imp fun J H1 ⟨wk, f1, h1, x1, r1, wok, p1⟩ => ?_
  generalize hbody : (fun (d : Ev.D) (e1 : En) (h2 : Oh) => match bindT t d e1 with
    | none => Rs.bad
    | some e2 => evSs c ht W xs e2 h2) = body' at p1
  refine ⟨fun i m σ H => m = wk.len - i ∧ i ≤ wk.len ∧ ∃ (f : Fs) (h : Oh) (env : En), Ext f1 H1 f H ∧ ER S.K f H env σ ∧ RR S f H h ∧ Po S E (RS S) f H (fGo body' wk (wk.len - i) i env h) (QD D), ⟨wk.len, by simp, Nat.zero_le _, f1, h1, env, .refl, er.ext x1, r1, by simpa using p1⟩, ?_⟩
  rintro i m σ H ⟨hm, hi', f2, h2, env2, x2, er2, r2, p2⟩
  by_cases hlt : i < wk.len
  · right
    obtain ⟨m', hm'⟩ : ∃ m', wk.len - i = m' + 1 := ⟨wk.len - i - 1, by omega⟩
    rw [hm'] at p2
    unfold fGo at p2
    cases hnow : (wk.now h2).bind (fun ds => ds[i]?) with
    | none => rw [hnow] at p2; exact p2.elim
    | some d =>
      rw [hnow] at p2
      obtain ⟨j1, j2⟩ := wok.go f2 H h2 i d x2.mo r2 hnow
      refine ⟨j1, fun σ' H' => ∃ m'', m'' < m ∧ (m'' = wk.len - (i + 1) ∧ i + 1 ≤ wk.len ∧ ∃ (f : Fs) (h : Oh) (env : En), Ext f1 H1 f H' ∧ ER S.K f H' env σ' ∧ RR S f H' h ∧ Po S E (RS S) f H' (fGo body' wk (wk.len - (i + 1)) (i + 1) env h) (QD D)), fun σ' H' z => z, fun xv H' hy => ?_⟩
      obtain ⟨x3, r3, wr⟩ := j2 xv H' hy
      have p2 : Po S E (RS S) f2 H ((body' d env2 h2).bind fun r h1 => match r.1 with
        | .nx => fGo body' wk m' (i + 1) r.2 h1
        | .ct => fGo body' wk m' (i + 1) r.2 h1
        | .bk => .ok (.nx, r.2) h1
        | .rt d => .ok (.rt d, r.2) h1) (QD D) := p2
      have p3 := p2.base r2 x3
      have er3 := er2.ext x3
      rw [← hbody] at p3
      cases hbt : bindT t d env2 with
      | none => simp only [hbt] at p3; exact p3.elim
      | some env3 =>
        simp only [hbt] at p3
        refine ⟨f2, h2, env2, d, env3, er3, r3, wr, er3.len, hbt, fun σ2 er4 sim _ => ⟨f2, h2, env3, er4, r3, ?_⟩⟩
        rw [hbody] at p3
        refine (Po.bind (R := RS S) r3 p3).imp fun o H4 ⟨⟨fl, e4⟩, f4, h4, x4, r4, q4, p4⟩ => ?_
        have x24 := x2.trans (x3.trans x4 r2.tr) r1.tr
        cases fl with
        | nx =>
          cases o with
          | nx σ2 => exact ⟨m', by omega, by omega, by omega, f4, h4, e4, x24, q4, r4, by rw [show wk.len - (i + 1) = m' by omega]; exact p4⟩
          | _ => exact q4.elim
        | ct =>
          cases o with
          | ct σ2 => exact ⟨m', by omega, by omega, by omega, f4, h4, e4, x24, q4, r4, by rw [show wk.len - (i + 1) = m' by omega]; exact p4⟩
          | _ => exact q4.elim
        | bk =>
          cases o with
          | bk σ2 => exact p4.nx r4 q4
          | _ => exact q4.elim
        | rt d =>
          cases o with
          | rt v => exact p4 f4 H4 (.rt v) .refl r4 q4
          | _ => exact q4.elim
  · left
    have hi2 : i = wk.len := by omega
    rw [hi2, Nat.sub_self] at p2
    unfold fGo at p2
    cases hnow : wk.now h2 with
    | none => rw [hnow] at p2; exact p2.elim
    | some dd =>
      rw [hnow] at p2
      exact ⟨by rw [hi2]; exact wok.stop f2 H _ dd x2.mo r2 hnow, p2.nx r2 er2⟩
end
end Ev

set_option Elab.async false
set_option linter.all false
set_option maxRecDepth 100000
set_option maxHeartbeats 4000000
set_option autoImplicit false
namespace Ev
open PySem PySem.Spec PyProof.Rows L2 GxR RZ

/-! ### a def's end: its own lists are frozen -/
section
variable {S : Sx} {f f' : Fs} {H H' : Hp} {h h' : Oh}
mutual
theorem Rep.shrink {K : PySem.W.Frag} (hp : f.l <+: f'.l) (hg : f'.g = f.g) : ∀ (d : D) (v : V), Rep K f' H d v → below f.l.length d = true → Rep K f H d v
  | .non, _, .non, _ => .non
  | .bl _, _, .bl _, _ => .bl _
  | .int _, _, .int _, _ => .int _
  | .str _, _, .str _, _ => .str _
  | .tup ds, _, .tup h r, b => .tup (h.imp (fun z => ⟨z.1, fun y => z.2 (y.imp (fun q => hp.subset q) fun q => by rw [hg]; exact q)⟩) id) (RepL.shrink hp hg ds _ r (by unfold below at b; exact b))
  | .lst ds, _, .lst h n r, b => .lst h (fun y => n (y.imp (fun q => hp.subset q) fun q => by rw [hg]; exact q)) (RepL.shrink hp hg ds _ r (by unfold below at b; exact b))
  | .lk ds, _, .lk h r, b => .lk (h.imp (fun z => ⟨z.1, fun y => z.2 (y.imp (fun q => hp.subset q) fun q => by rw [hg]; exact q)⟩) id) (RepL.shrink hp hg ds _ r (by unfold below at b; exact b))
  | .ref n, _, .ref e, b => by
    refine .ref ?_
    have hn : n < f.l.length := by unfold below at b; simpa using b
    obtain ⟨t, q⟩ := hp
    rw [← q, List.getElem?_append_left hn] at e
    exact e
theorem RepL.shrink {K : PySem.W.Frag} (hp : f.l <+: f'.l) (hg : f'.g = f.g) : ∀ (ds : List D) (vs : List V), RepL K f' H ds vs → belowL f.l.length ds = true → RepL K f H ds vs
  | [], _, .nil, _ => .nil
  | d :: ds, _, .cons a b, e => by
    unfold belowL at e
    rw [Bool.and_eq_true] at e
    exact .cons (Rep.shrink hp hg d _ a e.1) (RepL.shrink hp hg ds _ b e.2)
end
theorem frz_ok (r' : RR S f' H' h') (hp : f.l <+: f'.l) (hg : f'.g = f.g) : ∀ (m : Nat) (d d' : D) (v : V), Rep S.K f' H' d v → frz h' f.l.length m d = some d' → Rep S.K f H' d' v
  | 0, _, _, _, _, e => by cases e
  | m + 1, d, d', v, r, e => by
    have sub : ∀ a, a ∉ f' → a ∉ f := fun a z y => z (y.imp (fun q => hp.subset q) fun q => by rw [hg]; exact q)
    have go : ∀ (ds ds' : List D) (vs : List V), RepL S.K f' H' ds vs → mapO (frz h' f.l.length m) ds = some ds' → RepL S.K f H' ds' vs := by
      intro ds
      induction ds with
      | nil => intro ds' vs r e; cases e; cases r; exact .nil
      | cons d ds ih =>
        intro ds' vs r e
        cases r with
        | cons a b =>
          unfold mapO at e
          split at e
          · rename_i y ys h1 h2
            cases e
            exact .cons (frz_ok r' hp hg m d y _ a h1) (ih ys _ b h2)
          · cases e
    cases r with
    | non => cases e; exact .non
    | bl b => cases e; exact .bl _
    | int b => cases e; exact .int _
    | str b => cases e; exact .str _
    | tup h1 rl =>
      obtain ⟨ds', e1, rfl⟩ := Option.map_eq_some_iff.mp (show (mapO (frz h' f.l.length m) _).map D.tup = some d' from e)
      exact .tup (h1.imp (fun z => ⟨z.1, sub _ z.2⟩) id) (go _ _ _ rl e1)
    | lst h1 n rl =>
      obtain ⟨ds', e1, rfl⟩ := Option.map_eq_some_iff.mp (show (mapO (frz h' f.l.length m) _).map D.lst = some d' from e)
      exact .lst h1 (sub _ n) (go _ _ _ rl e1)
    | lk h1 rl =>
      obtain ⟨ds', e1, rfl⟩ := Option.map_eq_some_iff.mp (show (mapO (frz h' f.l.length m) _).map D.lk = some d' from e)
      exact .lk (h1.imp (fun z => ⟨z.1, sub _ z.2⟩) id) (go _ _ _ rl e1)
    | @ref n a ha =>
      unfold frz at e
      dsimp only at e
      split at e
      · rename_i hn
        cases e
        refine .ref ?_
        obtain ⟨t, q⟩ := hp
        rw [← q, List.getElem?_append_left hn] at ha
        exact ha
      · rename_i hn
        split at e
        · rename_i ds hd
          obtain ⟨ds', e1, rfl⟩ := Option.map_eq_some_iff.mp e
          obtain ⟨a', e2, vs, e3, e4⟩ := r'.obj _ _ hd
          rw [ha] at e2; cases e2
          refine .lst e3 (fun z => ?_) (go _ _ _ e4 e1)
          rcases z with z | z
          · obtain ⟨t, q⟩ := hp
            obtain ⟨i, hi, hi2⟩ := List.getElem_of_mem z
            have e5 : f'.l[i]? = some a := by
              rw [← q, List.getElem?_append_left hi, List.getElem?_eq_getElem hi, hi2]
            obtain ⟨l1, z1⟩ := List.getElem?_eq_some_iff.mp ha
            obtain ⟨l2, z2⟩ := List.getElem?_eq_some_iff.mp e5
            have := (List.getElem_inj r'.nd).mp (z1.trans z2.symm)
            omega
          · exact r'.dj a (by rw [hg]; exact z) (List.mem_of_getElem? ha)
        · cases e
theorem mapFrz_ok (r' : RR S f' H' h') (hp : f.l <+: f'.l) (hg : f'.g = f.g) {m : Nat} : ∀ (ds ds' : List D) (vs : List V), RepL S.K f' H' ds vs → mapO (frz h' f.l.length m) ds = some ds' → RepL S.K f H' ds' vs
  | [], _, _, .nil, e => by cases e; exact .nil
  | d :: ds, ds', _, .cons a b, e => by
    unfold mapO at e
    split at e
    · rename_i y ys h1 h2
      cases e
      exact .cons (frz_ok r' hp hg m d y _ a h1) (mapFrz_ok r' hp hg ds ys _ b h2)
    · cases e
/-- back to the caller's heap -/
theorem RR.back (x : Ext f H f' H') (r : RR S f H h) (r' : RR S f' H' h') (hb : (h'.take h.length).all (obBelow h.length) = true) : Ext f H f H' ∧ RR S f H' (h'.take h.length) := by
  have x' : Ext f H f H' := ⟨List.prefix_refl _, rfl, x.gh, fun _ z => .inl z, x.keep, x.tbl⟩
  have hl := r.len
  have hle : h.length ≤ h'.length := by
    rw [← hl, ← r'.len]; exact x.pre.length_le
  refine ⟨x', by rw [List.length_take, hl]; omega, r.nd, r.dj, fun a ha => r'.gt a (by rw [x.gs]; exact ha), fun n o e => ?_, r'.tab, fun a ha => r'.gq a (by rw [x.gs]; exact ha), r'.tq⟩
  have hn : n < h.length := by
    have := (List.getElem?_eq_some_iff.mp e).1
    rw [List.length_take] at this; omega
  have e' : h'[n]? = some o := by rw [List.getElem?_take_of_lt hn] at e; exact e
  obtain ⟨a, e1, q⟩ := r'.obj n o e'
  have hob : obBelow f.l.length o = true := by
    rw [hl]
    rw [List.all_eq_true] at hb
    exact hb o (List.mem_of_getElem? e)
  refine ⟨a, ?_, ?_⟩
  · obtain ⟨t, q⟩ := x.pre
    rw [← q, List.getElem?_append_left (by rw [hl]; exact hn)] at e1
    exact e1
  · cases o with
    | lst ds =>
      obtain ⟨vs, e2, e3⟩ := q
      exact ⟨vs, e2, e3.shrink x.pre x.gs _ _ hob⟩
    | dct _ => exact q.elim
    | ins c fs =>
      obtain ⟨C, dx, vs, q1, e2, e3⟩ := q
      exact ⟨C, dx, vs, q1, e2, e3.shrink x.pre x.gs _ _ hob⟩
theorem fin_ok {E : XK} {Q : VK} {d : D} {v : V} (x : Ext f H f' H') (r : RR S f H h) (r' : RR S f' H' h') (rv : Rep S.K f' H' d v) (p : Po S E (RD S) f H (fin h.length d h') Q) : Q v H' := by
  unfold fin at p
  split at p
  · exact p f' H' v x r' rv
  · split at p
    · rename_i hb
      obtain ⟨x2, r2⟩ := r.back x r' hb
      obtain ⟨d2, e, p2⟩ := p.opt
      refine p2 f H' v x2 r2 ?_
      rw [← r.len] at e
      split at e
      · rename_i hbl
        cases e
        exact rv.shrink x.pre x.gs _ _ hbl
      · exact frz_ok r' x.pre x.gs _ _ _ _ rv e
    · exact p.elim
theorem finX_ok {E : XK} {Q : VK} {ci : Nat} {ds : List D} {C : Value} {dd : Option Addr} (x : Ext f H f' H') (r : RR S f H h) (r' : RR S f' H' h') (rv : XRep S f' H' ci ds C dd) (p : Po S E (RD S) f H (finX h.length ci ds h') Q) : E C dd H' := by
  unfold finX at p
  split at p
  · exact p f' H' C dd x r' rv
  · split at p
    · rename_i hb
      obtain ⟨x2, r2⟩ := r.back x r' hb
      split at p
      · rename_i us e
        refine p f H' C dd x2 r2 ?_
        obtain ⟨A, fs, d, vs, g1, g2, g3, g4, g5, g6⟩ := rv
        refine ⟨A, fs, d, vs, g1, g2, g3, g4, ?_, g6⟩
        rw [← r.len] at e
        split at e
        · rename_i hbl
          cases e
          exact g5.shrink x.pre x.gs _ _ hbl
        · exact mapFrz_ok r' x.pre x.gs _ _ _ g5 e
      · exact p.elim
    · exact p.elim
end
end Ev

set_option Elab.async false
set_option linter.all false
set_option maxRecDepth 100000
set_option maxHeartbeats 4000000
set_option autoImplicit false
namespace Ev
open PySem PySem.Spec PyProof.Rows L2 GxR RZ

section
variable {S : Sx} {f f' : Fs} {H H' : Hp} {h h' : Oh} {c : Nat → List D → Oh → Rs D} {ht : List Hd} {W : Nat}
theorem repL_some {K : PySem.W.Frag} : ∀ {ds : List D} {vs : List V} {i : Nat} {d : D}, RepL K f H ds vs → ds[i]? = some d → ∃ v, vs[i]? = some v ∧ Rep K f H d v := fun r e => r.get e
theorem er_start {N : List Str} {ds : List D} {vs : List V} {n : Nat} (rl : RepL S.K f H ds vs) (hn : N.length = n) : ER S.K f H (ds.map some ++ List.replicate (n - ds.length) none) (L2.start N vs) := by
  have hl := rl.length
  refine ⟨by unfold L2.start; simp [hl, hn], fun i d e => ?_⟩
  unfold L2.start
  by_cases hi : i < ds.length
  · rw [List.getElem?_append_left (by simpa using hi)] at e
    rw [List.getElem?_map] at e
    obtain ⟨d', h1, h2⟩ := Option.map_eq_some_iff.mp e
    cases h2
    obtain ⟨v, h3, h4⟩ := rl.get h1
    refine ⟨v, ?_, h4⟩
    rw [List.getElem?_append_left (by rw [List.length_map, ← hl]; exact hi), List.getElem?_map, h3]
    rfl
  · rw [List.getElem?_append_right (by simpa using Nat.le_of_not_lt hi)] at e
    rw [List.getElem?_replicate] at e
    split at e <;> cases e
/-- a def's body keeps the evaluator's promise -/
theorem run_ok {E : XK} {Q : VK} {N : List Str} {d : Df} {ds : List D} {vs : List V} (hN : N.length = d.ns) (r : RR S f H h) (rl : RepL S.K f H ds vs) (p : Po S E (RD S) f H (runD c ht W d ds h) Q) :
    TSv S E (evSs c ht W d.body) { nx := fun _ H' => Q .non H', rt := Q } (L2.start N vs) H := by
  unfold runD at p
  split at p
  · rename_i hl
    refine ⟨f, h, _, er_start rl hN, r, ?_⟩
    rw [hl]
    cases hev : evSs c ht W d.body (ds.map some ++ List.replicate (d.ns - d.np) none) h with
    | bad => rw [hev] at p; exact p.elim
    | exc ci us h' =>
      rw [hev] at p
      intro f' H' C dd x r' rx
      cases hk : d.keep with
      | true => rw [hk] at p; exact p f' H' C dd x r' rx
      | false => rw [hk] at p; exact finX_ok x r r' rx p
    | ok rr h' =>
      obtain ⟨fl, e2⟩ := rr
      rw [hev] at p
      intro f' H' o x r' ro
      cases fl with
      | nx =>
        cases o with
        | nx σ' =>
          show Q .non H'
          cases hk : d.keep with
          | true => simp only [hk] at p; exact p f' H' _ x r' .non
          | false => simp only [hk] at p; exact fin_ok x r r' .non p
        | _ => exact ro.elim
      | rt dv =>
        cases o with
        | rt v =>
          show Q v H'
          cases hk : d.keep with
          | true => simp only [hk] at p; exact p f' H' _ x r' ro
          | false => simp only [hk] at p; exact fin_ok x r r' ro p
        | _ => exact ro.elim
      | bk => exact p.elim
      | ct => exact p.elim
  · exact p.elim
theorem run_len {E : XK} {Q : VK} {d : Df} {ds : List D} (p : Po S E (RD S) f H (runD c ht W d ds h) Q) : ds.length = d.np := by
  unfold runD at p
  split at p
  · assumption
  · exact p.elim
/-- where a def stands -/
structure DefAt (S : Sx) (x qual : Str) (st : Stmt) (f : Addr) (cd : Addr) : Prop where
  ex : ∃ (oc : Value) (od : Option Addr) (kV doc pm : Value) (an : Option Addr) (ct : Value) (osl : Array (Option Value)), S.K.lookup f = some ⟨oc, od, .func (PySem.W.fnOf x qual (defArgs st) (defBody st) (defScope st) .none kV doc pm an (.ref cd) ct), osl⟩
  code : PySem.W.codeIn S.K (.ref cd) qual = true
  kp : PySem.W.keepIn S.K (.ref f) = true
  mg : S.mg x = some (.ref f)
theorem def_ok {x qual : Str} {st : Stmt} {fa cd : Addr} {N ps : List Str} {k : Nat} {g : Gm} {d : Df} (F : DefAt S x qual st fa cd)
    (hge : g = .ge → ∃ P, TabB S.base S.mg cd P ∧ P ∈ S.tabs ∧ ∀ p ∈ S.tq, p.1 ≠ P)
    (hla : g = .la → ∃ P, LamX.TabB S.base S.mg cd P ∧ (P, (qual ++ ".<locals>.") ++ "<lambda>") ∈ S.tq ∧ ∀ p ∈ S.tq, p.1 = P → p.2 = (qual ++ ".<locals>.") ++ "<lambda>") (FS : FnScope N ps (defScope st)) (hN : N.length = d.ns) (hp : ps.length = d.np)
    (hbind : ∀ (kV doc pm : Value) (an : Option Addr) (cdv ct : Value) (us : List Value), us.length = ps.length → bindArgs (PySem.W.fnOf x qual (defArgs st) (defBody st) (defScope st) .none kV doc pm an cdv ct) ⟨us, []⟩ = pure (ps.zip us))
    (hb : GoSs S N (defScope st) k g (defBody st) (evSs c ht W d.body)) : FnAt S (k + 1) (runD c ht W d) x := by
  obtain ⟨oc, od, kV, doc, pm, an, ct, osl, lk⟩ := F.ex
  refine ⟨fa, _, ps, fn_of lk F.code FS (fun vs H Q E ⟨f, h, ds, r, rl, p⟩ => by rw [← rl.length, run_len p, hp]) fun A outer s H vs Q E hr ⟨f, h, ds, r, rl, p⟩ => ?_, F.mg, F.kp, .all (hbind kV doc pm an _ ct)⟩
  refine ⟨TSv S E (evSs c ht W d.body), hb E _ ?_, run_ok hN r rl p⟩
  refine { xs := ⟨rfl, rfl, rfl, rfl, rfl⟩, calm := rfl, nm := rfl, nd := FS.nd, room := hr, sc := rfl, tk := ?_, cd := fun h => (by obtain ⟨P, h1, h2⟩ := hge h; exact ⟨cd, P, rfl, h1, h2⟩), ld := fun h => (by obtain ⟨P, h1, h2, h3⟩ := hla h; exact ⟨cd, P, rfl, h1, h2, h3⟩), fn := fun _ => rfl, po := ?_, kd := FS.kind }
  · exact takes_of (X := cxOf (CX S.P S.w) S.P S.w S.K S.mg S.base N qual (defScope st) fa (.ref cd) A outer s H E) rfl rfl rfl rfl
  · exact passes_of (X := cxOf (CX S.P S.w) S.P S.w S.K S.mg S.base N qual (defScope st) fa (.ref cd) A outer s H E) rfl
theorem FnAt.mono {j k : Nat} {cg : List D → Oh → Rs D} {x : Str} (F : FnAt S j cg x) (h : j ≤ k) : FnAt S k cg x := by
  obtain ⟨f, fd, ps, F, r⟩ := F
  exact ⟨f, fd, ps, F.mono h, r⟩
theorem FnAt.bad {k : Nat} {cg : List D → Oh → Rs D} {x : Str} {f : Addr} {fd : FuncData} {ps : List Str} (hm : S.mg x = some (.ref f)) (hk : PySem.W.keepIn S.K (.ref f) = true) (hb : Binds S.K fd ps []) (h : ∀ ds h, cg ds h = .bad) : FnAt S k cg x :=
  ⟨f, fd, ps, ⟨fun vs H Q E ⟨f, hh, ds, r, rl, p⟩ => by rw [h] at p; exact p.elim, fun A outer s H args us vs Q E _ _ _ _ ⟨f, hh, ds, r, rl, p⟩ => by rw [h] at p; exact p.elim⟩, hm, hk, hb⟩
end
end Ev

set_option Elab.async false
set_option linter.all false
set_option maxRecDepth 100000
set_option maxHeartbeats 4000000
set_option autoImplicit false
namespace Ev
open PySem PySem.Spec PyProof.Rows L2 GxR RZ

section
variable {S : Sx} {N : List Str} {sc : Scope} {k : Nat} {g : Gm} {c : Nat → List D → Oh → Rs D} {ht : List Hd}
theorem Po.cmp {E : XK} {f : Fs} {H : Hp} {h : Oh} {o : Cop} {x y : D} {vx vy : V} {kk : Bool → Oh → Rs D} {Q : VK} (rr : RR S f H h) (rx : Rep S.K f H x vx) (ry : Rep S.K f H y vy) (p : Po S E (RD S) f H ((Ev.opt (cmpD h o x y) h).bind kk) Q) :
    rPure S (cmpB o) vx vy H (fun z H3 => ∃ b, z = .bl b ∧ ∃ f3, Ext f H f3 H3 ∧ RR S f3 H3 h ∧ Po S E (RD S) f3 H3 (kk b h) Q) := by
  cases e : cmpD h o x y with
  | none => rw [e] at p; exact p.elim
  | some b =>
    rw [e] at p
    refine ⟨f, h, x, y, .bl b, rr, rx, ry, by unfold cmpB; rw [e]; rfl, fun H3 v3 x3 r3 q3 => ?_⟩
    cases q3
    exact ⟨b, rfl, f, x3, r3, p.base rr x3⟩
theorem go_cmp3 {a b d e : Expr} {x y z w : Ex} {o o' o'' : Cop} {pos} (ha : Go S N sc k g a (evE c ht x)) (hb : Go S N sc k g b (evE c ht y)) (hd : Go S N sc k g d (evE c ht z)) (he : Go S N sc k g e (evE c ht w)) (hm : lastMarks [o.op, o'.op, o''.op] [b, d, e] = false) :
    Go S N sc k g (.Compare a [o.op, o'.op, o''.op] [b, d, e] pos) (evE c ht (.cmp3 o o' o'' x y z w)) := fun E X G => by
  refine ⟨fun pins s σ H Q I ⟨f, h, env, er, rr, p⟩ => ?_⟩
  simp only [evE] at p
  have hl : evalEach [e] X.env = [eval e X.env] := by first | rfl | simp [evalEach]
  refine Compare_chain (thn ((ha E X G).run pins s σ H _ I ⟨f, h, env, er, rr, Po.bind (R := RD S) rr p⟩) fun v s1 ⟨vx, H1, I1, r1, a1, f1, h1, x1, rr1, q1, p1⟩ => ?_) hm
  rw [hl]
  refine chain_link (thn ((hb E X G).run pins s1 σ H1 _ I1 ⟨f1, h1, env, er.ext x1, rr1, Po.bind (R := RD S) rr1 p1⟩) fun u s2 ⟨vy, H2, I2, r2, a2, f2, h2, x2, rr2, q2, p2⟩ => ?_)
  refine thn (op_cmp G.xs G.hu o pins s2 σ H2 vx vy v u _ I2 r1 r2 (Po.cmp rr2 (q1.ext x2) q2 p2)) fun dd s3 ⟨vz, H3, I3, r3, bb, eb, f3, x3, rr3, p3⟩ => ?_
  subst eb
  cases r3
  refine wpAny_truthy_bool ?_
  cases bb with
  | false => exact ite_ff ⟨.bl false, H3, I3, rfl, p3 f3 H3 _ .refl rr3 (.bl _)⟩
  | true =>
    refine ite_tt (chain_link (thn ((hd E X G).run pins s3 σ H3 _ I3 ⟨f3, h2, env, ((er.ext x1).ext x2).ext x3, rr3, Po.bind (R := RD S) rr3 p3⟩) fun u4 s4 ⟨v4, H4, I4, r4, a4, f4, h4, x4, rr4, q4, p4⟩ => ?_))
    refine thn (op_cmp G.xs G.hu o' pins s4 σ H4 vy v4 u u4 _ I4 r2 r4 (Po.cmp rr4 ((q2.ext x3).ext x4) q4 p4)) fun dd s5 ⟨vz, H5, I5, r5, bb, eb, f5, x5, rr5, p5⟩ => ?_
    subst eb
    cases r5
    refine wpAny_truthy_bool ?_
    cases bb with
    | false => exact ite_ff ⟨.bl false, H5, I5, rfl, p5 f5 H5 _ .refl rr5 (.bl _)⟩
    | true =>
      refine ite_tt (chain_last (thn ((he E X G).run pins s5 σ H5 _ I5 ⟨f5, h4, env, ((((er.ext x1).ext x2).ext x3).ext x4).ext x5, rr5, Po.bind (R := RD S) rr5 p5⟩) fun u6 s6 ⟨v6, H6, I6, r6, a6, f6, h6, x6, rr6, q6, p6⟩ => ?_))
      obtain ⟨r, er', p7⟩ := p6.opt
      exact op_cmp G.xs G.hu o'' pins s6 σ H6 v4 v6 u4 u6 Q I6 r4 r6 ⟨f6, h6, a4, a6, r, rr6, (q4.ext x5).ext x6, q6, er', fun H' v' x' r' q' => p7 f6 H' v' x' r' q'⟩
theorem got_cmp3 {a b d e : Expr} {x y z w : Ex} {o o' o'' : Cop} {pos} (ha : Go S N sc k g a (evE c ht x)) (hb : Go S N sc k g b (evE c ht y)) (hd : Go S N sc k g d (evE c ht z)) (he : Go S N sc k g e (evE c ht w)) (hm : lastMarks [o.op, o'.op, o''.op] [b, d, e] = false) :
    GoT S N sc k g (.Compare a [o.op, o'.op, o''.op] [b, d, e] pos) (evE c ht (.cmp3 o o' o'' x y z w)) := fun E X G => by
  refine ⟨fun pins s σ H Q I t => ?_⟩
  obtain ⟨f, h, env, er, rr, p⟩ := ttv_tev t
  simp only [evE] at p
  have hl : evalEach [e] X.env = [eval e X.env] := by first | rfl | simp [evalEach]
  refine isTrue_chain (thn ((ha E X G).run pins s σ H _ I ⟨f, h, env, er, rr, Po.bind (R := RD S) rr p⟩) fun v s1 ⟨vx, H1, I1, r1, a1, f1, h1, x1, rr1, q1, p1⟩ => ?_) hm
  rw [hl]
  refine test_link (thn ((hb E X G).run pins s1 σ H1 _ I1 ⟨f1, h1, env, er.ext x1, rr1, Po.bind (R := RD S) rr1 p1⟩) fun u s2 ⟨vy, H2, I2, r2, a2, f2, h2, x2, rr2, q2, p2⟩ => ?_)
  refine thn (op_cmp G.xs G.hu o pins s2 σ H2 vx vy v u _ I2 r1 r2 (Po.cmp rr2 (q1.ext x2) q2 p2)) fun dd s3 ⟨vz, H3, I3, r3, bb, eb, f3, x3, rr3, p3⟩ => ?_
  subst eb
  cases r3
  refine wpAny_truthy_bool ?_
  cases bb with
  | false =>
    obtain ⟨k', e', q'⟩ := p3 f3 H3 _ .refl rr3 (.bl _)
    cases e'
    exact ite_ff ⟨H3, I3, q'⟩
  | true =>
    refine ite_tt (test_link (thn ((hd E X G).run pins s3 σ H3 _ I3 ⟨f3, h2, env, ((er.ext x1).ext x2).ext x3, rr3, Po.bind (R := RD S) rr3 p3⟩) fun u4 s4 ⟨v4, H4, I4, r4, a4, f4, h4, x4, rr4, q4, p4⟩ => ?_))
    refine thn (op_cmp G.xs G.hu o' pins s4 σ H4 vy v4 u u4 _ I4 r2 r4 (Po.cmp rr4 ((q2.ext x3).ext x4) q4 p4)) fun dd s5 ⟨vz, H5, I5, r5, bb, eb, f5, x5, rr5, p5⟩ => ?_
    subst eb
    cases r5
    refine wpAny_truthy_bool ?_
    cases bb with
    | false =>
      obtain ⟨k', e', q'⟩ := p5 f5 H5 _ .refl rr5 (.bl _)
      cases e'
      exact ite_ff ⟨H5, I5, q'⟩
    | true =>
      refine ite_tt (test_last (thn ((he E X G).run pins s5 σ H5 _ I5 ⟨f5, h4, env, ((((er.ext x1).ext x2).ext x3).ext x4).ext x5, rr5, Po.bind (R := RD S) rr5 p5⟩) fun u6 s6 ⟨v6, H6, I6, r6, a6, f6, h6, x6, rr6, q6, p6⟩ => ?_))
      obtain ⟨r, er', p7⟩ := p6.opt
      refine thn (op_cmp G.xs G.hu o'' pins s6 σ H6 v4 v6 u4 u6 _ I6 r4 r6 ⟨f6, h6, a4, a6, r, rr6, (q4.ext x5).ext x6, q6, er', fun H' v' x' r' q' => p7 f6 H' v' x' r' q'⟩) fun dd s7 ⟨z7, H7, I7, r7, k', e', q'⟩ => ?_
      subst e'
      cases r7
      exact wpAny_truthy_bool ⟨H7, I7, q'⟩
end
end Ev

set_option Elab.async false
set_option linter.all false
set_option maxRecDepth 100000
set_option maxHeartbeats 4000000
set_option autoImplicit false
namespace Ev
open PySem PySem.Spec PyProof.Rows L2 GxR RZ

/-! ### isinstance of a caught error with an own dict -/
def rIsX (K : PySem.W.Frag) (C a : Addr) (d : Option Addr) : List V → Hp → VK → Prop := fun xs H Q => ∃ (c : V) (cv : Value) (b : Bool) (dd : Addr) (fs : List (Str × V)), xs = [.ref a, c] ∧ (∀ u, RelV c u → u = cv) ∧ d = some dd ∧ H dd = some (.xd fs) ∧ PySem.W.kitOne K (.ref C) cv = some b ∧ Q (.bl b) H
theorem call_isX {X : Cx} {a C : Addr} {d : Option Addr} {oe : Obj} {pn : List (Addr × Obj)} (T : ExcC X.K C) (hz : Zc (.ref C) d oe) (hf : ∃ vs, oe.data = .fields vs) : CallR (X.suite a ((a, oe) :: pn)) (.builtin "isinstance") (rIsX X.K C a d) := by
  intro pins s σ H xs us Q I r h
  obtain ⟨c, cv, b, dd, fs, rfl, hcv, ed, ea, e, q⟩ := h
  obtain ⟨u1, u2, rfl, rx, rt⟩ := vals2 r
  obtain rfl : u1 = Value.ref a := rx
  have ec := hcv _ rt
  subst ec
  obtain ⟨hget, _⟩ := I.pin (a, oe) (List.mem_append.mpr (.inl List.mem_cons_self))
  obtain ⟨vs, hd⟩ := hf
  have hx : ObjOk X.prog X.w H s.heap dd (.xd fs) := I.hok dd _ ea
  obtain ⟨mA, hns, hr⟩ := hx
  obtain ⟨od, ho, hl⟩ := lookIn_ns hns
  subst ed
  have J : PySem.W.InstAt s.heap a oe C (some od) := ⟨hget, hz.1, by unfold PySem.W.notCls; rw [hd] <;> rfl, by rw [hz.2]; exact ho⟩
  have hcl : (PySem.W.clsIn X.K C).isSome = true := by
    have := T.hd
    unfold PySem.W.hasDictIn at this
    cases hc : PySem.W.clsIn X.K C with
    | some _ => rfl
    | none => rw [hc] at this; cases this
  exact PySem.W.kia_one (PySem.W.kitx_exc hcl T.hg T.hk T.hs T.ha T.hn T.ht T.hm) I.kIn J e (fun z => nomatch z) fun tk => ⟨.bl b, H, I.kept (t' := tk) fun _ _ z => z, rfl, q⟩

/-- an error class that _law_heard tells -/
structure HrOk (K : PySem.W.Frag) (C B : Addr) (fs : List Str) : Prop where
  xf : XfC K C
  no : ∀ f ∈ fs, PySem.W.findIn K (.ref C) f = some none
  ec : ExcC K C
  kb : PySem.W.kitOne K (.ref C) (.ref B) = some true
  kv : PySem.W.kitOne K (.ref C) (.type "ValueError") = some true
section
variable {X : Cx} {a C B : Addr} {cls : Value} {d : Option Addr} {oe : Obj} {pn : List (Addr × Obj)} {en bn : Str} {i : Nat}
/-- isinstance(e, B) and isinstance(e, ValueError) -/
def tIs2 (K : PySem.W.Frag) (C a B : Addr) (d : Option Addr) (i : Nat) : TE := tAndV (tCB (rIsX K C a d) (tCons (tVar i) (tCons (tC (.ref B)) tNil))) (tCB (rIsX K C a d) (tCons (tVar i) (tCons (tC (.ty "ValueError")) tNil)))
theorem pe_is2 {q1 q2 q3 q4 q5 q6 q7 q8 q9 : Pos} (T : ExcC X.K C) (hz : Zc (.ref C) d oe) (hf : ∃ vs, oe.data = .fields vs) (hN : X.N[i]? = some en) (hv : Vis X.env.scope en) (hde : (en == ("__debug__" : Str)) = false) (hce : (en == ("__classdict__" : Str)) = false)
    (hgi : Gl X "isinstance") (hmi : X.mg "isinstance" = none) (hgb : Gl X bn) (hmb : X.mg bn = some (.ref B)) (hdb : (bn == ("__debug__" : Str)) = false) (hgv : Gl X "ValueError") (hmv : X.mg "ValueError" = none) :
    PE (X.suite a ((a, oe) :: pn)) (.BoolOp .And [.Call (.Name "isinstance" q1) [.Name en q2, .Name bn q3] [] q4, .Call (.Name "isinstance" q5) [.Name en q6, .Name "ValueError" q7] [] q8] q9) (tIs2 X.K C a B d i) := by
  have e1 : PE (X.suite a ((a, oe) :: pn)) (.Name en q2) (tVar i) := pe_var hN hv hde hce
  have e2 : PE (X.suite a ((a, oe) :: pn)) (.Name en q6) (tVar i) := pe_var hN hv hde hce
  have e3 : PE (X.suite a ((a, oe) :: pn)) (.Name bn q3) (tC (.ref B)) := pe_glob (u := .ref B) hgb hmb rfl hdb
  have e4 : PE (X.suite a ((a, oe) :: pn)) (.Name "ValueError" q7) (tC (.ty "ValueError")) := pe_bltn (u := .type "ValueError") hgv hmv (by decide) rfl
  exact pe_and (pe_callB (id := "isinstance") (call_isX T hz hf) hgi hmi (by decide) (pa_cons e1 (pa_cons e3 pa_nil))) (pe_one (pe_callB (id := "isinstance") (call_isX T hz hf) hgi hmi (by decide) (pa_cons e2 (pa_cons e4 pa_nil))))
/-- what a suite of _law_heard answers -/
def tHd (C a : Addr) (cls : Value) (d : Option Addr) (i : Nat) (tag : Str) (fs : List Str) : TS := fun D σ H => cls = .ref C ∧ σ[i]? = some (some (.ref a)) ∧ ∃ (dd : Addr) (us : List V), d = some dd ∧ H dd = some (.xd (fs.zip us)) ∧ fs.length = us.length ∧
  ∀ p uu, H p = none → D.rt (.ref p) (L2.upd H p (.frz (tupObj uu) (.tup (.str tag :: us ++ [.bl true]))))
theorem suite1 {tag f : Str} {j1 kk : Nat} {q1 q2 q3 q4 q5 q6 q7 q8 q9 r1 r2 r3 r4 r5 : Pos} (h : HrOk X.K C B [f]) (hz : Zc cls d oe) (hf : ∃ vs, oe.data = .fields vs) (hN : X.N[i]? = some en) (hv : Vis X.env.scope en) (hde : (en == ("__debug__" : Str)) = false) (hce : (en == ("__classdict__" : Str)) = false)
    (hgi : Gl X "isinstance") (hmi : X.mg "isinstance" = none) (hgb : Gl X bn) (hmb : X.mg bn = some (.ref B)) (hdb : (bn == ("__debug__" : Str)) = false) (hgv : Gl X "ValueError") (hmv : X.mg "ValueError" = none) (hff : (f == f) = true) :
    PSs (X.suite a ((a, oe) :: pn)) [.Return (some (.Tuple [.Constant (.str tag) j1 r1, .Attribute (.Name en r2) f r3, .BoolOp .And [.Call (.Name "isinstance" q1) [.Name en q2, .Name bn q3] [] q4, .Call (.Name "isinstance" q5) [.Name en q6, .Name "ValueError" q7] [] q8] q9] kk r4)) r5]
      (tHd C a cls d i tag [f]) := by
  refine ⟨fun pins s σ H D I ⟨ec, es, dd, us, ed, eH, hl, q⟩ => ?_⟩
  subst ec
  have e1 : PE (X.suite a ((a, oe) :: pn)) (.Name en r2) (tVar i) := pe_var hN hv hde hce
  refine (pss_one (ps_ret (pe_tupF (pa_cons pe_str (pa_cons (pe_xf h.xf (h.no f (by simp)) hz hf e1) (pa_cons (pe_is2 h.ec hz hf hN hv hde hce hgi hmi hgb hmb hdb hgv hmv) pa_nil)))))).run pins s σ H D I ?_
  cases us with
  | nil => cases hl
  | cons u us =>
    cases us with
    | cons _ _ => cases hl
    | nil =>
      refine ⟨.ref a, es, rfl, rfl, dd, _, u, ed, eH, by simp [List.zip, List.lookup, hff], ?_⟩
      refine ⟨.ref a, es, _, _, true, dd, _, rfl, fun w hw => hw, ed, eH, h.kb, true, rfl, ?_⟩
      exact ⟨.ref a, es, _, _, true, dd, _, rfl, fun w hw => hw, ed, eH, h.kv, by have := sizeLine_eq; simp; omega, fun p uu hp => q p uu hp⟩
theorem suite2 {tag f f' : Str} {j1 kk : Nat} {q1 q2 q3 q4 q5 q6 q7 q8 q9 r1 r2 r3 r4 r5 r6 r7 : Pos} (h : HrOk X.K C B [f, f']) (hz : Zc cls d oe) (hf : ∃ vs, oe.data = .fields vs) (hN : X.N[i]? = some en) (hv : Vis X.env.scope en) (hde : (en == ("__debug__" : Str)) = false) (hce : (en == ("__classdict__" : Str)) = false)
    (hgi : Gl X "isinstance") (hmi : X.mg "isinstance" = none) (hgb : Gl X bn) (hmb : X.mg bn = some (.ref B)) (hdb : (bn == ("__debug__" : Str)) = false) (hgv : Gl X "ValueError") (hmv : X.mg "ValueError" = none) (hff : (f == f) = true) (hff' : (f' == f') = true) (hfg : (f' == f) = false) :
    PSs (X.suite a ((a, oe) :: pn)) [.Return (some (.Tuple [.Constant (.str tag) j1 r1, .Attribute (.Name en r2) f r3, .Attribute (.Name en r6) f' r7, .BoolOp .And [.Call (.Name "isinstance" q1) [.Name en q2, .Name bn q3] [] q4, .Call (.Name "isinstance" q5) [.Name en q6, .Name "ValueError" q7] [] q8] q9] kk r4)) r5]
      (tHd C a cls d i tag [f, f']) := by
  refine ⟨fun pins s σ H D I ⟨ec, es, dd, us, ed, eH, hl, q⟩ => ?_⟩
  subst ec
  have e1 : PE (X.suite a ((a, oe) :: pn)) (.Name en r2) (tVar i) := pe_var hN hv hde hce
  have e2 : PE (X.suite a ((a, oe) :: pn)) (.Name en r6) (tVar i) := pe_var hN hv hde hce
  refine (pss_one (ps_ret (pe_tupF (pa_cons pe_str (pa_cons (pe_xf h.xf (h.no f (by simp)) hz hf e1) (pa_cons (pe_xf h.xf (h.no f' (by simp)) hz hf e2) (pa_cons (pe_is2 h.ec hz hf hN hv hde hce hgi hmi hgb hmb hdb hgv hmv) pa_nil))))))).run pins s σ H D I ?_
  cases us with
  | nil => cases hl
  | cons u us =>
    cases us with
    | nil => cases hl
    | cons u' us =>
      cases us with
      | cons _ _ => cases hl
      | nil =>
        refine ⟨.ref a, es, rfl, rfl, dd, _, u, ed, eH, by simp [List.zip, List.lookup, hff], ?_⟩
        refine ⟨.ref a, es, rfl, rfl, dd, _, u', ed, eH, by simp [List.zip, List.lookup, hff', hfg], ?_⟩
        refine ⟨.ref a, es, _, _, true, dd, _, rfl, fun w hw => hw, ed, eH, h.kb, true, rfl, ?_⟩
        exact ⟨.ref a, es, _, _, true, dd, _, rfl, fun w hw => hw, ed, eH, h.kv, by have := sizeLine_eq; simp; omega, fun p uu hp => q p uu hp⟩
end
end Ev

set_option Elab.async false
set_option linter.all false
set_option maxRecDepth 100000
set_option maxHeartbeats 4000000
set_option autoImplicit false
namespace Ev
open PySem PySem.Spec PyProof.Rows L2 GxR RZ

/-- what _law_heard makes of the lambda's reading -/
def TTh (rows : List (Addr × Str × List Str)) : (XK → Hp → VK → Prop) → Hp → VK → Prop := fun tl H Q =>
  tl (fun cls d H' => ∃ C tag fs, (C, tag, fs) ∈ rows ∧ cls = .ref C ∧ ∃ (dd : Addr) (us : List V), d = some dd ∧ H' dd = some (.xd (fs.zip us)) ∧ fs.length = us.length ∧ ∀ p uu, H' p = none → Q (.ref p) (L2.upd H' p (.frz (tupObj uu) (.tup (V.str tag :: us ++ [V.bl true])))))
    H (fun _ H' => ([] : List V).length ≤ sizeLine ∧ ∀ p uu, H' p = none → Q (.ref p) (L2.upd H' p (.frz (tupObj uu) (.tup []))))
/-- the classes that _law_heard tells -/
structure HdK (K : PySem.W.Frag) (C1 C2 C3 C4 B : Addr) (f1 f2 f3 f4 f4' : Str) : Prop where
  r1 : HrOk K C1 B [f1]
  r2 : HrOk K C2 B [f2]
  r3 : HrOk K C3 B [f3]
  r4 : HrOk K C4 B [f4, f4']
  e11 : PySem.W.exmOne K (.ref C1) (.ref C1) = some true
  e21 : PySem.W.exmOne K (.ref C2) (.ref C1) = some false
  e22 : PySem.W.exmOne K (.ref C2) (.ref C2) = some true
  e31 : PySem.W.exmOne K (.ref C3) (.ref C1) = some false
  e32 : PySem.W.exmOne K (.ref C3) (.ref C2) = some false
  e33 : PySem.W.exmOne K (.ref C3) (.ref C3) = some true
  e41 : PySem.W.exmOne K (.ref C4) (.ref C1) = some false
  e42 : PySem.W.exmOne K (.ref C4) (.ref C2) = some false
  e43 : PySem.W.exmOne K (.ref C4) (.ref C3) = some false
  e44 : PySem.W.exmOne K (.ref C4) (.ref C4) = some true
section
variable {X : Cx}
theorem heard_gives {Ng : List Str} {x a q en bn x1 x2 x3 x4 t1 t2 t3 t4 f1 f2 f3 f4 f4' : Str} {sg : Scope} {g C1 C2 C3 C4 B : Addr} {cdg : Value} {i : Nat} {p1 p2 p3 p4 p5 p6 : Pos}
    {n1 m1 n2 m2 n3 m3 n4 m4 : Pos} {ja jb jc jd ka kb kc kd k0 : Nat}
    {a1 a2 a3 a4 a5 a6 a7 a8 a9 u1 u2 u3 u4 u5 : Pos} {b1 b2 b3 b4 b5 b6 b7 b8 b9 v1 v2 v3 v4 v5 : Pos} {c1 c2 c3 c4 c5 c6 c7 c8 c9 w1 w2 w3 w4 w5 : Pos} {d1 d2 d3 d4 d5 d6 d7 d8 d9 y1 y2 y3 y4 y5 y6 y7 : Pos}
    (HK : HdK X.K C1 C2 C3 C4 B f1 f2 f3 f4 f4') (hN : Ng.Nodup) (hi : Ng[i]? = some en) (hln : sg.names.lookup en = some .local) (hde : (en == ("__debug__" : Str)) = false) (hce : (en == ("__classdict__" : Str)) = false)
    (hg : ∀ y ∈ [x1, x2, x3, x4, bn, ("isinstance" : Str), "ValueError"], sg.names.lookup y = some .globalImplicit) (hdb : ∀ y ∈ [x1, x2, x3, x4, bn], (y == ("__debug__" : Str)) = false)
    (hm1 : X.mg x1 = some (.ref C1)) (hm2 : X.mg x2 = some (.ref C2)) (hm3 : X.mg x3 = some (.ref C3)) (hm4 : X.mg x4 = some (.ref C4)) (hmb : X.mg bn = some (.ref B)) (hmi : X.mg "isinstance" = none) (hmv : X.mg "ValueError" = none)
    (hf1 : (f1 == f1) = true) (hf2 : (f2 == f2) = true) (hf3 : (f3 == f3) = true) (hf4 : (f4 == f4) = true) (hf5 : (f4' == f4') = true) (hf6 : (f4' == f4) = false)
    (h0 : ∀ f : Addr, (L2.start Ng [V.ref f])[0]? = some (some (V.ref f))) :
    LamX.GivesTo X Ng x sg g cdg
      [.Try [.Expr (.Call (.Name a p1) [] [] p2) p3]
        [.ExceptHandler (some (.Name x1 n1)) (some en) [.Return (some (.Tuple [.Constant (.str t1) ja u1, .Attribute (.Name en u2) f1 u3, .BoolOp .And [.Call (.Name "isinstance" a1) [.Name en a2, .Name bn a3] [] a4, .Call (.Name "isinstance" a5) [.Name en a6, .Name "ValueError" a7] [] a8] a9] ka u4)) u5] m1,
         .ExceptHandler (some (.Name x2 n2)) (some en) [.Return (some (.Tuple [.Constant (.str t2) jb v1, .Attribute (.Name en v2) f2 v3, .BoolOp .And [.Call (.Name "isinstance" b1) [.Name en b2, .Name bn b3] [] b4, .Call (.Name "isinstance" b5) [.Name en b6, .Name "ValueError" b7] [] b8] b9] kb v4)) v5] m2,
         .ExceptHandler (some (.Name x3 n3)) (some en) [.Return (some (.Tuple [.Constant (.str t3) jc w1, .Attribute (.Name en w2) f3 w3, .BoolOp .And [.Call (.Name "isinstance" c1) [.Name en c2, .Name bn c3] [] c4, .Call (.Name "isinstance" c5) [.Name en c6, .Name "ValueError" c7] [] c8] c9] kc w4)) w5] m3,
         .ExceptHandler (some (.Name x4 n4)) (some en) [.Return (some (.Tuple [.Constant (.str t4) jd y1, .Attribute (.Name en y2) f4 y3, .Attribute (.Name en y6) f4' y7, .BoolOp .And [.Call (.Name "isinstance" d1) [.Name en d2, .Name bn d3] [] d4, .Call (.Name "isinstance" d5) [.Name en d6, .Name "ValueError" d7] [] d8] d9] kd y4)) y5] m4] [] [] p4,
       .Return (some (.Tuple [] k0 p5)) p6] a q
      (TTh [(C1, t1, [f1]), (C2, t2, [f2]), (C3, t3, [f3]), (C4, t4, [f4, f4'])]) := by
  intro f c' s H Q tl act hc h
  have hv : Vis sg en := .inl hln
  have hl : ∀ y ∈ [x1, x2, x3, x4, bn, ("isinstance" : Str), "ValueError"], Gl (cxOf C8.CX0 X.prog X.w X.K X.mg X.base Ng x sg g cdg X.A X.stack s H C8.E0).nox y := hg
  refine ⟨_, pss_cons (ps_try_manyAs (X := (cxOf C8.CX0 X.prog X.w X.K X.mg X.base Ng x sg g cdg X.A X.stack s H C8.E0).nox)
      (l := [(.ref C1, i, fun a cls d => tHd C1 a cls d i t1 [f1]), (.ref C2, i, fun a cls d => tHd C2 a cls d i t2 [f2]), (.ref C3, i, fun a cls d => tHd C3 a cls d i t3 [f3]), (.ref C4, i, fun a cls d => tHd C4 a cls d i t4 [f4, f4'])])
      (tb := fun W D σ H => ∃ Ech : XK, (∀ cls d σ' H', Ech cls d H' → W cls d σ' H') ∧ σ[0]? = some (some (.ref f)) ∧ H c' = some (LamX.CodeO c' q) ∧ tl Ech H (fun _ H1 => D.nx σ H1))
      rfl rfl hN LamX.takes0 (fun W pn xe tk _ => ?_) ?_) (pss_one (ps_ret (pe_tupF pa_nil))), ?_⟩
  · refine ⟨fun pins s' σ H' D I h' => ?_⟩
    obtain ⟨Ech, hW, h1, h2, h3⟩ := h'
    have hp := act W pn xe Ech p1 p2 tk hW
    exact (pss_one (ps_expr (pos := p3) hp)).run pins s' σ H' D I ⟨h1, h2, h3⟩
  · refine .cons (x := x1) ⟨hl x1 (by simp), hdb x1 (by simp), .inl hm1⟩ hi hln (fun a oe cls d pn hz hf => suite1 HK.r1 hz hf hi hv hde hce (hl _ (by simp)) hmi (hl bn (by simp)) hmb (hdb bn (by simp)) (hl _ (by simp)) hmv hf1) ?_
    refine .cons (x := x2) ⟨hl x2 (by simp), hdb x2 (by simp), .inl hm2⟩ hi hln (fun a oe cls d pn hz hf => suite1 HK.r2 hz hf hi hv hde hce (hl _ (by simp)) hmi (hl bn (by simp)) hmb (hdb bn (by simp)) (hl _ (by simp)) hmv hf2) ?_
    refine .cons (x := x3) ⟨hl x3 (by simp), hdb x3 (by simp), .inl hm3⟩ hi hln (fun a oe cls d pn hz hf => suite1 HK.r3 hz hf hi hv hde hce (hl _ (by simp)) hmi (hl bn (by simp)) hmb (hdb bn (by simp)) (hl _ (by simp)) hmv hf3) ?_
    exact .cons (x := x4) ⟨hl x4 (by simp), hdb x4 (by simp), .inl hm4⟩ hi hln (fun a oe cls d pn hz hf => suite2 HK.r4 hz hf hi hv hde hce (hl _ (by simp)) hmi (hl bn (by simp)) hmb (hdb bn (by simp)) (hl _ (by simp)) hmv hf4 hf5 hf6) .nil
  · refine ⟨fun cls d H' => ∃ C tag fs, (C, tag, fs) ∈ [(C1, t1, [f1]), (C2, t2, [f2]), (C3, t3, [f3]), (C4, t4, [f4, f4'])] ∧ cls = .ref C ∧ ∃ (dd : Addr) (us : List V), d = some dd ∧ H' dd = some (.xd (fs.zip us)) ∧ fs.length = us.length ∧ ∀ p uu, H' p = none → Q (.ref p) (L2.upd H' p (.frz (tupObj uu) (.tup (V.str tag :: us ++ [V.bl true])))), fun cls d σ' H' hE => ?_, h0 f, hc, h⟩
    obtain ⟨C, tag, fs, hm, rfl, dd, us, ed, eH, hlen, q⟩ := hE
    have hset : ∀ (σ' : L2.St) (a : Addr), σ'.length = Ng.length → (σ'.set i (some (V.ref a)))[i]? = some (some (V.ref a)) := fun σ' a hl => by
      rw [List.getElem?_set_self (by rw [hl]; exact (List.getElem?_eq_some_iff.mp hi).1)]
    simp only [List.mem_cons, List.not_mem_nil, or_false, Prod.mk.injEq] at hm
    rcases hm with ⟨rfl, rfl, rfl⟩ | ⟨rfl, rfl, rfl⟩ | ⟨rfl, rfl, rfl⟩ | ⟨rfl, rfl, rfl⟩
    · exact ⟨true, HK.e11, fun _ hl a _ => ⟨rfl, hset σ' a hl, dd, us, ed, eH, hlen, q⟩, fun z => by cases z⟩
    · exact ⟨false, HK.e21, fun z => (by cases z), fun _ => ⟨true, HK.e22, fun _ hl a _ => ⟨rfl, hset σ' a hl, dd, us, ed, eH, hlen, q⟩, fun z => by cases z⟩⟩
    · exact ⟨false, HK.e31, fun z => (by cases z), fun _ => ⟨false, HK.e32, fun z => (by cases z), fun _ => ⟨true, HK.e33, fun _ hl a _ => ⟨rfl, hset σ' a hl, dd, us, ed, eH, hlen, q⟩, fun z => by cases z⟩⟩⟩
    · exact ⟨false, HK.e41, fun z => (by cases z), fun _ => ⟨false, HK.e42, fun z => (by cases z), fun _ => ⟨false, HK.e43, fun z => (by cases z), fun _ => ⟨true, HK.e44, fun _ hl a _ => ⟨rfl, hset σ' a hl, dd, us, ed, eH, hlen, q⟩, fun z => by cases z⟩⟩⟩⟩
end
end Ev

set_option Elab.async false
set_option linter.all false
set_option maxRecDepth 100000
set_option maxHeartbeats 4000000
set_option autoImplicit false
namespace Ev
open PySem PySem.Spec PyProof.Rows L2 GxR RZ

section
variable {S : Sx} {N : List Str} {sc : Scope} {k : Nat} {g : Gm} {c : Nat → List D → Oh → Rs D} {ht : List Hd}
theorem RR.lam {f : Fs} {H H1 : Hp} {h : Oh} {P : Addr} {q : Str} (r : RR S f H h) (hm : (P, q) ∈ S.tq) (hu : ∀ p ∈ S.tq, p.1 = P → p.2 = q) (e : LamX.ExtP P H H1) (t1 : LamX.TabS H1 P q) : Ext f H f H1 ∧ RR S f H1 h := by
  obtain ⟨ps, hP, _, _⟩ := r.tq _ hm
  have hP : H P = some (.tbl ps) := hP
  obtain ⟨ps1, hP1, htr1, _⟩ := id t1
  have nP : ∀ a, a ∈ f → a ≠ P := fun a ha z => (r.tr a ha).2 ps (z ▸ hP)
  have kp : ∀ a, a ∈ f → H1 a = H a := fun a ha => by
    cases q : H a with
    | none => exact absurd q (r.tr a ha).1
    | some o => exact e a o (nP a ha) q
  have x : Ext f H f H1 := by
    refine ⟨List.prefix_refl _, rfl, fun a ha => kp a (.inr ha), fun _ z => .inl z, fun a o ea _ ho => e a o (fun z => by subst z; rw [hP] at ea; cases ea; exact ho _ rfl) ea, fun a ps' ea => ?_⟩
    by_cases hz : a = P
    · subst hz; exact ⟨ps1, hP1⟩
    · exact ⟨ps', e a _ hz ea⟩
  refine ⟨x, r.len, r.nd, r.dj, fun a ha => by rw [kp a (.inr ha)]; exact r.gt a ha, fun n o en => ?_, fun Q hQ => ?_, fun a ha => by rw [kp a (.inr ha)]; exact r.gq a ha, fun p hp => ?_⟩
  · obtain ⟨a, e1, qo⟩ := r.obj n o en
    exact ⟨a, e1, qo.ext x (kp a (.inl (List.mem_of_getElem? e1)))⟩
  · by_cases hz : Q = P
    · subst hz; exact ⟨ps1, hP1, htr1⟩
    · obtain ⟨qs, eq, w⟩ := r.tab Q hQ
      exact ⟨qs, e Q _ hz eq, w⟩
  · by_cases hz : p.1 = P
    · rw [hu p hp hz, hz]; exact t1
    · obtain ⟨ps', a1, a2, a3⟩ := r.tq p hp
      refine ⟨ps', e _ _ hz a1, a2, fun pos cv hc => ?_⟩
      obtain ⟨c0, e1, e2⟩ := a3 pos cv hc
      exact ⟨c0, e1, e _ _ (fun z => by subst z; rw [hP] at e2; unfold LamX.CodeO at e2; cases e2) e2⟩
/-- where _law_heard stands, and what it makes of a lambda -/
structure HeardAt (S : Sx) (ht : List Hd) (x : Str) : Prop where
  ex : ∃ (gg : Addr) (a : Str) (Ng : List Str) (sg : Scope) (pg : Arguments) (bg : List Stmt) (dV kV doc pm cdv ct oc : Value) (an od : Option Addr) (osl : Array (Option Value)) (rows : List (Addr × Str × List Str)),
    S.mg x = some (.ref gg) ∧ PySem.W.keepIn S.K (.ref gg) = true ∧ S.K.lookup gg = some ⟨oc, od, .func (PySem.W.fnOf x x pg bg sg dV kV doc pm an cdv ct), osl⟩ ∧ PySem.W.codeIn S.K cdv x = true ∧ Binds S.K (PySem.W.fnOf x x pg bg sg dV kV doc pm an cdv ct) [a] [] ∧
    FnScope Ng [a] sg ∧ Ng[0]? = some a ∧ Vis sg a ∧ (a == ("__debug__" : Str)) = false ∧ (a == ("__classdict__" : Str)) = false ∧
    (∀ X : Cx, XS S X → ∀ q, LamX.GivesTo X Ng x sg gg cdv bg a q (TTh rows)) ∧
    ∀ (ci : Nat) (A : Addr) (fs : List Str), S.exA ci = some (A, fs) → ∃ hd, ht[ci]? = some hd ∧ hd.sub = true ∧ (A, hd.tag, fs) ∈ rows
theorem key_heard {E : XK} {x : Ex} {P : Addr} {q : Str} {rows : List (Addr × Str × List Str)} (hm : (P, q) ∈ S.tq) (hu : ∀ p ∈ S.tq, p.1 = P → p.2 = q) (hr : ∀ (ci : Nat) (A : Addr) (fs : List Str), S.exA ci = some (A, fs) → ∃ hd, ht[ci]? = some hd ∧ hd.sub = true ∧ (A, hd.tag, fs) ∈ rows) :
    ∀ σ H Q, TEv S E (evE c ht (.heard x)) σ H Q → LamX.tLam3 P q (TTh rows) (fun E => TEv S E (evE c ht x)) σ H Q := fun σ H Q ⟨f, h, env, er, rr, p⟩ => by
  refine ⟨rr.tq _ hm, fun H1 e1 t1 => ?_⟩
  obtain ⟨x1, r1⟩ := rr.lam hm hu e1 t1
  refine ⟨f, h, env, er.ext x1, r1, ?_⟩
  have p := Po.base rr x1 p
  simp only [evE] at p
  cases hev : evE c ht x env h with
  | bad => rw [hev] at p; exact p.elim
  | ok d h1 =>
    rw [hev] at p
    intro f' H' v x' r' _
    exact ⟨by simp, fun pp uu hp => p f' _ _ (x'.trans (r'.ex hp) r1.tr) (r'.upd hp) (r'.newT hp .nil)⟩
  | exc ci vs h1 =>
    rw [hev] at p
    intro f' H' C dd x' r' ⟨A, fs, d, us, g1, g2, g3, g4, g5, g6⟩
    obtain ⟨hd, k1, k2, k3⟩ := hr ci A fs g1
    refine ⟨A, hd.tag, fs, k3, g2, d, us, g3, g4, g6, fun pp uu hp => ?_⟩
    obtain ⟨a, ea, p2⟩ := p.opt
    unfold heardD at ea
    rw [k1] at ea
    cases ea
    refine p2 f' _ _ (x'.trans (r'.ex hp) r1.tr) (r'.upd hp) (r'.newT hp ?_)
    rw [k2]
    exact .cons (.str _) (g5.append (.cons (.bl _) .nil))
theorem go_heard {x : Str} {xe : Ex} {params : Arguments} {body : Expr} {scope : Scope} {p lpos pos : Pos} (HA : HeardAt S ht x) (hg : sc.names.lookup x = some .globalImplicit) (hdb : (x == ("__debug__" : Str)) = false) (L : LamX.LamS sc scope) (hdef : ∀ env, defaultsOf params env = ([], []))
    (hbind : ∀ (q : Str) (cl : List (Str × Addr)) (pm cv ctv : Value), bindArgs (PySem.W.kla_fn "<lambda>" q params body scope cl pm cv ctv) ⟨[], []⟩ = pure []) (hb : Go S N scope k .no body (evE c ht xe)) :
    Go S N sc (k + 2) .la (.Call (.Name x p) [.Lambda params body scope lpos] [] pos) (evE c ht (.heard xe)) := fun E X G => by
  obtain ⟨gg, a, Ng, sg, pg, bg, dV, kV, doc, pm, cdv, ct, oc, an, od, osl, rows, hm, hk, lk, hcg, hbi, Sg, hNg, hva, hd, hcd, hG, hr⟩ := HA.ex
  obtain ⟨cc, P, hcode, hTB, hq, hu⟩ := G.ld rfl
  refine peImp (LamX.pe_lamcall3 (t := fun E => TEv S E (evE c ht xe)) (G.gl hg) (G.mg hm) (by rw [G.xs.K]; exact hk) (by rw [G.xs.K]; exact lk) (by rw [G.xs.K]; exact hcg) (by rw [G.xs.K]; exact hbi) Sg hNg hva (hG X G.xs _) hTB hcode G.room (by rw [G.sc]; exact L) (hdef _) hbind (fun A outer s H E f c' hroom => ?_) hdb hd hcd) (key_heard hq hu hr)
  refine hb E _ ⟨⟨G.xs.P, G.xs.w, G.xs.K, G.xs.mg, G.xs.base⟩, rfl, G.nm, G.nd, hroom, rfl, ?_, fun z => (by cases z), fun z => (by cases z)⟩
  exact takes_of (X := LamX.lamCx X A outer s H E scope f c') rfl rfl rfl rfl
end
end Ev

set_option Elab.async false
set_option linter.all false
set_option maxRecDepth 100000
set_option maxHeartbeats 2000000
set_option autoImplicit false
namespace Ev
open PySem PySem.Spec PyProof.Rows L2 GxR
/-! the translator: it carries its proof -/
instance decVis (sc : Scope) (x : Str) : Decidable (Vis sc x) := inferInstanceAs (Decidable (_ ∨ _ ∨ _))
instance decLoc (sc : Scope) (x : Str) : Decidable (Loc sc x) := inferInstanceAs (Decidable (_ ∨ _))
instance decCT (scope sc : Scope) : DecidablePred (CT scope sc) := fun x => inferInstanceAs (Decidable (_ ∨ _))
def noCmp : Expr → Bool
  | .ListComp .. => false
  | .SetComp .. => false
  | .DictComp .. => false
  | _ => true
theorem noCmp_sw {e : Expr} (h : noCmp e = true) (t : Option Expr) (l : Nat) (env : Env) : swapsWith e t l env = pure false := by
  cases e <;> first | rfl | cases h
def noSet : Expr → Bool
  | .Set .. => false
  | .List .. => false
  | _ => true
theorem noSet_gf {e : Expr} (h : noSet e = true) (env : Env) (v : Value) : genFold e env v = pure v := by
  cases e <;> first | rfl | cases h
def noSet1 : Expr → Bool
  | .Set .. => false
  | _ => true
theorem noSet_fs {e : Expr} (h : noSet1 e = true) (env : Env) (v : Value) : foldedSetIterable e env v = pure v := by
  cases e <;> first | rfl | cases h
def noCall : Expr → Bool
  | .Call .. => false
  | _ => true
theorem noCall_ab {e : Expr} (h : noCall e = true) (x : Str) (env : Env) : attributeBase e x env (eval e env) = eval e env := by
  cases e <;> first | rfl | cases h
def bopOf : (o : Operator) → Option {b : Bop // b.op = o}
  | .Add => some ⟨.add, rfl⟩
  | .Sub => some ⟨.sub, rfl⟩
  | .Mult => some ⟨.mul, rfl⟩
  | .FloorDiv => some ⟨.fdiv, rfl⟩
  | .Mod => some ⟨.mod, rfl⟩
  | .Pow => some ⟨.pow, rfl⟩
  | _ => none
def copOf : (o : CmpOp) → Option {b : Cop // b.op = o}
  | .Eq => some ⟨.eq, rfl⟩
  | .NotEq => some ⟨.ne, rfl⟩
  | .Lt => some ⟨.lt, rfl⟩
  | .LtE => some ⟨.le, rfl⟩
  | .Gt => some ⟨.gt, rfl⟩
  | .GtE => some ⟨.ge, rfl⟩
  | .Is => some ⟨.isn, rfl⟩
  | .IsNot => some ⟨.isnn, rfl⟩
  | .In => some ⟨.isin, rfl⟩
  | .NotIn => some ⟨.nin, rfl⟩
def biAll : List Bi := [.len, .sum, .min, .max, .int, .str, .abs, .tuple, .list, .sorted]
def biOf (x : Str) : Option {b : Bi // b.nm = x} := (biAll.findSome? fun b => if h : b.nm = x then some ⟨b, h⟩ else none)
def tyAll : List Ty := [.int, .bool, .str, .tuple, .list, .dict]
def tyOfN (x : Str) : Option {b : Ty // (b.nm : Str) = x} := (tyAll.findSome? fun b => if h : (b.nm : Str) = x then some ⟨b, h⟩ else none)
def tysOf (sc : Scope) : (es : List Expr) → Option {p : List Ty × List Pos // p.1.length = p.2.length ∧ tyArgs p.1 p.2 = es ∧ ∀ t ∈ p.1, sc.names.lookup (t.nm : Str) = some .globalImplicit}
  | [] => some ⟨([], []), rfl, rfl, by simp⟩
  | .Name x p :: es => match tyOfN x, tysOf sc es with
    | some ⟨t, ht⟩, some ⟨(ts, ps), h1, h2, h3⟩ => if h : sc.names.lookup (t.nm : Str) = some .globalImplicit then
        some ⟨(t :: ts, p :: ps), by simpa using h1, by subst ht; show _ :: tyArgs ts ps = _; rw [h2], by
          intro u hu
          rcases List.mem_cons.mp hu with rfl | hu
          · exact h
          · exact h3 u hu⟩ else none
    | _, _ => none
  | _ => none
/-- targets -/
def trTgs (P : Str → Prop) (N : List Str) (rec : (e : Expr) → Option {t : Tg // TgR N P e t}) : (es : List Expr) → Option {ts : List Tg // TgRs N P es ts}
  | [] => some ⟨[], .nil⟩
  | e :: es => match rec e, trTgs P N rec es with
    | some ⟨t, h⟩, some ⟨ts, hs⟩ => some ⟨t :: ts, .cons h hs⟩
    | _, _ => none
def trTg (P : Str → Prop) [DecidablePred P] (N : List Str) : (n : Nat) → (e : Expr) → Option {t : Tg // TgR N P e t}
  | 0, _ => none
  | n + 1, e => match e with
    | .Name x pos => if h : N[N.idxOf x]? = some x ∧ P x then some ⟨.v (N.idxOf x), .v h.1 h.2⟩ else none
    | .Tuple es k pos => match trTgs P N (trTg P N n) es with
      | some ⟨ts, h⟩ => some ⟨.t ts, .t h⟩
      | none => none
    | _ => none
/-- a comprehension's own names and their slots -/
def ownOf (N : List Str) (scope : Scope) : List (Str × Nat) := (scope.names.filter fun y => (match y.2 with | .local => true | .cell => true | _ => false) && decide (y.1 ∈ N)).map fun y => (y.1, N.idxOf y.1)

/-- what is known of the names of the whole text -/
structure Tt where
  fn : List (Str × Nat)
  gl : List (Str × D)
  ex : List (Str × Nat)
  hd : Option Str
structure TtOk (S : Sx) (T : Tt) (c : Nat → List D → Oh → Rs D) (ht : List Hd) (k0 : Nat) : Prop where
  nb : Nb S
  fn : ∀ x gi, T.fn.lookup x = some gi → FnAt S k0 (c gi) x
  gl : ∀ x d, T.gl.lookup x = some d → ∃ v u, S.mg x = some u ∧ RelV v u ∧ ∀ f H h, RR S f H h → Rep S.K f H d v
  ex : ∀ x ci, T.ex.lookup x = some ci → ExAt S ci x
  hd : ∀ x, T.hd = some x → HeardAt S ht x
section
variable {S : Sx} {T : Tt} {c : Nat → List D → Oh → Rs D} {ht : List Hd} {k0 : Nat}
abbrev RE (S : Sx) (c : Nat → List D → Oh → Rs D) (ht : List Hd) (N : List Str) (sc : Scope) (k : Nat) (g : Gm) (e : Expr) : Type := {x : Ex // Go S N sc k g e (evE c ht x) ∧ GoT S N sc k g e (evE c ht x)}
abbrev RLx (S : Sx) (c : Nat → List D → Oh → Rs D) (ht : List Hd) (N : List Str) (sc : Scope) (k : Nat) (g : Gm) (es : List Expr) : Type := {xs : List Ex // GoL S N sc k g es (evL c ht xs) ∧ es.all shp = true}
abbrev RIx (S : Sx) (c : Nat → List D → Oh → Rs D) (ht : List Hd) (N : List Str) (sc : Scope) (k : Nat) (g : Gm) (tg e : Expr) : Type := {p : It × Bool // GoI S N sc k g p.2 tg e (evI c ht p.1)}
variable {N : List Str} {sc : Scope} {k : Nat} {g : Gm}
def trL (rec : (e : Expr) → Option (RE S c ht N sc k g e)) : (es : List Expr) → Option (RLx S c ht N sc k g es)
  | [] => some ⟨[], gol_nil, rfl⟩
  | e :: es => match rec e, trL rec es with
    | some ⟨x, h, _⟩, some ⟨xs, hs, h2⟩ => if hh : shp e = true then some ⟨x :: xs, gol_cons h hs (shp_star hh es), by simp [hh, h2]⟩ else none
    | _, _ => none
def trB (op : BoolOp) (rec : (e : Expr) → Option (RE S c ht N sc k g e)) (pos : Pos) : (es : List Expr) → Option {x : Ex // Go S N sc k g (.BoolOp op es pos) (evE c ht x) ∧ GoW S N sc k g (.BoolOp op es pos) (evE c ht x)}
  | [] => none
  | a :: r => match rec a with
    | none => none
    | some ⟨x, h, h'⟩ => match r with
      | [] => some ⟨x, go_one h, gow_one h'⟩
      | b :: rest => match trB op rec pos (b :: rest) with
        | none => none
        | some ⟨y, q, q'⟩ => match op, q, q' with
          | .And, q, q' => some ⟨.and x y, go_and h q, gow_and h' q'⟩
          | .Or, q, q' => some ⟨.or x y, go_or h q, gow_or h' q'⟩
def trCmp (a : Expr) (rec : (e : Expr) → Option (RE S c ht N sc k g e)) (pos : Pos) : (os : List CmpOp) → (bs : List Expr) → Option (RE S c ht N sc k g (.Compare a os bs pos))
  | [o], [b] => match copOf o, rec a, rec b with
    | some ⟨o, ho⟩, some ⟨x, h, _⟩, some ⟨y, q, _⟩ => if hm : behindInMarks o.op b = false then some ⟨.cmp o x y, by subst ho; exact ⟨go_cmp h q hm, got_cmp h q hm⟩⟩ else none
    | _, _, _ => none
  | [o, o'], [b, d] => match copOf o, copOf o', rec a, rec b, rec d with
    | some ⟨o, ho⟩, some ⟨o', ho'⟩, some ⟨x, h, _⟩, some ⟨y, q, _⟩, some ⟨z, r, _⟩ => if hm : lastMarks [o.op, o'.op] [b, d] = false then some ⟨.cmp2 o o' x y z, by subst ho ho'; exact ⟨go_cmp2 h q r hm, got_cmp2 h q r hm⟩⟩ else none
    | _, _, _, _, _ => none
  | [o, o', o''], [b, d, e] => match copOf o, copOf o', copOf o'', rec a, rec b, rec d, rec e with
    | some ⟨o, ho⟩, some ⟨o', ho'⟩, some ⟨o'', ho''⟩, some ⟨x, h, _⟩, some ⟨y, q, _⟩, some ⟨z, r, _⟩, some ⟨w, t, _⟩ => if hm : lastMarks [o.op, o'.op, o''.op] [b, d, e] = false then some ⟨.cmp3 o o' o'' x y z w, by subst ho ho' ho''; exact ⟨go_cmp3 h q r t hm, got_cmp3 h q r t hm⟩⟩ else none
    | _, _, _, _, _, _, _ => none
  | _, _ => none
def trO (rec : (e : Expr) → Option (RE S c ht N sc k g e)) : (o : Option Expr) → Option {xs : List Ex // GoO S N sc k g o (evL c ht xs)}
  | none => some ⟨[], goo_none⟩
  | some e => match rec e with
    | some ⟨x, h, _⟩ => some ⟨[x], goo_some h⟩
    | none => none
abbrev GI (sc : Scope) (x : Str) : Prop := sc.names.lookup x = some .globalImplicit
/-- what is walked -/
def trI (nb : Nb S) (tg : Expr) (rec : (e : Expr) → Option (RE S c ht N sc k g e)) (e : Expr) : Option (RIx S c ht N sc k g tg e) :=
  match (match e with
    | .Call (.Name f p) args [] pos => if h : f = ("range" : Str) ∧ GI sc f then match args with
        | [a] => match rec a with
          | some ⟨x, q, _⟩ => if hs : shp a = true then some ⟨(It.rng1 x, false), by obtain ⟨rfl, hg⟩ := h; exact goi_rng1 nb hg q hs⟩ else none
          | none => none
        | [a, b] => match rec a, rec b with
          | some ⟨x, q, _⟩, some ⟨y, r, _⟩ => if hs : shp a = true ∧ shp b = true then some ⟨(It.rng2 x y, false), by obtain ⟨rfl, hg⟩ := h; exact goi_rng2 nb hg q r hs.1 hs.2⟩ else none
          | _, _ => none
        | _ => none
      else if h : f = ("zip" : Str) ∧ GI sc f then match tg, args with
        | .Tuple es kk tp, [a, b] => match rec a, rec b with
          | some ⟨x, q, _⟩, some ⟨y, r, _⟩ => if hs : shp a = true ∧ shp b = true then some ⟨(It.zip x y, true), by obtain ⟨rfl, hg⟩ := h; exact goi_zip nb hg q r hs.1 hs.2⟩ else none
          | _, _ => none
        | _, _ => none
      else if h : f = ("enumerate" : Str) ∧ GI sc f then match tg, args with
        | .Tuple es kk tp, [a] => match rec a with
          | some ⟨x, q, _⟩ => if hs : shp a = true then some ⟨(It.enm x, true), by obtain ⟨rfl, hg⟩ := h; exact goi_enm nb hg q hs⟩ else none
          | _ => none
        | _, _ => none
      else none
    | _ => none : Option (RIx S c ht N sc k g tg e)) with
  | some r => some r
  | none => match rec e with
    | some ⟨x, q, _⟩ => some ⟨(It.seq x, false), goi_seq q⟩
    | none => none
def trC {N : List Str} {sc : Scope} {k : Nat} {g : Gm} (rec : (e : Expr) → Option (RE S c ht N sc k g e)) : (ifs : List Expr) → Option {cs : List Ex // GoC S N sc k g c ht ifs cs}
  | [] => some ⟨[], .inl ⟨rfl, rfl⟩⟩
  | [q] => match rec q with
    | some ⟨x, _, h⟩ => some ⟨[x], .inr ⟨q, x, rfl, rfl, h⟩⟩
    | none => none
  | _ => none
def isTup : (t : Tg) → Bool
  | .t _ => true
  | _ => false
theorem isTup_ok {t : Tg} {b : Bool} (h : b = true → isTup t = true) : b = true → ∃ ts, t = .t ts := fun e => by
  have := h e
  cases t with
  | v n => cases this
  | t ts => exact ⟨ts, rfl⟩
/-- a list comprehension: its parts -/
structure LcP (S : Sx) (c : Nat → List D → Oh → Rs D) (ht : List Hd) (N : List Str) (sc : Scope) (k : Nat) (g : Gm) (elt tg iter : Expr) (ifs : List Expr) (scope : Scope) where
  b : Bool
  t : Tg
  w : It
  cs : List Ex
  x : Ex
  hi : GoI S N sc k g b tg iter (evI c ht w)
  ok : BlkOk N sc scope (ownOf N scope)
  tr : TgR N (CT scope sc) tg t
  hb : b = true → ∃ ts, t = .t ts
  hsl : ∀ i ∈ t.sl, i ∈ (ownOf N scope).map (·.2)
  hc : GoC S N (relS scope sc) k g c ht ifs cs
  he : Go S N (relS scope sc) k g elt (evE c ht x)
  hf : ∀ env v, foldedSetIterable iter env v = pure v
def trLc (nb : Nb S) (n : Nat) (rec : (e : Expr) → Option (RE S c ht N sc k g e)) (scope : Scope) (rin : (e : Expr) → Option (RE S c ht N (relS scope sc) k g e)) (elt tg iter : Expr) (ifs : List Expr) : Option (LcP S c ht N sc k g elt tg iter ifs scope) :=
  match trI nb tg rec iter, trTg (CT scope sc) N n tg, trC rin ifs, rin elt with
  | some ⟨(w, b), hi⟩, some ⟨t, tr⟩, some ⟨cs, hc⟩, some ⟨x, he, _⟩ =>
    if h : blkC N sc scope (ownOf N scope) = true ∧ (b = true → isTup t = true) ∧ (∀ i ∈ t.sl, i ∈ (ownOf N scope).map (·.2)) ∧ noSet1 iter = true then
      some ⟨b, t, w, cs, x, hi, blkOk_by h.1, tr, isTup_ok h.2.1, h.2.2.1, hc, he, fun env v => noSet_fs h.2.2.2 env v⟩
    else none
  | _, _, _, _ => none
end
end Ev

set_option Elab.async false
set_option linter.all false
set_option maxRecDepth 100000
set_option maxHeartbeats 2000000
set_option autoImplicit false
namespace Ev
open PySem PySem.Spec PyProof.Rows L2 GxR
section
variable {S : Sx} {T : Tt} {c : Nat → List D → Oh → Rs D} {ht : List Hd} {k0 : Nat}
variable {N : List Str} {sc : Scope} {k : Nat} {g : Gm}
/-- a name's value -/
def trName (K0 : TtOk S T c ht k0) (N : List Str) (sc : Scope) (k : Nat) (g : Gm) (x : Str) (pos : Pos) : Option (RE S c ht N sc k g (.Name x pos)) :=
  if h : (N[N.idxOf x]? = some x ∧ Vis sc x) ∧ ((x == ("__debug__" : Str)) = false ∧ (x == ("__classdict__" : Str)) = false) then
    some ⟨.var (N.idxOf x), go_var h.1.1 h.1.2 h.2.1 h.2.2, got_val (go_var h.1.1 h.1.2 h.2.1 h.2.2) fun _ _ => rfl⟩
  else match h : T.gl.lookup x with
    | none => none
    | some d => if hg : GI sc x ∧ (x == ("__debug__" : Str)) = false then
        some ⟨.cst d, go_glob hg.1 (K0.gl x d h) hg.2, got_val (go_glob hg.1 (K0.gl x d h) hg.2) fun _ _ => rfl⟩ else none
def trConst (N : List Str) (sc : Scope) (k : Nat) (g : Gm) (j : Nat) (pos : Pos) : (v : Const) → Option (RE S c ht N sc k g (.Constant v j pos))
  | .none => some ⟨.cst .non, go_non, got_val go_non fun _ _ => rfl⟩
  | .bool b => some ⟨.cst (.bl b), go_bool, got_val go_bool fun _ _ => rfl⟩
  | .int i => some ⟨.cst (.int i), go_int, got_val go_int fun _ _ => rfl⟩
  | .str s => some ⟨.cst (.str s), go_str, got_val go_str fun _ _ => rfl⟩
  | _ => none
/-- a call's value, also as a test -/
def re1 {f : Expr} {args : List Expr} {kw : List Keyword} {pos : Pos} (x : Ex) (h : Go S N sc k g (.Call f args kw pos) (evE c ht x)) : RE S c ht N sc k g (.Call f args kw pos) := ⟨x, h, got_val h fun _ _ => rfl⟩
/-- f(args): isinstance, sorted(set(..)), len(set(..)), the builtins, own defs -/
def trCall (K0 : TtOk S T c ht k0) (hk : k0 ≤ k) (rec : (e : Expr) → Option (RE S c ht N sc k g e)) (f : Str) (p : Pos) (args : List Expr) (pos : Pos) : Option (RE S c ht N sc k g (.Call (.Name f p) args [] pos)) :=
  if h : f = ("isinstance" : Str) ∧ GI sc f then match args with
    | [e, .Name ty p2] => match tyOfN ty, rec e with
      | some ⟨t, ht'⟩, some ⟨x, q, _⟩ => if hs : shp e = true ∧ GI sc (t.nm : Str) then some (re1 (.isi [t] x) (by obtain ⟨rfl, hg⟩ := h; subst ht'; exact go_isi1 K0.nb hg hs.2 q hs.1)) else none
      | _, _ => none
    | [e, .Tuple es kk p2] => match tysOf sc es, rec e with
      | some ⟨(ts, ps), h1, h2, h3⟩, some ⟨x, q, _⟩ => if hs : shp e = true ∧ ts.length ≤ 100 then some (re1 (.isi ts x) (by obtain ⟨rfl, hg⟩ := h; rw [← h2]; exact go_isiT K0.nb h1 hs.2 hg h3 q hs.1)) else none
      | _, _ => none
    | _ => none
  else match biOf f with
    | some ⟨o, ho⟩ => if hg : GI sc f then (match (match o, ho, args with
        | .sorted, ho, [.Call (.Name f2 p2) [a] [] q2] => if h2 : f2 = ("set" : Str) ∧ GI sc f2 then (match rec a with
            | some ⟨x, q, _⟩ => if hs : shp a = true then some (re1 (.sset x) (by obtain ⟨rfl, hg2⟩ := h2; subst ho; exact go_sset K0.nb hg hg2 q hs)) else none
            | none => none) else none
        | .len, ho, [.Call (.Name f2 p2) [a] [] q2] => if h2 : f2 = ("set" : Str) ∧ GI sc f2 then (match rec a with
            | some ⟨x, q, _⟩ => if hs : shp a = true then some (re1 (.lset x) (by obtain ⟨rfl, hg2⟩ := h2; subst ho; exact go_lset K0.nb hg hg2 q hs)) else none
            | none => none) else none
        | _, _, _ => none : Option (RE S c ht N sc k g (.Call (.Name f p) args [] pos))) with
      | some r => some r
      | none => (match args with
        | [] => none
        | e :: es => match trL rec (e :: es) with
          | some ⟨xs, q, hs⟩ => some (re1 (.bi o xs) (by subst ho; exact go_bi K0.nb hg q hs))
          | none => none)) else none
    | none => match h : T.fn.lookup f with
      | none => none
      | some gi => if hg : GI sc f ∧ (f == ("__debug__" : Str)) = false then (match args with
        | [] => some (re1 (.call gi []) (go_call0 ((K0.fn f gi h).mono hk) hg.1 hg.2))
        | e :: es => match trL rec (e :: es) with
          | some ⟨xs, q, hs⟩ => some (re1 (.call gi xs) (go_call ((K0.fn f gi h).mono hk) hg.1 hg.2 q hs))
          | none => none) else none
/-- a.m(b) -/
def trMeth (rec : (e : Expr) → Option (RE S c ht N sc k g e)) (a : Expr) (m : Str) (ap : Pos) (b : Expr) (pos : Pos) : Option (RE S c ht N sc k g (.Call (.Attribute a m ap) [b] [] pos)) :=
  match rec a, rec b with
  | some ⟨x, h1, _⟩, some ⟨y, h2, _⟩ => if hc : (shp b = true ∧ noCall a = true) ∧ (ap.endLine == pos.line) = true then
      if hm : m = ("append" : Str) then some (re1 (.app x y) (by subst hm; exact go_app h1 h2 hc.1.1 (fun env => noCall_ab hc.1.2 _ env) hc.2))
      else if hm : m = ("extend" : Str) then some (re1 (.ext x y) (by subst hm; exact go_ext h1 h2 hc.1.1 (fun env => noCall_ab hc.1.2 _ env) hc.2))
      else if hm : m = ("index" : Str) then some (re1 (.idx x y) (by subst hm; exact go_idx h1 h2 hc.1.1 (fun env => noCall_ab hc.1.2 _ env) hc.2))
      else none
    else none
  | _, _ => none
def noArgs (a : Arguments) : Bool := a.posonlyargs.isEmpty && a.args.isEmpty && a.vararg.isNone && a.kwonlyargs.isEmpty && a.kw_defaults.isEmpty && a.kwarg.isNone && a.defaults.isEmpty
theorem noArgs_eq {a : Arguments} (h : noArgs a = true) : a = { posonlyargs := [], args := [], vararg := none, kwonlyargs := [], kw_defaults := [], kwarg := none, defaults := [] } := by
  obtain ⟨a1, a2, a3, a4, a5, a6, a7⟩ := a
  simp only [noArgs, Bool.and_eq_true, List.isEmpty_iff, Option.isNone_iff_eq_none] at h
  obtain ⟨⟨⟨⟨⟨⟨h1, h2⟩, h3⟩, h4⟩, h5⟩, h6⟩, h7⟩ := h
  subst h1 h2 h3 h4 h5 h6 h7
  rfl
theorem noArgs_def {a : Arguments} (h : noArgs a = true) (env : Env) : defaultsOf a env = ([], []) := by rw [noArgs_eq h]; rfl
theorem noArgs_bind {a : Arguments} (h : noArgs a = true) {body : Expr} {scope : Scope} (q : Str) (cl : List (Str × Addr)) (pm cv ctv : Value) : bindArgs (PySem.W.kla_fn "<lambda>" q a body scope cl pm cv ctv) ⟨[], []⟩ = pure [] := by
  rw [noArgs_eq h]; rfl
end
end Ev

set_option Elab.async false
set_option linter.all false
set_option maxRecDepth 100000
set_option maxHeartbeats 2000000
set_option autoImplicit false
namespace Ev
open PySem PySem.Spec PyProof.Rows L2 GxR
section
variable {S : Sx} {T : Tt} {c : Nat → List D → Oh → Rs D} {ht : List Hd} {k0 : Nat}
variable {N : List Str}
def re2 {sc : Scope} {k : Nat} {g : Gm} {e : Expr} (x : Ex) (h : Go S N sc k g e (evE c ht x)) (q : ∀ (env : Env) whole, isTrue e env whole = (do let v ← whole; standAt e.pos; holding [v] (truthy v))) : RE S c ht N sc k g e := ⟨x, h, got_val h q⟩
/-- all(..), any(..) -/
def trAl (K0 : TtOk S T c ht k0) (n m' : Nat) (sc : Scope) (rec : (e : Expr) → Option (RE S c ht N sc (k0 + (m' + 1)) .ge e)) (scope : Scope) (rin : (e : Expr) → Option (RE S c ht N scope (k0 + m') .no e)) (kk : Bool) (p gpos pos : Pos) (elt tg iter : Expr) (ifs : List Expr) (hg : GI sc ((if kk then "all" else "any" : String) : Str)) :
    Option (RE S c ht N sc (k0 + (m' + 1)) .ge (.Call (.Name ((if kk then "all" else "any" : String) : Str) p) [.GeneratorExp elt [⟨tg, iter, ifs, 0⟩] scope gpos] [] pos)) :=
  match trI K0.nb tg rec iter, trTg (fun x => scope.names.lookup x = some .local) N n tg, trC rin ifs, rin elt with
  | some ⟨(w, b), hi⟩, some ⟨t, tr⟩, some ⟨cs, hc⟩, some ⟨x, he, _⟩ =>
    if h : (blkC N sc scope (ownOf N scope) = true ∧ (b = true → isTup t = true)) ∧ ((∀ i ∈ t.sl, i ∈ (ownOf N scope).map (·.2)) ∧ noSet iter = true) ∧ ((∀ y ∈ scope.names, y.2 ≠ .cell) ∧ scope.isCoroutine = false ∧ scope.names.lookup (".0" : Str) = some NameKind.local) then
      some (re1 (.al kk t w cs ((ownOf N scope).map (·.2)) x) (go_al K0.nb hg hi ⟨blkOk_by h.1.1, h.2.2.1, h.2.2.2.1, h.2.2.2.2, tr, isTup_ok h.1.2, h.2.1.1⟩ hc he fun env v => noSet_gf h.2.1.2 env v))
    else none
  | _, _, _, _ => none
def trE (K0 : TtOk S T c ht k0) (N : List Str) : (n m : Nat) → (g : Gm) → (sc : Scope) → (e : Expr) → Option (RE S c ht N sc (k0 + m) g e)
  | 0, _, _, _, _ => none
  | n + 1, m, g, sc, e => match e with
    | .Constant v j pos => trConst N sc (k0 + m) g j pos v
    | .Name x pos => trName K0 N sc (k0 + m) g x pos
    | .Tuple es j pos => match trL (trE K0 N n m g sc) es with
      | some ⟨xs, h, _⟩ => some (re2 (.tup xs) (go_tup h) fun _ _ => rfl)
      | none => none
    | .List es pos => match trL (trE K0 N n m g sc) es with
      | some ⟨xs, h, _⟩ => some (re2 (.lst xs) (go_lst h) fun _ _ => rfl)
      | none => none
    | .BinOp a op b pos => match bopOf op, trE K0 N n m g sc a, trE K0 N n m g sc b with
      | some ⟨o, ho⟩, some ⟨x, h, _⟩, some ⟨y, q, _⟩ => some (re2 (.bin o x y) (by subst ho; exact go_bin h q) fun _ _ => rfl)
      | _, _, _ => none
    | .UnaryOp .USub a pos => match trE K0 N n m g sc a with
      | some ⟨x, h, _⟩ => some (re2 (.neg x) (go_neg h) fun _ _ => rfl)
      | none => none
    | .UnaryOp .Not a pos => match trE K0 N n m g sc a with
      | some ⟨x, h, h'⟩ => some ⟨.not x, go_not h, got_not h'⟩
      | none => none
    | .BoolOp op es pos => match trB op (trE K0 N n m g sc) pos es with
      | some ⟨x, h, h'⟩ => some ⟨x, h, GoW.t h'⟩
      | none => none
    | .IfExp q a b pos => match trE K0 N n m g sc q, trE K0 N n m g sc a, trE K0 N n m g sc b with
      | some ⟨z, _, hz⟩, some ⟨x, h, h'⟩, some ⟨y, q, q'⟩ => some ⟨.ite z x y, go_ite hz h q, got_ite hz h' q'⟩
      | _, _, _ => none
    | .Compare a os bs pos => trCmp a (trE K0 N n m g sc) pos os bs
    | .Subscript a (.Slice lo hi none p2) pos => match trE K0 N n m g sc a, trO (trE K0 N n m g sc) lo, trO (trE K0 N n m g sc) hi with
      | some ⟨x, h, _⟩, some ⟨ls, h1⟩, some ⟨us, h2⟩ => some (re2 (.sl x ls us) (go_sl h h1 h2) fun _ _ => rfl)
      | _, _, _ => none
    | .Subscript a b pos => match trE K0 N n m g sc a, trE K0 N n m g sc b with
      | some ⟨x, h, _⟩, some ⟨y, q, _⟩ => if hs : shpI b = true then some (re2 (.ix x y) (go_ix h q hs) fun _ _ => rfl) else none
      | _, _ => none
    | .ListComp elt [⟨tg, iter, ifs, as⟩] scope pos => if ha : as = 0 then (match trLc K0.nb n (trE K0 N n m g sc) scope (trE K0 N n m g (relS scope sc)) elt tg iter ifs with
      | some L => some (re2 (.lc L.t L.w L.cs ((ownOf N scope).map (·.2)) L.x) (by subst ha; exact go_lc L.hi L.ok L.tr L.hb L.hsl L.hc L.he L.hf) fun _ _ => rfl)
      | none => none) else none
    | .Call (.Name f p) [.GeneratorExp elt [⟨tg, iter, ifs, as⟩] scope gpos] [] pos => match g, m with
      | .ge, m' + 1 => if ha : as = 0 then
          (if h : f = ("all" : Str) ∧ GI sc f then (match trAl K0 n m' sc (trE K0 N n (m' + 1) .ge sc) scope (trE K0 N n m' .no scope) true p gpos pos elt tg iter ifs (by obtain ⟨rfl, h⟩ := h; exact h) with
            | some r => some (by obtain ⟨rfl, _⟩ := h; subst ha; exact r)
            | none => none)
          else if h : f = ("any" : Str) ∧ GI sc f then (match trAl K0 n m' sc (trE K0 N n (m' + 1) .ge sc) scope (trE K0 N n m' .no scope) false p gpos pos elt tg iter ifs (by obtain ⟨rfl, h⟩ := h; exact h) with
            | some r => some (by obtain ⟨rfl, _⟩ := h; subst ha; exact r)
            | none => none)
          else none) else none
      | _, _ => none
    | .Call (.Name f p) [.Lambda params body scope lpos] [] pos => match g, m with
      | .la, m' + 2 => if h : (T.hd = some f ∧ GI sc f) ∧ ((f == ("__debug__" : Str)) = false ∧ LamX.lamSB sc scope = true ∧ noArgs params = true) then
          (match trE K0 N n m' .no scope body with
            | some ⟨x, q, _⟩ => some (re1 (.heard x) (go_heard (k := k0 + m') (K0.hd f h.1.1) h.1.2 h.2.1 (LamX.lamS_by h.2.2.1) (fun env => noArgs_def h.2.2.2 env) (fun q cl pm cv ctv => noArgs_bind h.2.2.2 q cl pm cv ctv) q))
            | none => none) else none
      | _, _ => none
    | .Call (.Name f p) args [] pos => trCall K0 (Nat.le_add_right k0 m) (trE K0 N n m g sc) f p args pos
    | .Call (.Attribute a mm ap) [b] [] pos => trMeth (trE K0 N n m g sc) a mm ap b pos
    | _ => none
end
end Ev

set_option Elab.async false
set_option linter.all false
set_option maxRecDepth 100000
set_option maxHeartbeats 2000000
set_option autoImplicit false
namespace Ev
open PySem PySem.Spec PyProof.Rows L2 GxR
/-! statements -/
theorem blk_fn {env : Env} (h : env.scope.kind = .function) : env.blockKind = .function := by unfold Env.blockKind; rw [h]; rfl
def notStar : Expr → Bool
  | .Starred .. => false
  | _ => true
theorem nsF {e : Expr} (h : notStar e = true) (q : (match (generalizing := false) e with | .Starred .. => true | _ => false) = true) : False := by cases e <;> first | (cases q; done) | (cases h; done)
theorem sw_par2 {x y : Str} {a b : Expr} {px py pt : Pos} {kt k2 : Nat} {pt2 : Pos} {sc : Scope} (hx : sc.names.lookup x = some .local) (hy : sc.names.lookup y = some .local) (hxy : (x == y) = false) (hl : (py.line == px.line) = true) (ha : notStar a = true) (hb : notStar b = true)
    (h1 : (foldedForSure 8 a && foldedForSure 8 b) = false) (h2 : (constantsAlone 8 a && constantsAlone 8 b) = false) :
    ∀ env : Env, env.scope = sc → env.scope.kind = .function → swappedStores [.Tuple [.Name x px, .Name y py] kt pt] (.Tuple [a, b] k2 pt2) env = pure (some [x, y]) := fun env hs hk => by
  subst hs
  have kx : env.kindOf x = some .local := hx
  have ky : env.kindOf y = some .local := hy
  have hb' := blk_fn hk
  have hl' : py.line = px.line := by simpa using hl
  have hxy' : ¬ x = y := by simpa using hxy
  have hyx' : ¬ y = x := fun e => hxy' e.symm
  have hyx : (y == x) = false := by simpa using hyx'
  unfold swappedStores
  simp only [List.filterMap_cons, List.filterMap_nil, hb', kx, ky, Expr.pos, hl', List.head?, Option.map, Option.getD]
  simp [List.eraseDups, List.eraseDupsBy, List.eraseDupsBy.loop, hxy, hyx]
  rw [if_neg (fun q => q.elim (nsF ha) (nsF hb))]
  rw [if_neg (by rintro ⟨q, r⟩; rw [q, r] at h1; cases h1), if_neg (by rintro ⟨q, r⟩; rw [q, r] at h2; cases h2)]
theorem sw_par3 {x y z : Str} {a b d : Expr} {px py pz pt : Pos} {kt k2 : Nat} {pt2 : Pos} {sc : Scope} (hx : sc.names.lookup x = some .local) (hy : sc.names.lookup y = some .local) (hz : sc.names.lookup z = some .local) (hxy : (x == y) = false) (hxz : (x == z) = false) (hyz : (y == z) = false) (hl : (py.line == px.line) = true) (hl2 : (pz.line == px.line) = true)
    (ha : notStar a = true) (hb : notStar b = true) (hd : notStar d = true)
    (h1 : (foldedForSure 8 a && (foldedForSure 8 b && foldedForSure 8 d)) = false) (h2 : (constantsAlone 8 a && (constantsAlone 8 b && constantsAlone 8 d)) = false) :
    ∀ env : Env, env.scope = sc → env.scope.kind = .function → swappedStores [.Tuple [.Name x px, .Name y py, .Name z pz] kt pt] (.Tuple [a, b, d] k2 pt2) env = pure (some [x, y, z]) := fun env hs hk => by
  subst hs
  have kx : env.kindOf x = some .local := hx
  have ky : env.kindOf y = some .local := hy
  have kz : env.kindOf z = some .local := hz
  have hb' := blk_fn hk
  have hl' : py.line = px.line := by simpa using hl
  have hl2' : pz.line = px.line := by simpa using hl2
  have hxy' : ¬ x = y := by simpa using hxy
  have hxz' : ¬ x = z := by simpa using hxz
  have hyz' : ¬ y = z := by simpa using hyz
  have hyx : (y == x) = false := by simpa using fun e : y = x => hxy' e.symm
  have hzx : (z == x) = false := by simpa using fun e : z = x => hxz' e.symm
  have hzy : (z == y) = false := by simpa using fun e : z = y => hyz' e.symm
  unfold swappedStores
  simp only [List.filterMap_cons, List.filterMap_nil, hb', kx, ky, kz, Expr.pos, hl', hl2', List.head?, Option.map, Option.getD]
  simp [List.eraseDups, List.eraseDupsBy, List.eraseDupsBy.loop, hxy, hxz, hyz, hyx, hzx, hzy]
  rw [if_neg (fun q => q.elim (nsF ha) (fun q => q.elim (nsF hb) (nsF hd)))]
  rw [if_neg (by rintro ⟨q, r, t⟩; rw [q, r, t] at h1; cases h1), if_neg (by rintro ⟨q, r, t⟩; rw [q, r, t] at h2; cases h2)]
/-- no swap -/
theorem sw_not {ts : Expr} {e : Expr} (h : (match ts, e with | .Tuple .., .Tuple .. => true | .List .., .Tuple .. => true | _, _ => false) = false) (env : Env) : swappedStores [ts] e env = pure none := by
  cases ts <;> first | rfl | (cases e <;> first | rfl | cases h)
theorem sw_fold {es vs : List Expr} {kt k2 : Nat} {pt pt2 : Pos} (h : vs.all (foldedForSure 8) = true) (env : Env) : swappedStores [.Tuple es kt pt] (.Tuple vs k2 pt2) env = pure none := by
  unfold swappedStores
  simp only [h]
  simp only [pure_bind, if_true]
  repeat' split
  all_goals rfl
theorem sw_long {es vs : List Expr} {kt k2 : Nat} {pt pt2 : Pos} (h : (es.length == 2 || es.length == 3) = false) (env : Env) : swappedStores [.Tuple es kt pt] (.Tuple vs k2 pt2) env = pure none := by
  unfold swappedStores
  simp only [h]
  rfl
def notLoc (sc : Scope) : Expr → Bool
  | .Name y _ => !decide (sc.names.lookup y = some .local)
  | _ => true
theorem fm_lt {α β : Type} {F : α → Option β} : ∀ {l : List α}, (∃ x ∈ l, F x = none) → (l.filterMap F).length < l.length
  | [], ⟨x, h, _⟩ => by cases h
  | a :: l, ⟨x, h, e⟩ => by
    have hle : (l.filterMap F).length ≤ l.length := List.length_filterMap_le _ _
    rcases List.mem_cons.mp h with rfl | h
    · rw [List.filterMap_cons, e]; simp; omega
    · have ih := fm_lt (F := F) ⟨x, h, e⟩
      rw [List.filterMap_cons]
      cases F a with
      | none => show (List.filterMap F l).length < l.length + 1; omega
      | some y => show (List.filterMap F l).length + 1 < l.length + 1; omega
/-- a store whose names are no locals -/
theorem sw_notLoc {es vs : List Expr} {kt k2 : Nat} {pt pt2 : Pos} {sc : Scope} (h : es.any (notLoc sc) = true) : ∀ env : Env, env.scope = sc → swappedStores [.Tuple es kt pt] (.Tuple vs k2 pt2) env = pure none := fun env hs => by
  subst hs
  obtain ⟨x, hx, e⟩ := List.any_eq_true.mp h
  unfold swappedStores
  simp only [pure_bind]
  split
  · rfl
  · split
    · rfl
    · rw [if_pos]
      rw [Bool.or_eq_true]
      left
      have := fm_lt (F := fun e : Expr => match e with
        | .Name id pos => if (env.kindOf id == some .local && pos.line == (es.head?.map (·.pos.line)).getD 0) = true then some id else none
        | _ => none) (l := es) ⟨x, hx, by
          cases x with
          | Name id pos =>
            have e : (!decide (env.scope.names.lookup id = some .local)) = true := e
            have e1 : ¬ env.scope.names.lookup id = some .local := by simpa using e
            have e2 : ¬ env.kindOf id = some .local := e1
            have e3 : (env.kindOf id == some .local) = false := by simpa using e2
            simp only [e3, Bool.false_and]
            rfl
          | _ => rfl⟩
      have e4 : ∀ a b : Nat, a < b → (a != b) = true := fun a b hab => by simp; omega
      exact e4 _ _ this
/-- a comprehension that is stored in a name that is no local -/
theorem sw_cell {e : Expr} {y : Str} {py : Pos} {l : Nat} {sc : Scope} (h : ¬ sc.names.lookup y = some .local) : ∀ env : Env, env.scope = sc → swapsWithSole [.Name y py] e l env = pure false := fun env hs => by
  subst hs
  have ky : (env.kindOf y == some .local) = false := by
    have : ¬ env.kindOf y = some .local := h
    simpa using this
  show swapsWith e (some (.Name y py)) l env = pure false
  cases e <;> first | rfl | (unfold swapsWith; simp only [ky]; simp)
theorem sw_sub {e o i : Expr} {pp : Pos} (l : Nat) (env : Env) : swapsWithSole [.Subscript o i pp] e l env = pure false := by
  show swapsWith e (some (.Subscript o i pp)) l env = pure false
  cases e <;> rfl
theorem sw_tup {e : Expr} {es : List Expr} {kk : Nat} {pp : Pos} (l : Nat) (env : Env) : swapsWithSole [.Tuple es kk pp] e l env = pure false := by
  show swapsWith e (some (.Tuple es kk pp)) l env = pure false
  cases e <;> rfl
end Ev

set_option Elab.async false
set_option linter.all false
set_option maxRecDepth 100000
set_option maxHeartbeats 2000000
set_option autoImplicit false
namespace Ev
open PySem PySem.Spec PyProof.Rows L2 GxR
section
variable {S : Sx} {T : Tt} {c : Nat → List D → Oh → Rs D} {ht : List Hd} {k0 : Nat} {W : Nat}
abbrev RSx (S : Sx) (c : Nat → List D → Oh → Rs D) (ht : List Hd) (W : Nat) (N : List Str) (sc : Scope) (k : Nat) (g : Gm) (st : Stmt) : Type := {x : St // GoS S N sc k g st (evS c ht W x)}
abbrev RSs (S : Sx) (c : Nat → List D → Oh → Rs D) (ht : List Hd) (W : Nat) (N : List Str) (sc : Scope) (k : Nat) (g : Gm) (sts : List Stmt) : Type := {x : List St // GoSs S N sc k g sts (evSs c ht W x)}
variable {N : List Str} {sc : Scope} {k : Nat} {g : Gm}
/-- a value that is stored: a list that is changed later is made anew in the own heap -/
def trV (rec : (e : Expr) → Option (RE S c ht N sc k g e)) (b : Bool) (e : Expr) : Option {x : Ex // Go S N sc k g e (evE c ht x)} :=
  match (match e with
    | .List es pos => if b = true then (match trL rec es with
      | some ⟨xs, h, _⟩ => some ⟨.mk xs, go_mk h⟩
      | none => none) else none
    | _ => none : Option {x : Ex // Go S N sc k g e (evE c ht x)}) with
  | some r => some r
  | none => match rec e with
    | some ⟨x, h, _⟩ => some ⟨x, h⟩
    | none => none
def isMu (mu : List Str) : Expr → Bool
  | .Name x _ => decide (x ∈ mu)
  | _ => false
/-- a tuple display whose items are stored beside one another -/
def trVL (mu : List Str) (rec : (e : Expr) → Option (RE S c ht N sc k g e)) : (ts : List Expr) → (es : List Expr) → Option (RLx S c ht N sc k g es)
  | t :: ts, e :: es => match trV rec (isMu mu t) e, trVL mu rec ts es with
    | some ⟨x, h⟩, some ⟨xs, hs, h2⟩ => if hh : shp e = true then some ⟨x :: xs, gol_cons h hs (shp_star hh es), by simp [hh, h2]⟩ else none
    | _, _ => none
  | _, [] => some ⟨[], gol_nil, rfl⟩
  | [], _ => none
def notTup : Expr → Bool
  | .Tuple .. => false
  | _ => true
def isTupList (ts e : Expr) : Bool := match ts, e with | .Tuple .., .Tuple .. => true | .List .., .Tuple .. => true | _, _ => false
def dlook (sc : Scope) (x : Str) : Bool := decide (sc.names.lookup x = some .local)
/-- x, y = a, b stored from the right -/
def trPar (mu : List Str) (rec : (e : Expr) → Option (RE S c ht N sc k g e)) (ts : List Expr) (kt : Nat) (pt : Pos) (vs : List Expr) (k2 : Nat) (pt2 : Pos) (pos : Pos) : Option (RSx S c ht W N sc k g (.Assign [.Tuple ts kt pt] (.Tuple vs k2 pt2) pos)) :=
  match ts, vs with
  | [.Name x px, .Name y py], [a, b] =>
    if h : ((N[N.idxOf x]? = some x ∧ N[N.idxOf y]? = some y ∧ N.idxOf x ≠ N.idxOf y) ∧ (sc.names.lookup x = some .local ∧ sc.names.lookup y = some .local)) ∧
        (((x == y) = false ∧ (py.line == px.line) = true) ∧ (notStar a = true ∧ notStar b = true) ∧ ((foldedForSure 8 a && foldedForSure 8 b) = false ∧ (constantsAlone 8 a && constantsAlone 8 b) = false)) then
      match trVL mu rec [.Name x px, .Name y py] [a, b] with
      | some ⟨[xa, xb], q, _⟩ => some ⟨.as (.t [.v (N.idxOf x), .v (N.idxOf y)]) (.tup [xa, xb]), gos_par2 h.1.1.1 h.1.1.2.1 h.1.1.2.2 h.1.2.1 h.1.2.2 q (sw_par2 h.1.2.1 h.1.2.2 h.2.1.1 h.2.1.2 h.2.2.1.1 h.2.2.1.2 h.2.2.2.1 h.2.2.2.2)⟩
      | _ => none
    else none
  | [.Name x px, .Name y py, .Name z pz], [a, b, d] =>
    if h : ((N[N.idxOf x]? = some x ∧ N[N.idxOf y]? = some y ∧ N[N.idxOf z]? = some z) ∧ (N.idxOf x ≠ N.idxOf y ∧ N.idxOf x ≠ N.idxOf z ∧ N.idxOf y ≠ N.idxOf z) ∧ (sc.names.lookup x = some .local ∧ sc.names.lookup y = some .local ∧ sc.names.lookup z = some .local)) ∧
        (((x == y) = false ∧ (x == z) = false ∧ (y == z) = false) ∧ ((py.line == px.line) = true ∧ (pz.line == px.line) = true) ∧ (notStar a = true ∧ notStar b = true ∧ notStar d = true) ∧ ((foldedForSure 8 a && (foldedForSure 8 b && foldedForSure 8 d)) = false ∧ (constantsAlone 8 a && (constantsAlone 8 b && constantsAlone 8 d)) = false)) then
      match trVL mu rec [.Name x px, .Name y py, .Name z pz] [a, b, d] with
      | some ⟨[xa, xb, xd], q, _⟩ => some ⟨.as (.t [.v (N.idxOf x), .v (N.idxOf y), .v (N.idxOf z)]) (.tup [xa, xb, xd]),
          gos_par3 h.1.1.1 h.1.1.2.1 h.1.1.2.2 h.1.2.1.1 h.1.2.1.2.1 h.1.2.1.2.2 h.1.2.2.1 h.1.2.2.2.1 h.1.2.2.2.2 q (sw_par3 h.1.2.2.1 h.1.2.2.2.1 h.1.2.2.2.2 h.2.1.1 h.2.1.2.1 h.2.1.2.2 h.2.2.1.1 h.2.2.1.2 h.2.2.2.1.1 h.2.2.2.1.2.1 h.2.2.2.1.2.2 h.2.2.2.2.1 h.2.2.2.2.2)⟩
      | _ => none
    else none
  | _, _ => none
/-- a store -/
def trAs (nb : Nb S) (n : Nat) (mu : List Str) (rec : (e : Expr) → Option (RE S c ht N sc k g e)) (rel : (scope : Scope) → (e : Expr) → Option (RE S c ht N (relS scope sc) k g e)) (tg e : Expr) (pos : Pos) : Option (RSx S c ht W N sc k g (.Assign [tg] e pos)) :=
  match tg, e with
  | .Subscript o i pp, e => match rec o, rec i, rec e with
    | some ⟨xo, ho, _⟩, some ⟨xi, hi, _⟩, some ⟨x, he, _⟩ => if hs : shpI i = true then some ⟨.six xo xi x, gos_six hs ho hi he (fun env => sw_sub _ env) (fun env => rfl)⟩ else none
    | _, _, _ => none
  | .Name y py, .ListComp elt [⟨t2, iter, ifs, as⟩] scope lp =>
    if ha : as = 0 then
    (if h : sc.names.lookup y = some .local then
      (match trLc nb n rec scope (rel scope) elt t2 iter ifs with
        | some L => if hh : (N[N.idxOf y]? = some y ∧ (py.line == lp.line) = true) ∧ (scope.names.any fun (n, k) => n == y && (k == .local || k == .cell)) = false then
            some ⟨.as (.v (N.idxOf y)) (.lc L.t L.w L.cs ((ownOf N scope).map (·.2)) L.x), by subst ha; exact gos_setLc L.hi L.ok L.tr L.hb L.hsl L.hc L.he L.hf hh.1.1 h hh.1.2 hh.2⟩ else none
        | none => none)
    else (match trTg (fun y => Loc sc y) N n (.Name y py), rec (.ListComp elt [⟨t2, iter, ifs, as⟩] scope lp) with
      | some ⟨t, tr⟩, some ⟨x, q, _⟩ => some ⟨.as t x, gos_as q tr (sw_cell h) (fun env _ => rfl)⟩
      | _, _ => none)) else none
  | .Tuple ts kt pt, .Tuple vs k2 pt2 =>
    match (trPar mu rec ts kt pt vs k2 pt2 pos : Option (RSx S c ht W N sc k g (.Assign [.Tuple ts kt pt] (.Tuple vs k2 pt2) pos))) with
    | some r => some r
    | none => match trTg (fun y => Loc sc y) N n (.Tuple ts kt pt), trVL mu rec ts vs with
      | some ⟨t, tr⟩, some ⟨xs, q, _⟩ =>
        if h : vs.all (foldedForSure 8) = true then some ⟨.as t (.tup xs), gos_as (go_tup q) tr (fun env _ => sw_tup _ env) (fun env _ => sw_fold h env)⟩
        else if h : (ts.length == 2 || ts.length == 3) = false then some ⟨.as t (.tup xs), gos_as (go_tup q) tr (fun env _ => sw_tup _ env) (fun env _ => sw_long h env)⟩
        else if h : ts.any (notLoc sc) = true then some ⟨.as t (.tup xs), gos_as (go_tup q) tr (fun env _ => sw_tup _ env) (fun env hs => sw_notLoc h env hs)⟩
        else none
      | _, _ => none
  | tg, e => match trTg (fun y => Loc sc y) N n tg, trV rec (isMu mu tg) e with
    | some ⟨t, tr⟩, some ⟨x, q⟩ => if h : isTupList tg e = false ∧ noCmp e = true then
        some ⟨.as t x, gos_as q tr (fun env _ => noCmp_sw h.2 _ _ env) (fun env _ => sw_not h.1 env)⟩ else none
    | _, _ => none
end
end Ev

set_option Elab.async false
set_option linter.all false
set_option maxRecDepth 100000
set_option maxHeartbeats 2000000
set_option autoImplicit false
namespace Ev
open PySem PySem.Spec PyProof.Rows L2 GxR
section
variable {S : Sx} {T : Tt} {c : Nat → List D → Oh → Rs D} {ht : List Hd} {k0 : Nat} {W : Nat}
variable {N : List Str} {sc : Scope} {k : Nat} {g : Gm}
def trSs (rec : (st : Stmt) → Option (RSx S c ht W N sc k g st)) : (sts : List Stmt) → Option (RSs S c ht W N sc k g sts)
  | [] => some ⟨[], goss_nil⟩
  | s :: ss => match rec s, trSs rec ss with
    | some ⟨x, h⟩, some ⟨xs, hs⟩ => some ⟨x :: xs, goss_cons h hs⟩
    | _, _ => none
def trS (K0 : TtOk S T c ht k0) (W : Nat) (N : List Str) (mu : List Str) (m : Nat) (g : Gm) (sc : Scope) : (n : Nat) → (st : Stmt) → Option (RSx S c ht W N sc (k0 + m) g st)
  | 0, _ => none
  | n + 1, st => match st with
    | .Pass pos => some ⟨.pss, gos_pass⟩
    | .Break pos => some ⟨.brk, gos_brk⟩
    | .Continue pos => some ⟨.cnt, gos_cnt⟩
    | .Expr (.Constant (.str x) j p) pos => some ⟨.pss, gos_doc⟩
    | .Expr e pos => match trE K0 N n m g sc e with
      | some ⟨x, h, _⟩ => if hc : noCmp e = true then some ⟨.ex x, gos_ex h (fun l env => noCmp_sw hc none l env)⟩ else none
      | none => none
    | .Return (some e) pos => match trE K0 N n m g sc e with
      | some ⟨x, h, _⟩ => some ⟨.ret x, gos_ret h⟩
      | none => none
    | .If q a b pos => match trE K0 N n m g sc q, trSs (trS K0 W N mu m g sc n) a, trSs (trS K0 W N mu m g sc n) b with
      | some ⟨x, _, h⟩, some ⟨xs, ha⟩, some ⟨ys, hb⟩ => some ⟨.iff x xs ys, gos_if h ha hb⟩
      | _, _, _ => none
    | .While q b [] pos => match trE K0 N n m g sc q, trSs (trS K0 W N mu m g sc n) b with
      | some ⟨x, _, h⟩, some ⟨xs, ha⟩ => some ⟨.whl x xs, gos_whl h ha⟩
      | _, _ => none
    | .For tg iter b [] pos => match trI K0.nb tg (trE K0 N n m g sc) iter, trTg (fun y => Loc sc y) N n tg, trSs (trS K0 W N mu m g sc n) b with
      | some ⟨(w, bb), hi⟩, some ⟨t, tr⟩, some ⟨xs, ha⟩ => if h : (bb = true → isTup t = true) ∧ noSet1 iter = true then some ⟨.lop t w xs, gos_for hi tr (isTup_ok h.1) ha (fun env v => noSet_fs h.2 env v)⟩ else none
      | _, _, _ => none
    | .Assign [tg] e pos => trAs K0.nb n mu (trE K0 N n m g sc) (fun scope => trE K0 N n m g (relS scope sc)) tg e pos
    | .AugAssign (.Name y py) op e pos => match bopOf op, trE K0 N n m g sc e with
      | some ⟨o, ho⟩, some ⟨x, h, _⟩ => if hh : (N[N.idxOf y]? = some y ∧ Loc sc y) ∧ (o = .add ∨ o = .sub) then some ⟨.aug (N.idxOf y) o x, by subst ho; exact gos_aug hh.1.1 hh.1.2 h hh.2⟩ else none
      | _, _ => none
    | .Raise (some (.Call (.Name x p) [a] [] pos')) none pos => match hx : T.ex.lookup x, trE K0 N n m g sc a with
      | some ci, some ⟨xa, h, _⟩ => if hh : (GI sc x ∧ (x == ("__debug__" : Str)) = false) ∧ shp a = true then some ⟨.rse ci [xa], gos_rse (K0.ex x ci hx) hh.1.1 hh.1.2 h hh.2⟩ else none
      | _, _ => none
    | _ => none
/-- a def's body -/
def trD (K0 : TtOk S T c ht k0) (W : Nat) (N : List Str) (mu : List Str) (m : Nat) (g : Gm) (st : Stmt) : Option (RSs S c ht W N (defScope st) (k0 + m) g (defBody st)) := trSs (trS K0 W N mu m g (defScope st) 40) (defBody st)
end
end Ev

set_option Elab.async false
set_option linter.all false
set_option maxRecDepth 100000
set_option maxHeartbeats 2000000
set_option autoImplicit false
namespace Ev
open PySem PySem.Spec PyProof.Rows L2 GxR He
/-! ### a head's facts, with methods that close over their class; the fragment holds cStatics too -/
abbrev FnC : Type := Option (Str × Str × Arguments × FuncBody × Scope × Addr × List Str × Addr)
def fnC (K : PySem.W.Frag) (p : Str × Option Str) : FnC := match K.lookup (fAd K p) with
  | some ⟨_, _, .func fd, _⟩ => some (fd.name, fd.qualname, fd.params, fd.body, fd.scope, fd.globals, fd.closure.map (·.1), fd.builtins)
  | _ => none
/-- one such method: class, name, qualified name, parameters, body, scope -/
structure DefC where
  cl : Str
  name : Str
  qual : Str
  params : Arguments
  body : List Stmt
  scope : Scope
def DefC.at_ (d : DefC) : Str × Option Str := (d.cl, some d.name)
def DefC.val (d : DefC) : FnC := some (d.name, d.qual, d.params, .stmts d.body, d.scope, mainGlobals, ["__class__"], builtinsNs)
abbrev AlY : Type := AlT × Bool × List FnC
def frY (n : Nat) (g : Addr → Option Obj) : PySem.W.Frag := frT g (PySem.cStatics :: asD g n)
def obsY (n : Nat) (fa : List Fa) (fn : List DefD) (tf : List Defn) (ex : PySem.W.Frag → Bool) (cs : List DefC) (g : Addr → Option Obj) : AlY :=
  (obsT fa fn [] (frY n g), (ex (frY n g) && tabsB g tf (frY n g)), cs.map fun d => fnC (frY n g) d.at_)
def valY (fn : List DefD) (cs : List DefC) (w : World) : AlY := (valT fn [] w, true, cs.map DefC.val)
structure SaysY (fa : List Fa) (fn : List DefD) (tf : List Defn) (ex : PySem.W.Frag → Bool) (cs : List DefC) (w : World) (h : Heap) (K : PySem.W.Frag) : Prop where
  ft : SaysT fa fn [] w K
  bits : ex K = true
  hds : ∀ d ∈ tf, PySem.W.codeHdIn K (cT K d).1 (cT K d).2 = true
  outs : ∀ d ∈ tf, K.lookup (cT K d).2 = none
  nils : ∀ d ∈ tf, h.get? (cT K d).2 = some { cls := .none, data := .fields #[] }
  cl : cs.map (fun d => fnC K d.at_) = cs.map DefC.val
theorem says_of {n : Nat} {fa : List Fa} {fn : List DefD} {tf : List Defn} {ex : PySem.W.Frag → Bool} {cs : List DefC} {w : World} {h : Heap} (e : obsY n fa fn tf ex cs h.get? = valY fn cs w) : SaysY fa fn tf ex cs w h (frY n h.get?) := by
  have b := congrArg (fun z : AlY => z.2.1) e
  have b : (ex (frY n h.get?) && tabsB h.get? tf (frY n h.get?)) = true := b
  have bt := (ba b).2
  have tb : ∀ d ∈ tf, PySem.W.codeHdIn (frY n h.get?) (cT (frY n h.get?) d).1 (cT (frY n h.get?) d).2 = true ∧ ∃ ob, h.get? (cT (frY n h.get?) d).2 = some ob ∧ emptyTab ob = true := fun d hd => by
    have q := ba (List.all_eq_true.mp bt d hd)
    refine ⟨q.1, ?_⟩
    have q2 := q.2
    split at q2
    · rename_i ob hob
      exact ⟨ob, hob, q2⟩
    · cases q2
  refine ⟨congrArg (fun z : AlY => z.1) e, (ba b).1, fun d hd => (tb d hd).1, fun d hd => ?_, fun d hd => ?_, congrArg (fun z : AlY => z.2.2) e⟩
  · obtain ⟨ob, e1, e2⟩ := (tb d hd).2
    exact frT_none e1 e2
  · obtain ⟨ob, e1, e2⟩ := (tb d hd).2
    rw [e1, emptyTab_eq e2]
def hookY (n : Nat) (fa : List Fa) (fn : List DefD) (tf : List Defn) (ex : PySem.W.Frag → Bool) (cs : List DefC) : PySem.W.Hook where
  α := AlY
  obs := fun s => obsY n fa fn tf ex cs s.heap.get?
  val := fun w => valY fn cs w
  says := fun w h => ∃ K : PySem.W.Frag, K.In h ∧ SaysY fa fn tf ex cs w h K
  of := fun _ _ e => ⟨_, frT_in, says_of e⟩
  keeps := fun _ _ _ ⟨K, hK, q⟩ k => ⟨K, PySem.W.Frag.In.keeps hK k, ⟨q.ft, q.bits, q.hds, q.outs, fun d hd => k _ _ (q.nils d hd), q.cl⟩⟩
theorem obsY_eq {n : Nat} {fa : List Fa} {fn : List DefD} {tf : List Defn} {ex : PySem.W.Frag → Bool} {cs : List DefC} {g : Addr → Option Obj} {s : Shared} (hg : ∀ a, g a = s.heap.get? a) : obsY n fa fn tf ex cs g = (hookY n fa fn tf ex cs).obs s := by
  have := funext hg
  subst this
  rfl
/-! ### own errors -/
def vClsB (K : PySem.W.Frag) (C : Addr) : Bool := match K.lookup C with
  | some ⟨.type "type", _, .cls cd, sl⟩ => (match cd.mro, sl.toList with
    | .ref c1 :: bm, [_, _, _, _, some (.builtin n), _] => c1 == C && (n == "ValueError.__new__" && (!cd.hasDel && (cd.hasDict && PySem.HandSPX.refsVE bm)))
    | _, _ => false)
  | _ => false
theorem vClsB_ok {K : PySem.W.Frag} {C : Addr} (q : vClsB K C = true) : ∃ nm q N bs bm sn sub ab col dd k0 k1 k2 k3 k5, K.lookup C = some (excClassObj nm q C N bs bm true sn sub ab col dd k0 k1 k2 k3 k5 "ValueError.__new__") ∧ PySem.HandSPX.refsVE bm = true := by
  unfold vClsB at q
  split at q
  · rename_i dd cd sl ho
    split at q
    · rename_i c1 bm k0 k1 k2 k3 n k5 hm hs
      simp only [Bool.and_eq_true, beq_iff_eq, Bool.not_eq_true'] at q
      obtain ⟨rfl, rfl, h3, h4, h5⟩ := q
      obtain ⟨nm, bs, mro, ns, qn, hd, sn, sub, ab, col, del⟩ := cd
      dsimp only at hm h3 h4
      subst hm h3 h4
      obtain ⟨l⟩ := sl
      simp only at hs
      subst hs
      exact ⟨nm, qn, ns, bs, bm, sn, sub, ab, col, dd, k0, k1, k2, k3, k5, ho, h5⟩
    · cases q
  · cases q
def ccOf (K : PySem.W.Frag) (x : Str) : Addr := match K.lookup (ma K (ga K x) "__init__") with
  | some ⟨_, _, .func fd, _⟩ => (match fd.closure with
    | [p] => p.2
    | _ => 0)
  | _ => 0
def cdOf (K : PySem.W.Frag) (x : Str) : Addr := match K.lookup (ma K (ga K x) "__init__") with
  | some ⟨_, _, .func fd, _⟩ => (match fd.code with
    | .ref a => a
    | _ => 0)
  | _ => 0
def cellB (K : PySem.W.Frag) (c C : Addr) : Bool := match K.lookup c with
  | some ⟨_, _, .cell (some (.ref d)), _⟩ => d == C
  | _ => false
def fileB (P : Program) (K : PySem.W.Frag) (c : Addr) : Bool := match K.lookup c with
  | some ⟨_, _, .fields vs, _⟩ => (match (vs[2]? : Option Value) with
    | some (Value.str file _) => ((P.main.file : Str) == file)
    | _ => false)
  | _ => false
def initB (K : PySem.W.Frag) (x qual : Str) : Bool := match K.lookup (ma K (ga K x) "__init__") with
  | some ⟨_, _, .func fd, _⟩ => (match fd.defaults, fd.kwdefaults, fd.code with
    | .none, .none, .ref c => PySem.W.codeIn K (.ref c) qual
    | _, _, _ => false)
  | _ => false
/-- what an own error over ValueError with one field asks of K -/
def ownB (P : Program) (K : PySem.W.Frag) (x f qual : Str) : Bool :=
  (vClsB K (ga K x) && (eqO (PySem.W.findIn K (.ref (ga K x)) "__setattr__") (some (some (.builtin "object.__setattr__"))) && (eqO (PySem.W.findIn K (.ref (ga K x)) f) (some none) &&
  (eqO (PySem.W.findIn K (.ref (ga K x)) "__init__") (some (some (.ref (ma K (ga K x) "__init__")))) && (decide (PySem.W.typeIn K (.ref (ma K (ga K x) "__init__")) = some (.type "function")) && PySem.W.keepIn K (.ref (ga K x))))))) &&
  ((decide (PySem.W.subIn K (.ref (ga K x)) (.type "BaseException") = some true) && (decide (PySem.W.subIn K (.ref (ga K x)) (.type "ValueError") = some true) && (decide (PySem.W.typeIn K (.ref (ga K x)) = some (.type "type")) && decide (PySem.W.mroIn K (ga K x) (.ref (ga K x)) = some true)))) &&
  (eqO (PySem.W.ks_superIn K (ga K x) (ga K x) "__init__") (some (some (.builtin "ValueError.__init__"))) && (eqO (PySem.W.nsIn K PySem.cStatics "thirdparty.any") (some none) && (cellB K (ccOf K x) (ga K x) && (fileB P K (cdOf K x) && initB K x qual)))))
theorem cellB_ok {K : PySem.W.Frag} {c C : Addr} (q : cellB K c C = true) : ∃ ccl ccd csl, K.lookup c = some ⟨ccl, ccd, .cell (some (.ref C)), csl⟩ := by
  unfold cellB at q
  split at q
  · rename_i a b d e ho
    have : d = C := beq_iff_eq.mp q
    subst this
    exact ⟨_, _, _, ho⟩
  · cases q
theorem fileB_ok {P : Program} {K : PySem.W.Frag} {c : Addr} (q : fileB P K c = true) : ∃ cl cd vs sl file tf, K.lookup c = some ⟨cl, cd, .fields vs, sl⟩ ∧ vs[2]? = some (.str file tf) ∧ ((P.main.file : Str) == file) = true := by
  unfold fileB at q
  split at q
  · rename_i ho
    split at q
    · rename_i hv
      exact ⟨_, _, _, _, _, _, ho, hv, q⟩
    · cases q
  · cases q
theorem initFn {K : PySem.W.Frag} {x f qual : Str} {ae : Expr} {p1 p2 q1 q2 q3 q4 q5 q6 q7 q8 q9 : Pos} (e : fnC K (x, some "__init__") = DefC.val ⟨x, "__init__", qual, PySem.SupX.iA f p1 p2, PySem.SupX.iB f ae q1 q2 q3 q4 q5 q6 q7 q8 q9, PySem.SupX.iS f⟩) (hb : initB K x qual = true) (hln : (q3.endLine == q4.line) = true) :
    ∃ (oc : Value) (od : Option Addr) (doc pm : Value) (an : Option Addr) (ct : Value) (osl : Array (Option Value)) (p1 p2 q1 q2 q3 q4 q5 q6 q7 q8 q9 : Pos),
      K.lookup (ma K (ga K x) "__init__") = some ⟨oc, od, .func (PySem.W.ksFn "__init__" qual (PySem.SupX.iA f p1 p2) (PySem.SupX.iB f ae q1 q2 q3 q4 q5 q6 q7 q8 q9) (PySem.SupX.iS f) .none .none doc pm an (.ref (cdOf K x)) ct (ccOf K x)), osl⟩ ∧ PySem.W.codeIn K (.ref (cdOf K x)) qual = true ∧ (q3.endLine == q4.line) = true := by
  unfold fnC at e
  have ef : fAd K (x, some "__init__") = ma K (ga K x) "__init__" := rfl
  rw [ef] at e
  unfold initB at hb
  unfold cdOf ccOf
  split at hb
  · rename_i oc od fd osl ho
    rw [ho] at e ⊢
    obtain ⟨n1, n2, n3, n4, n5, n6, n7, n8, n9, n10, n11, n12, n13, n14, n15⟩ := fd
    have e : some (n1, n2, n3, n4, n5, n6, n7.map (·.1), n15) = DefC.val _ := e
    unfold DefC.val at e
    simp only [Option.some.injEq, Prod.mk.injEq] at e
    obtain ⟨rfl, rfl, rfl, rfl, rfl, rfl, h7, rfl⟩ := e
    split at hb
    · rename_i c g1 g2 g3
      dsimp only at g1 g2 g3
      subst g1 g2 g3
      cases n7 with
      | nil => cases h7
      | cons p ps =>
        cases ps with
        | cons _ _ => simp at h7
        | nil =>
          obtain ⟨y, cc⟩ := p
          have : y = ("__class__" : Str) := (List.cons.inj h7).1
          subst this
          exact ⟨_, _, _, _, _, _, _, _, _, _, _, _, _, _, _, _, _, _, rfl, hb, hln⟩
    · cases hb
  · cases hb
theorem he_of {ae : Expr} (hst : ∀ (env : Env), starEach [ae] env = (false, eval ae env) :: starEach [] env) : ∀ (q1 q2 q3 q4 : Pos) (env : Env), (q3.endLine == q4.line) = true → ∃ pl : Sem Bool, eval (.Call (.Attribute (.Call (.Name "super" q1) [] [] q2) "__init__" q3) [ae] [] q4) env = (do
      let ov ← attributeBase (.Call (.Name "super" q1) [] [] q2) "__init__" env (eval (.Call (.Name "super" q1) [] [] q2) env)
      standAt q3.atName
      let (f, first) ← holding [ov] (getMethod ov "__init__" pl)
      callWith q4 f first (backTo q4 (starEach [ae] env)) []) := fun q1 q2 q3 q4 env hl => by
  refine ⟨plainOf (.Call (.Name "super" q1) [] [] q2) env, ?_⟩
  have e0 : eval (.Call (.Attribute (.Call (.Name "super" q1) [] [] q2) "__init__" q3) [ae] [] q4) env = (do
      let ov ← attributeBase (.Call (.Name "super" q1) [] [] q2) "__init__" env (eval (.Call (.Name "super" q1) [] [] q2) env)
      standAt q3.atName
      methodCall (.Call (.Name "super" q1) [] [] q2) "__init__" q3 q4 env ov 1 (backTo q4 (starEach [ae] env)) []) := rfl
  rw [e0]
  have hf : methodCallForm 1 (backTo q4 (starEach [ae] env)) [] = true := by rw [hst]; rfl
  congr 1
  funext ov
  rw [mcall_line hf hl]
/-- the text of an own error, from its bits -/
theorem own_ok {P : Program} {K : PySem.W.Frag} {x f qual : Str} {ae : Expr} {p1 p2 q1 q2 q3 q4 q5 q6 q7 q8 q9 : Pos} (e : fnC K (x, some "__init__") = DefC.val ⟨x, "__init__", qual, PySem.SupX.iA f p1 p2, PySem.SupX.iB f ae q1 q2 q3 q4 q5 q6 q7 q8 q9, PySem.SupX.iS f⟩) (hb : ownB P K x f qual = true) (hln : (q3.endLine == q4.line) = true)
    (top : (P.main.scope.names.lookup ("super" : Str)).isSome = false) (ne1 : (f == ("self" : Str)) = false)
    (lkSelf : (PySem.SupX.iS f).names.lookup ("self" : Str) = some .local) (lkF : (PySem.SupX.iS f).names.lookup f = some .local) (lkSup : (PySem.SupX.iS f).names.lookup ("super" : Str) = some .globalImplicit) (lkCls : (PySem.SupX.iS f).names.lookup ("__class__" : Str) = some .free) (ne2 : (("self" : Str) == f) = false) (ff : (f == f) = true) (dbF : (f == ("__debug__" : Str)) = false)
    (hst : ∀ (env : Env), starEach [ae] env = (false, eval ae env) :: starEach [] env)
    (bind : ∀ (qual : Str) (ae : Expr) (p1 p2 q1 q2 q3 q4 q5 q6 q7 q8 q9 : Pos) (doc pm : Value) (an : Option Addr) (cd ct : Value) (cc : Addr) (x v : Value), bindArgs (PySem.W.ksFn "__init__" qual (PySem.SupX.iA f p1 p2) (PySem.SupX.iB f ae q1 q2 q3 q4 q5 q6 q7 q8 q9) (PySem.SupX.iS f) .none .none doc pm an cd ct cc) ⟨[x, v], []⟩ = pure [(("self" : Str), x), (f, v)]) :
    PySem.SupX.ExTxt P K (ga K x) (ma K (ga K x) "__init__") (ccOf K x) (cdOf K x) f qual ae := by
  unfold ownB at hb
  simp only [Bool.and_eq_true, decide_eq_true_eq] at hb
  obtain ⟨⟨h1, h2, h3, h4, h5, h6⟩, ⟨h7, h8, h9, h10⟩, h11, h12, h13, h14, h15⟩ := hb
  exact ⟨vClsB_ok h1, eqO_ok h2, eqO_ok h3, eqO_ok h4, h5, h6, h7, h8, h9, h10, eqO_ok h11, eqO_ok h12, cellB_ok h13, fileB_ok h14, top, ne1, lkSelf, lkF, lkSup, lkCls, ne2, ff, dbF, he_of hst, hst, bind, initFn e h15 hln⟩
end Ev

set_option Elab.async false
set_option linter.all false
set_option maxRecDepth 100000
set_option maxHeartbeats 2000000
set_option autoImplicit false
namespace Ev
open PySem PySem.Spec PyProof.Rows L2 GxR He
/-! ### defs of a head -/
theorem def_at {S : Sx} {x : Str} {st : Stmt} {fd : FuncData} (F : FunD S.K x x (defArgs st) (defBody st) (defScope st) [] [] (ga S.K x) fd) (hm : S.mg x = some (.ref (ga S.K x))) : DefAt S x x st (ga S.K x) (codeOf S.K (x, none)) := by
  obtain ⟨oc, od, dV, kV, doc, pm, an, cdv, ct, osl, rfl, lk, hcd, hD, _⟩ := F.ex
  obtain ⟨c, rfl⟩ := codeIn_ref hcd
  have e : codeOf S.K (x, none) = c := codeOf_eq (p := (x, none)) lk rfl
  have hd : dV = .none := by
    rcases hD with ⟨_, q⟩ | ⟨q, _⟩
    · exact q
    · exact absurd rfl q
  subst hd
  rw [e]
  exact ⟨⟨oc, od, kV, doc, pm, an, ct, osl, lk⟩, hcd, F.kp, hm⟩
/-- one def, with the tables that its mode asks for -/
structure OneAt (S : Sx) (x : Str) (st : Stmt) (g : Gm) : Prop where
  ex : ∃ fa cd, DefAt S x x st fa cd ∧ (g = .ge → ∃ P, TabB S.base S.mg cd P ∧ P ∈ S.tabs ∧ ∀ p ∈ S.tq, p.1 ≠ P) ∧
    (g = .la → ∃ P, LamX.TabB S.base S.mg cd P ∧ (P, (x ++ ".<locals>.") ++ "<lambda>") ∈ S.tq ∧ ∀ p ∈ S.tq, p.1 = P → p.2 = (x ++ ".<locals>.") ++ "<lambda>")
section
variable {S : Sx} {T : Tt} {c : Nat → List D → Oh → Rs D} {ht : List Hd} {k0 : Nat} {W : Nat}
abbrev BindE (x : Str) (st : Stmt) (ps : List Str) : Prop := ∀ (kV doc pm : Value) (an : Option Addr) (cdv ct : Value) (us : List Value), us.length = ps.length → bindArgs (PySem.W.fnOf x x (defArgs st) (defBody st) (defScope st) .none kV doc pm an cdv ct) ⟨us, []⟩ = pure (ps.zip us)
theorem fn_step {x : Str} {st : Stmt} {g : Gm} {N ps mu : List Str} {m : Nat} {d : Df} (A : OneAt S x st g) (FS : FnScope N ps (defScope st)) (hN : N.length = d.ns) (hp : ps.length = d.np) (hbind : BindE x st ps) (K0 : TtOk S T c ht k0)
    (tr : (trD K0 W N mu m g st).map (·.1) = some d.body) : FnAt S (k0 + m + 1) (runD c ht W d) x := by
  obtain ⟨fa, cd, F, h1, h2⟩ := A.ex
  obtain ⟨⟨b, hb⟩, e1, e2⟩ := Option.map_eq_some_iff.mp tr
  have e2 : b = d.body := e2
  subst e2
  exact def_ok F h1 h2 FS hN hp hbind hb
theorem fn_bad {x : Str} {st : Stmt} {g : Gm} {ps : List Str} {k : Nat} {cg : List D → Oh → Rs D} (A : OneAt S x st g) (hbind : BindE x st ps) (h : ∀ ds h, cg ds h = .bad) : FnAt S k cg x := by
  obtain ⟨fa, cd, F, _, _⟩ := A.ex
  obtain ⟨oc, od, kV, doc, pm, an, ct, osl, lk⟩ := F.ex
  exact FnAt.bad F.mg F.kp (.all (hbind kV doc pm an (.ref cd) ct)) h
/-- what holds of all entries of a list -/
inductive Al {α : Type} (P : α → Prop) : List α → Prop
  | nil : Al P []
  | cons {x : α} {xs : List α} : P x → Al P xs → Al P (x :: xs)
theorem Al.look {α : Type} {P : Str × α → Prop} {l : List (Str × α)} (h : Al P l) : ∀ x a, l.lookup x = some a → P (x, a) := fun x a e => by
  induction h with
  | nil => cases e
  | @cons y ys hy _ ih =>
    obtain ⟨y1, y2⟩ := y
    rw [List.lookup_cons] at e
    split at e
    · rename_i q
      have : x = y1 := by simpa using q
      subst this
      cases e
      exact hy
    · exact ih e
/-- all defs, by the depth of the calls -/
theorem fn_all {df : Nat → Option Df} (nb : Nb S) (gl : ∀ x d, T.gl.lookup x = some d → ∃ v u, S.mg x = some u ∧ RelV v u ∧ ∀ f H h, RR S f H h → Rep S.K f H d v) (ex : ∀ x ci, T.ex.lookup x = some ci → ExAt S ci x) (hd : ∀ x, T.hd = some x → HeardAt S ht x)
    (h0 : Al (fun p => ∀ cg : List D → Oh → Rs D, (∀ ds h, cg ds h = .bad) → FnAt S 0 cg p.1) T.fn)
    (hs : ∀ (c : Nat → List D → Oh → Rs D) (k0 : Nat), TtOk S T c ht k0 → Al (fun p => ∃ D, df p.2 = some D ∧ FnAt S (k0 + 1 + 1) (runD c ht W D) p.1) T.fn) : ∀ d, TtOk S T (callE df ht W d) ht (2 * d)
  | 0 => ⟨nb, fun x gi e => h0.look x gi e _ fun _ _ => rfl, gl, ex, hd⟩
  | d + 1 => by
    have ih := fn_all nb gl ex hd h0 hs d
    refine ⟨nb, fun x gi e => ?_, gl, ex, hd⟩
    obtain ⟨D, h1, h2⟩ := (hs _ _ ih).look x gi e
    have h1 : df gi = some D := h1
    have e2 : callE df ht W (d + 1) gi = runD (callE df ht W d) ht W D := by
      funext xs h
      show (match df gi with | some d' => runD (callE df ht W d) ht W d' xs h | none => .bad) = _
      rw [h1]
    rw [e2]
    exact h2
end
/-! ### the end -/
/-- what is not the base's -/
theorem RR.base {S : Sx} {b : Heap} {f : Fs} {H : Hp} {h : Oh} (r : RR S f H h) : RR { S with base := b } f H h := ⟨r.len, r.nd, r.dj, r.gt, r.obj, r.tab, r.gq, r.tq⟩
theorem RR.unbase {S : Sx} {b : Heap} {f : Fs} {H : Hp} {h : Oh} (r : RR { S with base := b } f H h) : RR S f H h := ⟨r.len, r.nd, r.dj, r.gt, r.obj, r.tab, r.gq, r.tq⟩
theorem spOf_base {S : Sx} {b : Heap} {cg : List D → Oh → Rs D} {vs : List V} {H : Hp} {Q : VK} {E : XK} (q : spOf S cg vs H Q E) : spOf { S with base := b } cg vs H Q E := by
  obtain ⟨f, h, ds, r, rl, p⟩ := q
  refine ⟨f, h, ds, r.base, rl, ?_⟩
  cases hc : cg ds h with
  | ok a h' => rw [hc] at p; exact fun f' H' v x r' q => p f' H' v x r'.unbase q
  | exc k us h' => rw [hc] at p; exact fun f' H' C dd x r' q => p f' H' C dd x r'.unbase q
  | bad => rw [hc] at p; exact p.elim
theorem law_fn {S : Sx} {T : Tt} {c : Nat → List D → Oh → Rs D} {ht : List Hd} {k0 W : Nat} {x : Str} {st : Stmt} {fa cd : Addr} {g : Gm} {N ps mu : List Str} {m : Nat} {d : Df} {oc : Value} {od : Option Addr} {kV doc pm : Value} {an : Option Addr} {ct : Value} {osl : Array (Option Value)}
    (lk : S.K.lookup fa = some ⟨oc, od, .func (PySem.W.fnOf x x (defArgs st) (defBody st) (defScope st) .none kV doc pm an (.ref cd) ct), osl⟩) (hcd : PySem.W.codeIn S.K (.ref cd) x = true)
    (hge : g = .ge → ∃ P, TabB S.base S.mg cd P ∧ P ∈ S.tabs ∧ ∀ p ∈ S.tq, p.1 ≠ P)
    (hla : g = .la → ∃ P, LamX.TabB S.base S.mg cd P ∧ (P, (x ++ ".<locals>.") ++ "<lambda>") ∈ S.tq ∧ ∀ p ∈ S.tq, p.1 = P → p.2 = (x ++ ".<locals>.") ++ "<lambda>")
    (FS : FnScope N ps (defScope st)) (hN : N.length = d.ns) (hp : ps.length = d.np) (K0 : TtOk S T c ht k0) (tr : (trD K0 W N mu m g st).map (·.1) = some d.body) :
    FnOk S.P S.w S.K S.mg S.base (CX S.P S.w) (k0 + m + 1) fa (PySem.W.fnOf x x (defArgs st) (defBody st) (defScope st) .none kV doc pm an (.ref cd) ct) ps (spOf S (runD c ht W d)) := by
  obtain ⟨⟨b, hb⟩, e1, e2⟩ := Option.map_eq_some_iff.mp tr
  have e2 : b = d.body := e2
  subst e2
  refine fn_of lk hcd FS (fun vs H Q E ⟨f, h, ds, r, rl, p⟩ => by rw [← rl.length, run_len p, hp]) fun A outer s H vs Q E hr ⟨f, h, ds, r, rl, p⟩ => ?_
  refine ⟨TSv S E (evSs c ht W d.body), hb E _ ?_, run_ok hN r rl p⟩
  refine { xs := ⟨rfl, rfl, rfl, rfl, rfl⟩, calm := rfl, nm := rfl, nd := FS.nd, room := hr, sc := rfl, tk := ?_, cd := fun h => (by obtain ⟨P, h1, h2⟩ := hge h; exact ⟨cd, P, rfl, h1, h2⟩), ld := fun h => (by obtain ⟨P, h1, h2, h3⟩ := hla h; exact ⟨cd, P, rfl, h1, h2, h3⟩), fn := fun _ => rfl, po := ?_, kd := FS.kind }
  · exact takes_of (X := cxOf (CX S.P S.w) S.P S.w S.K S.mg S.base N x (defScope st) fa (.ref cd) A outer s H E) rfl rfl rfl rfl
  · exact passes_of (X := cxOf (CX S.P S.w) S.P S.w S.K S.mg S.base N x (defScope st) fa (.ref cd) A outer s H E) rfl
theorem repL_ints {K : PySem.W.Frag} {f : Fs} {H : Hp} : ∀ ns : List Int, RepL K f H (ns.map .int) (ns.map V.int)
  | [] => .nil
  | n :: ns => .cons (.int n) (repL_ints ns)
/-- the law's promise at the start -/
theorem sp_start {S : Sx} {cg : List D → Oh → Rs D} {H : Hp} {a : Addr} {ns : List Int} (ht : ∀ P ∈ S.tabs, H P = some (.tbl #[])) (hq : ∀ p ∈ S.tq, H p.1 = some (.tbl #[])) (hS : SqL S.K H a (ns.map V.int)) {h' : Oh} (e : cg [.lk (ns.map .int)] [] = .ok (.bl true) h') :
    spOf S cg [.ref a] H (fun v _ => v = .bl true) fun _ _ _ => False := by
  refine ⟨⟨[], []⟩, [], [.lk (ns.map .int)], ⟨rfl, List.nodup_nil, (by rintro a ⟨⟩), (by rintro a ⟨⟩), (by rintro n o h; simp at h), fun P hP => ⟨#[], ht P hP, True.intro⟩, (by rintro a ⟨⟩), fun p hp => LamX.TabS.nil (hq p hp)⟩, .cons (.lk ?_ (repL_ints ns)) .nil, ?_⟩
  · rcases hS with q | q
    · exact .inl ⟨q, by rintro (z | z) <;> cases z⟩
    · exact .inr q
  · rw [e]
    intro f' H' v _ _ q
    cases q
    rfl
theorem cx_none {P : Program} {w : World} (H : Hp) (s : Shared) (e : Value) (s' : Shared) (h : CX P w [] H s (fun _ _ _ => False) e s') : False := by
  obtain ⟨a, B, H', cls, d, _, _, _, _, _, _, _, z⟩ := h
  exact z
end Ev

set_option Elab.async false
set_option linter.all false
set_option maxRecDepth 100000
set_option maxHeartbeats 2000000
set_option autoImplicit false
namespace Ev
open PySem PySem.Spec PyProof.Rows L2 GxR He
/-! ### caught own errors, from bits -/
def ecB (K : PySem.W.Frag) (C : Addr) : Bool :=
  (eqO (PySem.W.findIn K (.ref C) "__getattribute__") (some (some (.builtin "BaseException.__getattribute__"))) && (eqO (PySem.W.findIn K (.ref C) "__getattr__") (some none) && (decide (PySem.W.subIn K (.ref C) (.type "BaseException") = some true) && PySem.W.hasDictIn K C))) &&
  (eqO (PySem.W.findIn K (.ref C) "__class__") (some (some (.builtin "object.__class__"))) && (eqO (PySem.W.specialIn K (.builtin "object.__class__") "__get__") (some (some (.builtin "getset_descriptor.__get__"))) && (decide (PySem.W.takesIn K (.builtin "object.__class__") = some true) && decide (PySem.W.mroIn K C (.type "object") = some true))))
theorem ecB_ok {K : PySem.W.Frag} {C : Addr} (q : ecB K C = true) : ExcC K C := by
  unfold ecB at q
  simp only [Bool.and_eq_true, decide_eq_true_eq] at q
  obtain ⟨⟨h1, h2, h3, h4⟩, h5, h6, h7, h8⟩ := q
  exact ⟨eqO_ok h1, eqO_ok h2, h3, h4, eqO_ok h5, eqO_ok h6, h7, h8⟩
def hrB (K : PySem.W.Frag) (C B : Addr) (fs : List Str) : Bool :=
  xfB K C && ((fs.all fun f => eqO (PySem.W.findIn K (.ref C) f) (some none)) && (ecB K C && (decide (PySem.W.kitOne K (.ref C) (.ref B) = some true) && decide (PySem.W.kitOne K (.ref C) (.type "ValueError") = some true))))
theorem hrB_ok {K : PySem.W.Frag} {C B : Addr} {fs : List Str} (q : hrB K C B fs = true) : HrOk K C B fs := by
  unfold hrB at q
  simp only [Bool.and_eq_true, decide_eq_true_eq] at q
  obtain ⟨h1, h2, h3, h4, h5⟩ := q
  exact ⟨xfB_ok h1, fun f hf => eqO_ok (List.all_eq_true.mp h2 f hf), ecB_ok h3, h4, h5⟩
def exmB (K : PySem.W.Frag) (C D : Addr) (b : Bool) : Bool := decide (PySem.W.exmOne K (.ref C) (.ref D) = some b)
/-- the four classes -/
def hdkB (K : PySem.W.Frag) (C1 C2 C3 C4 B : Addr) (f1 f2 f3 f4 f5 : Str) : Bool :=
  (hrB K C1 B [f1] && (hrB K C2 B [f2] && (hrB K C3 B [f3] && hrB K C4 B [f4, f5]))) &&
  ((exmB K C1 C1 true && (exmB K C2 C1 false && (exmB K C2 C2 true && (exmB K C3 C1 false && exmB K C3 C2 false)))) && (exmB K C3 C3 true && (exmB K C4 C1 false && (exmB K C4 C2 false && (exmB K C4 C3 false && exmB K C4 C4 true)))))
theorem hdkB_ok {K : PySem.W.Frag} {C1 C2 C3 C4 B : Addr} {f1 f2 f3 f4 f5 : Str} (q : hdkB K C1 C2 C3 C4 B f1 f2 f3 f4 f5 = true) : HdK K C1 C2 C3 C4 B f1 f2 f3 f4 f5 := by
  unfold hdkB exmB at q
  simp only [Bool.and_eq_true, decide_eq_true_eq] at q
  obtain ⟨⟨r1, r2, r3, r4⟩, ⟨e1, e2, e3, e4, e5⟩, e6, e7, e8, e9, e10⟩ := q
  exact ⟨hrB_ok r1, hrB_ok r2, hrB_ok r3, hrB_ok r4, e1, e2, e3, e4, e5, e6, e7, e8, e9, e10⟩
/-! ### constants of the module -/
/-- a tuple of ints (or texts, or Nones) that the module holds -/
def ctB (K : PySem.W.Frag) (a : Addr) (vs : List V) : Bool := match K.lookup a with
  | some ⟨.type c, none, .seq its _, _⟩ => decide (c = "tuple") && (decide (its.size ≤ sizeLine) && relAll vs its.toList)
  | _ => false
theorem ctB_ok {K : PySem.W.Frag} {a : Addr} {vs : List V} (q : ctB K a vs = true) : ∃ (o : Obj) (its : Array Value) (n : Nat), K.lookup a = some o ∧ o.cls = .type "tuple" ∧ o.dict = none ∧ o.data = .seq its n ∧ its.size ≤ sizeLine ∧ Vals vs its.toList := by
  unfold ctB at q
  split at q
  · rename_i c its n sl ho
    simp only [Bool.and_eq_true, decide_eq_true_eq] at q
    obtain ⟨rfl, h2, h3⟩ := q
    exact ⟨_, its, n, ho, rfl, rfl, rfl, h2, relAll_ok h3⟩
  · cases q
/-- a constant as plain data: ints, texts, tuples of these -/
def flatD : D → Option V
  | .int i => some (.int i)
  | .str s => some (.str s)
  | .bl b => some (.bl b)
  | .non => some .non
  | _ => none
def flatL : List D → Option (List V)
  | [] => some []
  | d :: ds => match flatD d, flatL ds with
    | some v, some vs => some (v :: vs)
    | _, _ => none
theorem flatD_rep {K : PySem.W.Frag} {f : Fs} {H : Hp} {d : D} {v : V} (e : flatD d = some v) : Rep K f H d v := by
  cases d <;> cases e <;> constructor
theorem flatL_rep {K : PySem.W.Frag} {f : Fs} {H : Hp} : ∀ {ds : List D} {vs : List V}, flatL ds = some vs → RepL K f H ds vs
  | [], vs, e => by cases e; exact .nil
  | d :: ds, vs, e => by
    unfold flatL at e
    split at e
    · rename_i h1 h2
      cases e
      exact .cons (flatD_rep h1) (flatL_rep h2)
    · cases e
/-- a module's name that stands for a tuple of these -/
theorem glT {S : Sx} {x : Str} {ds : List D} {vs : List V} (hm : S.mg x = some (.ref (ga S.K x))) (e : flatL ds = some vs) (q : ctB S.K (ga S.K x) vs = true) : ∃ v u, S.mg x = some u ∧ RelV v u ∧ ∀ f H h, RR S f H h → Rep S.K f H (.tup ds) v :=
  ⟨.ref (ga S.K x), .ref (ga S.K x), hm, rfl, fun f H h _ => .tup (.inr (ctB_ok q)) (flatL_rep e)⟩
theorem glI {S : Sx} {x : Str} {i : Int} (hm : ∃ t, S.mg x = some (.int i t)) : ∃ v u, S.mg x = some u ∧ RelV v u ∧ ∀ f H h, RR S f H h → Rep S.K f H (.int i) v := by
  obtain ⟨t, hm⟩ := hm
  exact ⟨.int i, .int i t, hm, ⟨t, rfl⟩, fun _ _ _ _ => .int i⟩
theorem Al.mem {α : Type} {P : α → Prop} {l : List α} (h : Al P l) : ∀ x ∈ l, P x := by
  induction h with
  | nil => intro x hx; cases hx
  | cons h1 _ ih =>
    intro x hx
    rcases List.mem_cons.mp hx with rfl | hx
    · exact h1
    · exact ih x hx
theorem nb_of {S : Sx} (h : Al (fun x => S.mg x = none) bltNames) : Nb S := h.mem
section
variable {S : Sx} {x : Str} {st : Stmt} {fd : FuncData} {P : Addr}
theorem one_no (F : FunD S.K x x (defArgs st) (defBody st) (defScope st) [] [] (ga S.K x) fd) (hm : S.mg x = some (.ref (ga S.K x))) : OneAt S x st .no :=
  ⟨_, _, def_at F hm, fun e => (by cases e), fun e => (by cases e)⟩
theorem one_ge (F : FunD S.K x x (defArgs st) (defBody st) (defScope st) [] [] (ga S.K x) fd) (hm : S.mg x = some (.ref (ga S.K x))) (t : LamX.TabB S.base S.mg (codeOf S.K (x, none)) P) (h1 : P ∈ S.tabs) (h2 : ∀ p ∈ S.tq, p.1 ≠ P) : OneAt S x st .ge :=
  ⟨_, _, def_at F hm, fun _ => ⟨P, ⟨t.code, t.bm, t.gP⟩, h1, h2⟩, fun e => (by cases e)⟩
theorem one_la (F : FunD S.K x x (defArgs st) (defBody st) (defScope st) [] [] (ga S.K x) fd) (hm : S.mg x = some (.ref (ga S.K x))) (t : LamX.TabB S.base S.mg (codeOf S.K (x, none)) P) (h1 : (P, (x ++ ".<locals>.") ++ "<lambda>") ∈ S.tq) (h2 : ∀ p ∈ S.tq, p.1 = P → p.2 = (x ++ ".<locals>.") ++ "<lambda>") : OneAt S x st .la :=
  ⟨_, _, def_at F hm, fun e => (by cases e), fun _ => ⟨P, t, h1, h2⟩⟩
end
end Ev

set_option Elab.async false
set_option linter.all false
set_option maxRecDepth 100000
set_option maxHeartbeats 2000000
set_option autoImplicit false
namespace Ev
open PySem PySem.Spec PyProof.Rows L2 GxR He
section
variable {S : Sx} {T : Tt} {c : Nat → List D → Oh → Rs D} {ht : List Hd} {k0 : Nat} {W : Nat}
/-- .. where a def other than the law holds a lambda -/
theorem fn_all3 {df : Nat → Option Df} (nb : Nb S) (gl : ∀ x d, T.gl.lookup x = some d → ∃ v u, S.mg x = some u ∧ RelV v u ∧ ∀ f H h, RR S f H h → Rep S.K f H d v) (ex : ∀ x ci, T.ex.lookup x = some ci → ExAt S ci x) (hd : ∀ x, T.hd = some x → HeardAt S ht x)
    (h0 : Al (fun p => ∀ cg : List D → Oh → Rs D, (∀ ds h, cg ds h = .bad) → FnAt S 0 cg p.1) T.fn)
    (hs : ∀ (c : Nat → List D → Oh → Rs D) (k0 : Nat), TtOk S T c ht k0 → Al (fun p => ∃ D, df p.2 = some D ∧ FnAt S (k0 + 2 + 1) (runD c ht W D) p.1) T.fn) : ∀ d, TtOk S T (callE df ht W d) ht (3 * d)
  | 0 => ⟨nb, fun x gi e => h0.look x gi e _ fun _ _ => rfl, gl, ex, hd⟩
  | d + 1 => by
    have ih := fn_all3 nb gl ex hd h0 hs d
    refine ⟨nb, fun x gi e => ?_, gl, ex, hd⟩
    obtain ⟨D, h1, h2⟩ := (hs _ _ ih).look x gi e
    have h1 : df gi = some D := h1
    have e2 : callE df ht W (d + 1) gi = runD (callE df ht W d) ht W D := by
      funext xs h
      show (match df gi with | some d' => runD (callE df ht W d) ht W d' xs h | none => .bad) = _
      rw [h1]
    rw [e2]
    exact h2
end
theorem glS {S : Sx} {x z : Str} (hm : ∃ t, S.mg x = some (.str z t)) : ∃ v u, S.mg x = some u ∧ RelV v u ∧ ∀ f H h, RR S f H h → Rep S.K f H (.str z) v := by
  obtain ⟨t, hm⟩ := hm
  exact ⟨.str z, .str z t, hm, ⟨t, rfl⟩, fun _ _ _ _ => .str z⟩
end Ev

set_option Elab.async false
set_option linter.all false
set_option maxRecDepth 100000
set_option maxHeartbeats 0
set_option autoImplicit false
namespace Lk10
open PySem PySem.Spec PyProof.Rows L2 GxR Ev
def top (i : Nat) : Stmt := PySem.Challenge.pw_dominorows_k10_missing_bones.main.body.getD i (.Pass ⟨0, 0, 0, 0⟩)
/-- is_number: slots 0 value, 1 low, 2 high -/
def b_is_number : List Ev.St := [
    .ret (.and (.isi [.int] (.var 0)) (.and (.not (.isi [.bool] (.var 0))) (.cmp2 .le .le (.var 1) (.var 0) (.var 2))))]
def n_is_number : List Str := ["value", "low", "high"]
/-- check: slots 0 is_right, 1 name -/
def b_check : List Ev.St := [
    .iff (.not (.var 0)) [.rse 0 [.var 1]] []]
def n_check : List Str := ["is_right", "name"]
/-- is_pip: slots 0 value -/
def b_is_pip : List Ev.St := [
    .ret (.call 0 [.var 0, .cst (.int 0), .cst (.int 6)])]
def n_is_pip : List Str := ["value"]
/-- is_bone: slots 0 value, 1 own -/
def b_is_bone : List Ev.St := [
    .iff (.or (.not (.isi [.tuple] (.var 0))) (.or (.cmp .ne (.bi .len [.var 0]) (.cst (.int 2))) (.not (.al true (.v 1) (.seq (.var 0)) [] [1] (.call 2 [.var 1]))))) [.ret (.cst (.bl false))] [],
    .ret (.cmp .le (.ix (.var 0) (.cst (.int 0))) (.ix (.var 0) (.cst (.int 1))))]
def n_is_bone : List Str := ["value", "own"]
/-- is_lot: slots 0 value, 1 own, 2 one, 3 other -/
def b_is_lot : List Ev.St := [
    .iff (.or (.not (.isi [.tuple] (.var 0))) (.or (.cmp .gt (.bi .len [.var 0]) (.cst (.int 8))) (.not (.al true (.v 1) (.seq (.var 0)) [] [1] (.call 3 [.var 1]))))) [.ret (.cst (.bl false))] [],
    .ret (.al true (.t [.v 2, .v 3]) (.zip (.var 0) (.sl (.var 0) [.cst (.int 1)] [])) [] [2, 3] (.cmp .le (.var 2) (.var 3)))]
def n_is_lot : List Str := ["value", "own", "one", "other"]
/-- check_lot: slots 0 lot -/
def b_check_lot : List Ev.St := [
    .ex (.call 1 [.call 4 [.var 0], .cst (.str "lot")])]
def n_check_lot : List Str := ["lot"]
/-- ends_at: slots 0 lot, 1 pip, 2 one, 3 other -/
def b_ends_at : List Ev.St := [
    .ret (.bi .sum [.lc (.t [.v 2, .v 3]) (.seq (.var 0)) [] [2, 3] (.bin .add (.cmp .eq (.var 2) (.var 1)) (.cmp .eq (.var 3) (.var 1)))])]
def n_ends_at : List Str := ["lot", "pip", "one", "other"]
/-- odd_in: slots 0 lot, 1 pip -/
def b_odd_in : List Ev.St := [
    .ret (.lc (.v 1) (.seq (.cst (.tup [(.int 0), (.int 1), (.int 2), (.int 3), (.int 4), (.int 5), (.int 6)]))) [.cmp .eq (.bin .mod (.call 6 [.var 0, .var 1]) (.cst (.int 2))) (.cst (.int 1))] [1] (.var 1))]
def n_odd_in : List Str := ["lot", "pip"]
/-- pieces_in: slots 0 lot, 1 left, 2 found, 3 pip, 4 group, 5 at, 6 bone, 7 own -/
def b_pieces_in : List Ev.St := [
    .as (.t [.v 1, .v 2]) (.tup [.lc (.v 3) (.seq (.cst (.tup [(.int 0), (.int 1), (.int 2), (.int 3), (.int 4), (.int 5), (.int 6)]))) [.cmp .gt (.call 6 [.var 0, .var 3]) (.cst (.int 0))] [3] (.var 3), .mk []]),
    .whl (.cmp .gt (.bi .len [.var 1]) (.cst (.int 0))) [.as (.t [.v 4, .v 5]) (.tup [.mk [.ix (.var 1) (.cst (.int 0))], .cst (.int 0)]), .whl (.cmp .lt (.var 5) (.bi .len [.var 4])) [.lop (.v 6) (.seq (.var 0)) [.iff (.cmp .isin (.ix (.var 4) (.var 5)) (.var 6)) [.ex (.ext (.var 4) (.lc (.v 7) (.seq (.var 6)) [.cmp .nin (.var 7) (.var 4)] [7] (.var 7)))] []], .aug 5 .add (.cst (.int 1))], .ex (.app (.var 2) (.bi .tuple [.sset (.var 4)])), .as (.v 1) (.lc (.v 7) (.seq (.var 1)) [.cmp .nin (.var 7) (.var 4)] [7] (.var 7))],
    .ret (.var 2)]
def n_pieces_in : List Str := ["lot", "left", "found", "pip", "group", "at", "bone", "own"]
/-- bones_of: slots 0 lot, 1 piece, 2 bone -/
def b_bones_of : List Ev.St := [
    .ret (.bi .tuple [.lc (.v 2) (.seq (.var 0)) [.cmp .isin (.ix (.var 2) (.cst (.int 0))) (.var 1)] [2] (.var 2)])]
def n_bones_of : List Str := ["lot", "piece", "bone"]
/-- with_bone: slots 0 lot, 1 bone -/
def b_with_bone : List Ev.St := [
    .ret (.bi .tuple [.bi .sorted [.bin .add (.var 0) (.tup [.var 1])]])]
def n_with_bone : List Str := ["lot", "bone"]
/-- can_be_row_in: slots 0 lot -/
def b_can_be_row_in : List Ev.St := [
    .ret (.and (.cmp .le (.bi .len [.call 8 [.var 0]]) (.cst (.int 1))) (.cmp .le (.bi .len [.call 7 [.var 0]]) (.cst (.int 2))))]
def n_can_be_row_in : List Str := ["lot"]
/-- can_be_ring_in: slots 0 lot -/
def b_can_be_ring_in : List Ev.St := [
    .ret (.and (.cmp .le (.bi .len [.call 8 [.var 0]]) (.cst (.int 1))) (.cmp .eq (.bi .len [.call 7 [.var 0]]) (.cst (.int 0))))]
def n_can_be_ring_in : List Str := ["lot"]
/-- even_pieces: slots 0 lot, 1 piece -/
def b_even_pieces : List Ev.St := [
    .ret (.bi .len [.lc (.v 1) (.seq (.call 8 [.var 0])) [.cmp .eq (.bi .len [.call 7 [.call 9 [.var 0, .var 1]]]) (.cst (.int 0))] [1] (.var 1)])]
def n_even_pieces : List Str := ["lot", "piece"]
/-- many_for_row: slots 0 lot -/
def b_many_for_row : List Ev.St := [
    .ret (.bi .max [.cst (.int 0), .bin .sub (.bin .add (.bin .fdiv (.bi .len [.call 7 [.var 0]]) (.cst (.int 2))) (.call 13 [.var 0])) (.cst (.int 1))])]
def n_many_for_row : List Str := ["lot"]
/-- many_for_ring: slots 0 lot, 1 many -/
def b_many_for_ring : List Ev.St := [
    .as (.v 1) (.bin .fdiv (.bi .len [.call 7 [.var 0]]) (.cst (.int 2))),
    .ret (.ite (.cmp .le (.bi .len [.call 8 [.var 0]]) (.cst (.int 1))) (.var 1) (.bin .add (.var 1) (.call 13 [.var 0])))]
def n_many_for_ring : List Str := ["lot", "many"]
/-- missing_number: slots 0 lot, 1 is_round -/
def b_missing_number : List Ev.St := [
    .ret (.ite (.var 1) (.call 15 [.var 0]) (.call 14 [.var 0]))]
def n_missing_number : List Str := ["lot", "is_round"]
/-- fewest_missing: slots 0 lot, 1 is_round -/
def b_fewest_missing : List Ev.St := [
    .ex (.call 5 [.var 0]),
    .ex (.call 1 [.isi [.bool] (.var 1), .cst (.str "is_round")]),
    .ret (.call 16 [.var 0, .var 1])]
def n_fewest_missing : List Str := ["lot", "is_round"]
/-- all_bones: slots 0 found, 1 one, 2 other -/
def b_all_bones : List Ev.St := [
    .as (.v 0) (.mk []),
    .lop (.v 1) (.seq (.cst (.tup [(.int 0), (.int 1), (.int 2), (.int 3), (.int 4), (.int 5), (.int 6)]))) [.ex (.ext (.var 0) (.lc (.v 2) (.seq (.sl (.cst (.tup [(.int 0), (.int 1), (.int 2), (.int 3), (.int 4), (.int 5), (.int 6)])) [.var 1] [])) [] [2] (.tup [.var 1, .var 2])))],
    .ret (.var 0)]
def n_all_bones : List Str := ["found", "one", "other"]
/-- helping_in: slots 0 lot, 1 is_round, 2 due, 3 bone -/
def b_helping_in : List Ev.St := [
    .as (.v 2) (.bin .sub (.call 16 [.var 0, .var 1]) (.cst (.int 1))),
    .ret (.lc (.v 3) (.seq (.call 18 [])) [.cmp .eq (.call 16 [.call 10 [.var 0, .var 3], .var 1]) (.var 2)] [3] (.var 3))]
def n_helping_in : List Str := ["lot", "is_round", "due", "bone"]
/-- helping: slots 0 lot, 1 is_round -/
def b_helping : List Ev.St := [
    .ex (.call 5 [.var 0]),
    .ex (.call 1 [.isi [.bool] (.var 1), .cst (.str "is_round")]),
    .ret (.bi .tuple [.call 19 [.var 0, .var 1]])]
def n_helping : List Str := ["lot", "is_round"]
/-- missing: slots 0 lot, 1 is_round, 2 found, 3 own, 4 bone -/
def b_missing : List Ev.St := [
    .ex (.call 5 [.var 0]),
    .ex (.call 1 [.isi [.bool] (.var 1), .cst (.str "is_round")]),
    .as (.t [.v 2, .v 3]) (.tup [.mk [], .var 0]),
    .whl (.cmp .gt (.call 16 [.var 3, .var 1]) (.cst (.int 0))) [.as (.v 4) (.ix (.call 19 [.var 3, .var 1]) (.cst (.int 0))), .ex (.app (.var 2) (.var 4)), .as (.v 3) (.call 10 [.var 3, .var 4])],
    .ret (.bi .tuple [.var 2])]
def n_missing : List Str := ["lot", "is_round", "found", "own", "bone"]
/-- are_helping: slots 0 lot, 1 is_round, 2 value, 3 own, 4 one, 5 other, 6 whole -/
def b_are_helping : List Ev.St := [
    .ex (.call 5 [.var 0]),
    .ex (.call 1 [.isi [.bool] (.var 1), .cst (.str "is_round")]),
    .iff (.or (.not (.isi [.tuple] (.var 2))) (.not (.al true (.v 3) (.seq (.var 2)) [] [3] (.call 3 [.var 3])))) [.ret (.cst (.bl false))] [],
    .iff (.not (.al true (.t [.v 4, .v 5]) (.zip (.var 2) (.sl (.var 2) [.cst (.int 1)] [])) [] [4, 5] (.cmp .le (.var 4) (.var 5)))) [.ret (.cst (.bl false))] [],
    .as (.v 6) (.bi .tuple [.bi .sorted [.bin .add (.var 0) (.var 2)]]),
    .ret (.ite (.var 1) (.call 12 [.var 6]) (.call 11 [.var 6]))]
def n_are_helping : List Str := ["lot", "is_round", "value", "own", "one", "other", "whole"]
/-- _law_taken: slots 0 row, 1 many, 2 found, 3 cell -/
def b__law_taken : List Ev.St := [
    .iff (.cmp .gt (.ix (.var 0) (.cst (.int 3))) (.cst (.int 0))) [.as (.v 2) (.bin .mod (.bi .int [.ix (.var 0) (.cst (.int 3))]) (.var 1)), .six (.var 0) (.cst (.int 3)) (.bin .fdiv (.ix (.var 0) (.cst (.int 3))) (.var 1)), .ret (.var 2)] [],
    .six (.var 0) (.cst (.int 1)) (.bin .add (.ix (.var 0) (.cst (.int 1))) (.cst (.int 1))),
    .iff (.cmp .gt (.ix (.var 0) (.cst (.int 1))) (.bi .len [.ix (.var 0) (.cst (.int 0))])) [.six (.var 0) (.cst (.int 2)) (.bin .mod (.bi .int [.bin .add (.bin .mul (.ix (.var 0) (.cst (.int 2))) (.cst (.int 48271))) (.cst (.int 11))]) (.cst (.int 2147483647))), .ret (.bin .mod (.bi .int [.bin .fdiv (.ix (.var 0) (.cst (.int 2))) (.cst (.int 7))]) (.var 1))] [],
    .as (.v 3) (.ix (.ix (.var 0) (.cst (.int 0))) (.bin .sub (.ix (.var 0) (.cst (.int 1))) (.cst (.int 1)))),
    .six (.var 0) (.cst (.int 2)) (.bin .mod (.bi .int [.bin .add (.bin .add (.bin .mul (.ix (.var 0) (.cst (.int 2))) (.cst (.int 48271))) (.var 3)) (.cst (.int 11))]) (.cst (.int 2147483647))),
    .iff (.cmp .ge (.var 3) (.bin .pow (.cst (.int 10)) (.cst (.int 18)))) [.six (.var 0) (.cst (.int 3)) (.bin .fdiv (.var 3) (.var 1))] [],
    .ret (.bin .mod (.bi .int [.var 3]) (.var 1))]
def n__law_taken : List Str := ["row", "many", "found", "cell"]
/-- _law_bone: slots 0 one, 1 other -/
def b__law_bone : List Ev.St := [
    .ret (.tup [.bi .min [.var 0, .var 1], .bi .max [.var 0, .var 1]])]
def n__law_bone : List Str := ["one", "other"]
/-- _law_lot: slots 0 row, 1 most, 2 pips, 3 many, 4 end, 5 found, 6 loose, 7 turn, 8 one -/
def b__law_lot : List Ev.St := [
    .as (.t [.v 3, .v 4, .v 5]) (.tup [.call 23 [.var 0, .bin .add (.var 1) (.cst (.int 1))], .call 23 [.var 0, .var 2], .lst []]),
    .as (.v 6) (.cmp .eq (.call 23 [.var 0, .cst (.int 3)]) (.cst (.int 0))),
    .lop (.v 7) (.rng1 (.var 3)) [.as (.v 8) (.ite (.var 6) (.call 23 [.var 0, .var 2]) (.var 4)), .as (.v 4) (.call 23 [.var 0, .var 2]), .as (.v 5) (.bin .add (.var 5) (.lst [.call 24 [.var 8, .var 4]]))],
    .ret (.bi .tuple [.bi .sorted [.var 5]])]
def n__law_lot : List Str := ["row", "most", "pips", "many", "end", "found", "loose", "turn", "one"]
/-- _law_pick: slots 0 row, 1 some -/
def b__law_pick : List Ev.St := [
    .ret (.ix (.var 1) (.call 23 [.var 0, .bi .len [.var 1]]))]
def n__law_pick : List Str := ["row", "some"]
/-- _law_pieces: slots 0 lot, 1 groups, 2 bone, 3 near, 4 own, 5 joined -/
def b__law_pieces : List Ev.St := [
    .as (.v 1) (.lst []),
    .lop (.v 2) (.seq (.var 0)) [.as (.v 3) (.lc (.v 4) (.seq (.var 1)) [.or (.cmp .isin (.ix (.var 2) (.cst (.int 0))) (.var 4)) (.cmp .isin (.ix (.var 2) (.cst (.int 1))) (.var 4))] [4] (.var 4)), .as (.v 5) (.bi .list [.var 2]), .lop (.v 4) (.seq (.var 3)) [.as (.v 5) (.bin .add (.var 5) (.var 4))], .as (.v 1) (.bin .add (.lc (.v 4) (.seq (.var 1)) [.cmp .nin (.var 4) (.var 3)] [4] (.var 4)) (.lst [.sset (.var 5)]))],
    .ret (.bi .sorted [.var 1])]
def n__law_pieces : List Str := ["lot", "groups", "bone", "near", "own", "joined"]
/-- _law_count: slots 0 lot, 1 pip, 2 bone -/
def b__law_count : List Ev.St := [
    .ret (.bin .add (.bi .len [.lc (.v 2) (.seq (.var 0)) [.cmp .eq (.ix (.var 2) (.cst (.int 0))) (.var 1)] [2] (.var 2)]) (.bi .len [.lc (.v 2) (.seq (.var 0)) [.cmp .eq (.ix (.var 2) (.cst (.int 1))) (.var 1)] [2] (.var 2)]))]
def n__law_count : List Str := ["lot", "pip", "bone"]
/-- _law_odd: slots 0 lot, 1 pip -/
def b__law_odd : List Ev.St := [
    .ret (.lc (.v 1) (.rng1 (.cst (.int 7))) [.cmp .eq (.bin .mod (.call 28 [.var 0, .var 1]) (.cst (.int 2))) (.cst (.int 1))] [1] (.var 1))]
def n__law_odd : List Str := ["lot", "pip"]
/-- _law_has: slots 0 lot, 1 is_round -/
def b__law_has : List Ev.St := [
    .ret (.and (.cmp .lt (.bi .len [.call 27 [.var 0]]) (.cst (.int 2))) (.cmp .lt (.bi .len [.call 29 [.var 0]]) (.ite (.var 1) (.cst (.int 1)) (.cst (.int 3)))))]
def n__law_has : List Str := ["lot", "is_round"]
/-- _law_alike: slots 0 found, 1 due, 2 k, 3 key -/
def b__law_alike : List Ev.St := [
    .iff (.isi [.tuple, .list] (.var 1)) [.iff (.or (.not (.isi [.tuple, .list] (.var 0))) (.cmp .ne (.isi [.list] (.var 0)) (.isi [.list] (.var 1)))) [.ret (.cst (.bl false))] [], .iff (.cmp .ne (.bi .len [.var 0]) (.bi .len [.var 1])) [.ret (.cst (.bl false))] [], .ret (.cmp .eq (.lc (.v 2) (.rng1 (.bi .len [.var 1])) [.not (.call 31 [.ix (.var 0) (.var 2), .ix (.var 1) (.var 2)])] [2] (.var 2)) (.lst []))] [],
    .iff (.isi [.dict] (.var 1)) [.iff (.or (.not (.isi [.dict] (.var 0))) (.cmp .ne (.bi .list [.var 0]) (.bi .list [.var 1]))) [.ret (.cst (.bl false))] [], .ret (.cmp .eq (.lc (.v 3) (.seq (.var 1)) [.not (.call 31 [.ix (.var 0) (.var 3), .ix (.var 1) (.var 3)])] [3] (.var 3)) (.lst []))] [],
    .iff (.or (.cmp .isn (.var 1) (.cst .non)) (.isi [.str] (.var 1))) [.ret (.and (.cmp .eq (.var 0) (.var 1)) (.cmp .eq (.isi [.str] (.var 0)) (.isi [.str] (.var 1))))] [],
    .ret (.and (.isi [.int] (.var 0)) (.and (.cmp .eq (.isi [.bool] (.var 0)) (.isi [.bool] (.var 1))) (.cmp .eq (.var 0) (.var 1))))]
def n__law_alike : List Str := ["found", "due", "k", "key"]
/-- _law_bad_lot: slots 0 row -/
def b__law_bad_lot : List Ev.St := [
    .ret (.call 26 [.var 0, .lst [.cst .non, .lst [.tup [.cst (.int 0), .cst (.int 1)]], .tup [.tup [.cst (.int 1), .cst (.int 0)]], .tup [.tup [.cst (.int 0), .cst (.int 7)]], .tup [.tup [.cst (.int 0), .cst (.int 1)], .tup [.cst (.int 0), .cst (.int 0)]], .tup [.tup [.cst (.bl true), .cst (.int 1)]], .tup [.tup [.cst (.int 0), .cst (.int 1), .cst (.int 2)]], .cst (.str "x"), .bin .mul (.tup [.tup [.cst (.int 0), .cst (.int 0)]]) (.cst (.int 9)), .tup [.cst (.int 5)], .tup [.tup [.neg (.cst (.int 1)), .cst (.int 0)]]]])]
def n__law_bad_lot : List Str := ["row"]
/-- law: slots 0 script, 1 row, 2 lot, 3 is_round, 4 bones, 5 one, 6 other, 7 tried, 8 bone, 9 k, 10 many, 11 found, 12 due, 13 turn, 14 value, 15 bad, 16 wrong, 17 heard, 18 own -/
def b_law : List Ev.St := [
    .as (.v 1) (.mk [.var 0, .cst (.int 0), .cst (.int 82082010), .cst (.int 0)]),
    .as (.t [.v 2, .v 3]) (.tup [.call 25 [.var 1, .cst (.int 5), .call 26 [.var 1, .lst [.cst (.int 3), .cst (.int 5), .cst (.int 7)]]], .cmp .eq (.call 23 [.var 1, .cst (.int 2)]) (.cst (.int 0))]),
    .as (.v 4) (.lst []),
    .lop (.v 5) (.rng1 (.cst (.int 7))) [.as (.v 4) (.bin .add (.var 4) (.lc (.v 6) (.rng2 (.var 5) (.cst (.int 7))) [] [6] (.tup [.var 5, .var 6])))],
    .as (.v 7) (.ite (.call 30 [.var 2, .var 3]) (.lst [.tup []]) (.lc (.v 8) (.seq (.var 4)) [.call 30 [.bi .tuple [.bi .sorted [.bin .add (.var 2) (.tup [.var 8])]], .var 3]] [8] (.tup [.var 8]))),
    .iff (.cmp .eq (.var 7) (.lst [])) [.lop (.v 9) (.rng1 (.bi .len [.var 4])) [.as (.v 7) (.bin .add (.var 7) (.lc (.v 8) (.seq (.sl (.var 4) [.var 9] [])) [.call 30 [.bi .tuple [.bi .sorted [.bin .add (.var 2) (.tup [.ix (.var 4) (.var 9), .var 8])]], .var 3]] [8] (.tup [.ix (.var 4) (.var 9), .var 8])))]] [],
    .as (.v 10) (.call 17 [.var 2, .var 3]),
    .iff (.or (.and (.cmp .ne (.var 7) (.lst [])) (.cmp .ne (.var 10) (.bi .len [.ix (.var 7) (.cst (.int 0))]))) (.and (.cmp .eq (.var 7) (.lst [])) (.cmp .lt (.var 10) (.cst (.int 3))))) [.ret (.cst (.bl false))] [],
    .as (.v 11) (.call 21 [.var 2, .var 3]),
    .iff (.and (.cmp .ne (.var 7) (.lst [])) (.not (.call 31 [.var 11, .ix (.var 7) (.cst (.int 0))]))) [.ret (.cst (.bl false))] [],
    .iff (.or (.cmp .ne (.bi .len [.var 11]) (.var 10)) (.or (.not (.call 30 [.bi .tuple [.bi .sorted [.bin .add (.var 2) (.var 11)]], .var 3])) (.cmp .isnn (.call 22 [.var 2, .var 3, .var 11]) (.cst (.bl true))))) [.ret (.cst (.bl false))] [],
    .as (.v 12) (.lc (.v 8) (.seq (.var 4)) [.cmp .eq (.call 17 [.bi .tuple [.bi .sorted [.bin .add (.var 2) (.tup [.var 8])]], .var 3]) (.bin .sub (.var 10) (.cst (.int 1)))] [8] (.var 8)),
    .iff (.or (.not (.call 31 [.call 20 [.var 2, .var 3], .bi .tuple [.var 12]])) (.and (.cmp .gt (.var 10) (.cst (.int 0))) (.cmp .ne (.ix (.var 12) (.cst (.int 0))) (.ix (.var 11) (.cst (.int 0)))))) [.ret (.cst (.bl false))] [],
    .lop (.v 13) (.rng1 (.cst (.int 6))) [.as (.v 14) (.bi .tuple [.bi .sorted [.lc (.v 9) (.rng1 (.call 23 [.var 1, .cst (.int 4)])) [] [9] (.call 26 [.var 1, .var 4])]]), .iff (.not (.call 31 [.call 22 [.var 2, .var 3, .var 14], .call 30 [.bi .tuple [.bi .sorted [.bin .add (.var 2) (.var 14)]], .var 3]])) [.ret (.cst (.bl false))] []],
    .as (.t [.v 15, .v 16]) (.tup [.call 32 [.var 1], .call 26 [.var 1, .lst [.cst .non, .cst (.int 1), .cst (.str "yes"), .cst (.int 0)]]]),
    .as (.v 17) (.lst [.heard (.call 21 [.var 15, .cst (.bl true)]), .heard (.call 21 [.var 2, .var 16]), .heard (.call 17 [.var 2, .var 16]), .heard (.call 20 [.var 15, .cst (.bl true)]), .heard (.call 22 [.var 2, .var 16, .tup []])]),
    .iff (.cmp .isnn (.call 22 [.var 2, .var 3, .call 26 [.var 1, .lst [.cst .non, .lst [], .tup [.tup [.cst (.int 1), .cst (.int 0)]], .tup [.tup [.cst (.int 0), .cst (.int 1)], .tup [.cst (.int 0), .cst (.int 0)]], .cst (.str "x"), .tup [.tup [.cst (.int 7), .cst (.int 7)]]]]]) (.cst (.bl false))) [.ret (.cst (.bl false))] [],
    .ret (.call 31 [.var 17, .lc (.v 18) (.seq (.tup [.cst (.str "lot"), .cst (.str "is_round"), .cst (.str "is_round"), .cst (.str "lot"), .cst (.str "is_round")])) [] [18] (.tup [.cst (.str "bad"), .var 18, .cst (.bl true)])])]
def n_law : List Str := ["script", "row", "lot", "is_round", "bones", "one", "other", "tried", "bone", "k", "many", "found", "due", "turn", "value", "bad", "wrong", "heard", "own"]
def dfs : List Df := [
  Df.mk 3 3 false b_is_number,
  Df.mk 2 2 false b_check,
  Df.mk 1 1 false b_is_pip,
  Df.mk 1 2 false b_is_bone,
  Df.mk 1 4 false b_is_lot,
  Df.mk 1 1 false b_check_lot,
  Df.mk 2 4 false b_ends_at,
  Df.mk 1 2 false b_odd_in,
  Df.mk 1 8 false b_pieces_in,
  Df.mk 2 3 false b_bones_of,
  Df.mk 2 2 false b_with_bone,
  Df.mk 1 1 false b_can_be_row_in,
  Df.mk 1 1 false b_can_be_ring_in,
  Df.mk 1 2 false b_even_pieces,
  Df.mk 1 1 false b_many_for_row,
  Df.mk 1 2 false b_many_for_ring,
  Df.mk 2 2 false b_missing_number,
  Df.mk 2 2 false b_fewest_missing,
  Df.mk 0 3 false b_all_bones,
  Df.mk 2 4 false b_helping_in,
  Df.mk 2 2 false b_helping,
  Df.mk 2 5 false b_missing,
  Df.mk 3 7 false b_are_helping,
  Df.mk 2 4 false b__law_taken,
  Df.mk 2 2 false b__law_bone,
  Df.mk 3 9 false b__law_lot,
  Df.mk 2 2 false b__law_pick,
  Df.mk 1 6 false b__law_pieces,
  Df.mk 2 3 false b__law_count,
  Df.mk 1 2 false b__law_odd,
  Df.mk 2 2 false b__law_has,
  Df.mk 2 4 false b__law_alike,
  Df.mk 1 1 false b__law_bad_lot,
  Df.mk 1 19 false b_law]
def df (i : Nat) : Option Df := dfs[i]?
def tt : Tt where
  fn := [(("is_number" : Str), (0 : Nat)), (("check" : Str), (1 : Nat)), (("is_pip" : Str), (2 : Nat)), (("is_bone" : Str), (3 : Nat)), (("is_lot" : Str), (4 : Nat)), (("check_lot" : Str), (5 : Nat)), (("ends_at" : Str), (6 : Nat)), (("odd_in" : Str), (7 : Nat)), (("pieces_in" : Str), (8 : Nat)), (("bones_of" : Str), (9 : Nat)), (("with_bone" : Str), (10 : Nat)), (("can_be_row_in" : Str), (11 : Nat)), (("can_be_ring_in" : Str), (12 : Nat)), (("even_pieces" : Str), (13 : Nat)), (("many_for_row" : Str), (14 : Nat)), (("many_for_ring" : Str), (15 : Nat)), (("missing_number" : Str), (16 : Nat)), (("fewest_missing" : Str), (17 : Nat)), (("all_bones" : Str), (18 : Nat)), (("helping_in" : Str), (19 : Nat)), (("helping" : Str), (20 : Nat)), (("missing" : Str), (21 : Nat)), (("are_helping" : Str), (22 : Nat)), (("_law_taken" : Str), (23 : Nat)), (("_law_bone" : Str), (24 : Nat)), (("_law_lot" : Str), (25 : Nat)), (("_law_pick" : Str), (26 : Nat)), (("_law_pieces" : Str), (27 : Nat)), (("_law_count" : Str), (28 : Nat)), (("_law_odd" : Str), (29 : Nat)), (("_law_has" : Str), (30 : Nat)), (("_law_alike" : Str), (31 : Nat)), (("_law_bad_lot" : Str), (32 : Nat))]
  gl := [("MOST_PIP", (.int 6)), ("MOST_BONES", (.int 8)), ("PIPS", (.tup [(.int 0), (.int 1), (.int 2), (.int 3), (.int 4), (.int 5), (.int 6)]))]
  ex := [("BadArgument", 0)]
  hd := some "_law_heard"
section
variable {S : Sx} {c : Nat → List D → Oh → Rs D} {ht : List Hd} {k0 : Nat} {W : Nat}
theorem t_is_number (K0 : TtOk S tt c ht k0) : (trD K0 W n_is_number [] 1 .no (top 8)).map (·.1) = some b_is_number := by kernel_rfl
theorem t_check (K0 : TtOk S tt c ht k0) : (trD K0 W n_check [] 1 .no (top 9)).map (·.1) = some b_check := by kernel_rfl
theorem t_is_pip (K0 : TtOk S tt c ht k0) : (trD K0 W n_is_pip [] 1 .no (top 10)).map (·.1) = some b_is_pip := by kernel_rfl
theorem t_is_bone (K0 : TtOk S tt c ht k0) : (trD K0 W n_is_bone [] 1 .ge (top 14)).map (·.1) = some b_is_bone := by kernel_rfl
theorem t_is_lot (K0 : TtOk S tt c ht k0) : (trD K0 W n_is_lot [] 1 .ge (top 15)).map (·.1) = some b_is_lot := by kernel_rfl
theorem t_check_lot (K0 : TtOk S tt c ht k0) : (trD K0 W n_check_lot [] 1 .no (top 16)).map (·.1) = some b_check_lot := by kernel_rfl
theorem t_ends_at (K0 : TtOk S tt c ht k0) : (trD K0 W n_ends_at [] 1 .no (top 17)).map (·.1) = some b_ends_at := by kernel_rfl
theorem t_odd_in (K0 : TtOk S tt c ht k0) : (trD K0 W n_odd_in [] 1 .no (top 18)).map (·.1) = some b_odd_in := by kernel_rfl
theorem t_pieces_in (K0 : TtOk S tt c ht k0) : (trD K0 W n_pieces_in ["found", "group"] 1 .no (top 19)).map (·.1) = some b_pieces_in := by kernel_rfl
theorem t_bones_of (K0 : TtOk S tt c ht k0) : (trD K0 W n_bones_of [] 1 .no (top 20)).map (·.1) = some b_bones_of := by kernel_rfl
theorem t_with_bone (K0 : TtOk S tt c ht k0) : (trD K0 W n_with_bone [] 1 .no (top 21)).map (·.1) = some b_with_bone := by kernel_rfl
theorem t_can_be_row_in (K0 : TtOk S tt c ht k0) : (trD K0 W n_can_be_row_in [] 1 .no (top 23)).map (·.1) = some b_can_be_row_in := by kernel_rfl
theorem t_can_be_ring_in (K0 : TtOk S tt c ht k0) : (trD K0 W n_can_be_ring_in [] 1 .no (top 25)).map (·.1) = some b_can_be_ring_in := by kernel_rfl
theorem t_even_pieces (K0 : TtOk S tt c ht k0) : (trD K0 W n_even_pieces [] 1 .no (top 27)).map (·.1) = some b_even_pieces := by kernel_rfl
theorem t_many_for_row (K0 : TtOk S tt c ht k0) : (trD K0 W n_many_for_row [] 1 .no (top 28)).map (·.1) = some b_many_for_row := by kernel_rfl
theorem t_many_for_ring (K0 : TtOk S tt c ht k0) : (trD K0 W n_many_for_ring [] 1 .no (top 29)).map (·.1) = some b_many_for_ring := by kernel_rfl
theorem t_missing_number (K0 : TtOk S tt c ht k0) : (trD K0 W n_missing_number [] 1 .no (top 30)).map (·.1) = some b_missing_number := by kernel_rfl
theorem t_fewest_missing (K0 : TtOk S tt c ht k0) : (trD K0 W n_fewest_missing [] 1 .no (top 31)).map (·.1) = some b_fewest_missing := by kernel_rfl
theorem t_all_bones (K0 : TtOk S tt c ht k0) : (trD K0 W n_all_bones ["found"] 1 .no (top 32)).map (·.1) = some b_all_bones := by kernel_rfl
theorem t_helping_in (K0 : TtOk S tt c ht k0) : (trD K0 W n_helping_in [] 1 .no (top 33)).map (·.1) = some b_helping_in := by kernel_rfl
theorem t_helping (K0 : TtOk S tt c ht k0) : (trD K0 W n_helping [] 1 .no (top 34)).map (·.1) = some b_helping := by kernel_rfl
theorem t_missing (K0 : TtOk S tt c ht k0) : (trD K0 W n_missing ["found"] 1 .no (top 35)).map (·.1) = some b_missing := by kernel_rfl
theorem t_are_helping (K0 : TtOk S tt c ht k0) : (trD K0 W n_are_helping [] 1 .ge (top 36)).map (·.1) = some b_are_helping := by kernel_rfl
theorem t__law_taken (K0 : TtOk S tt c ht k0) : (trD K0 W n__law_taken ["row"] 1 .no (top 38)).map (·.1) = some b__law_taken := by kernel_rfl
theorem t__law_bone (K0 : TtOk S tt c ht k0) : (trD K0 W n__law_bone [] 1 .no (top 39)).map (·.1) = some b__law_bone := by kernel_rfl
theorem t__law_lot (K0 : TtOk S tt c ht k0) : (trD K0 W n__law_lot [] 1 .no (top 40)).map (·.1) = some b__law_lot := by kernel_rfl
theorem t__law_pick (K0 : TtOk S tt c ht k0) : (trD K0 W n__law_pick [] 1 .no (top 41)).map (·.1) = some b__law_pick := by kernel_rfl
theorem t__law_pieces (K0 : TtOk S tt c ht k0) : (trD K0 W n__law_pieces [] 1 .no (top 42)).map (·.1) = some b__law_pieces := by kernel_rfl
theorem t__law_count (K0 : TtOk S tt c ht k0) : (trD K0 W n__law_count [] 1 .no (top 43)).map (·.1) = some b__law_count := by kernel_rfl
theorem t__law_odd (K0 : TtOk S tt c ht k0) : (trD K0 W n__law_odd [] 1 .no (top 44)).map (·.1) = some b__law_odd := by kernel_rfl
theorem t__law_has (K0 : TtOk S tt c ht k0) : (trD K0 W n__law_has [] 1 .no (top 45)).map (·.1) = some b__law_has := by kernel_rfl
theorem t__law_alike (K0 : TtOk S tt c ht k0) : (trD K0 W n__law_alike [] 1 .no (top 46)).map (·.1) = some b__law_alike := by kernel_rfl
theorem t__law_bad_lot (K0 : TtOk S tt c ht k0) : (trD K0 W n__law_bad_lot [] 1 .no (top 47)).map (·.1) = some b__law_bad_lot := by kernel_rfl
theorem t_law (K0 : TtOk S tt c ht k0) : (trD K0 W n_law ["row"] 2 .la (top 49)).map (·.1) = some b_law := by kernel_rfl
end
end Lk10

set_option Elab.async false
set_option linter.all false
set_option maxRecDepth 100000
set_option maxHeartbeats 0
set_option autoImplicit false
namespace Lk10
open PySem PySem.Spec PyProof.Rows L2 GxR Ev He
abbrev R : PySem.W.OpenRow := PySem.W.OpenLaw.row PySem.Challenge.rw_dominorows_k10_missing_bones
def fnl : List He.DefD := [
  ⟨("is_number", none), "is_number", "is_number", defArgs (top 8), defBody (top 8), defScope (top 8), [], []⟩,
  ⟨("check", none), "check", "check", defArgs (top 9), defBody (top 9), defScope (top 9), [], []⟩,
  ⟨("is_pip", none), "is_pip", "is_pip", defArgs (top 10), defBody (top 10), defScope (top 10), [], []⟩,
  ⟨("is_bone", none), "is_bone", "is_bone", defArgs (top 14), defBody (top 14), defScope (top 14), [], []⟩,
  ⟨("is_lot", none), "is_lot", "is_lot", defArgs (top 15), defBody (top 15), defScope (top 15), [], []⟩,
  ⟨("check_lot", none), "check_lot", "check_lot", defArgs (top 16), defBody (top 16), defScope (top 16), [], []⟩,
  ⟨("ends_at", none), "ends_at", "ends_at", defArgs (top 17), defBody (top 17), defScope (top 17), [], []⟩,
  ⟨("odd_in", none), "odd_in", "odd_in", defArgs (top 18), defBody (top 18), defScope (top 18), [], []⟩,
  ⟨("pieces_in", none), "pieces_in", "pieces_in", defArgs (top 19), defBody (top 19), defScope (top 19), [], []⟩,
  ⟨("bones_of", none), "bones_of", "bones_of", defArgs (top 20), defBody (top 20), defScope (top 20), [], []⟩,
  ⟨("with_bone", none), "with_bone", "with_bone", defArgs (top 21), defBody (top 21), defScope (top 21), [], []⟩,
  ⟨("can_be_row_in", none), "can_be_row_in", "can_be_row_in", defArgs (top 23), defBody (top 23), defScope (top 23), [], []⟩,
  ⟨("can_be_ring_in", none), "can_be_ring_in", "can_be_ring_in", defArgs (top 25), defBody (top 25), defScope (top 25), [], []⟩,
  ⟨("even_pieces", none), "even_pieces", "even_pieces", defArgs (top 27), defBody (top 27), defScope (top 27), [], []⟩,
  ⟨("many_for_row", none), "many_for_row", "many_for_row", defArgs (top 28), defBody (top 28), defScope (top 28), [], []⟩,
  ⟨("many_for_ring", none), "many_for_ring", "many_for_ring", defArgs (top 29), defBody (top 29), defScope (top 29), [], []⟩,
  ⟨("missing_number", none), "missing_number", "missing_number", defArgs (top 30), defBody (top 30), defScope (top 30), [], []⟩,
  ⟨("fewest_missing", none), "fewest_missing", "fewest_missing", defArgs (top 31), defBody (top 31), defScope (top 31), [], []⟩,
  ⟨("all_bones", none), "all_bones", "all_bones", defArgs (top 32), defBody (top 32), defScope (top 32), [], []⟩,
  ⟨("helping_in", none), "helping_in", "helping_in", defArgs (top 33), defBody (top 33), defScope (top 33), [], []⟩,
  ⟨("helping", none), "helping", "helping", defArgs (top 34), defBody (top 34), defScope (top 34), [], []⟩,
  ⟨("missing", none), "missing", "missing", defArgs (top 35), defBody (top 35), defScope (top 35), [], []⟩,
  ⟨("are_helping", none), "are_helping", "are_helping", defArgs (top 36), defBody (top 36), defScope (top 36), [], []⟩,
  ⟨("_law_taken", none), "_law_taken", "_law_taken", defArgs (top 38), defBody (top 38), defScope (top 38), [], []⟩,
  ⟨("_law_bone", none), "_law_bone", "_law_bone", defArgs (top 39), defBody (top 39), defScope (top 39), [], []⟩,
  ⟨("_law_lot", none), "_law_lot", "_law_lot", defArgs (top 40), defBody (top 40), defScope (top 40), [], []⟩,
  ⟨("_law_pick", none), "_law_pick", "_law_pick", defArgs (top 41), defBody (top 41), defScope (top 41), [], []⟩,
  ⟨("_law_pieces", none), "_law_pieces", "_law_pieces", defArgs (top 42), defBody (top 42), defScope (top 42), [], []⟩,
  ⟨("_law_count", none), "_law_count", "_law_count", defArgs (top 43), defBody (top 43), defScope (top 43), [], []⟩,
  ⟨("_law_odd", none), "_law_odd", "_law_odd", defArgs (top 44), defBody (top 44), defScope (top 44), [], []⟩,
  ⟨("_law_has", none), "_law_has", "_law_has", defArgs (top 45), defBody (top 45), defScope (top 45), [], []⟩,
  ⟨("_law_alike", none), "_law_alike", "_law_alike", defArgs (top 46), defBody (top 46), defScope (top 46), [], []⟩,
  ⟨("_law_bad_lot", none), "_law_bad_lot", "_law_bad_lot", defArgs (top 47), defBody (top 47), defScope (top 47), [], []⟩,
  ⟨("law", none), "law", "law", defArgs (top 49), defBody (top 49), defScope (top 49), [], []⟩,
  ⟨("_law_heard", none), "_law_heard", "_law_heard", defArgs (top 48), defBody (top 48), defScope (top 48), [], []⟩]
def tf : List He.Defn := [("is_bone", none), ("is_lot", none), ("are_helping", none), ("law", none)]
def fal : List He.Fa := [.glo "is_number", .glo "check", .glo "is_pip", .glo "is_bone", .glo "is_lot", .glo "check_lot", .glo "ends_at", .glo "odd_in", .glo "pieces_in", .glo "bones_of", .glo "with_bone", .glo "can_be_row_in", .glo "can_be_ring_in", .glo "even_pieces", .glo "many_for_row", .glo "many_for_ring", .glo "missing_number", .glo "fewest_missing", .glo "all_bones", .glo "helping_in", .glo "helping", .glo "missing", .glo "are_helping", .glo "_law_taken", .glo "_law_bone", .glo "_law_lot", .glo "_law_pick", .glo "_law_pieces", .glo "_law_count", .glo "_law_odd", .glo "_law_has", .glo "_law_alike", .glo "_law_bad_lot", .glo "law", .glo "_law_heard", .glo "BoneError", .glo "BadArgument", .glo "Unlaid", .glo "Refused", .glo "Unread", .glo "PIPS", .free "len", .free "sum", .free "min", .free "max", .free "int", .free "str", .free "abs", .free "tuple", .free "list", .free "sorted", .free "isinstance", .free "bool", .free "dict", .free "range", .free "zip", .free "enumerate", .free "all", .free "any", .free "set", .free "super", .free "ValueError", .int "MOST_PIP" 6, .int "MOST_BONES" 8]
def init_BadArgument : Stmt := match top 2 with | .ClassDef _ _ _ (s :: _) _ _ _ _ _ _ _ => s | _ => top 2
def c_BadArgument : DefC := ⟨"BadArgument", "__init__", "BadArgument.__init__", defArgs init_BadArgument, defBody init_BadArgument, defScope init_BadArgument⟩
def csl : List DefC := [c_BadArgument]
def vs_PIPS : List V := [.int 0, .int 1, .int 2, .int 3, .int 4, .int 5, .int 6]
def exB (K : PySem.W.Frag) : Bool := ownB PySem.Challenge.pw_dominorows_k10_missing_bones K "BadArgument" "name" "BadArgument.__init__" && (hdkB K (ga K "BadArgument") (ga K "Unlaid") (ga K "Refused") (ga K "Unread") (ga K "BoneError") "name" "bar" "why" "line" "why" && (ctB K (ga K "PIPS") vs_PIPS && (decide ((cT K ("is_bone", none)).2 ≠ (cT K ("law", none)).2) && (decide ((cT K ("is_lot", none)).2 ≠ (cT K ("law", none)).2) && (decide ((cT K ("are_helping", none)).2 ≠ (cT K ("law", none)).2))))))
def nms0 : List PySem.Str := [
  "is_number",
  "check",
  "is_pip",
  "is_bone",
  "is_lot",
  "check_lot",
  "ends_at",
  "odd_in",
  "pieces_in",
  "bones_of",
  "with_bone",
  "can_be_row_in",
  "can_be_ring_in",
  "even_pieces",
  "many_for_row",
  "many_for_ring",
  "missing_number",
  "fewest_missing",
  "all_bones",
  "helping_in"]
def nms1 : List PySem.Str := [
  "helping",
  "missing",
  "are_helping",
  "_law_taken",
  "_law_bone",
  "_law_lot",
  "_law_pick",
  "_law_pieces",
  "_law_count",
  "_law_odd",
  "_law_has",
  "_law_alike",
  "_law_bad_lot",
  "_law_heard",
  "BoneError",
  "BadArgument",
  "Unlaid",
  "Refused",
  "Unread",
  "MOST_PIP"]
def nms2 : List PySem.Str := [
  "MOST_BONES",
  "PIPS"]
def nms : List PySem.Str := nms0 ++ nms1 ++ nms2
abbrev hk : PySem.W.Hook := hookY 7 fal fnl tf exB csl
def ob (s : PySem.W.SharedT) : AlY := obsY 7 fal fnl tf exB csl (HandSHeadRun.getT s)
theorem ob_eq (s : PySem.W.SharedT) : ob s = hk.obs s.abs := obsY_eq (HandSHeadRun.getT_eq s)
theorem run (w : World) : HandSHeadRun.RunEq R (PySem.W.view R.prog [49]) hk ob 4000 nms w := by
  intro os
  kernel_rfl
end Lk10

set_option Elab.async false
set_option linter.all false
set_option maxRecDepth 100000
set_option maxHeartbeats 0
set_option autoImplicit false
namespace Lk10
open PySem PySem.Spec PyProof.Rows L2 GxR Ev He

def mkS (w : World) (K : PySem.W.Frag) (mg : Str → Option Value) (base : Heap) : Sx where
  P := PySem.Challenge.pw_dominorows_k10_missing_bones
  w := w
  K := K
  mg := mg
  base := base
  tabs := [(cT K ("is_bone", none)).2, (cT K ("is_lot", none)).2, (cT K ("are_helping", none)).2]
  tq := [((cT K ("law", none)).2, ("law" ++ ".<locals>.") ++ "<lambda>")]
  clsA := fun _ => none
  exA := fun i => if i = 0 then some (ga K "BadArgument", ["name"]) else none
def ht : List Hd := [⟨"bad", true⟩]
section
variable {w : World} {K : PySem.W.Frag} {mg : Str → Option Value} {base : Heap} {h : Heap}
/-- what the head gives -/
structure Hs (w : World) (K : PySem.W.Frag) (mg : Str → Option Value) (base : Heap) : Prop where
  d : SaysD fal fnl K
  b : exB K = true
  cl : csl.map (fun d => fnC K d.at_) = csl.map DefC.val
  kin : K.In base
  ns : base.Ns mainGlobals mg
  tb : ∀ p ∈ tf, LamX.TabB base mg (cT K p).1 (cT K p).2
variable (X : Hs w K mg base)
include X
theorem bit0 : (ownB PySem.Challenge.pw_dominorows_k10_missing_bones K "BadArgument" "name" "BadArgument.__init__") = true := (ba X.b).1
theorem bit1 : (hdkB K (ga K "BadArgument") (ga K "Unlaid") (ga K "Refused") (ga K "Unread") (ga K "BoneError") "name" "bar" "why" "line" "why") = true := (ba (ba X.b).2).1
theorem bit2 : (ctB K (ga K "PIPS") vs_PIPS) = true := (ba (ba (ba X.b).2).2).1
theorem bit3 : (decide ((cT K ("is_bone", none)).2 ≠ (cT K ("law", none)).2)) = true := (ba (ba (ba (ba X.b).2).2).2).1
theorem bit4 : (decide ((cT K ("is_lot", none)).2 ≠ (cT K ("law", none)).2)) = true := (ba (ba (ba (ba (ba X.b).2).2).2).2).1
theorem bit5 : (decide ((cT K ("are_helping", none)).2 ≠ (cT K ("law", none)).2)) = true := (ba (ba (ba (ba (ba X.b).2).2).2).2).2
theorem fact {f : He.Fa} (hf : f ∈ fal) : f.ok K = true := X.d.facts hf
theorem fglo {x : Str} (hf : He.Fa.glo x ∈ fal) : mg x = some (.ref (ga K x)) := glo_ok X.kin X.ns (fact X hf)
theorem ffree {x : Str} (hf : He.Fa.free x ∈ fal) : mg x = none := free_ok X.kin X.ns (fact X hf)
theorem o_is_number : OneAt (mkS w K mg base) "is_number" (top 8) .no := by
  obtain ⟨fd, F⟩ := (X.d.def_ 0 rfl)
  exact one_no (S := mkS w K mg base) F (fglo X (List.mem_of_getElem? (i := 0) rfl))
theorem o_check : OneAt (mkS w K mg base) "check" (top 9) .no := by
  obtain ⟨fd, F⟩ := (X.d.def_ 1 rfl)
  exact one_no (S := mkS w K mg base) F (fglo X (List.mem_of_getElem? (i := 1) rfl))
theorem o_is_pip : OneAt (mkS w K mg base) "is_pip" (top 10) .no := by
  obtain ⟨fd, F⟩ := (X.d.def_ 2 rfl)
  exact one_no (S := mkS w K mg base) F (fglo X (List.mem_of_getElem? (i := 2) rfl))
theorem o_is_bone : OneAt (mkS w K mg base) "is_bone" (top 14) .ge := by
  obtain ⟨fd, F⟩ := (X.d.def_ 3 rfl)
  refine one_ge (S := mkS w K mg base) F (fglo X (List.mem_of_getElem? (i := 3) rfl)) (X.tb ("is_bone", none) (List.mem_of_getElem? (i := 0) rfl)) (List.mem_of_getElem? (i := 0) rfl) fun p hp => ?_
  have hp : p ∈ [((cT K ("law", none)).2, (("law" : Str) ++ ".<locals>.") ++ "<lambda>")] := hp
  rw [List.mem_singleton] at hp; subst hp; exact fun e => (of_decide_eq_true (bit3 X)) e.symm
theorem o_is_lot : OneAt (mkS w K mg base) "is_lot" (top 15) .ge := by
  obtain ⟨fd, F⟩ := (X.d.def_ 4 rfl)
  refine one_ge (S := mkS w K mg base) F (fglo X (List.mem_of_getElem? (i := 4) rfl)) (X.tb ("is_lot", none) (List.mem_of_getElem? (i := 1) rfl)) (List.mem_of_getElem? (i := 1) rfl) fun p hp => ?_
  have hp : p ∈ [((cT K ("law", none)).2, (("law" : Str) ++ ".<locals>.") ++ "<lambda>")] := hp
  rw [List.mem_singleton] at hp; subst hp; exact fun e => (of_decide_eq_true (bit4 X)) e.symm
theorem o_check_lot : OneAt (mkS w K mg base) "check_lot" (top 16) .no := by
  obtain ⟨fd, F⟩ := (X.d.def_ 5 rfl)
  exact one_no (S := mkS w K mg base) F (fglo X (List.mem_of_getElem? (i := 5) rfl))
theorem o_ends_at : OneAt (mkS w K mg base) "ends_at" (top 17) .no := by
  obtain ⟨fd, F⟩ := (X.d.def_ 6 rfl)
  exact one_no (S := mkS w K mg base) F (fglo X (List.mem_of_getElem? (i := 6) rfl))
theorem o_odd_in : OneAt (mkS w K mg base) "odd_in" (top 18) .no := by
  obtain ⟨fd, F⟩ := (X.d.def_ 7 rfl)
  exact one_no (S := mkS w K mg base) F (fglo X (List.mem_of_getElem? (i := 7) rfl))
theorem o_pieces_in : OneAt (mkS w K mg base) "pieces_in" (top 19) .no := by
  obtain ⟨fd, F⟩ := (X.d.def_ 8 rfl)
  exact one_no (S := mkS w K mg base) F (fglo X (List.mem_of_getElem? (i := 8) rfl))
theorem o_bones_of : OneAt (mkS w K mg base) "bones_of" (top 20) .no := by
  obtain ⟨fd, F⟩ := (X.d.def_ 9 rfl)
  exact one_no (S := mkS w K mg base) F (fglo X (List.mem_of_getElem? (i := 9) rfl))
theorem o_with_bone : OneAt (mkS w K mg base) "with_bone" (top 21) .no := by
  obtain ⟨fd, F⟩ := (X.d.def_ 10 rfl)
  exact one_no (S := mkS w K mg base) F (fglo X (List.mem_of_getElem? (i := 10) rfl))
theorem o_can_be_row_in : OneAt (mkS w K mg base) "can_be_row_in" (top 23) .no := by
  obtain ⟨fd, F⟩ := (X.d.def_ 11 rfl)
  exact one_no (S := mkS w K mg base) F (fglo X (List.mem_of_getElem? (i := 11) rfl))
theorem o_can_be_ring_in : OneAt (mkS w K mg base) "can_be_ring_in" (top 25) .no := by
  obtain ⟨fd, F⟩ := (X.d.def_ 12 rfl)
  exact one_no (S := mkS w K mg base) F (fglo X (List.mem_of_getElem? (i := 12) rfl))
theorem o_even_pieces : OneAt (mkS w K mg base) "even_pieces" (top 27) .no := by
  obtain ⟨fd, F⟩ := (X.d.def_ 13 rfl)
  exact one_no (S := mkS w K mg base) F (fglo X (List.mem_of_getElem? (i := 13) rfl))
theorem o_many_for_row : OneAt (mkS w K mg base) "many_for_row" (top 28) .no := by
  obtain ⟨fd, F⟩ := (X.d.def_ 14 rfl)
  exact one_no (S := mkS w K mg base) F (fglo X (List.mem_of_getElem? (i := 14) rfl))
theorem o_many_for_ring : OneAt (mkS w K mg base) "many_for_ring" (top 29) .no := by
  obtain ⟨fd, F⟩ := (X.d.def_ 15 rfl)
  exact one_no (S := mkS w K mg base) F (fglo X (List.mem_of_getElem? (i := 15) rfl))
theorem o_missing_number : OneAt (mkS w K mg base) "missing_number" (top 30) .no := by
  obtain ⟨fd, F⟩ := (X.d.def_ 16 rfl)
  exact one_no (S := mkS w K mg base) F (fglo X (List.mem_of_getElem? (i := 16) rfl))
theorem o_fewest_missing : OneAt (mkS w K mg base) "fewest_missing" (top 31) .no := by
  obtain ⟨fd, F⟩ := (X.d.def_ 17 rfl)
  exact one_no (S := mkS w K mg base) F (fglo X (List.mem_of_getElem? (i := 17) rfl))
theorem o_all_bones : OneAt (mkS w K mg base) "all_bones" (top 32) .no := by
  obtain ⟨fd, F⟩ := (X.d.def_ 18 rfl)
  exact one_no (S := mkS w K mg base) F (fglo X (List.mem_of_getElem? (i := 18) rfl))
theorem o_helping_in : OneAt (mkS w K mg base) "helping_in" (top 33) .no := by
  obtain ⟨fd, F⟩ := (X.d.def_ 19 rfl)
  exact one_no (S := mkS w K mg base) F (fglo X (List.mem_of_getElem? (i := 19) rfl))
theorem o_helping : OneAt (mkS w K mg base) "helping" (top 34) .no := by
  obtain ⟨fd, F⟩ := (X.d.def_ 20 rfl)
  exact one_no (S := mkS w K mg base) F (fglo X (List.mem_of_getElem? (i := 20) rfl))
theorem o_missing : OneAt (mkS w K mg base) "missing" (top 35) .no := by
  obtain ⟨fd, F⟩ := (X.d.def_ 21 rfl)
  exact one_no (S := mkS w K mg base) F (fglo X (List.mem_of_getElem? (i := 21) rfl))
theorem o_are_helping : OneAt (mkS w K mg base) "are_helping" (top 36) .ge := by
  obtain ⟨fd, F⟩ := (X.d.def_ 22 rfl)
  refine one_ge (S := mkS w K mg base) F (fglo X (List.mem_of_getElem? (i := 22) rfl)) (X.tb ("are_helping", none) (List.mem_of_getElem? (i := 2) rfl)) (List.mem_of_getElem? (i := 2) rfl) fun p hp => ?_
  have hp : p ∈ [((cT K ("law", none)).2, (("law" : Str) ++ ".<locals>.") ++ "<lambda>")] := hp
  rw [List.mem_singleton] at hp; subst hp; exact fun e => (of_decide_eq_true (bit5 X)) e.symm
theorem o__law_taken : OneAt (mkS w K mg base) "_law_taken" (top 38) .no := by
  obtain ⟨fd, F⟩ := (X.d.def_ 23 rfl)
  exact one_no (S := mkS w K mg base) F (fglo X (List.mem_of_getElem? (i := 23) rfl))
theorem o__law_bone : OneAt (mkS w K mg base) "_law_bone" (top 39) .no := by
  obtain ⟨fd, F⟩ := (X.d.def_ 24 rfl)
  exact one_no (S := mkS w K mg base) F (fglo X (List.mem_of_getElem? (i := 24) rfl))
theorem o__law_lot : OneAt (mkS w K mg base) "_law_lot" (top 40) .no := by
  obtain ⟨fd, F⟩ := (X.d.def_ 25 rfl)
  exact one_no (S := mkS w K mg base) F (fglo X (List.mem_of_getElem? (i := 25) rfl))
theorem o__law_pick : OneAt (mkS w K mg base) "_law_pick" (top 41) .no := by
  obtain ⟨fd, F⟩ := (X.d.def_ 26 rfl)
  exact one_no (S := mkS w K mg base) F (fglo X (List.mem_of_getElem? (i := 26) rfl))
theorem o__law_pieces : OneAt (mkS w K mg base) "_law_pieces" (top 42) .no := by
  obtain ⟨fd, F⟩ := (X.d.def_ 27 rfl)
  exact one_no (S := mkS w K mg base) F (fglo X (List.mem_of_getElem? (i := 27) rfl))
theorem o__law_count : OneAt (mkS w K mg base) "_law_count" (top 43) .no := by
  obtain ⟨fd, F⟩ := (X.d.def_ 28 rfl)
  exact one_no (S := mkS w K mg base) F (fglo X (List.mem_of_getElem? (i := 28) rfl))
theorem o__law_odd : OneAt (mkS w K mg base) "_law_odd" (top 44) .no := by
  obtain ⟨fd, F⟩ := (X.d.def_ 29 rfl)
  exact one_no (S := mkS w K mg base) F (fglo X (List.mem_of_getElem? (i := 29) rfl))
theorem o__law_has : OneAt (mkS w K mg base) "_law_has" (top 45) .no := by
  obtain ⟨fd, F⟩ := (X.d.def_ 30 rfl)
  exact one_no (S := mkS w K mg base) F (fglo X (List.mem_of_getElem? (i := 30) rfl))
theorem o__law_alike : OneAt (mkS w K mg base) "_law_alike" (top 46) .no := by
  obtain ⟨fd, F⟩ := (X.d.def_ 31 rfl)
  exact one_no (S := mkS w K mg base) F (fglo X (List.mem_of_getElem? (i := 31) rfl))
theorem o__law_bad_lot : OneAt (mkS w K mg base) "_law_bad_lot" (top 47) .no := by
  obtain ⟨fd, F⟩ := (X.d.def_ 32 rfl)
  exact one_no (S := mkS w K mg base) F (fglo X (List.mem_of_getElem? (i := 32) rfl))
theorem o_law : OneAt (mkS w K mg base) "law" (top 49) .la := by
  obtain ⟨fd, F⟩ := (X.d.def_ 33 rfl)
  refine one_la (S := mkS w K mg base) F (fglo X (List.mem_of_getElem? (i := 33) rfl)) (X.tb ("law", none) (List.mem_of_getElem? (i := 3) rfl)) (List.mem_of_getElem? (i := 0) rfl) fun p hp _ => ?_
  have hp : p ∈ [((cT K ("law", none)).2, (("law" : Str) ++ ".<locals>.") ++ "<lambda>")] := hp
  rw [List.mem_singleton] at hp; subst hp; rfl
omit X
theorem s_is_number : FnScope n_is_number (n_is_number.take 3) (defScope (top 8)) := ⟨rfl, rfl, rfl, by decide +kernel, rfl, by decide +kernel, by decide +kernel⟩
theorem bd_is_number : BindE "is_number" (top 8) (n_is_number.take 3) := fun _ _ _ _ _ _ us hl => match us, hl with | [_, _, _], _ => rfl
theorem s_check : FnScope n_check (n_check.take 2) (defScope (top 9)) := ⟨rfl, rfl, rfl, by decide +kernel, rfl, by decide +kernel, by decide +kernel⟩
theorem bd_check : BindE "check" (top 9) (n_check.take 2) := fun _ _ _ _ _ _ us hl => match us, hl with | [_, _], _ => rfl
theorem s_is_pip : FnScope n_is_pip (n_is_pip.take 1) (defScope (top 10)) := ⟨rfl, rfl, rfl, by decide +kernel, rfl, by decide +kernel, by decide +kernel⟩
theorem bd_is_pip : BindE "is_pip" (top 10) (n_is_pip.take 1) := fun _ _ _ _ _ _ us hl => match us, hl with | [_], _ => rfl
theorem s_is_bone : FnScope n_is_bone (n_is_bone.take 1) (defScope (top 14)) := ⟨rfl, rfl, rfl, by decide +kernel, rfl, by decide +kernel, by decide +kernel⟩
theorem bd_is_bone : BindE "is_bone" (top 14) (n_is_bone.take 1) := fun _ _ _ _ _ _ us hl => match us, hl with | [_], _ => rfl
theorem s_is_lot : FnScope n_is_lot (n_is_lot.take 1) (defScope (top 15)) := ⟨rfl, rfl, rfl, by decide +kernel, rfl, by decide +kernel, by decide +kernel⟩
theorem bd_is_lot : BindE "is_lot" (top 15) (n_is_lot.take 1) := fun _ _ _ _ _ _ us hl => match us, hl with | [_], _ => rfl
theorem s_check_lot : FnScope n_check_lot (n_check_lot.take 1) (defScope (top 16)) := ⟨rfl, rfl, rfl, by decide +kernel, rfl, by decide +kernel, by decide +kernel⟩
theorem bd_check_lot : BindE "check_lot" (top 16) (n_check_lot.take 1) := fun _ _ _ _ _ _ us hl => match us, hl with | [_], _ => rfl
theorem s_ends_at : FnScope n_ends_at (n_ends_at.take 2) (defScope (top 17)) := ⟨rfl, rfl, rfl, by decide +kernel, rfl, by decide +kernel, by decide +kernel⟩
theorem bd_ends_at : BindE "ends_at" (top 17) (n_ends_at.take 2) := fun _ _ _ _ _ _ us hl => match us, hl with | [_, _], _ => rfl
theorem s_odd_in : FnScope n_odd_in (n_odd_in.take 1) (defScope (top 18)) := ⟨rfl, rfl, rfl, by decide +kernel, rfl, by decide +kernel, by decide +kernel⟩
theorem bd_odd_in : BindE "odd_in" (top 18) (n_odd_in.take 1) := fun _ _ _ _ _ _ us hl => match us, hl with | [_], _ => rfl
theorem s_pieces_in : FnScope n_pieces_in (n_pieces_in.take 1) (defScope (top 19)) := ⟨rfl, rfl, rfl, by decide +kernel, rfl, by decide +kernel, by decide +kernel⟩
theorem bd_pieces_in : BindE "pieces_in" (top 19) (n_pieces_in.take 1) := fun _ _ _ _ _ _ us hl => match us, hl with | [_], _ => rfl
theorem s_bones_of : FnScope n_bones_of (n_bones_of.take 2) (defScope (top 20)) := ⟨rfl, rfl, rfl, by decide +kernel, rfl, by decide +kernel, by decide +kernel⟩
theorem bd_bones_of : BindE "bones_of" (top 20) (n_bones_of.take 2) := fun _ _ _ _ _ _ us hl => match us, hl with | [_, _], _ => rfl
theorem s_with_bone : FnScope n_with_bone (n_with_bone.take 2) (defScope (top 21)) := ⟨rfl, rfl, rfl, by decide +kernel, rfl, by decide +kernel, by decide +kernel⟩
theorem bd_with_bone : BindE "with_bone" (top 21) (n_with_bone.take 2) := fun _ _ _ _ _ _ us hl => match us, hl with | [_, _], _ => rfl
theorem s_can_be_row_in : FnScope n_can_be_row_in (n_can_be_row_in.take 1) (defScope (top 23)) := ⟨rfl, rfl, rfl, by decide +kernel, rfl, by decide +kernel, by decide +kernel⟩
theorem bd_can_be_row_in : BindE "can_be_row_in" (top 23) (n_can_be_row_in.take 1) := fun _ _ _ _ _ _ us hl => match us, hl with | [_], _ => rfl
theorem s_can_be_ring_in : FnScope n_can_be_ring_in (n_can_be_ring_in.take 1) (defScope (top 25)) := ⟨rfl, rfl, rfl, by decide +kernel, rfl, by decide +kernel, by decide +kernel⟩
theorem bd_can_be_ring_in : BindE "can_be_ring_in" (top 25) (n_can_be_ring_in.take 1) := fun _ _ _ _ _ _ us hl => match us, hl with | [_], _ => rfl
theorem s_even_pieces : FnScope n_even_pieces (n_even_pieces.take 1) (defScope (top 27)) := ⟨rfl, rfl, rfl, by decide +kernel, rfl, by decide +kernel, by decide +kernel⟩
theorem bd_even_pieces : BindE "even_pieces" (top 27) (n_even_pieces.take 1) := fun _ _ _ _ _ _ us hl => match us, hl with | [_], _ => rfl
theorem s_many_for_row : FnScope n_many_for_row (n_many_for_row.take 1) (defScope (top 28)) := ⟨rfl, rfl, rfl, by decide +kernel, rfl, by decide +kernel, by decide +kernel⟩
theorem bd_many_for_row : BindE "many_for_row" (top 28) (n_many_for_row.take 1) := fun _ _ _ _ _ _ us hl => match us, hl with | [_], _ => rfl
theorem s_many_for_ring : FnScope n_many_for_ring (n_many_for_ring.take 1) (defScope (top 29)) := ⟨rfl, rfl, rfl, by decide +kernel, rfl, by decide +kernel, by decide +kernel⟩
theorem bd_many_for_ring : BindE "many_for_ring" (top 29) (n_many_for_ring.take 1) := fun _ _ _ _ _ _ us hl => match us, hl with | [_], _ => rfl
theorem s_missing_number : FnScope n_missing_number (n_missing_number.take 2) (defScope (top 30)) := ⟨rfl, rfl, rfl, by decide +kernel, rfl, by decide +kernel, by decide +kernel⟩
theorem bd_missing_number : BindE "missing_number" (top 30) (n_missing_number.take 2) := fun _ _ _ _ _ _ us hl => match us, hl with | [_, _], _ => rfl
theorem s_fewest_missing : FnScope n_fewest_missing (n_fewest_missing.take 2) (defScope (top 31)) := ⟨rfl, rfl, rfl, by decide +kernel, rfl, by decide +kernel, by decide +kernel⟩
theorem bd_fewest_missing : BindE "fewest_missing" (top 31) (n_fewest_missing.take 2) := fun _ _ _ _ _ _ us hl => match us, hl with | [_, _], _ => rfl
theorem s_all_bones : FnScope n_all_bones (n_all_bones.take 0) (defScope (top 32)) := ⟨rfl, rfl, rfl, by decide +kernel, rfl, by decide +kernel, by decide +kernel⟩
theorem bd_all_bones : BindE "all_bones" (top 32) (n_all_bones.take 0) := fun _ _ _ _ _ _ us hl => match us, hl with | [], _ => rfl
theorem s_helping_in : FnScope n_helping_in (n_helping_in.take 2) (defScope (top 33)) := ⟨rfl, rfl, rfl, by decide +kernel, rfl, by decide +kernel, by decide +kernel⟩
theorem bd_helping_in : BindE "helping_in" (top 33) (n_helping_in.take 2) := fun _ _ _ _ _ _ us hl => match us, hl with | [_, _], _ => rfl
theorem s_helping : FnScope n_helping (n_helping.take 2) (defScope (top 34)) := ⟨rfl, rfl, rfl, by decide +kernel, rfl, by decide +kernel, by decide +kernel⟩
theorem bd_helping : BindE "helping" (top 34) (n_helping.take 2) := fun _ _ _ _ _ _ us hl => match us, hl with | [_, _], _ => rfl
theorem s_missing : FnScope n_missing (n_missing.take 2) (defScope (top 35)) := ⟨rfl, rfl, rfl, by decide +kernel, rfl, by decide +kernel, by decide +kernel⟩
theorem bd_missing : BindE "missing" (top 35) (n_missing.take 2) := fun _ _ _ _ _ _ us hl => match us, hl with | [_, _], _ => rfl
theorem s_are_helping : FnScope n_are_helping (n_are_helping.take 3) (defScope (top 36)) := ⟨rfl, rfl, rfl, by decide +kernel, rfl, by decide +kernel, by decide +kernel⟩
theorem bd_are_helping : BindE "are_helping" (top 36) (n_are_helping.take 3) := fun _ _ _ _ _ _ us hl => match us, hl with | [_, _, _], _ => rfl
theorem s__law_taken : FnScope n__law_taken (n__law_taken.take 2) (defScope (top 38)) := ⟨rfl, rfl, rfl, by decide +kernel, rfl, by decide +kernel, by decide +kernel⟩
theorem bd__law_taken : BindE "_law_taken" (top 38) (n__law_taken.take 2) := fun _ _ _ _ _ _ us hl => match us, hl with | [_, _], _ => rfl
theorem s__law_bone : FnScope n__law_bone (n__law_bone.take 2) (defScope (top 39)) := ⟨rfl, rfl, rfl, by decide +kernel, rfl, by decide +kernel, by decide +kernel⟩
theorem bd__law_bone : BindE "_law_bone" (top 39) (n__law_bone.take 2) := fun _ _ _ _ _ _ us hl => match us, hl with | [_, _], _ => rfl
theorem s__law_lot : FnScope n__law_lot (n__law_lot.take 3) (defScope (top 40)) := ⟨rfl, rfl, rfl, by decide +kernel, rfl, by decide +kernel, by decide +kernel⟩
theorem bd__law_lot : BindE "_law_lot" (top 40) (n__law_lot.take 3) := fun _ _ _ _ _ _ us hl => match us, hl with | [_, _, _], _ => rfl
theorem s__law_pick : FnScope n__law_pick (n__law_pick.take 2) (defScope (top 41)) := ⟨rfl, rfl, rfl, by decide +kernel, rfl, by decide +kernel, by decide +kernel⟩
theorem bd__law_pick : BindE "_law_pick" (top 41) (n__law_pick.take 2) := fun _ _ _ _ _ _ us hl => match us, hl with | [_, _], _ => rfl
theorem s__law_pieces : FnScope n__law_pieces (n__law_pieces.take 1) (defScope (top 42)) := ⟨rfl, rfl, rfl, by decide +kernel, rfl, by decide +kernel, by decide +kernel⟩
theorem bd__law_pieces : BindE "_law_pieces" (top 42) (n__law_pieces.take 1) := fun _ _ _ _ _ _ us hl => match us, hl with | [_], _ => rfl
theorem s__law_count : FnScope n__law_count (n__law_count.take 2) (defScope (top 43)) := ⟨rfl, rfl, rfl, by decide +kernel, rfl, by decide +kernel, by decide +kernel⟩
theorem bd__law_count : BindE "_law_count" (top 43) (n__law_count.take 2) := fun _ _ _ _ _ _ us hl => match us, hl with | [_, _], _ => rfl
theorem s__law_odd : FnScope n__law_odd (n__law_odd.take 1) (defScope (top 44)) := ⟨rfl, rfl, rfl, by decide +kernel, rfl, by decide +kernel, by decide +kernel⟩
theorem bd__law_odd : BindE "_law_odd" (top 44) (n__law_odd.take 1) := fun _ _ _ _ _ _ us hl => match us, hl with | [_], _ => rfl
theorem s__law_has : FnScope n__law_has (n__law_has.take 2) (defScope (top 45)) := ⟨rfl, rfl, rfl, by decide +kernel, rfl, by decide +kernel, by decide +kernel⟩
theorem bd__law_has : BindE "_law_has" (top 45) (n__law_has.take 2) := fun _ _ _ _ _ _ us hl => match us, hl with | [_, _], _ => rfl
theorem s__law_alike : FnScope n__law_alike (n__law_alike.take 2) (defScope (top 46)) := ⟨rfl, rfl, rfl, by decide +kernel, rfl, by decide +kernel, by decide +kernel⟩
theorem bd__law_alike : BindE "_law_alike" (top 46) (n__law_alike.take 2) := fun _ _ _ _ _ _ us hl => match us, hl with | [_, _], _ => rfl
theorem s__law_bad_lot : FnScope n__law_bad_lot (n__law_bad_lot.take 1) (defScope (top 47)) := ⟨rfl, rfl, rfl, by decide +kernel, rfl, by decide +kernel, by decide +kernel⟩
theorem bd__law_bad_lot : BindE "_law_bad_lot" (top 47) (n__law_bad_lot.take 1) := fun _ _ _ _ _ _ us hl => match us, hl with | [_], _ => rfl
theorem s_law : FnScope n_law (n_law.take 1) (defScope (top 49)) := ⟨rfl, rfl, rfl, by decide +kernel, rfl, by decide +kernel, by decide +kernel⟩
theorem bd_law : BindE "law" (top 49) (n_law.take 1) := fun _ _ _ _ _ _ us hl => match us, hl with | [_], _ => rfl
include X
theorem g_MOST_PIP : ∃ v u, (mkS w K mg base).mg "MOST_PIP" = some u ∧ RelV v u ∧ ∀ f H h, RR (mkS w K mg base) f H h → Rep K f H (.int 6) v := glI (S := mkS w K mg base) (int_ok X.kin X.ns (fact X (List.mem_of_getElem? (i := 62) rfl)))
theorem g_MOST_BONES : ∃ v u, (mkS w K mg base).mg "MOST_BONES" = some u ∧ RelV v u ∧ ∀ f H h, RR (mkS w K mg base) f H h → Rep K f H (.int 8) v := glI (S := mkS w K mg base) (int_ok X.kin X.ns (fact X (List.mem_of_getElem? (i := 63) rfl)))
theorem g_PIPS : ∃ v u, (mkS w K mg base).mg "PIPS" = some u ∧ RelV v u ∧ ∀ f H h, RR (mkS w K mg base) f H h → Rep K f H (.tup [(.int 0), (.int 1), (.int 2), (.int 3), (.int 4), (.int 5), (.int 6)]) v := glT (S := mkS w K mg base) (fglo X (List.mem_of_getElem? (i := 40) rfl)) (vs := vs_PIPS) rfl (bit2 X)
theorem e_BadArgument : ExAt (mkS w K mg base) 0 "BadArgument" := by
  have e : fnC K ("BadArgument", some "__init__") = c_BadArgument.val := by
    have := congrArg (fun l => l[0]?) X.cl
    exact Option.some.inj this
  have T := own_ok (P := PySem.Challenge.pw_dominorows_k10_missing_bones) (x := "BadArgument") (f := "name") (qual := "BadArgument.__init__") e (bit0 X) (by decide) (by decide +kernel) (by decide) (by decide) (by decide) (by decide) (by decide) (by decide) (by decide) (by decide) (fun _ => rfl) (fun _ _ _ _ _ _ _ _ _ _ _ _ _ _ _ _ _ _ _ _ _ => rfl)
  exact ⟨_, _, _, _, "name", _, _, T, (fglo X (List.mem_of_getElem? (i := 36) rfl)), (ffree X (List.mem_of_getElem? (i := 60) rfl)), rfl, fun y t hy => PySem.SupX.ae_fstr (by decide) (by decide) (by decide) (by omega)⟩
theorem heard : HeardAt (mkS w K mg base) ht "_law_heard" := by
  obtain ⟨fd, F⟩ := (X.d.def_ 34 rfl)
  obtain ⟨oc, od, dV, kV, doc, pm, an, cdv, ct, osl, rfl, lk, hcd, hD, _⟩ := F.ex
  have hd : dV = .none := hD.elim (fun q => q.2) (fun q => absurd rfl q.1)
  subst hd
  have FS : FnScope ["ask", "e"] ["ask"] (defScope (top 48)) := ⟨rfl, rfl, rfl, by decide +kernel, rfl, by decide +kernel, by decide +kernel⟩
  refine ⟨_, "ask", ["ask", "e"], defScope (top 48), _, defBody (top 48), _, _, _, _, _, _, _, _, _, _, [(ga K "BadArgument", "bad", ["name"]), (ga K "Unlaid", "unlaid", ["bar"]), (ga K "Refused", "refused", ["why"]), (ga K "Unread", "unread", ["line", "why"])], (fglo X (List.mem_of_getElem? (i := 34) rfl)), F.kp, lk, hcd, .all (fun us hl => match us, hl with | [_], _ => rfl), FS, rfl, .inl (by decide +kernel), by decide, by decide, fun Y ys q => ?_, fun ci A fs e => ?_⟩
  · have HK := hdkB_ok (bit1 X)
    have HK := (by rw [ys.K]; exact HK : HdK Y.K (ga K "BadArgument") (ga K "Unlaid") (ga K "Refused") (ga K "Unread") (ga K "BoneError") "name" "bar" "why" "line" "why")
    exact heard_gives (x1 := "BadArgument") (x2 := "Unlaid") (x3 := "Refused") (x4 := "Unread") (bn := "BoneError") (en := "e") (i := 1) HK (by decide) rfl (by decide +kernel) (by decide) (by decide) (by decide +kernel) (by decide) (by rw [ys.mg]; exact (fglo X (List.mem_of_getElem? (i := 36) rfl))) (by rw [ys.mg]; exact (fglo X (List.mem_of_getElem? (i := 37) rfl))) (by rw [ys.mg]; exact (fglo X (List.mem_of_getElem? (i := 38) rfl))) (by rw [ys.mg]; exact (fglo X (List.mem_of_getElem? (i := 39) rfl))) (by rw [ys.mg]; exact (fglo X (List.mem_of_getElem? (i := 35) rfl))) (by rw [ys.mg]; exact (ffree X (List.mem_of_getElem? (i := 51) rfl))) (by rw [ys.mg]; exact (ffree X (List.mem_of_getElem? (i := 61) rfl))) (by decide) (by decide) (by decide) (by decide) (by decide) (by decide) (fun _ => rfl)
  · unfold mkS at e; dsimp only at e
    split at e
    · rename_i hci; subst hci; cases e; exact ⟨⟨"bad", true⟩, rfl, rfl, List.mem_of_getElem? (i := 0) rfl⟩
    · cases e
theorem all_ok (W : Nat) (n : Nat) : TtOk (mkS w K mg base) tt (callE df ht W n) ht (2 * n) := by
  refine fn_all (T := tt) (nb_of (.cons (ffree X (List.mem_of_getElem? (i := 41) rfl)) (.cons (ffree X (List.mem_of_getElem? (i := 42) rfl)) (.cons (ffree X (List.mem_of_getElem? (i := 43) rfl)) (.cons (ffree X (List.mem_of_getElem? (i := 44) rfl)) (.cons (ffree X (List.mem_of_getElem? (i := 45) rfl)) (.cons (ffree X (List.mem_of_getElem? (i := 46) rfl)) (.cons (ffree X (List.mem_of_getElem? (i := 47) rfl)) (.cons (ffree X (List.mem_of_getElem? (i := 48) rfl)) (.cons (ffree X (List.mem_of_getElem? (i := 49) rfl)) (.cons (ffree X (List.mem_of_getElem? (i := 50) rfl)) (.cons (ffree X (List.mem_of_getElem? (i := 51) rfl)) (.cons (ffree X (List.mem_of_getElem? (i := 52) rfl)) (.cons (ffree X (List.mem_of_getElem? (i := 53) rfl)) (.cons (ffree X (List.mem_of_getElem? (i := 54) rfl)) (.cons (ffree X (List.mem_of_getElem? (i := 55) rfl)) (.cons (ffree X (List.mem_of_getElem? (i := 56) rfl)) (.cons (ffree X (List.mem_of_getElem? (i := 57) rfl)) (.cons (ffree X (List.mem_of_getElem? (i := 58) rfl)) (.cons (ffree X (List.mem_of_getElem? (i := 59) rfl)) (.cons (ffree X (List.mem_of_getElem? (i := 60) rfl)) .nil))))))))))))))))))))) ?_ ?_ ?_ ?_ ?_ n
  · exact Al.look (P := fun p => ∃ v u, (mkS w K mg base).mg p.1 = some u ∧ RelV v u ∧ ∀ f H h, RR (mkS w K mg base) f H h → Rep (mkS w K mg base).K f H p.2 v) (.cons (g_MOST_PIP X) (.cons (g_MOST_BONES X) (.cons (g_PIPS X) .nil)))
  · exact Al.look (P := fun p => ExAt (mkS w K mg base) p.2 p.1) (.cons (e_BadArgument X) .nil)
  · intro x e; cases e; exact heard X
  · exact (.cons (fun cg hc => fn_bad (o_is_number X) bd_is_number hc) (.cons (fun cg hc => fn_bad (o_check X) bd_check hc) (.cons (fun cg hc => fn_bad (o_is_pip X) bd_is_pip hc) (.cons (fun cg hc => fn_bad (o_is_bone X) bd_is_bone hc) (.cons (fun cg hc => fn_bad (o_is_lot X) bd_is_lot hc) (.cons (fun cg hc => fn_bad (o_check_lot X) bd_check_lot hc) (.cons (fun cg hc => fn_bad (o_ends_at X) bd_ends_at hc) (.cons (fun cg hc => fn_bad (o_odd_in X) bd_odd_in hc) (.cons (fun cg hc => fn_bad (o_pieces_in X) bd_pieces_in hc) (.cons (fun cg hc => fn_bad (o_bones_of X) bd_bones_of hc) (.cons (fun cg hc => fn_bad (o_with_bone X) bd_with_bone hc) (.cons (fun cg hc => fn_bad (o_can_be_row_in X) bd_can_be_row_in hc) (.cons (fun cg hc => fn_bad (o_can_be_ring_in X) bd_can_be_ring_in hc) (.cons (fun cg hc => fn_bad (o_even_pieces X) bd_even_pieces hc) (.cons (fun cg hc => fn_bad (o_many_for_row X) bd_many_for_row hc) (.cons (fun cg hc => fn_bad (o_many_for_ring X) bd_many_for_ring hc) (.cons (fun cg hc => fn_bad (o_missing_number X) bd_missing_number hc) (.cons (fun cg hc => fn_bad (o_fewest_missing X) bd_fewest_missing hc) (.cons (fun cg hc => fn_bad (o_all_bones X) bd_all_bones hc) (.cons (fun cg hc => fn_bad (o_helping_in X) bd_helping_in hc) (.cons (fun cg hc => fn_bad (o_helping X) bd_helping hc) (.cons (fun cg hc => fn_bad (o_missing X) bd_missing hc) (.cons (fun cg hc => fn_bad (o_are_helping X) bd_are_helping hc) (.cons (fun cg hc => fn_bad (o__law_taken X) bd__law_taken hc) (.cons (fun cg hc => fn_bad (o__law_bone X) bd__law_bone hc) (.cons (fun cg hc => fn_bad (o__law_lot X) bd__law_lot hc) (.cons (fun cg hc => fn_bad (o__law_pick X) bd__law_pick hc) (.cons (fun cg hc => fn_bad (o__law_pieces X) bd__law_pieces hc) (.cons (fun cg hc => fn_bad (o__law_count X) bd__law_count hc) (.cons (fun cg hc => fn_bad (o__law_odd X) bd__law_odd hc) (.cons (fun cg hc => fn_bad (o__law_has X) bd__law_has hc) (.cons (fun cg hc => fn_bad (o__law_alike X) bd__law_alike hc) (.cons (fun cg hc => fn_bad (o__law_bad_lot X) bd__law_bad_lot hc) .nil)))))))))))))))))))))))))))))))))
  · intro c k0 K0; exact (.cons ⟨_, rfl, fn_step (W := W) (o_is_number X) s_is_number rfl rfl bd_is_number K0 (t_is_number K0)⟩ (.cons ⟨_, rfl, fn_step (W := W) (o_check X) s_check rfl rfl bd_check K0 (t_check K0)⟩ (.cons ⟨_, rfl, fn_step (W := W) (o_is_pip X) s_is_pip rfl rfl bd_is_pip K0 (t_is_pip K0)⟩ (.cons ⟨_, rfl, fn_step (W := W) (o_is_bone X) s_is_bone rfl rfl bd_is_bone K0 (t_is_bone K0)⟩ (.cons ⟨_, rfl, fn_step (W := W) (o_is_lot X) s_is_lot rfl rfl bd_is_lot K0 (t_is_lot K0)⟩ (.cons ⟨_, rfl, fn_step (W := W) (o_check_lot X) s_check_lot rfl rfl bd_check_lot K0 (t_check_lot K0)⟩ (.cons ⟨_, rfl, fn_step (W := W) (o_ends_at X) s_ends_at rfl rfl bd_ends_at K0 (t_ends_at K0)⟩ (.cons ⟨_, rfl, fn_step (W := W) (o_odd_in X) s_odd_in rfl rfl bd_odd_in K0 (t_odd_in K0)⟩ (.cons ⟨_, rfl, fn_step (W := W) (o_pieces_in X) s_pieces_in rfl rfl bd_pieces_in K0 (t_pieces_in K0)⟩ (.cons ⟨_, rfl, fn_step (W := W) (o_bones_of X) s_bones_of rfl rfl bd_bones_of K0 (t_bones_of K0)⟩ (.cons ⟨_, rfl, fn_step (W := W) (o_with_bone X) s_with_bone rfl rfl bd_with_bone K0 (t_with_bone K0)⟩ (.cons ⟨_, rfl, fn_step (W := W) (o_can_be_row_in X) s_can_be_row_in rfl rfl bd_can_be_row_in K0 (t_can_be_row_in K0)⟩ (.cons ⟨_, rfl, fn_step (W := W) (o_can_be_ring_in X) s_can_be_ring_in rfl rfl bd_can_be_ring_in K0 (t_can_be_ring_in K0)⟩ (.cons ⟨_, rfl, fn_step (W := W) (o_even_pieces X) s_even_pieces rfl rfl bd_even_pieces K0 (t_even_pieces K0)⟩ (.cons ⟨_, rfl, fn_step (W := W) (o_many_for_row X) s_many_for_row rfl rfl bd_many_for_row K0 (t_many_for_row K0)⟩ (.cons ⟨_, rfl, fn_step (W := W) (o_many_for_ring X) s_many_for_ring rfl rfl bd_many_for_ring K0 (t_many_for_ring K0)⟩ (.cons ⟨_, rfl, fn_step (W := W) (o_missing_number X) s_missing_number rfl rfl bd_missing_number K0 (t_missing_number K0)⟩ (.cons ⟨_, rfl, fn_step (W := W) (o_fewest_missing X) s_fewest_missing rfl rfl bd_fewest_missing K0 (t_fewest_missing K0)⟩ (.cons ⟨_, rfl, fn_step (W := W) (o_all_bones X) s_all_bones rfl rfl bd_all_bones K0 (t_all_bones K0)⟩ (.cons ⟨_, rfl, fn_step (W := W) (o_helping_in X) s_helping_in rfl rfl bd_helping_in K0 (t_helping_in K0)⟩ (.cons ⟨_, rfl, fn_step (W := W) (o_helping X) s_helping rfl rfl bd_helping K0 (t_helping K0)⟩ (.cons ⟨_, rfl, fn_step (W := W) (o_missing X) s_missing rfl rfl bd_missing K0 (t_missing K0)⟩ (.cons ⟨_, rfl, fn_step (W := W) (o_are_helping X) s_are_helping rfl rfl bd_are_helping K0 (t_are_helping K0)⟩ (.cons ⟨_, rfl, fn_step (W := W) (o__law_taken X) s__law_taken rfl rfl bd__law_taken K0 (t__law_taken K0)⟩ (.cons ⟨_, rfl, fn_step (W := W) (o__law_bone X) s__law_bone rfl rfl bd__law_bone K0 (t__law_bone K0)⟩ (.cons ⟨_, rfl, fn_step (W := W) (o__law_lot X) s__law_lot rfl rfl bd__law_lot K0 (t__law_lot K0)⟩ (.cons ⟨_, rfl, fn_step (W := W) (o__law_pick X) s__law_pick rfl rfl bd__law_pick K0 (t__law_pick K0)⟩ (.cons ⟨_, rfl, fn_step (W := W) (o__law_pieces X) s__law_pieces rfl rfl bd__law_pieces K0 (t__law_pieces K0)⟩ (.cons ⟨_, rfl, fn_step (W := W) (o__law_count X) s__law_count rfl rfl bd__law_count K0 (t__law_count K0)⟩ (.cons ⟨_, rfl, fn_step (W := W) (o__law_odd X) s__law_odd rfl rfl bd__law_odd K0 (t__law_odd K0)⟩ (.cons ⟨_, rfl, fn_step (W := W) (o__law_has X) s__law_has rfl rfl bd__law_has K0 (t__law_has K0)⟩ (.cons ⟨_, rfl, fn_step (W := W) (o__law_alike X) s__law_alike rfl rfl bd__law_alike K0 (t__law_alike K0)⟩ (.cons ⟨_, rfl, fn_step (W := W) (o__law_bad_lot X) s__law_bad_lot rfl rfl bd__law_bad_lot K0 (t__law_bad_lot K0)⟩ .nil)))))))))))))))))))))))))))))))))
end
theorem o_law_ge {w : World} {K : PySem.W.Frag} {mg : Str → Option Value} {base : Heap} (X : Hs w K mg base) : Gm.la = .ge → ∃ P, TabB (mkS w K mg base).base (mkS w K mg base).mg (codeOf K ("law", none)) P ∧ P ∈ (mkS w K mg base).tabs ∧ ∀ p ∈ (mkS w K mg base).tq, p.1 ≠ P := fun e => by cases e
theorem o_law_la {w : World} {K : PySem.W.Frag} {mg : Str → Option Value} {base : Heap} (X : Hs w K mg base) : Gm.la = .la → ∃ P, LamX.TabB (mkS w K mg base).base (mkS w K mg base).mg (codeOf K ("law", none)) P ∧ (P, (("law" : Str) ++ ".<locals>.") ++ "<lambda>") ∈ (mkS w K mg base).tq ∧ ∀ p ∈ (mkS w K mg base).tq, p.1 = P → p.2 = (("law" : Str) ++ ".<locals>.") ++ "<lambda>" := fun _ => ⟨(cT K ("law", none)).2, X.tb ("law", none) (List.mem_of_getElem? (i := 3) rfl), List.mem_of_getElem? (i := 0) rfl, fun p hp _ => by
  have hp : p ∈ [((cT K ("law", none)).2, (("law" : Str) ++ ".<locals>.") ++ "<lambda>")] := hp
  rw [List.mem_singleton] at hp; subst hp; rfl⟩
/-- the law at the start -/
def lawE (W n : Nat) (ns : List Int) : Rs D := runD (callE df ht W n) ht W ⟨1, 19, false, b_law⟩ [.lk (ns.map .int)] []
theorem holds {W : Nat} (plain : ∀ ns : List Int, ns.length ≤ 63 → (∀ z ∈ ns, Builtin.Int.intBits z ≤ 1048576) → ∃ h, lawE W 30 ns = .ok (.bl true) h) : PySem.Challenge.rw_dominorows_k10_missing_bones.Holds := by
  w_on; o_law
  refine HandSHeadRun.head_any (r := R) (q := PySem.W.view R.prog [49]) (H := hk) (ob := ob) (M := 4000) (loose := nms) (d := HandSHeadRun.topDef R.prog 49) (kwd := []) ob_eq
    (by kernel_rfl) (fun s => by kernel_rfl) run (by kernel_rfl) (by kernel_rfl) (by kernel_rfl) (by rfl) (by first | assumption | decide +kernel) (by decide +kernel) ⟨rfl, rfl, rfl, rfl, rfl, by decide +kernel⟩ ?hw ?hc
  case hw => w_witness2
  case hc =>
    refine LamX.walk_ofTsE (l := PySem.Challenge.rw_dominorows_k10_missing_bones) (n := 63) (k := 2 * 30 + 2 + 1) (x := "script") (CX := fun w => L2.CX PySem.Challenge.pw_dominorows_k10_missing_bones w) rfl (by decide) (by kernel_rfl) ⟨rfl, by decide, by decide⟩ ?F (fun w H s e s' z => cx_none H s e s' z)
    intro w mg fa h Y G hmg0
    obtain ⟨K, KX, c⟩ := Y
    have hmg : mg ("law" : PySem.Str) = some (.ref fa) := by
      have e : (HandSHeadRun.topDef R.prog 49).name = ("law" : PySem.Str) := by kernel_rfl
      rw [← e]; exact hmg0
    have hd := c.ft.d
    obtain ⟨fd, F⟩ := hd.def_ 33 (d := ⟨("law", none), "law", "law", defArgs (top 49), defBody (top 49), defScope (top 49), [], []⟩) rfl
    have hfa := glo_ok KX G (hd.facts (f := .glo "law") (List.mem_of_getElem? (i := 33) rfl))
    have e := hmg.symm.trans hfa
    cases e
    have A0 : DefAt (mkS w K mg default) "law" "law" (top 49) (ga K "law") (codeOf K ("law", none)) := def_at (S := mkS w K mg default) F hfa
    obtain ⟨oc, od, kV, doc, pm, an, ct, osl, lk⟩ := A0.ex
    refine ⟨K, KX, _, tf.map (cT K), spOf (mkS w K mg default) (runD (callE df ht W 30) ht W ⟨1, 19, false, b_law⟩), ?_, ?_, ?_, fun s u => .of_eq (bd_law kV doc pm an (.ref (codeOf K ("law", none))) ct [u] rfl), ?_, ?_⟩
    · intro p hp; obtain ⟨q, hq, rfl⟩ := List.mem_map.mp hp; exact c.nils q hq
    · intro p hp; obtain ⟨q, hq, rfl⟩ := List.mem_map.mp hp; exact c.outs q hq
    · intro p hp; obtain ⟨q, hq, rfl⟩ := List.mem_map.mp hp; exact PySem.W.codeHd_of_K KX (c.hds q hq)
    · intro H a ns hl hbits hT hS
      obtain ⟨h', e⟩ := plain ns hl hbits
      refine sp_start (S := mkS w K mg default) (fun P hP => ?_) (fun p hp => ?_) hS e
      · simp only [mkS, List.mem_cons, List.not_mem_nil, or_false] at hP
        first
          | exact hP.elim
          | (rcases hP with rfl | rfl | rfl <;> first | exact hT _ (List.mem_map.mpr ⟨("is_bone", none), (List.mem_of_getElem? (i := 0) rfl), rfl⟩) | exact hT _ (List.mem_map.mpr ⟨("is_lot", none), (List.mem_of_getElem? (i := 1) rfl), rfl⟩) | exact hT _ (List.mem_map.mpr ⟨("are_helping", none), (List.mem_of_getElem? (i := 2) rfl), rfl⟩))
      · simp only [mkS, List.mem_cons, List.not_mem_nil, or_false] at hp
        first
          | exact hp.elim
          | (subst hp; exact hT _ (List.mem_map.mpr ⟨("law", none), (List.mem_of_getElem? (i := 3) rfl), rfl⟩))
    · intro base KB NB TB
      have X : Hs w K mg base := ⟨hd, c.bits, c.cl, KB, NB, fun p hp => TB _ (List.mem_map.mpr ⟨p, hp, rfl⟩)⟩
      obtain ⟨fa2, cd2, D2, g1, g2⟩ := (o_law X).ex
      have K0 := all_ok X W 30
      have F2 := law_fn (S := mkS w K mg base) (W := W) (d := ⟨1, 19, false, b_law⟩) lk A0.code (o_law_ge X) (o_law_la X) s_law rfl rfl K0 (t_law K0)
      exact FnOk.imp F2 fun vs H Q E q => spOf_base (b := base) q
end Lk10

set_option Elab.async false
set_option linter.all false
set_option maxRecDepth 100000
set_option maxHeartbeats 2000000
set_option autoImplicit false
namespace Ev
open PySem PySem.Spec PyProof.Rows L2 GxR

/-! ### the evaluator's equations -/
@[simp] theorem bind_ok {α β : Type} (a : α) (h : List Ob) (k : α → List Ob → Rs β) : (Rs.ok a h).bind k = k a h := by unfold Rs.bind; exact Eq.refl _
@[simp] theorem bind_exc {α β : Type} (c : Nat) (vs : List D) (h : List Ob) (k : α → List Ob → Rs β) : (Rs.exc c vs h : Rs α).bind k = .exc c vs h := rfl
@[simp] theorem bind_bad {α β : Type} (k : α → List Ob → Rs β) : (Rs.bad : Rs α).bind k = .bad := rfl
@[simp] theorem opt_some {α : Type} (a : α) (h : List Ob) : opt (some a) h = .ok a h := by unfold opt; exact Eq.refl _
@[simp] theorem noX_rs {α : Type} (a : α) (h : List Ob) : noX (Rs.ok a h) = .ok a h := rfl
@[simp] theorem asB_bl (b : Bool) (h : Oh) : asB (.ok (.bl b) h) = .ok b h := by unfold asB; rw [bind_ok]
@[simp] theorem asB_exc (c : Nat) (vs : List D) (h : Oh) : asB (.exc c vs h) = .exc c vs h := rfl
@[simp] theorem asI_nil (h : Oh) : asI (.ok [] h) = .ok none h := rfl
@[simp] theorem asI_one (i : Int) (h : Oh) : asI (.ok [.int i] h) = .ok (some i) h := by unfold asI; rw [bind_ok]
section
variable (c : Nat → List D → Oh → Rs D) (ht : List Hd) (env : En) (h : Oh)
@[simp] theorem evE_cst (d : D) : evE c ht (.cst d) env h = .ok d h := by rw [evE]
theorem evE_var (n : Nat) (d : D) (e : env[n]? = some (some d)) : evE c ht (.var n) env h = .ok d h := by rw [evE, e]
def vr (x : Option (Option D)) (h : Oh) : Rs D := match x with
  | some (some d) => .ok d h
  | _ => .bad
@[simp] theorem vr_some (d : D) : vr (some (some d)) h = .ok d h := by unfold vr; exact Eq.refl _
@[simp] theorem evE_vr (n : Nat) : evE c ht (.var n) env h = vr env[n]? h := by rw [evE] <;> rfl
@[simp] theorem evE_tup (es : List Ex) : evE c ht (.tup es) env h = (evL c ht es env h).bind fun ds h1 => if ds.length ≤ 16777216 then .ok (.tup ds) h1 else .bad := by rw [evE]
@[simp] theorem evE_lst (es : List Ex) : evE c ht (.lst es) env h = (evL c ht es env h).bind fun ds h1 => if ds.length ≤ 16777216 then .ok (.lst ds) h1 else .bad := by rw [evE]
@[simp] theorem evE_mk (es : List Ex) : evE c ht (.mk es) env h = (evL c ht es env h).bind fun ds h1 => if ds.length ≤ 16777216 then .ok (.ref h1.length) (h1 ++ [.lst ds]) else .bad := by rw [evE]
@[simp] theorem evE_bin (o : Bop) (a b : Ex) : evE c ht (.bin o a b) env h = (evE c ht a env h).bind fun x h1 => (evE c ht b env h1).bind fun y h2 => opt (binD h2 o x y) h2 := by rw [evE]
@[simp] theorem evE_not (a : Ex) : evE c ht (.not a) env h = (asB (evE c ht a env h)).bind fun x h1 => .ok (.bl (!x)) h1 := by rw [evE]
@[simp] theorem evE_and (a b : Ex) : evE c ht (.and a b) env h = (asB (evE c ht a env h)).bind fun x h1 => if x then (asB (evE c ht b env h1)).bind fun y h2 => .ok (.bl y) h2 else .ok (.bl false) h1 := by rw [evE]
@[simp] theorem evE_or (a b : Ex) : evE c ht (.or a b) env h = (asB (evE c ht a env h)).bind fun x h1 => if x then .ok (.bl true) h1 else (asB (evE c ht b env h1)).bind fun y h2 => .ok (.bl y) h2 := by rw [evE]
@[simp] theorem evE_ite (q a b : Ex) : evE c ht (.ite q a b) env h = (asB (evE c ht q env h)).bind fun x h1 => if x then evE c ht a env h1 else evE c ht b env h1 := by rw [evE]
@[simp] theorem evE_cmp (o : Cop) (a b : Ex) : evE c ht (.cmp o a b) env h = (evE c ht a env h).bind fun x h1 => (evE c ht b env h1).bind fun y h2 => opt (cmpB o h2 x y) h2 := by rw [evE]
@[simp] theorem evE_cmp2 (o o' : Cop) (a b d : Ex) : evE c ht (.cmp2 o o' a b d) env h = (evE c ht a env h).bind fun x h1 => (evE c ht b env h1).bind fun y h2 => (opt (cmpD h2 o x y) h2).bind fun k h3 => if k then (evE c ht d env h3).bind fun z h4 => opt (cmpB o' h4 y z) h4 else .ok (.bl false) h3 := by rw [evE]
@[simp] theorem evE_cmp3 (o o' o'' : Cop) (a b d e : Ex) : evE c ht (.cmp3 o o' o'' a b d e) env h = (evE c ht a env h).bind fun x h1 => (evE c ht b env h1).bind fun y h2 => (opt (cmpD h2 o x y) h2).bind fun k h3 => if k then (evE c ht d env h3).bind fun z h4 => (opt (cmpD h4 o' y z) h4).bind fun k2 h5 => if k2 then (evE c ht e env h5).bind fun w h6 => opt (cmpB o'' h6 z w) h6 else .ok (.bl false) h5 else .ok (.bl false) h3 := by rw [evE]
@[simp] theorem evE_isi (ts : List Ty) (a : Ex) : evE c ht (.isi ts a) env h = (evE c ht a env h).bind fun x h1 => (opt (isaD ts h1 x) h1).bind fun b h2 => .ok (.bl b) h2 := by rw [evE]
@[simp] theorem evE_call (g : Nat) (es : List Ex) : evE c ht (.call g es) env h = (evL c ht es env h).bind fun ds h1 => c g ds h1 := by rw [evE]
@[simp] theorem evE_bi (o : Bi) (es : List Ex) : evE c ht (.bi o es) env h = (evL c ht es env h).bind fun ds h1 => opt (biD o h1 ds) h1 := by rw [evE]
@[simp] theorem evE_ix (a i : Ex) : evE c ht (.ix a i) env h = (evE c ht a env h).bind fun x h1 => (evE c ht i env h1).bind fun y h2 => opt (ixD h2 x y) h2 := by rw [evE]
@[simp] theorem evE_sl (a : Ex) (lo hi : List Ex) : evE c ht (.sl a lo hi) env h = (evE c ht a env h).bind fun x h1 => (asI (evL c ht lo env h1)).bind fun l h2 => (asI (evL c ht hi env h2)).bind fun u h3 => opt (slD h3 x l u) h3 := by rw [evE]
@[simp] theorem evE_app (a e : Ex) : evE c ht (.app a e) env h = (evE c ht a env h).bind fun x h1 => if !isLs h1 x then .bad else (evE c ht e env h1).bind fun y h2 => match appD h2 x y with
    | some h3 => .ok .non h3
    | none => .bad := by rw [evE] <;> rfl
@[simp] theorem evE_ext (a e : Ex) : evE c ht (.ext a e) env h = (evE c ht a env h).bind fun x h1 => if !isLs h1 x then .bad else (evE c ht e env h1).bind fun y h2 => match extD h2 x y with
    | some h3 => .ok .non h3
    | none => .bad := by rw [evE] <;> rfl
@[simp] theorem evE_idx (a e : Ex) : evE c ht (.idx a e) env h = (evE c ht a env h).bind fun x h1 => if (x.items h1).isNone then .bad else (evE c ht e env h1).bind fun y h2 => opt (idxD h2 x y) h2 := by rw [evE]
@[simp] theorem evE_sset (a : Ex) : evE c ht (.sset a) env h = (evE c ht a env h).bind fun x h1 => opt (ssetD h1 x) h1 := by rw [evE]
@[simp] theorem evE_lset (a : Ex) : evE c ht (.lset a) env h = (evE c ht a env h).bind fun x h1 => opt (lsetD h1 x) h1 := by rw [evE]
theorem heard_ok {e : Ex} {d : D} {h1 : Oh} (q : evE c ht e env h = .ok d h1) : evE c ht (.heard e) env h = .ok (.tup []) h1 := by rw [evE, q]
theorem heard_exc {e : Ex} {k : Nat} {vs : List D} {h1 : Oh} (q : evE c ht e env h = .exc k vs h1) : evE c ht (.heard e) env h = opt (heardD ht k vs) h1 := by rw [evE, q]
@[simp] theorem evE_neg (i : Int) : evE c ht (.neg (.cst (.int i))) env h = .ok (.int (-i)) h := by rw [evE, evE_cst, bind_ok]
@[simp] theorem evL_nil : evL c ht [] env h = .ok [] h := by rw [evL]
@[simp] theorem evL_cons (e : Ex) (es : List Ex) : evL c ht (e :: es) env h = (evE c ht e env h).bind fun x h1 => (evL c ht es env h1).bind fun xs h2 => .ok (x :: xs) h2 := by rw [evL]
@[simp] theorem evC_nil : evC c ht [] env h = .ok true h := by rw [evC]
@[simp] theorem evC_cons (e : Ex) (es : List Ex) : evC c ht (e :: es) env h = (asB (evE c ht e env h)).bind fun b h1 => if b then evC c ht es env h1 else .ok false h1 := by rw [evC]
@[simp] theorem bindT_v (n : Nat) (d : D) : bindT (.v n) d env = if n < env.length then some (env.set n (some d)) else none := by rw [bindT]
@[simp] theorem bindT_t (ts : List Tg) (ds : List D) : bindT (.t ts) (.tup ds) env = bindTs ts ds env := by rw [bindT]
@[simp] theorem bindTs_nil : bindTs [] [] env = some env := by rw [bindTs]
@[simp] theorem bindTs_cons (t : Tg) (ts : List Tg) (d : D) (ds : List D) : bindTs (t :: ts) (d :: ds) env = (match bindT t d env with
    | some e2 => bindTs ts ds e2
    | none => none) := by rw [bindTs] <;> rfl
@[simp] theorem wipeE_nil : wipeE env [] = env := rfl
@[simp] theorem wipeE_cons (n : Nat) (ns : List Nat) : wipeE env (n :: ns) = (wipeE env ns).set n none := rfl

variable (W : Nat)
@[simp] theorem evS_ex (e : Ex) : evS c ht W (.ex e) env h = (evE c ht e env h).bind fun _ h1 => .ok (.nx, env) h1 := by rw [evS]
@[simp] theorem evS_as (t : Tg) (e : Ex) : evS c ht W (.as t e) env h = (evE c ht e env h).bind fun d h1 => match bindT t d env with
    | some e2 => .ok (.nx, e2) h1
    | none => .bad := by rw [evS] <;> rfl
@[simp] theorem evS_six (o i e : Ex) : evS c ht W (.six o i e) env h = (evE c ht e env h).bind fun v h1 => (evE c ht o env h1).bind fun x h2 => (evE c ht i env h2).bind fun y h3 => match setD h3 x y v with
    | some h4 => .ok (.nx, env) h4
    | none => .bad := by rw [evS] <;> rfl
@[simp] theorem evS_iff (q : Ex) (a b : List St) : evS c ht W (.iff q a b) env h = (asB (evE c ht q env h)).bind fun k h1 => if k then evSs c ht W a env h1 else evSs c ht W b env h1 := by rw [evS]
@[simp] theorem evS_ret (e : Ex) : evS c ht W (.ret e) env h = (evE c ht e env h).bind fun d h1 => .ok (.rt d, env) h1 := by rw [evS]
@[simp] theorem evS_rse (k : Nat) (es : List Ex) : evS c ht W (.rse k es) env h = (evL c ht es env h).bind fun ds h1 => if okX ds then .exc k ds h1 else .bad := by rw [evS]
@[simp] theorem evSs_nil : evSs c ht W [] env h = .ok (.nx, env) h := by rw [evSs]
@[simp] theorem evSs_cons (s : St) (ss : List St) : evSs c ht W (s :: ss) env h = (evS c ht W s env h).bind fun r h1 => match r.1 with
    | .nx => evSs c ht W ss r.2 h1
    | f => .ok (f, r.2) h1 := by rw [evSs] <;> rfl
theorem evS_aug {n : Nat} {e : Ex} {i j : Int} {h1 : Oh} (e1 : env[n]? = some (some (.int i))) (e2 : evE c ht e env h = .ok (.int j) h1) : evS c ht W (.aug n .add e) env h = .ok (.nx, env.set n (some (.int (i + j)))) h1 := by
  rw [evS, e1]; simp only [e2, bind_ok]
end

/-! ### loops -/
section
variable {h : Oh} {α : Type}
theorem now_at {w : Wk} {xs : List α} {en : α → D} {i : Nat} (hw : w.now h = some (xs.map en)) (hi : i < xs.length) : (w.now h).bind (fun ds => ds[i]?) = some (en xs[i]) := by
  rw [hw]; simp [List.getElem?_eq_getElem hi]
theorem lcGo_eq {body : D → Oh → Rs (Option D)} {w : Wk} {xs : List α} {en : α → D} (hw : w.now h = some (xs.map en)) (f : α → Option D) (hb : ∀ x ∈ xs, body (en x) h = .ok (f x) h) : ∀ (m i : Nat), i + m = xs.length → lcGo body w m i h = .ok ((xs.drop i).filterMap f) h
  | 0, i, e => by
    have : xs.drop i = [] := List.drop_eq_nil_of_le (by omega)
    rw [this]; unfold lcGo; rw [hw]; rfl
  | m + 1, i, e => by
    have hi : i < xs.length := by omega
    unfold lcGo
    rw [now_at hw hi]
    simp only [hb _ (List.getElem_mem hi), noX_rs, bind_ok, lcGo_eq hw f hb m (i + 1) (by omega)]
    rw [List.drop_eq_getElem_cons hi, List.filterMap_cons]
    cases f xs[i] <;> rfl
theorem alGo_eq {k : Bool} {body : D → Oh → Rs (Option Bool)} {w : Wk} {xs : List α} {en : α → D} (hw : w.now h = some (xs.map en)) (f : α → Bool) (hb : ∀ x ∈ xs, body (en x) h = .ok (some (f x)) h) : ∀ (m i : Nat), i + m = xs.length → alGo k body w m i h = .ok (.bl (if (xs.drop i).all (fun d => f d == k) then k else !k)) h
  | 0, i, e => by
    have : xs.drop i = [] := List.drop_eq_nil_of_le (by omega)
    rw [this]; unfold alGo; rw [hw]; rfl
  | m + 1, i, e => by
    have hi : i < xs.length := by omega
    unfold alGo
    rw [now_at hw hi]
    simp only [hb _ (List.getElem_mem hi), noX_rs, bind_ok, alGo_eq hw f hb m (i + 1) (by omega)]
    rw [List.drop_eq_getElem_cons hi, List.all_cons]
    cases hf : f xs[i] <;> cases k <;> simp only [show (false == true) = false from rfl, show (true == false) = false from rfl, beq_self_eq_true, Bool.true_and, Bool.false_and, if_true, if_false, Bool.not_true, Bool.not_false, Bool.false_eq_true, reduceCtorEq] <;> rfl
/-- the rule of for: I i env h holds ahead of the i-th round -/
theorem fGo_inv {body : D → En → Oh → Rs (Fl × En)} {w : Wk} {xs : List α} {en : α → D} (I : Nat → En → Oh → Prop) (hw : ∀ i env h, I i env h → w.now h = some (xs.map en)) (hs : ∀ i env h x, xs[i]? = some x → I i env h → ∃ env' h', body (en x) env h = .ok (.nx, env') h' ∧ I (i + 1) env' h') :
    ∀ (m i : Nat) (env : En) (h : Oh), i + m = xs.length → I i env h → ∃ env' h', fGo body w m i env h = .ok (.nx, env') h' ∧ I xs.length env' h'
  | 0, i, env, h, e, hi => by
    have : i = xs.length := by omega
    subst this
    exact ⟨env, h, by unfold fGo; rw [hw _ _ _ hi], hi⟩
  | m + 1, i, env, h, e, hi => by
    have hl : i < xs.length := by omega
    obtain ⟨env', h', e1, e2⟩ := hs i env h xs[i] (List.getElem?_eq_getElem hl) hi
    obtain ⟨env2, h2, e3, e4⟩ := fGo_inv I hw hs m (i + 1) env' h' (by omega) e2
    refine ⟨env2, h2, ?_, e4⟩
    unfold fGo
    rw [now_at (hw _ _ _ hi) hl]
    simp only [e1, bind_ok, e3]
/-- the rule of while: with a measure -/
theorem wGo_inv {test : En → Oh → Rs Bool} {body : En → Oh → Rs (Fl × En)} (I : Nat → En → Oh → Prop) (Q : En → Oh → Prop)
    (hs : ∀ k env h, I k env h → (test env h = .ok false h ∧ Q env h) ∨ (test env h = .ok true h ∧ ∃ env' h' k', body env h = .ok (.nx, env') h' ∧ k' < k ∧ I k' env' h')) :
    ∀ (m k : Nat) (env : En) (h : Oh), k < m → I k env h → ∃ env' h', wGo test body m env h = .ok (.nx, env') h' ∧ Q env' h'
  | 0, k, env, h, e, hi => by omega
  | m + 1, k, env, h, e, hi => by
    rcases hs k env h hi with ⟨e1, e2⟩ | ⟨e1, env', h', k', e2, e3, e4⟩
    · exact ⟨env, h, by unfold wGo; simp only [e1, bind_ok]; rfl, e2⟩
    · obtain ⟨env2, h2, e5, e6⟩ := wGo_inv I Q hs m k' env' h' (by omega) e4
      refine ⟨env2, h2, ?_, e6⟩
      unfold wGo
      simp only [e1, bind_ok, e2, if_true, e5]
end
section
variable {c : Nat → List D → Oh → Rs D} {ht : List Hd} {env : En} {h : Oh} {α : Type} {W : Nat}
/-- what a walk gives -/
structure Walks (c : Nat → List D → Oh → Rs D) (ht : List Hd) (env : En) (h : Oh) (w : It) (wk : Wk) (xs : List α) (en : α → D) : Prop where
  ev : evI c ht w env h = .ok wk h
  now : wk.now h = some (xs.map en)
  len : wk.len = xs.length
theorem walks_seq {e : Ex} {s : D} {xs : List α} {en : α → D} (he : evE c ht e env h = .ok s h) (hi : s.items h = some (xs.map en)) (hl : xs.length ≤ 16777216) : Walks c ht env h (.seq e) (.seq s xs.length) xs en where
  ev := by
    rw [evI, he]
    simp only [bind_ok, hi, Option.bind_some, List.length_map, if_pos hl, opt_some]
  now := by
    show stays h s xs.length = _
    unfold stays
    rw [hi]; simp
  len := rfl
theorem now_rng {h : Oh} {k : Nat} : (Wk.rng 0 k).now h = some ((List.range k).map fun i : Nat => .int (i : Int)) := by
  show some ((List.range k).map fun i : Nat => D.int (0 + (i : Int))) = _
  simp
theorem walks_rng1 {e : Ex} {k : Nat} (he : evE c ht e env h = .ok (.int k) h) (hl : k ≤ 16777216) : Walks c ht env h (.rng1 e) (.rng 0 k) (List.range k) fun i : Nat => .int (i : Int) where
  ev := by
    rw [evI, he]
    simp only [bind_ok]
    rw [if_pos (by simp; omega)]
    simp
  now := by
    show some ((List.range k).map fun i : Nat => D.int (0 + (i : Int))) = _
    simp
  len := by simp [Wk.len]
variable {t : Tg} {w : It} {wk : Wk} {vs : List Nat} {e : Ex} {xs : List α} {en : α → D} {env2 : α → En}
/-- a list comprehension over a walk, no condition -/
theorem lc_map (hw : Walks c ht env h w wk xs en) (env2 : α → En) (v : α → D)
    (hb : ∀ x ∈ xs, bindT t (en x) (wipeE env vs) = some (env2 x)) (hv : ∀ x ∈ xs, evE c ht e (env2 x) h = .ok (v x) h) : evE c ht (.lc t w [] vs e) env h = .ok (.lst (xs.map v)) h := by
  rw [evE, hw.ev]
  simp only [bind_ok]
  rw [hw.len, lcGo_eq hw.now (fun x => some (v x)) (fun x hx => by simp [hb x hx, hv x hx]) _ _ (Nat.zero_add _)]
  simp
/-- .. with a condition -/
theorem lc_fil (hw : Walks c ht env h w wk xs en) (env2 : α → En) (p : α → Bool) (v : α → D) {q : Ex}
    (hb : ∀ x ∈ xs, bindT t (en x) (wipeE env vs) = some (env2 x)) (hq : ∀ x ∈ xs, evE c ht q (env2 x) h = .ok (.bl (p x)) h) (hv : ∀ x ∈ xs, p x = true → evE c ht e (env2 x) h = .ok (v x) h) : evE c ht (.lc t w [q] vs e) env h = .ok (.lst ((xs.filter p).map v)) h := by
  rw [evE, hw.ev]
  simp only [bind_ok]
  rw [hw.len, lcGo_eq hw.now (fun x => if p x then some (v x) else none) (fun x hx => ?_) _ _ (Nat.zero_add _)]
  · simp only [noX_rs, bind_ok, List.drop_zero]
    congr 2
    clear hw hb hq hv
    induction xs with
    | nil => rfl
    | cons x xs ih => cases hp : p x <;> simp [hp, ih]
  · rw [hb x hx]
    simp only [evC_cons, hq x hx, asB_bl, bind_ok, evC_nil]
    cases hp : p x with
    | false => simp
    | true => simp [hv x hx hp]
/-- all and any -/
theorem al_all (hw : Walks c ht env h w wk xs en) (env2 : α → En) (p : α → Bool)
    (hb : ∀ x ∈ xs, bindT t (en x) (wipeE env vs) = some (env2 x)) (hv : ∀ x ∈ xs, evE c ht e (env2 x) h = .ok (.bl (p x)) h) : evE c ht (.al true t w [] vs e) env h = .ok (.bl (xs.all p)) h := by
  rw [evE, hw.ev]
  simp only [bind_ok]
  rw [hw.len, alGo_eq hw.now p (fun x hx => by simp [hb x hx, hv x hx]) _ _ (Nat.zero_add _)]
  simp only [noX_rs, List.drop_zero]
  cases h1 : xs.all p <;> simp_all
theorem al_any (hw : Walks c ht env h w wk xs en) (env2 : α → En) (p : α → Bool)
    (hb : ∀ x ∈ xs, bindT t (en x) (wipeE env vs) = some (env2 x)) (hv : ∀ x ∈ xs, evE c ht e (env2 x) h = .ok (.bl (p x)) h) : evE c ht (.al false t w [] vs e) env h = .ok (.bl (xs.any p)) h := by
  rw [evE, hw.ev]
  simp only [bind_ok]
  rw [hw.len, alGo_eq hw.now p (fun x hx => by simp [hb x hx, hv x hx]) _ _ (Nat.zero_add _)]
  simp only [noX_rs, List.drop_zero]
  cases h1 : xs.any p <;> simp_all
/-- for -/
theorem lop_inv (hw : Walks c ht env h w wk xs en) (b : List St) (I : Nat → En → Oh → Prop) (h0 : I 0 env h) (hn : ∀ i env h, I i env h → wk.now h = some (xs.map en))
    (hs : ∀ i env h x, xs[i]? = some x → I i env h → ∃ e2 env' h', bindT t (en x) env = some e2 ∧ evSs c ht W b e2 h = .ok (.nx, env') h' ∧ I (i + 1) env' h') :
    ∃ env' h', evS c ht W (.lop t w b) env h = .ok (.nx, env') h' ∧ I xs.length env' h' := by
  rw [evS, hw.ev]
  simp only [bind_ok]
  rw [hw.len]
  refine fGo_inv I hn (fun i env h x hx hi => ?_) _ _ _ _ (Nat.zero_add _) h0
  obtain ⟨e2, env', h', e3, e4, e5⟩ := hs i env h x hx hi
  exact ⟨env', h', by rw [e3]; exact e4, e5⟩
/-- while -/
theorem whl_inv {q : Ex} {b : List St} (I : Nat → En → Oh → Prop) (Q : En → Oh → Prop) (k : Nat) (hk : k < W) (h0 : I k env h)
    (hs : ∀ k env h, I k env h → (evE c ht q env h = .ok (.bl false) h ∧ Q env h) ∨ (evE c ht q env h = .ok (.bl true) h ∧ ∃ env' h' k', evSs c ht W b env h = .ok (.nx, env') h' ∧ k' < k ∧ I k' env' h')) :
    ∃ env' h', evS c ht W (.whl q b) env h = .ok (.nx, env') h' ∧ Q env' h' := by
  rw [evS]
  refine wGo_inv I Q (fun k env h hi => ?_) W k env h hk h0
  rcases hs k env h hi with ⟨e1, e2⟩ | ⟨e1, e2⟩
  · exact .inl ⟨by rw [e1]; rfl, e2⟩
  · exact .inr ⟨by rw [e1]; rfl, e2⟩
end

/-! ### calls -/
@[simp] theorem fin_same (v : D) (h : Oh) : fin h.length v h = .ok v h := by simp [fin]
@[simp] theorem finX_same (c : Nat) (vs : List D) (h : Oh) : finX h.length c vs h = .exc c vs h := by simp [finX]
section
variable {df : Nat → Option Df} {ht : List Hd} {W : Nat}
theorem callE_eq {g : Nat} {d : Df} (hd : df g = some d) (n : Nat) (xs : List D) (h : Oh) : callE df ht W (n + 1) g xs h = runD (callE df ht W n) ht W d xs h := by
  rw [callE, hd]
variable {c : Nat → List D → Oh → Rs D} {xs : List D} {h : Oh}
/-- a def that returns and leaves the heap as it was -/
theorem run_rt {np ns : Nat} {b : List St} {v : D} {env : En} (hl : xs.length = np) (hb : evSs c ht W b (xs.map some ++ List.replicate (ns - np) none) h = .ok (.rt v, env) h) : runD c ht W ⟨np, ns, false, b⟩ xs h = .ok v h := by
  unfold runD
  simp only [hl, if_true, hb]
  simp
theorem run_nx {np ns : Nat} {b : List St} {env : En} (hl : xs.length = np) (hb : evSs c ht W b (xs.map some ++ List.replicate (ns - np) none) h = .ok (.nx, env) h) : runD c ht W ⟨np, ns, false, b⟩ xs h = .ok .non h := by
  unfold runD
  simp only [hl, if_true, hb]
  simp
theorem run_exc {np ns k : Nat} {b : List St} {vs : List D} (hl : xs.length = np) (hb : evSs c ht W b (xs.map some ++ List.replicate (ns - np) none) h = .exc k vs h) : runD c ht W ⟨np, ns, false, b⟩ xs h = .exc k vs h := by
  unfold runD
  simp only [hl, if_true, hb]
  simp
/-- .. where another heap of the same length is left: all that stand below -/
theorem run_rt2 {np ns : Nat} {b : List St} {v : D} {env : En} {h' : Oh} (hl : xs.length = np) (hb : evSs c ht W b (xs.map some ++ List.replicate (ns - np) none) h = .ok (.rt v, env) h') (hh : h'.length = h.length) : runD c ht W ⟨np, ns, false, b⟩ xs h = .ok v h' := by
  unfold runD
  simp only [hl, if_true, hb]
  simp [fin, hh]
end
end Ev

set_option Elab.async false
set_option linter.all false
set_option maxRecDepth 100000
set_option maxHeartbeats 2000000
set_option autoImplicit false
namespace Ev
open PySem PySem.Spec PyProof.Rows L2 GxR

/-! ### plain things as data -/
class Enc (α : Type) where
  enc : α → D
  pd : α → PyData
  dep : Nat
  py : ∀ (a : α) (k : Nat), dep ≤ k → pyk k (enc a) = some (pd a)
  nr : ∀ (h : Oh) (a : α), (enc a).pyH h = (enc a).py
  alk : ∀ a b : α, PySem.W.alike (pd a) (pd b) = true
  nn : ∀ a : α, pd a ≠ .none
  tok : ∀ (a b : α) (l m : List (Int ⊕ List Nat)), PySem.W.keyToks (pd a) ++ l = PySem.W.keyToks (pd b) ++ m → a = b ∧ l = m
open Enc (enc pd)
instance : Enc Int where
  enc i := .int i
  pd i := .int i
  dep := 1
  py a k hk := by
    obtain ⟨j, rfl⟩ : ∃ j, k = j + 1 := ⟨k - 1, by omega⟩
    rfl
  nr _ _ := rfl
  alk _ _ := by simp [PySem.W.alike]
  nn _ := by intro e; cases e
  tok a b l m h := by simpa [PySem.W.keyToks] using h
theorem pyL_map {α : Type} [Enc α] {k : Nat} (hk : Enc.dep α ≤ k) : ∀ xs : List α, pyL (pyk k) (xs.map enc) = some (xs.map pd)
  | [] => rfl
  | x :: xs => by
    simp only [List.map_cons]
    unfold pyL
    rw [Enc.py x k hk, pyL_map hk xs]
theorem alk_map {α : Type} [Enc α] : ∀ xs ys : List α, PySem.W.alikeAll (xs.map pd) (ys.map pd) = true
  | [], _ => by simp [PySem.W.alikeAll]
  | _ :: _, [] => by simp [PySem.W.alikeAll]
  | x :: xs, y :: ys => by simp [PySem.W.alikeAll, Enc.alk x y, alk_map xs ys]
theorem tok_map {α : Type} [Enc α] : ∀ (xs ys : List α) (l m : List (Int ⊕ List Nat)), PySem.W.keyToksAll (xs.map pd) ++ l = PySem.W.keyToksAll (ys.map pd) ++ m → xs = ys ∧ l = m
  | [], [], l, m, h => by simpa [PySem.W.keyToksAll] using h
  | [], y :: ys, l, m, h => by simp [PySem.W.keyToksAll] at h
  | x :: xs, [], l, m, h => by simp [PySem.W.keyToksAll] at h
  | x :: xs, y :: ys, l, m, h => by
    simp only [List.map_cons, PySem.W.keyToksAll, List.cons_append, List.append_assoc, List.cons.injEq, true_and] at h
    obtain ⟨e1, h2⟩ := Enc.tok x y _ _ h
    obtain ⟨e2, h3⟩ := tok_map xs ys l m h2
    exact ⟨by rw [e1, e2], h3⟩
instance {α : Type} [Enc α] : Enc (List α) where
  enc xs := .tup (xs.map enc)
  pd xs := .tuple (xs.map pd)
  dep := Enc.dep α + 1
  py xs k hk := by
    obtain ⟨j, rfl⟩ : ∃ j, k = j + 1 := ⟨k - 1, by omega⟩
    show (pyL (pyk j) (xs.map enc)).map PyData.tuple = _
    rw [pyL_map (by omega)]; rfl
  nr _ _ := rfl
  alk xs ys := by simp only [PySem.W.alike]; exact alk_map xs ys
  nn _ := by intro e; cases e
  tok xs ys l m h := tok_map xs ys l m (by simpa [PySem.W.keyToks] using h)
/-- a list, not a tuple -/
structure Ls (α : Type) where
  l : List α
  deriving DecidableEq
instance {α : Type} [Enc α] : Enc (Ls α) where
  enc xs := .lst (xs.l.map enc)
  pd xs := .list (xs.l.map pd)
  dep := Enc.dep α + 1
  py xs k hk := by
    obtain ⟨j, rfl⟩ : ∃ j, k = j + 1 := ⟨k - 1, by omega⟩
    show (pyL (pyk j) (xs.l.map enc)).map PyData.list = _
    rw [pyL_map (by omega)]; rfl
  nr _ _ := rfl
  alk xs ys := by simp only [PySem.W.alike]; exact alk_map xs.l ys.l
  nn _ := by intro e; cases e
  tok xs ys l m h := by
    obtain ⟨xs⟩ := xs
    obtain ⟨ys⟩ := ys
    obtain ⟨h1, h2⟩ := tok_map xs ys l m (by simpa [PySem.W.keyToks] using h)
    exact ⟨by rw [h1], h2⟩
instance {α β : Type} [Enc α] [Enc β] : Enc (α × β) where
  enc p := .tup [enc p.1, enc p.2]
  pd p := .tuple [pd p.1, pd p.2]
  dep := max (Enc.dep α) (Enc.dep β) + 1
  py p k hk := by
    obtain ⟨j, rfl⟩ : ∃ j, k = j + 1 := ⟨k - 1, by omega⟩
    show (pyL (pyk j) [enc p.1, enc p.2]).map PyData.tuple = _
    simp only [pyL]
    rw [Enc.py p.1 j (by omega), Enc.py p.2 j (by omega)]; rfl
  nr _ _ := rfl
  alk p q := by simp [PySem.W.alike, PySem.W.alikeAll, Enc.alk p.1 q.1, Enc.alk p.2 q.2]
  nn _ := by intro e; cases e
  tok p q l m h := by
    simp only [PySem.W.keyToks, PySem.W.keyToksAll, List.cons_append, List.append_assoc, List.cons.injEq, true_and, List.nil_append] at h
    obtain ⟨h1, h⟩ := Enc.tok p.1 q.1 _ _ h
    simp only [List.cons.injEq, true_and] at h
    obtain ⟨h2, h⟩ := Enc.tok p.2 q.2 _ _ h
    simp only [List.cons.injEq, true_and] at h
    exact ⟨Prod.ext h1 h2, h⟩
@[simp] theorem enc_int (i : Int) : enc i = D.int i := rfl
theorem enc_pair {α β : Type} [Enc α] [Enc β] (p : α × β) : enc p = D.tup [enc p.1, enc p.2] := rfl
@[simp] theorem dep_int : Enc.dep Int = 1 := rfl
@[simp] theorem dep_list {α : Type} [Enc α] : Enc.dep (List α) = Enc.dep α + 1 := rfl
@[simp] theorem dep_ls {α : Type} [Enc α] : Enc.dep (Ls α) = Enc.dep α + 1 := rfl
@[simp] theorem dep_pair {α β : Type} [Enc α] [Enc β] : Enc.dep (α × β) = max (Enc.dep α) (Enc.dep β) + 1 := rfl
theorem enc_list {α : Type} [Enc α] (xs : List α) : (enc xs : D) = .tup (xs.map enc) := rfl

section
variable {α : Type} [Enc α]
theorem eqv_enc [DecidableEq α] (a b : α) : PyData.eqv (pd a) (pd b) = decide (a = b) := by
  by_cases e : a = b
  · subst e
    simpa using PySem.W.eqv_refl_alike _ (Enc.alk a a)
  · simp only [e, decide_false]
    cases h : PyData.eqv (pd a) (pd b) with
    | false => rfl
    | true =>
      have := (PySem.W.toks_eqv _ _ (Enc.alk a b)).1 h
      exact absurd (Enc.tok a b [] [] (by simpa using this)).1 e
def leE (a b : α) : Bool := PySem.W.dataLe false (id : PyData → PyData) (pd a) (pd b)
def ltE (a b : α) : Bool := PySem.W.dataLt (pd a) (pd b)
theorem leE_def (a b : α) : leE a b = !ltE b a := rfl
theorem leE_trans (a b c : α) (h1 : leE a b = true) (h2 : leE b c = true) : leE a c = true :=
  have T : PySem.W.TotalLe (PySem.W.dataLe false (id : PyData → PyData)) := PySem.W.sortLe_total _ false _
  T.trans _ _ _ h1 h2
theorem leE_total (a b : α) : leE a b = true ∨ leE b a = true :=
  have T : PySem.W.TotalLe (PySem.W.dataLe false (id : PyData → PyData)) := PySem.W.sortLe_total _ false _
  T.total _ _
theorem leE_refl (a : α) : leE a a = true := (leE_total a a).elim id id
theorem leE_anti (a b : α) (h1 : leE a b = true) (h2 : leE b a = true) : a = b := by
  have e1 : ltE b a = false := by rw [leE_def] at h1; simpa using h1
  have e2 : ltE a b = false := by rw [leE_def] at h2; simpa using h2
  have := (listOrd itemOrd).total (PySem.W.keyToks (pd a)) (PySem.W.keyToks (pd b)) e2 e1
  exact (Enc.tok a b [] [] (by simpa using this)).1
theorem ltE_iff (a b : α) : ltE a b = true ↔ leE a b = true ∧ a ≠ b := by
  constructor
  · intro h
    refine ⟨?_, fun e => ?_⟩
    · rcases leE_total a b with h1 | h1
      · exact h1
      · rw [leE_def, h] at h1; cases h1
    · subst e
      have := leE_refl a
      rw [leE_def, h] at this; cases this
  · rintro ⟨h1, h2⟩
    cases h : ltE a b with
    | true => rfl
    | false => exact absurd (leE_anti a b h1 (by rw [leE_def, h]; rfl)) h2
theorem ordOk_enc (a b : α) : ordOk (pd a) (pd b) = true := by
  unfold ordOk
  rw [Enc.alk a b, Bool.true_and]
  have := Enc.nn a
  cases h : (pd a : PyData) <;> simp_all
theorem pyH_enc (hk : Enc.dep α ≤ 12) (h : Oh) (a : α) : (enc a).pyH h = some (pd a) := by
  rw [Enc.nr, D.py, Enc.py a 12 hk]
theorem inP_enc [DecidableEq α] (xs : List α) (a : α) : inP (xs.map pd) (pd a) = decide (a ∈ xs) := by
  unfold inP
  induction xs with
  | nil => simp
  | cons x xs ih =>
    simp only [List.map_cons, List.any_cons, eqv_enc, ih, List.mem_cons, Bool.decide_or]
    congr 1
    exact decide_eq_decide.mpr eq_comm
theorem cmp_eq [DecidableEq α] (hk : Enc.dep α ≤ 12) (h : Oh) (a b : α) : cmpD h .eq (enc a) (enc b) = some (decide (a = b)) := by
  unfold cmpD
  simp only [pyH_enc hk, eqv_enc]
theorem cmp_ne [DecidableEq α] (hk : Enc.dep α ≤ 12) (h : Oh) (a b : α) : cmpD h .ne (enc a) (enc b) = some (!decide (a = b)) := by
  unfold cmpD
  simp only [pyH_enc hk, eqv_enc]
theorem cmp_le (hk : Enc.dep α ≤ 12) (h : Oh) (a b : α) : cmpD h .le (enc a) (enc b) = some (leE a b) := by
  unfold cmpD
  simp only [pyH_enc hk, ordOk_enc, if_true]; rfl
theorem cmp_lt (hk : Enc.dep α ≤ 12) (h : Oh) (a b : α) : cmpD h .lt (enc a) (enc b) = some (ltE a b) := by
  unfold cmpD
  simp only [pyH_enc hk, ordOk_enc, if_true]; rfl
theorem cmp_in [DecidableEq α] (hk : Enc.dep α ≤ 11) {h : Oh} {a : α} {xs : List α} {s : D} (hs : s.items h = some (xs.map enc)) : cmpD h .isin (enc a) s = some (decide (a ∈ xs)) := by
  unfold cmpD
  simp only [pyH_enc (Nat.le_succ_of_le hk), hs, D.pyL, pyL_map hk, Option.map_some, inP_enc]
theorem cmp_nin [DecidableEq α] (hk : Enc.dep α ≤ 11) {h : Oh} {a : α} {xs : List α} {s : D} (hs : s.items h = some (xs.map enc)) : cmpD h .nin (enc a) s = some (!decide (a ∈ xs)) := by
  unfold cmpD
  simp only [pyH_enc (Nat.le_succ_of_le hk), hs, D.pyL, pyL_map hk, Option.map_some, inP_enc]
end
/-! ints -/
theorem ltE_int (a b : Int) : ltE a b = decide (a < b) := PySem.W.dataLt_int a b
theorem leE_int (a b : Int) : leE a b = decide (a ≤ b) := by
  rw [leE_def, ltE_int]
  by_cases h : a ≤ b
  · simp [h]
  · simp [h]; omega
@[simp] theorem cmp_eq_int (h : Oh) (a b : Int) : cmpD h .eq (.int a) (.int b) = some (decide (a = b)) := cmp_eq (by simp) h a b
@[simp] theorem cmp_ne_int (h : Oh) (a b : Int) : cmpD h .ne (.int a) (.int b) = some (!decide (a = b)) := cmp_ne (by simp) h a b
@[simp] theorem cmp_le_int (h : Oh) (a b : Int) : cmpD h .le (.int a) (.int b) = some (decide (a ≤ b)) := by
  have := cmp_le (by simp) h a b
  rwa [leE_int] at this
@[simp] theorem cmp_lt_int (h : Oh) (a b : Int) : cmpD h .lt (.int a) (.int b) = some (decide (a < b)) := by
  have := cmp_lt (by simp) h a b
  rwa [ltE_int] at this
@[simp] theorem cmp_gt_int (h : Oh) (a b : Int) : cmpD h .gt (.int a) (.int b) = some (decide (b < a)) := by
  have := ltE_int b a
  unfold ltE at this
  unfold cmpD
  simp only [D.pyH, D.py, pyk]
  rw [if_pos (by simp [ordOk, PySem.W.alike])]
  exact congrArg some this
@[simp] theorem cmp_ge_int (h : Oh) (a b : Int) : cmpD h .ge (.int a) (.int b) = some (decide (b ≤ a)) := by
  have := leE_int b a
  rw [leE_def] at this
  unfold ltE at this
  unfold cmpD
  simp only [D.pyH, D.py, pyk]
  rw [if_pos (by simp [ordOk, PySem.W.alike])]
  exact congrArg some this
@[simp] theorem cmp_eq_bl (h : Oh) (a b : Bool) : cmpD h .eq (.bl a) (.bl b) = some (a == b) := by cases a <;> cases b <;> rfl
@[simp] theorem cmp_ne_bl (h : Oh) (a b : Bool) : cmpD h .ne (.bl a) (.bl b) = some (a != b) := by cases a <;> cases b <;> rfl
@[simp] theorem cmpB_def (o : Cop) (h : Oh) (a b : D) : cmpB o h a b = (cmpD h o a b).map .bl := rfl
@[simp] theorem add_int (h : Oh) (a b : Int) : binD h .add (.int a) (.int b) = some (.int (a + b)) := rfl
@[simp] theorem sub_int (h : Oh) (a b : Int) : binD h .sub (.int a) (.int b) = some (.int (a - b)) := rfl
@[simp] theorem add_bl (h : Oh) (a b : Bool) : binD h .add (.bl a) (.bl b) = some (.int (b2i a + b2i b)) := rfl
@[simp] theorem mod_int (h : Oh) (a b : Int) (hb : b ≠ 0) : binD h .mod (.int a) (.int b) = some (.int (a.fmod b)) := by
  show (if decide (b ≠ 0) then some (D.int (a.fmod b)) else none) = _
  simp [hb]
theorem fdiv_int (h : Oh) (a b : Int) (hb : b ≠ 0) (h2 : b.natAbs < 1073741824) : binD h .fdiv (.int a) (.int b) = some (.int (a.fdiv b)) := by
  show (if decide (b ≠ 0) && decide (b.natAbs < 1073741824) then some (D.int (a.fdiv b)) else none) = _
  simp [hb, h2]
theorem mul_int (h : Oh) (a b : Int) (hb : small64 b = true) : binD h .mul (.int a) (.int b) = some (.int (a * b)) := by
  show (if small64 a || small64 b then some (D.int (a * b)) else none) = _
  simp [hb]
@[simp] theorem len_tup (h : Oh) (ds : List D) : biD .len h [.tup ds] = some (.int ds.length) := rfl
@[simp] theorem len_lst (h : Oh) (ds : List D) : biD .len h [.lst ds] = some (.int ds.length) := rfl
@[simp] theorem len_lk (h : Oh) (ds : List D) : biD .len h [.lk ds] = some (.int ds.length) := rfl
@[simp] theorem int_int (h : Oh) (i : Int) : biD .int h [.int i] = some (.int i) := rfl
@[simp] theorem tuple_lst (h : Oh) (ds : List D) : biD .tuple h [.lst ds] = some (.tup ds) := rfl
@[simp] theorem list_tup (h : Oh) (ds : List D) : biD .list h [.tup ds] = some (.lst ds) := rfl
theorem intsD_map : ∀ ns : List Int, intsD (ns.map .int) = some ns
  | [] => rfl
  | n :: ns => by
    show (intsD (ns.map .int)).map (n :: ·) = _
    rw [intsD_map ns]; rfl
theorem sum_lst (h : Oh) (ns : List Int) : biD .sum h [.lst (ns.map .int)] = some (.int ns.sum) := by
  show (intsD (ns.map D.int)).map (fun ns => D.int ns.sum) = _
  rw [intsD_map]; rfl
@[simp] theorem min_int (h : Oh) (i j : Int) : biD .min h [.int i, .int j] = some (.int (if j < i then j else i)) := rfl
@[simp] theorem max_int (h : Oh) (i j : Int) : biD .max h [.int i, .int j] = some (.int (if j > i then j else i)) := rfl
@[simp] theorem items_tup (h : Oh) (ds : List D) : (D.tup ds).items h = some ds := rfl
@[simp] theorem items_lst (h : Oh) (ds : List D) : (D.lst ds).items h = some ds := rfl
@[simp] theorem items_lk (h : Oh) (ds : List D) : (D.lk ds).items h = some ds := rfl
theorem items_ref {h : Oh} {n : Nat} {ds : List D} (e : h[n]? = some (.lst ds)) : (D.ref n).items h = some ds := by
  unfold D.items; simp [e]
theorem ix_nat {h : Oh} {s : D} {ds : List D} {d : D} {i : Nat} (hs : s.items h = some ds) (hn : ∀ z, s ≠ .str z) (hi : ds[i]? = some d) : ixD h s (.int i) = some d := by
  have : L2.atI ds (i : Int) = some d := by
    unfold L2.atI L2.ixN
    have hl : i < ds.length := (List.getElem?_eq_some_iff.mp hi).1
    rw [if_pos (by omega), if_pos (by omega)]
    simpa using hi
  unfold ixD
  cases s with
  | str z => exact absurd rfl (hn z)
  | _ => simp only [hs, Option.bind_some, this]
@[simp] theorem ix_tup0 (h : Oh) (d : D) (ds : List D) : ixD h (.tup (d :: ds)) (.int 0) = some d := ix_nat (i := 0) rfl (by intro z e; cases e) rfl
@[simp] theorem ix_tup1 (h : Oh) (d e : D) (ds : List D) : ixD h (.tup (d :: e :: ds)) (.int 1) = some e := ix_nat (i := 1) rfl (by intro z e; cases e) rfl
theorem cut_from {α : Type} (xs : List α) (k : Nat) : cutD xs (some (k : Int)) none = xs.drop k := by
  unfold cutD
  rw [HT.sIx_nat, HT.sIx_none]
  by_cases h : k ≤ xs.length
  · rw [Nat.min_eq_left h]; exact List.take_of_length_le (by simp)
  · rw [Nat.min_eq_right (by omega), List.drop_eq_nil_of_le (show xs.length ≤ xs.length from Nat.le_refl _), List.drop_eq_nil_of_le (show xs.length ≤ k by omega)]
    exact List.take_nil
theorem cut_to {α : Type} (xs : List α) (k : Nat) : cutD xs none (some (k : Int)) = xs.take k := by
  unfold cutD
  rw [HT.sIx_nat, HT.sIx_none]
  by_cases h : k ≤ xs.length
  · rw [Nat.min_eq_left h]; simp
  · rw [Nat.min_eq_right (by omega)]
    simp [List.take_of_length_le (show xs.length ≤ k by omega)]
theorem sl_from (h : Oh) (ds : List D) (k : Nat) : slD h (.tup ds) (some (k : Int)) none = some (.tup (ds.drop k)) := by
  show some (D.tup (cutD ds _ _)) = _
  rw [cut_from]
theorem sl_to (h : Oh) (ds : List D) (k : Nat) : slD h (.tup ds) none (some (k : Int)) = some (.tup (ds.take k)) := by
  show some (D.tup (cutD ds _ _)) = _
  rw [cut_to]
section
variable {c : Nat → List D → Oh → Rs D} {ht : List Hd} {env : En} {h : Oh} {α β : Type}
theorem walks_zip {a b : Ex} {xs : List α} {ys : List β} {en : α → D} {en' : β → D} (ha : evE c ht a env h = .ok (.tup (xs.map en)) h) (hb : evE c ht b env h = .ok (.tup (ys.map en')) h) (hl : xs.length ≤ 16777216) : Walks c ht env h (.zip a b) (.zip (.tup (xs.map en)) (.tup (ys.map en')) xs.length ys.length) (xs.zip ys) fun p => .tup [en p.1, en' p.2] where
  ev := by
    rw [evI, ha]
    simp only [bind_ok, hb, List.length_map, if_pos hl, opt_some]
  now := by
    have e1 : stays h (.tup (xs.map en)) xs.length = some (xs.map en) := by simp [stays]
    have e2 : stays h (.tup (ys.map en')) ys.length = some (ys.map en') := by simp [stays]
    show (match stays h (.tup (xs.map en)) xs.length, stays h (.tup (ys.map en')) ys.length with
      | some xs, some ys => some ((xs.zip ys).map fun p : D × D => D.tup [p.1, p.2])
      | _, _ => none) = _
    rw [e1, e2]
    simp only [List.zip_map, List.map_map]
    rfl
  len := by simp [Wk.len, List.length_zip]
end
/-! sorting -/
section
variable {α : Type} [Enc α]
theorem insS_map {β γ : Type} {le : β → β → Bool} {le' : γ → γ → Bool} (f : β → γ) (hf : ∀ a b, le' (f a) (f b) = le a b) (a : β) : ∀ l : List β, insS le' (f a) (l.map f) = (insS le a l).map f
  | [] => rfl
  | b :: bs => by
    simp only [List.map_cons, insS, hf]
    cases le a b with
    | true => rfl
    | false => simp [insS_map f hf a bs]
theorem isort_map {β γ : Type} {le : β → β → Bool} {le' : γ → γ → Bool} (f : β → γ) (hf : ∀ a b, le' (f a) (f b) = le a b) : ∀ l : List β, isort le' (l.map f) = (isort le l).map f
  | [] => rfl
  | b :: bs => by
    simp only [List.map_cons, isort, isort_map f hf bs]
    exact insS_map f hf b _
theorem insS_perm {β : Type} {le : β → β → Bool} (a : β) : ∀ l : List β, (insS le a l).Perm (a :: l)
  | [] => .refl _
  | b :: bs => by
    unfold insS
    split
    · exact .refl _
    · exact ((insS_perm a bs).cons b).trans (List.Perm.swap _ _ _)
theorem isort_perm {β : Type} {le : β → β → Bool} : ∀ l : List β, (isort le l).Perm l
  | [] => .refl _
  | b :: bs => (insS_perm b _).trans ((isort_perm bs).cons b)
theorem isort_pw (l : List α) : (isort leE l).Pairwise fun a b => leE a b = true := by
  rw [← isort_eq leE_trans (fun a b => Bool.or_eq_true_iff.mpr (leE_total a b))]
  exact List.pairwise_mergeSort leE_trans (fun a b => Bool.or_eq_true_iff.mpr (leE_total a b)) l
/-- sorted lists with the same items are one list -/
theorem srt_uniq {l m : List α} (h1 : l.Pairwise fun a b => leE a b = true) (h2 : m.Pairwise fun a b => leE a b = true) (p : l.Perm m) : l = m :=
  List.Perm.eq_of_pairwise (le := fun a b => leE a b = true) (fun a b _ _ h1 h2 => leE_anti a b h1 h2) h1 h2 p
theorem isort_self {l : List α} (h : l.Pairwise fun a b => leE a b = true) : isort leE l = l := srt_uniq (isort_pw l) h (isort_perm l)
theorem isort_congr {l m : List α} (p : l.Perm m) : isort leE l = isort leE m := srt_uniq (isort_pw l) (isort_pw m) ((isort_perm l).trans (p.trans (isort_perm m).symm))
theorem ofPy_pd (hk : Enc.dep α ≤ 11) (a : α) : ofPy (pd a) = enc a := toPy_pyk 11 _ _ (Enc.py a 11 hk)
theorem sortD_enc (hk : Enc.dep α ≤ 11) {xs : List α} (hs : soB (xs.map pd) = true) (hl : xs.length ≤ 16777216) : sortD false (xs.map enc) = some ((isort leE xs).map enc) := by
  unfold sortD
  rw [D.pyL, pyL_map hk]
  have ha : aaB (xs.map pd) = true := by
    unfold aaB
    simp only [List.all_map, List.all_eq_true]
    intro x _
    simp only [Function.comp, List.all_eq_true]
    intro y _
    exact Enc.alk x y
  have hl' : decide ((xs.map (pd : α → PyData)).length ≤ 16777216) = true := by simpa using hl
  simp only [ha, hs, hl', Bool.and_self, if_true]
  rw [sortP, isort_map (le := leE) (pd : α → PyData) (fun a b => rfl)]
  simp only [List.map_map, Option.some.injEq]
  apply List.map_congr_left
  intro a _
  exact ofPy_pd hk a
theorem sorted_enc (hk : Enc.dep α ≤ 11) {xs : List α} {h : Oh} {s : D} (hi : s.items h = some (xs.map enc)) (hs : soB (xs.map pd) = true) (hl : xs.length ≤ 16777216) : biD .sorted h [s] = some (.lst ((isort leE xs).map enc)) := by
  show (s.items h).bind (fun ds => (sortD false ds).map D.lst) = _
  rw [hi, Option.bind_some, sortD_enc hk hs hl]; rfl
end
theorem soB_pair {α β : Type} [Enc α] [Enc β] (xs : List (α × β)) : soB (xs.map pd) = true := by
  unfold soB
  rw [Bool.or_eq_true]; left
  simp only [List.all_map, List.all_eq_true]
  intro x _; rfl
theorem soB_int (xs : List Int) : soB (xs.map pd) = true := by
  unfold soB
  rw [Bool.or_eq_true]; right
  simp only [List.all_map, List.all_eq_true]
  intro x _; rfl
theorem soB_ls {α : Type} [Enc α] (xs : List (Ls α)) : soB (xs.map pd) = true := by
  unfold soB
  rw [Bool.or_eq_true]; right
  simp only [List.all_map, List.all_eq_true]
  intro x _; rfl
section
variable {α : Type} [Enc α]
@[simp] theorem items_enc (h : Oh) (xs : List α) : (Enc.enc xs : D).items h = some (xs.map enc) := rfl
@[simp] theorem len_enc (h : Oh) (xs : List α) : biD .len h [Enc.enc xs] = some (.int xs.length) := by
  show some (D.int ((xs.map enc).length : Nat)) = _
  simp
@[simp high] theorem len_lenc (h : Oh) (xs : List α) : biD .len h [.lst (xs.map Enc.enc)] = some (.int xs.length) := by
  show some (D.int ((xs.map enc).length : Nat)) = _
  simp
@[simp high] theorem tuple_enc (h : Oh) (xs : List α) : biD .tuple h [.lst (xs.map Enc.enc)] = some (Enc.enc xs) := rfl
@[simp] theorem tuple_enc2 (h : Oh) (xs : List α) : biD .tuple h [Enc.enc xs] = some (Enc.enc xs) := rfl
@[simp] theorem list_enc (h : Oh) (xs : List α) : biD .list h [Enc.enc xs] = some (.lst (xs.map Enc.enc)) := rfl
@[simp high] theorem list_enc2 (h : Oh) (xs : List α) : biD .list h [.lst (xs.map Enc.enc)] = some (.lst (xs.map Enc.enc)) := rfl
@[simp] theorem isa_tuple_enc (h : Oh) (xs : List α) : isaD [.tuple] h (Enc.enc xs) = some true := rfl
@[simp] theorem isa_tuple_pair {α β : Type} [Enc α] [Enc β] (h : Oh) (p : α × β) : isaD [.tuple] h (Enc.enc p) = some true := rfl
@[simp] theorem sl_from_enc (h : Oh) (xs : List α) (k : Nat) : slD h (Enc.enc xs) (some (k : Int)) none = some (Enc.enc (xs.drop k)) := by
  show slD h (.tup (xs.map enc)) _ _ = some (D.tup ((xs.drop k).map enc))
  rw [sl_from, List.map_drop]
@[simp] theorem sl_to_enc (h : Oh) (xs : List α) (k : Nat) : slD h (Enc.enc xs) none (some (k : Int)) = some (Enc.enc (xs.take k)) := by
  show slD h (.tup (xs.map enc)) _ _ = some (D.tup ((xs.take k).map enc))
  rw [sl_to, List.map_take]
@[simp] theorem ix_pair0 {α β : Type} [Enc α] [Enc β] (h : Oh) (p : α × β) : ixD h (Enc.enc p) (.int 0) = some (Enc.enc p.1) := ix_tup0 _ _ _
@[simp] theorem ix_pair1 {α β : Type} [Enc α] [Enc β] (h : Oh) (p : α × β) : ixD h (Enc.enc p) (.int 1) = some (Enc.enc p.2) := ix_tup1 _ _ _ _
theorem add_enc (h : Oh) (xs ys : List α) (hl : xs.length + ys.length ≤ 16777216) : binD h .add (Enc.enc xs) (Enc.enc ys) = some (Enc.enc (xs ++ ys)) := by
  show (if (xs.map enc).length + (ys.map enc).length ≤ 16777216 then some (D.tup (xs.map enc ++ ys.map enc)) else none) = some (D.tup ((xs ++ ys).map enc))
  rw [if_pos (by simpa using hl), List.map_append]
theorem add_lenc (h : Oh) (xs ys : List α) (hl : xs.length + ys.length ≤ 16777216) : binD h .add (.lst (xs.map Enc.enc)) (.lst (ys.map Enc.enc)) = some (.lst ((xs ++ ys).map Enc.enc)) := by
  show (if (xs.map enc).length + (ys.map enc).length ≤ 16777216 then some (D.lst (xs.map enc ++ ys.map enc)) else none) = some (D.lst ((xs ++ ys).map enc))
  rw [if_pos (by simpa using hl), List.map_append]
theorem sum_enc (h : Oh) (ns : List Int) : biD .sum h [.lst (ns.map Enc.enc)] = some (.int ns.sum) := sum_lst h ns
end
section
variable {c : Nat → List D → Oh → Rs D} {ht : List Hd} {env : En} {h : Oh} {α β : Type} {W : Nat} [Enc β]
variable {t : Tg} {w : It} {wk : Wk} {vs : List Nat} {e : Ex} {xs : List α} {en : α → D} {env2 : α → En}
theorem lc_mapE (hw : Walks c ht env h w wk xs en) (env2 : α → En) (v : α → β)
    (hb : ∀ x ∈ xs, bindT t (en x) (wipeE env vs) = some (env2 x)) (hv : ∀ x ∈ xs, evE c ht e (env2 x) h = .ok (enc (v x)) h) : evE c ht (.lc t w [] vs e) env h = .ok (.lst ((xs.map v).map enc)) h := by
  rw [List.map_map]
  exact lc_map hw env2 (fun x => enc (v x)) hb hv
theorem lc_filE (hw : Walks c ht env h w wk xs en) (env2 : α → En) (p : α → Bool) (v : α → β) {q : Ex}
    (hb : ∀ x ∈ xs, bindT t (en x) (wipeE env vs) = some (env2 x)) (hq : ∀ x ∈ xs, evE c ht q (env2 x) h = .ok (.bl (p x)) h) (hv : ∀ x ∈ xs, p x = true → evE c ht e (env2 x) h = .ok (enc (v x)) h) : evE c ht (.lc t w [q] vs e) env h = .ok (.lst (((xs.filter p).map v).map enc)) h := by
  rw [List.map_map]
  exact lc_fil hw env2 p (fun x => enc (v x)) hb hq hv
/-- .. the items themselves -/
theorem lc_filI {xs : List β} (hw : Walks c ht env h w wk xs enc) (env2 : β → En) (p : β → Bool) {q : Ex}
    (hb : ∀ x ∈ xs, bindT t (enc x) (wipeE env vs) = some (env2 x)) (hq : ∀ x ∈ xs, evE c ht q (env2 x) h = .ok (.bl (p x)) h) (hv : ∀ x ∈ xs, p x = true → evE c ht e (env2 x) h = .ok (enc x) h) : evE c ht (.lc t w [q] vs e) env h = .ok (.lst ((xs.filter p).map enc)) h :=
  lc_fil hw env2 p (fun x => enc x) hb hq hv
theorem walks_enc {xs : List β} {e : Ex} (he : evE c ht e env h = .ok (enc xs) h) (hl : xs.length ≤ 16777216) : Walks c ht env h (.seq e) (.seq (enc xs) xs.length) xs enc := walks_seq he rfl hl
theorem walks_lenc {xs : List β} {e : Ex} (he : evE c ht e env h = .ok (.lst (xs.map enc)) h) (hl : xs.length ≤ 16777216) : Walks c ht env h (.seq e) (.seq (.lst (xs.map enc)) xs.length) xs enc := walks_seq he rfl hl
end
section
/-- without the first a -/
def rem {α : Type} [DecidableEq α] (a : α) : List α → List α
  | [] => []
  | x :: xs => if x = a then xs else x :: rem a xs
theorem rem_perm {α : Type} [DecidableEq α] {a : α} : ∀ {xs : List α}, a ∈ xs → xs.Perm (a :: rem a xs)
  | [], h => by simp at h
  | x :: xs, h => by
    unfold rem
    by_cases e : x = a
    · rw [if_pos e, e]
    · rw [if_neg e]
      have hm : a ∈ xs := by
        rcases List.mem_cons.mp h with h | h
        · exact absurd h.symm e
        · exact h
      exact ((rem_perm hm).cons x).trans (List.Perm.swap _ _ _)
theorem rem_sub {α : Type} [DecidableEq α] {a : α} : ∀ {xs : List α}, (rem a xs).Sublist xs
  | [] => .slnil
  | x :: xs => by
    unfold rem
    split
    · exact List.sublist_cons_self _ _
    · exact (rem_sub (xs := xs)).cons_cons x
theorem placeOf_enc {α : Type} [Enc α] [DecidableEq α] (a : α) : ∀ (xs : List α) (j : Nat), a ∈ xs → ∃ i, Ev.placeOf (pd a) (xs.map pd) j = some (j + i) ∧ rem a xs = xs.take i ++ xs.drop (i + 1) ∧ i < xs.length
  | [], j, h => by simp at h
  | x :: xs, j, h => by
    simp only [List.map_cons, Ev.placeOf, eqv_enc]
    by_cases e : x = a
    · subst e
      exact ⟨0, by simp, by simp [rem], by simp⟩
    · have hm : a ∈ xs := by
        rcases List.mem_cons.mp h with h | h
        · exact absurd h.symm e
        · exact h
      obtain ⟨i, e1, e2, e3⟩ := placeOf_enc a xs (j + 1) hm
      refine ⟨i + 1, ?_, ?_, by simpa using e3⟩
      · simp only [e, decide_false, Bool.false_eq_true, if_false, e1]
        congr 1; omega
      · unfold rem
        simp [e, e2]
theorem idx_enc {α : Type} [Enc α] [DecidableEq α] (hk : Enc.dep α ≤ 11) {h : Oh} {a : α} {xs : List α} (ha : a ∈ xs) : ∃ i : Nat, idxD h (Enc.enc xs) (Enc.enc a) = some (.int i) ∧ rem a xs = xs.take i ++ xs.drop (i + 1) ∧ i < xs.length := by
  obtain ⟨i, e1, e2, e3⟩ := placeOf_enc a xs 0 ha
  refine ⟨i, ?_, e2, e3⟩
  unfold idxD
  simp only [pyH_enc (Nat.le_succ_of_le hk), items_enc, Option.bind_some, D.pyL, pyL_map hk, e1, Option.map_some]
  simp
end
theorem sset_ints {h : Oh} {a : D} {ns : List Int} (hi : a.items h = some (ns.map .int)) (hl : ns.length < 64) : ssetD h a = some (.lst ((setI ns).map .int)) := by
  unfold ssetD
  rw [hi, Option.bind_some, intsD_map, Option.bind_some, if_pos hl]
theorem ss_nx {c : Nat → List D → Oh → Rs D} {ht : List Hd} {W : Nat} {s : Ev.St} {ss : List Ev.St} {env env' : En} {h h' : Oh} (e : evS c ht W s env h = .ok (.nx, env') h') : evSs c ht W (s :: ss) env h = evSs c ht W ss env' h' := by
  rw [evSs_cons, e]; rfl
end Ev

set_option Elab.async false
set_option linter.all false
set_option maxRecDepth 100000
set_option maxHeartbeats 2000000
set_option autoImplicit false
namespace Ev
open PySem PySem.Spec PyProof.Rows L2 GxR
open Ev.Enc (enc pd)
section
variable {α : Type} [Enc α]
theorem ix_lnat (h : Oh) (xs : List α) (i : Nat) (x : α) (e : xs[i]? = some x) : ixD h (.lst (xs.map enc)) (.int i) = some (enc x) := ix_nat rfl (by intro z q; cases q) (by simp [e])
theorem ix_tnat (h : Oh) (xs : List α) (i : Nat) (x : α) (e : xs[i]? = some x) : ixD h (enc xs) (.int i) = some (enc x) := ix_nat (ds := xs.map enc) rfl (by intro z q; cases q) (by simp [e])
theorem ix_l0 (h : Oh) (x : α) (xs : List α) : ixD h (.lst ((x :: xs).map enc)) (.int 0) = some (enc x) := ix_lnat h _ 0 x rfl
theorem ix_l1 (h : Oh) (x y : α) (xs : List α) : ixD h (.lst ((x :: y :: xs).map enc)) (.int 1) = some (enc y) := ix_lnat h _ 1 y rfl
theorem ix_l2 (h : Oh) (x y z : α) (xs : List α) : ixD h (.lst ((x :: y :: z :: xs).map enc)) (.int 2) = some (enc z) := ix_lnat h _ 2 z rfl
theorem ix_t0 (h : Oh) (x : α) (xs : List α) : ixD h (enc (x :: xs)) (.int 0) = some (enc x) := ix_tnat h _ 0 x rfl
theorem ix_t1 (h : Oh) (x y : α) (xs : List α) : ixD h (enc (x :: y :: xs)) (.int 1) = some (enc y) := ix_tnat h _ 1 y rfl
theorem sl_to_l (h : Oh) (xs : List α) (k : Nat) : slD h (.lst (xs.map enc)) none (some (k : Int)) = some (.lst ((xs.take k).map enc)) := by
  show some (D.lst (cutD (xs.map enc) _ _)) = _
  rw [cut_to, List.map_take]
theorem sl_from_l (h : Oh) (xs : List α) (k : Nat) : slD h (.lst (xs.map enc)) (some (k : Int)) none = some (.lst ((xs.drop k).map enc)) := by
  show some (D.lst (cutD (xs.map enc) _ _)) = _
  rw [cut_from, List.map_drop]
theorem belowL_map {k : Nat} (h : ∀ x : α, below k (enc x) = true) : ∀ xs : List α, belowL k (xs.map enc) = true
  | [] => rfl
  | x :: xs => by simp only [List.map_cons, belowL, h, belowL_map h xs, Bool.and_self]
theorem below_list {k : Nat} (h : ∀ x : α, below k (enc x) = true) (xs : List α) : below k (enc xs) = true := belowL_map h xs
end
section
variable {c : Nat → List D → Oh → Rs D} {ht : List Hd} {env : En} {h : Oh} {α : Type} {W : Nat}
theorem now_enm {s : D} {xs : List α} {en : α → D} (hi : s.items h = some (xs.map en)) : (Wk.enm s xs.length).now h = some (xs.zipIdx.map fun p => D.tup [.int (p.2 : Int), en p.1]) := by
  show (stays h s xs.length).map (fun xs => xs.mapIdx fun i x => D.tup [.int i, x]) = _
  unfold stays
  rw [hi, Option.bind_some, if_pos (by simp), Option.map_some, List.mapIdx_eq_zipIdx_map, List.zipIdx_map]
  simp only [List.map_map]
  rfl
theorem walks_enm {e : Ex} {s : D} {xs : List α} {en : α → D} (he : evE c ht e env h = .ok s h) (hs : ∀ ds, s ≠ .tup ds) (hi : s.items h = some (xs.map en)) (hl : xs.length ≤ 16777216) : Walks c ht env h (.enm e) (.enm s xs.length) xs.zipIdx fun p => .tup [.int (p.2 : Int), en p.1] where
  ev := by
    rw [evI, he]
    cases s with
    | tup ds => exact absurd rfl (hs ds)
    | _ => simp only [bind_ok, hi, Option.bind_some, List.length_map, if_pos hl, opt_some]
  now := now_enm hi
  len := by simp [Wk.len]
theorem walks_rng2 {a b : Ex} {i j : Int} (ha : evE c ht a env h = .ok (.int i) h) (hb : evE c ht b env h = .ok (.int j) h) (h1 : -100 ≤ i) (h2 : i ≤ 100) (h3 : -100 ≤ j) (h4 : j ≤ 100) : Walks c ht env h (.rng2 a b) (.rng i (j - i).toNat) (List.range (j - i).toNat) fun t : Nat => .int (i + (t : Int)) where
  ev := by
    rw [evI, ha]
    simp only [bind_ok, hb]
    rw [if_pos (by simp; omega)]
  now := rfl
  len := by simp [Wk.len]
theorem now_rng2 {i : Int} {n : Nat} : (Wk.rng i n).now h = some ((List.range n).map fun t : Nat => .int (i + (t : Int))) := rfl
/-- a def that leaves more on the heap, but returns nothing of it -/
theorem run_ext {xs : List D} {np ns : Nat} {b : List St} {v : D} {env : En} {rest : List Ob} (hl : xs.length = np) (hb : evSs c ht W b (xs.map some ++ List.replicate (ns - np) none) h = .ok (.rt v, env) (h ++ rest)) (hh : h.all (obBelow h.length) = true) (hv : below h.length v = true) : runD c ht W ⟨np, ns, false, b⟩ xs h = .ok v h := by
  unfold runD
  simp only [hl, if_true, hb]
  show fin h.length v (h ++ rest) = _
  unfold fin
  by_cases e : rest = []
  · subst e; simp
  · have : ¬ (h ++ rest).length = h.length := by
      rw [List.length_append]
      have := List.length_pos_iff.mpr e
      omega
    rw [if_neg this]
    have e1 : (h ++ rest).take h.length = h := by simp
    rw [e1, if_pos hh, if_pos hv, opt_some]
theorem set_mid {α : Type} (h : List α) (x y : α) (rest : List α) : (h ++ x :: rest).set h.length y = h ++ y :: rest := by
  rw [List.set_append_right _ _ (Nat.le_refl _)]
  simp
theorem get_mid {α : Type} (h : List α) (x : α) (rest : List α) : (h ++ x :: rest)[h.length]? = some x := by simp
/-- x.extend(..) of the list that a def made last -/
theorem ext_last {β : Type} [Enc β] (h : Oh) (xs ys : List β) (hl : xs.length + ys.length ≤ 16777216) : extD (h ++ [.lst (xs.map enc)]) (.ref h.length) (.lst (ys.map enc)) = some (h ++ [.lst ((xs ++ ys).map enc)]) := by
  unfold extD
  simp only [get_mid, List.length_map]
  rw [if_pos hl, set_mid, List.map_append]
theorem isLs_last (h : Oh) (xs : List D) : isLs (h ++ [.lst xs]) (.ref h.length) = true := by simp [isLs]
end
end Ev

set_option Elab.async false
set_option linter.all false
set_option maxRecDepth 100000
set_option maxHeartbeats 2000000
set_option autoImplicit false
namespace Lk10
open PySem PySem.Spec PyProof.Rows L2 GxR Ev
open Ev.Enc (enc pd)
abbrev Bn := Int × Int
def okB (b : Bn) : Bool := decide (0 ≤ b.1) && decide (b.1 ≤ b.2) && decide (b.2 ≤ 6)
section
variable {ht : List Hd} {W : Nat} {h : Oh}
theorem is_number_ok (n : Nat) (i : Int) : callE df ht W (n + 1) 0 [.int i, .int 0, .int 6] h = .ok (.bl (decide (0 ≤ i) && decide (i ≤ 6))) h := by
  rw [callE_eq (d := ⟨3, 3, false, b_is_number⟩) rfl]
  refine run_rt (env := [some (.int i), some (.int 0), some (.int 6)]) rfl ?_
  by_cases h0 : 0 ≤ i <;> simp [b_is_number, isaD, tyOf, h0]
theorem is_pip_ok (n : Nat) (i : Int) : callE df ht W (n + 2) 2 [.int i] h = .ok (.bl (decide (0 ≤ i) && decide (i ≤ 6))) h := by
  rw [callE_eq (d := ⟨1, 1, false, b_is_pip⟩) rfl]
  refine run_rt (env := [some (.int i)]) rfl ?_
  simp [b_is_pip, is_number_ok]
theorem check_ok (n : Nat) (s : D) : callE df ht W (n + 1) 1 [.bl true, s] h = .ok .non h := by
  rw [callE_eq (d := ⟨2, 2, false, b_check⟩) rfl]
  refine run_nx (env := [some (.bl true), some s]) rfl ?_
  simp [b_check]
theorem check_bad (n : Nat) (s : Str) (hs : s.length ≤ 16000000) : callE df ht W (n + 1) 1 [.bl false, .str s] h = .exc 0 [.str s] h := by
  rw [callE_eq (d := ⟨2, 2, false, b_check⟩) rfl]
  refine run_exc rfl ?_
  simp [b_check, okX, hs]
theorem is_bone_ok (n : Nat) (b : Bn) (hb : okB b = true) : callE df ht W (n + 3) 3 [enc b] h = .ok (.bl true) h := by
  simp only [okB, Bool.and_eq_true, decide_eq_true_eq] at hb
  rw [callE_eq (d := ⟨1, 2, false, b_is_bone⟩) rfl]
  refine run_rt (env := [some (enc b), none]) rfl ?_
  have e : ∀ x ∈ [b.1, b.2], evE (callE df ht W (n + 2)) ht (.call 2 [.var 1]) [some (enc b), some (.int x)] h = .ok (.bl true) h := by
    intro x hx
    simp only [List.mem_cons, List.not_mem_nil, or_false] at hx
    simp [is_pip_ok]
    omega
  have := al_all (c := callE df ht W (n + 2)) (ht := ht) (env := [some (enc b), none]) (h := h) (vs := [1]) (t := .v 1) (e := .call 2 [.var 1]) (en := D.int) (walks_seq (e := .var 0) (s := enc b) (xs := [b.1, b.2]) (en := .int) (by simp) rfl (by simp))
    (fun x => [some (enc b), some (.int x)]) (fun _ => true) (fun x hx => by simp) e
  have l2 : biD .len h [enc b] = some (.int 2) := rfl
  simp [b_is_bone, this, hb.1.2, l2]
structure Lot (bs : List Bn) : Prop where
  len : bs.length ≤ 8
  ok : ∀ b ∈ bs, okB b = true
  srt : bs.Pairwise fun a b => leE a b = true
structure Lw (bs : List Bn) : Prop where
  len : bs.length ≤ 20
  ok : ∀ b ∈ bs, okB b = true
theorem Lot.l20 {bs : List Bn} (h : Lot bs) : bs.length ≤ 20 := Nat.le_trans h.len (by decide)
theorem Lot.lw {bs : List Bn} (h : Lot bs) : Lw bs := ⟨h.l20, h.ok⟩
theorem chain_all {bs : List Bn} (h : bs.Pairwise fun a b => leE a b = true) : (bs.zip (bs.drop 1)).all (fun p => leE p.1 p.2) = true := by
  induction bs with
  | nil => rfl
  | cons b bs ih =>
    cases bs with
    | nil => rfl
    | cons c bs =>
      simp only [List.drop_succ_cons, List.drop_zero, List.zip_cons_cons, List.all_cons, Bool.and_eq_true]
      exact ⟨(List.pairwise_cons.mp h).1 c List.mem_cons_self, ih (List.pairwise_cons.mp h).2⟩
theorem is_lot_ok (n : Nat) {bs : List Bn} (hb : Lot bs) : callE df ht W (n + 4) 4 [enc bs] h = .ok (.bl true) h := by
  rw [callE_eq (d := ⟨1, 4, false, b_is_lot⟩) rfl]
  refine run_rt (env := [some (enc bs), none, none, none]) rfl ?_
  have h8 := hb.len
  have a1 := al_all (c := callE df ht W (n + 3)) (ht := ht) (env := [some (enc bs), none, none, none]) (h := h) (vs := [1]) (t := .v 1) (e := .call 3 [.var 1]) (walks_enc (e := .var 0) (xs := bs) (by simp) (by omega))
    (fun x => [some (enc bs), some (enc x), none, none]) (fun _ => true) (fun x hx => by simp) (fun x hx => by simp [is_bone_ok n x (hb.ok x hx)])
  have e1 := sl_from_enc h bs 1
  have a2 := al_all (c := callE df ht W (n + 3)) (ht := ht) (env := [some (enc bs), none, none, none]) (h := h) (vs := [2, 3]) (t := .t [.v 2, .v 3]) (e := .cmp .le (.var 2) (.var 3)) (walks_zip (a := .var 0) (b := .sl (.var 0) [.cst (.int 1)] []) (xs := bs) (ys := bs.drop 1) (en := enc) (en' := enc) (by simp; rfl) (by
      simp only [evE_sl, evE_vr, List.getElem?_cons_zero, vr_some, bind_ok, evL_cons, evE_cst, evL_nil, asI_one, asI_nil]
      erw [e1]; rfl) (by omega))
    (fun x => [some (enc bs), none, some (enc x.1), some (enc x.2)]) (fun p => leE p.1 p.2) (fun x hx => by simp) (fun x hx => by simp [cmp_le])
  rw [chain_all hb.srt] at a2
  rw [List.all_eq_true.mpr (fun _ _ => rfl)] at a1
  simp [b_is_lot, a1, a2, show ¬ (8 < (bs.length : Int)) by omega]
theorem check_lot_ok (n : Nat) {bs : List Bn} (hb : Lot bs) : callE df ht W (n + 5) 5 [enc bs] h = .ok .non h := by
  rw [callE_eq (d := ⟨1, 1, false, b_check_lot⟩) rfl]
  refine run_nx (env := [some (enc bs)]) rfl ?_
  simp [b_check_lot, is_lot_ok n hb, check_ok]
/-- how many ends of bones show p -/
def cnt (bs : List Bn) (p : Int) : Int := (bs.map fun b => b2i (decide (b.1 = p)) + b2i (decide (b.2 = p))).sum
theorem ends_at_ok (n : Nat) (bs : List Bn) (hl : bs.length ≤ 20) (p : Int) : callE df ht W (n + 1) 6 [enc bs, .int p] h = .ok (.int (cnt bs p)) h := by
  rw [callE_eq (d := ⟨2, 4, false, b_ends_at⟩) rfl]
  refine run_rt (env := [some (enc bs), some (.int p), none, none]) rfl ?_
  have a1 := lc_mapE (c := callE df ht W n) (ht := ht) (env := [some (enc bs), some (.int p), none, none]) (h := h) (vs := [2, 3]) (t := .t [.v 2, .v 3]) (e := .bin .add (.cmp .eq (.var 2) (.var 1)) (.cmp .eq (.var 3) (.var 1))) (walks_enc (e := .var 0) (xs := bs) (by simp) (by omega))
    (fun x => [some (enc bs), some (.int p), some (.int x.1), some (.int x.2)]) (fun b => b2i (decide (b.1 = p)) + b2i (decide (b.2 = p))) (fun x hx => by simp [enc_pair]) (fun x hx => by simp)
  simp [b_ends_at, a1, sum_enc, -List.map_map]
  rfl
def pips : List Int := [0, 1, 2, 3, 4, 5, 6]
def endsL (bs : List Bn) : List Bn := (pips.filter fun p => decide (0 < cnt bs p)).map fun p => (p, cnt bs p)
def oddL (bs : List Bn) : List Int := pips.filter fun p => decide ((cnt bs p).fmod 2 = 1)
theorem odd_in_ok (n : Nat) (bs : List Bn) (hl : bs.length ≤ 20) : callE df ht W (n + 2) 7 [enc bs] h = .ok (.lst ((oddL bs).map enc)) h := by
  rw [callE_eq (d := ⟨1, 2, false, b_odd_in⟩) rfl]
  refine run_rt (env := [some (enc bs), none]) rfl ?_
  have a1 := lc_filI (c := callE df ht W (n + 1)) (ht := ht) (env := [some (enc bs), none]) (h := h) (vs := [1]) (t := .v 1) (q := .cmp .eq (.bin .mod (.call 6 [.var 0, .var 1]) (.cst (.int 2))) (.cst (.int 1))) (e := .var 1)
    (walks_enc (xs := pips) (e := .cst (.tup [(.int 0), (.int 1), (.int 2), (.int 3), (.int 4), (.int 5), (.int 6)])) (by simp; rfl) (by decide))
    (fun x => [some (enc bs), some (.int x)]) (fun p => decide ((cnt bs p).fmod 2 = 1)) (fun x hx => by simp) (fun x hx => by simp [ends_at_ok _ bs hl]) (fun x hx _ => by simp)
  simp [b_odd_in, a1, oddL]
def bonesOf (bs : List Bn) (g : List Int) : List Bn := bs.filter fun b => decide (b.1 ∈ g)
theorem bones_of_ok (n : Nat) (bs : List Bn) (hl : bs.length ≤ 20) (g : List Int) : callE df ht W (n + 1) 9 [enc bs, enc g] h = .ok (enc (bonesOf bs g)) h := by
  rw [callE_eq (d := ⟨2, 3, false, b_bones_of⟩) rfl]
  refine run_rt (env := [some (enc bs), some (enc g), none]) rfl ?_
  have a1 := lc_filI (c := callE df ht W n) (ht := ht) (env := [some (enc bs), some (enc g), none]) (h := h) (vs := [2]) (t := .v 2) (q := .cmp .isin (.ix (.var 2) (.cst (.int 0))) (.var 1)) (e := .var 2)
    (walks_enc (e := .var 0) (xs := bs) (by simp) (by omega))
    (fun x => [some (enc bs), some (enc g), some (enc x)]) (fun b => decide (b.1 ∈ g)) (fun x hx => by simp) (fun x hx => by
      have := cmp_in (α := Int) (h := h) (a := x.1) (xs := g) (s := enc g) (by simp) rfl
      rw [enc_int] at this
      simp [this]) (fun x hx _ => by simp)
  simp [b_bones_of, a1, bonesOf]
end
section
variable {ht : List Hd} {W : Nat} {h : Oh}
def withB (bs : List Bn) (b : Bn) : List Bn := isort leE (bs ++ [b])
theorem with_bone_ok (n : Nat) (bs : List Bn) (hl : bs.length ≤ 20) (b : Bn) : callE df ht W (n + 1) 10 [enc bs, enc b] h = .ok (enc (withB bs b)) h := by
  rw [callE_eq (d := ⟨2, 2, false, b_with_bone⟩) rfl]
  refine run_rt (env := [some (enc bs), some (enc b)]) rfl ?_
  have e1 : binD h .add (enc bs) (.tup [enc b]) = some (enc (bs ++ [b])) := add_enc h bs [b] (by simp; omega)
  have e2 := sorted_enc (α := Bn) (by simp) (h := h) (s := enc (bs ++ [b])) (xs := bs ++ [b]) rfl (soB_pair _) (by simp; omega)
  simp [b_with_bone, e1, e2, withB]
theorem law_bone_ok (n : Nat) (i j : Int) : callE df ht W (n + 1) 24 [.int i, .int j] h = .ok (enc (min i j, max i j)) h := by
  rw [callE_eq (d := ⟨2, 2, false, b__law_bone⟩) rfl]
  refine run_rt (env := [some (.int i), some (.int j)]) rfl ?_
  simp [b__law_bone, enc_pair]
  constructor
  · split <;> omega
  · split <;> omega
theorem cnt_two (bs : List Bn) (p : Int) : cnt bs p = ((bs.filter fun b => decide (b.1 = p)).length : Int) + ((bs.filter fun b => decide (b.2 = p)).length : Int) := by
  unfold cnt
  induction bs with
  | nil => rfl
  | cons b bs ih =>
    simp only [List.map_cons, List.sum_cons, ih, List.filter_cons]
    by_cases h1 : b.1 = p <;> by_cases h2 : b.2 = p <;> simp [h1, h2, b2i] <;> omega
theorem law_count_ok (n : Nat) (bs : List Bn) (hl : bs.length ≤ 20) (p : Int) : callE df ht W (n + 1) 28 [enc bs, .int p] h = .ok (.int (cnt bs p)) h := by
  rw [callE_eq (d := ⟨2, 3, false, b__law_count⟩) rfl]
  refine run_rt (env := [some (enc bs), some (.int p), none]) rfl ?_
  have a1 := lc_filI (c := callE df ht W n) (ht := ht) (env := [some (enc bs), some (.int p), none]) (h := h) (vs := [2]) (t := .v 2) (q := .cmp .eq (.ix (.var 2) (.cst (.int 0))) (.var 1)) (e := .var 2)
    (walks_enc (e := .var 0) (xs := bs) (by simp) (by omega))
    (fun x => [some (enc bs), some (.int p), some (enc x)]) (fun b => decide (b.1 = p)) (fun x hx => by simp) (fun x hx => by simp) (fun x hx _ => by simp)
  have a2 := lc_filI (c := callE df ht W n) (ht := ht) (env := [some (enc bs), some (.int p), none]) (h := h) (vs := [2]) (t := .v 2) (q := .cmp .eq (.ix (.var 2) (.cst (.int 1))) (.var 1)) (e := .var 2)
    (walks_enc (e := .var 0) (xs := bs) (by simp) (by omega))
    (fun x => [some (enc bs), some (.int p), some (enc x)]) (fun b => decide (b.2 = p)) (fun x hx => by simp) (fun x hx => by simp) (fun x hx _ => by simp)
  simp [b__law_count, a1, a2, cnt_two]
theorem pips_range : pips = (List.range 7).map fun i : Nat => (i : Int) := rfl
theorem law_odd_ok (n : Nat) (bs : List Bn) (hl : bs.length ≤ 20) : callE df ht W (n + 2) 29 [enc bs] h = .ok (.lst ((oddL bs).map enc)) h := by
  rw [callE_eq (d := ⟨1, 2, false, b__law_odd⟩) rfl]
  refine run_rt (env := [some (enc bs), none]) rfl ?_
  have a1 := lc_filE (c := callE df ht W (n + 1)) (ht := ht) (env := [some (enc bs), none]) (h := h) (vs := [1]) (t := .v 1) (q := .cmp .eq (.bin .mod (.call 28 [.var 0, .var 1]) (.cst (.int 2))) (.cst (.int 1))) (e := .var 1)
    (walks_rng1 (e := .cst (.int 7)) (k := 7) (by simp) (by decide))
    (fun x => [some (enc bs), some (.int x)]) (fun p => decide ((cnt bs p).fmod 2 = 1)) (fun p => (p : Int)) (fun x hx => by simp) (fun x hx => by simp [law_count_ok _ bs hl]) (fun x hx _ => by simp)
  have e : oddL bs = ((List.range 7).filter (fun p : Nat => decide ((cnt bs p).fmod 2 = 1))).map fun i : Nat => (i : Int) := by
    unfold oddL
    rw [pips_range, List.filter_map]
    rfl
  simp [b__law_odd, a1, e, -List.map_map]
end
section
variable {ht : List Hd} {W : Nat} {h : Oh}
/-- the heap of the law: the row -/
def hp (ns : List Int) (i s r : Int) : Oh := [.lst [.lk (ns.map .int), .int i, .int s, .int r]]
@[simp] theorem hp_ix1 (ns : List Int) (i s r : Int) : ixD (hp ns i s r) (.ref 0) (.int 1) = some (.int i) := rfl
@[simp] theorem hp_ix0 (ns : List Int) (i s r : Int) : ixD (hp ns i s r) (.ref 0) (.int 0) = some (.lk (ns.map .int)) := rfl
@[simp] theorem hp_ix2 (ns : List Int) (i s r : Int) : ixD (hp ns i s r) (.ref 0) (.int 2) = some (.int s) := rfl
@[simp] theorem hp_ix3 (ns : List Int) (i s r : Int) : ixD (hp ns i s r) (.ref 0) (.int 3) = some (.int r) := rfl
@[simp] theorem hp_set1 (ns : List Int) (i s r x : Int) : setD (hp ns i s r) (.ref 0) (.int 1) (.int x) = some (hp ns x s r) := rfl
@[simp] theorem hp_set2 (ns : List Int) (i s r x : Int) : setD (hp ns i s r) (.ref 0) (.int 2) (.int x) = some (hp ns i x r) := rfl
@[simp] theorem hp_set3 (ns : List Int) (i s r x : Int) : setD (hp ns i s r) (.ref 0) (.int 3) (.int x) = some (hp ns i s x) := rfl
@[simp] theorem hp_len (ns : List Int) (i s r : Int) : (hp ns i s r).length = 1 := rfl
theorem mul_c (h : Oh) (a : Int) : binD h .mul (.int a) (.int 48271) = some (.int (a * 48271)) := mul_int h a _ (by decide)
theorem pow_c (h : Oh) : binD h .pow (.int 10) (.int 18) = some (.int 1000000000000000000) := by rfl
theorem law_taken_ok (n : Nat) (ns : List Int) (i s r many : Int) (hi : 0 ≤ i) (hm : 0 < many) (hm2 : many < 1000000000) : ∃ k i' s' r' : Int, 0 ≤ i' ∧ 0 ≤ k ∧ k < many ∧
    callE df ht W (n + 1) 23 [.ref 0, .int many] (hp ns i s r) = .ok (.int k) (hp ns i' s' r') := by
  rw [callE_eq (d := ⟨2, 4, false, b__law_taken⟩) rfl]
  have hf : ∀ x : Int, 0 ≤ x.fmod many ∧ x.fmod many < many := fun x => ⟨Int.fmod_nonneg_of_pos x hm, Int.fmod_lt_of_pos x hm⟩
  have m0 : many ≠ 0 := by omega
  have m1 : many.natAbs < 1073741824 := by omega
  by_cases hr : 0 < r
  · exact ⟨r.fmod many, i, s, r.fdiv many, hi, (hf _).1, (hf _).2, run_rt2 (env := [some (.ref 0), some (.int many), some (.int (r.fmod many)), none]) rfl (by
      simp [b__law_taken, hr, m0, fdiv_int _ _ _ m0 m1]) rfl⟩
  · by_cases hn : (ns.length : Int) < i + 1
    · exact ⟨(((s * 48271 + 11).fmod 2147483647).fdiv 7).fmod many, i + 1, (s * 48271 + 11).fmod 2147483647, r, by omega, (hf _).1, (hf _).2, run_rt2 (env := [some (.ref 0), some (.int many), none, none]) rfl (by
        simp [b__law_taken, hr, m0, hn, mul_c, fdiv_int]) rfl⟩
    · have hl : i.toNat < ns.length := by omega
      have hc : ixD (hp ns (i + 1) s r) (.lk (ns.map .int)) (.int i) = some (.int ns[i.toNat]) := by
        have e := ix_nat (h := hp ns (i + 1) s r) (s := .lk (ns.map .int)) (ds := ns.map .int) (i := i.toNat) (d := .int ns[i.toNat]) rfl (by intro z e; cases e) (by simp [List.getElem?_eq_getElem hl])
        rwa [Int.toNat_of_nonneg hi] at e
      have hi' : i + 1 - 1 = i := by omega
      by_cases hb : 1000000000000000000 ≤ ns[i.toNat]
      · exact ⟨(ns[i.toNat]).fmod many, i + 1, (s * 48271 + ns[i.toNat] + 11).fmod 2147483647, (ns[i.toNat]).fdiv many, by omega, (hf _).1, (hf _).2, run_rt2 (env := [some (.ref 0), some (.int many), none, some (.int ns[i.toNat])]) rfl (by
          simp [b__law_taken, hr, m0, hn, mul_c, fdiv_int _ _ _ m0 m1, hc, hi', pow_c, hb]) rfl⟩
      · exact ⟨(ns[i.toNat]).fmod many, i + 1, (s * 48271 + ns[i.toNat] + 11).fmod 2147483647, r, by omega, (hf _).1, (hf _).2, run_rt2 (env := [some (.ref 0), some (.int many), none, some (.int ns[i.toNat])]) rfl (by
          simp [b__law_taken, hr, m0, hn, mul_c, fdiv_int _ _ _ m0 m1, hc, hi', pow_c, hb]) rfl⟩
/-- a pick out of a list -/
theorem law_pick_ok (n : Nat) (ns : List Int) (i s r : Int) (ds : List D) (hi : 0 ≤ i) (h0 : ds ≠ []) (hl : ds.length < 1000) : ∃ (d : D) (i' s' r' : Int), 0 ≤ i' ∧ d ∈ ds ∧
    callE df ht W (n + 2) 26 [.ref 0, .lst ds] (hp ns i s r) = .ok d (hp ns i' s' r') := by
  have hpos : 0 < ds.length := List.length_pos_iff.mpr h0
  obtain ⟨k, i', s', r', h1, h2, h3, h4⟩ := law_taken_ok (ht := ht) (W := W) n ns i s r ds.length hi (by omega) (by omega)
  have hk : k.toNat < ds.length := by omega
  refine ⟨ds[k.toNat], i', s', r', h1, List.getElem_mem hk, ?_⟩
  rw [callE_eq (d := ⟨2, 2, false, b__law_pick⟩) rfl]
  refine run_rt2 (env := [some (.ref 0), some (.lst ds)]) rfl ?_ rfl
  have e := ix_nat (h := hp ns i' s' r') (s := .lst ds) (ds := ds) (i := k.toNat) (d := ds[k.toNat]) rfl (by intro z e; cases e) (List.getElem?_eq_getElem hk)
  rw [Int.toNat_of_nonneg h2] at e
  simp [b__law_pick, h4, e]
/-- simple data -/
def sd : Nat → D → Bool
  | 0, _ => false
  | m + 1, d => match d with
    | .non => true
    | .bl _ => true
    | .int _ => true
    | .str _ => true
    | .tup ds => ds.all (sd m) && decide (ds.length ≤ 16777216)
    | .lst ds => ds.all (sd m) && decide (ds.length ≤ 16777216)
    | _ => false
@[simp] theorem cmp_isn (h : Oh) (a : D) : cmpD h .isn a .non = some a.isNon := rfl
@[simp] theorem cmp_isnn (h : Oh) (a : D) : cmpD h .isnn a .non = some (!a.isNon) := rfl
theorem alike_self (n : Nat) : ∀ (m : Nat) (d : D), sd m d = true → callE df ht W (n + m) 31 [d, d] h = .ok (.bl true) h
  | 0, _, e => by cases e
  | m + 1, d, e => by
    rw [← Nat.add_assoc, callE_eq (d := ⟨2, 4, false, b__law_alike⟩) rfl]
    refine run_rt (env := [some d, some d, none, none]) rfl ?_
    have sq : ∀ ds : List D, ds.all (sd m) = true → ds.length ≤ 16777216 → (∀ z, d ≠ .str z) → d.items h = some ds → biD .len h [d] = some (.int ds.length) → evE (callE df ht W (n + m)) ht (.lc (.v 2) (.rng1 (.bi .len [.var 1])) [.not (.call 31 [.ix (.var 0) (.var 2), .ix (.var 1) (.var 2)])] [2] (.var 2)) [some d, some d, none, none] h = .ok (.lst []) h := by
      intro ds h1 h2 h3 h4 h5
      have := lc_fil (c := callE df ht W (n + m)) (ht := ht) (env := [some d, some d, none, none]) (h := h) (vs := [2]) (t := .v 2) (q := .not (.call 31 [.ix (.var 0) (.var 2), .ix (.var 1) (.var 2)])) (e := .var 2)
        (walks_rng1 (e := .bi .len [.var 1]) (k := ds.length) (by simp [h5]) h2) (fun i => [some d, some d, some (.int (i : Int)), none]) (fun _ => false) (fun _ => .non) (fun x hx => by simp) (fun x hx => by
          have hx' : x < ds.length := by simpa using hx
          have hs := List.all_eq_true.mp h1 _ (List.getElem_mem hx')
          have := ix_nat (h := h) (s := d) (ds := ds) (i := x) (d := ds[x]) h4 h3 (List.getElem?_eq_getElem hx')
          simp [this, alike_self n m _ hs]) (fun x hx hp => by cases hp)
      rw [this]
      simp
    have e2 : cmpD h .eq (.lst []) (.lst []) = some true := rfl
    cases d with
    | non =>
      have e3 : cmpD h .eq .non .non = some true := by simp [cmpD, D.pyH, D.py, pyk, PyData.eqv]
      simp [b__law_alike, isaD, tyOf, D.isNon, e3]
    | bl b => simp [b__law_alike, isaD, tyOf, D.isNon]
    | int i => simp [b__law_alike, isaD, tyOf, D.isNon]
    | str s =>
      have e3 : cmpD h .eq (.str s) (.str s) = some true := by simp [cmpD, D.pyH, D.py, pyk, PyData.eqv]
      simp [b__law_alike, isaD, tyOf, D.isNon, e3]
    | tup ds =>
      simp only [sd, Bool.and_eq_true, decide_eq_true_eq] at e
      have := sq ds e.1 e.2 (by intro z q; cases q) rfl rfl
      simp [b__law_alike, isaD, tyOf, this, e2]
    | lst ds =>
      simp only [sd, Bool.and_eq_true, decide_eq_true_eq] at e
      have := sq ds e.1 e.2 (by intro z q; cases q) rfl rfl
      simp [b__law_alike, isaD, tyOf, this, e2]
    | lk _ => cases e
    | ref _ => cases e
end
section
variable {ht : List Hd} {W : Nat} {h : Oh}
theorem okB_mm {i j p : Int} (h1 : 0 ≤ i) (h2 : i < p) (h3 : 0 ≤ j) (h4 : j < p) (hp : p ≤ 7) : okB (min i j, max i j) = true ∧ (max i j) < p := by
  simp only [okB, Bool.and_eq_true, decide_eq_true_eq]
  omega
/-- a drawn lot -/
theorem law_lot_ok (n : Nat) (ns : List Int) (i s r most p : Int) (hi : 0 ≤ i) (hm : 0 ≤ most) (hm2 : most ≤ 8) (hp1 : 0 < p) (hp2 : p ≤ 7) : ∃ (bs : List Bn) (i' s' r' : Int), 0 ≤ i' ∧ Lot bs ∧ bs.length ≤ most ∧ (∀ b ∈ bs, b.2 < p) ∧
    callE df ht W (n + 2) 25 [.ref 0, .int most, .int p] (hp ns i s r) = .ok (enc bs) (hp ns i' s' r') := by
  obtain ⟨many, i1, s1, r1, h1, q1, q2, e1⟩ := law_taken_ok (ht := ht) (W := W) n ns i s r (most + 1) hi (by omega) (by omega)
  obtain ⟨end', i2, s2, r2, h2, q3, q4, e2⟩ := law_taken_ok (ht := ht) (W := W) n ns i1 s1 r1 p h1 (by omega) (by omega)
  obtain ⟨ls, i3, s3, r3, h3, _, _, e3⟩ := law_taken_ok (ht := ht) (W := W) n ns i2 s2 r2 3 h2 (by omega) (by omega)
  obtain ⟨k, rfl⟩ : ∃ k : Nat, many = k := ⟨many.toNat, by omega⟩
  let I : Nat → En → Oh → Prop := fun j env h => ∃ (en' : Int) (found : List Bn) (t o : Option D) (i s r : Int), found.length = j ∧ (∀ b ∈ found, okB b = true ∧ b.2 < p) ∧ 0 ≤ en' ∧ en' < p ∧ 0 ≤ i ∧
    env = [some (.ref 0), some (.int most), some (.int p), some (.int (k : Int)), some (.int en'), some (.lst (found.map enc)), some (.bl (decide (ls = 0))), t, o] ∧ h = hp ns i s r
  obtain ⟨env', h', el, en', found, t, o, i4, s4, r4, f1, f2, f3, f4, f5, f6, f7⟩ := lop_inv (c := callE df ht W (n + 1)) (ht := ht) (W := W) (env := [some (.ref 0), some (.int most), some (.int p), some (.int (k : Int)), some (.int end'), some (.lst []), some (.bl (decide (ls = 0))), none, none]) (h := hp ns i3 s3 r3) (t := .v 7)
    (walks_rng1 (e := .var 3) (k := k) (by simp) (by omega))
    [.as (.v 8) (.ite (.var 6) (.call 23 [.var 0, .var 2]) (.var 4)), .as (.v 4) (.call 23 [.var 0, .var 2]), .as (.v 5) (.bin .add (.var 5) (.lst [.call 24 [.var 8, .var 4]]))]
    I ⟨end', [], none, none, i3, s3, r3, rfl, by simp, q3, q4, h3, rfl, rfl⟩
    (fun j env h _ => now_rng)
    (fun j env h x hx hI => by
      obtain ⟨en', found, t, o, i, s, r, g1, g2, g3, g4, g5, rfl, rfl⟩ := hI
      have hj : j < k := by
        have := (List.getElem?_eq_some_iff.mp hx).1
        simpa using this
      by_cases hl : ls = 0
      · obtain ⟨one, i1, s1, r1, a1, a2, a3, a4⟩ := law_taken_ok (ht := ht) (W := W) n ns i s r p g5 (by omega) (by omega)
        obtain ⟨en2, i2, s2, r2, b1, b2, b3, b4⟩ := law_taken_ok (ht := ht) (W := W) n ns i1 s1 r1 p a1 (by omega) (by omega)
        have c1 := okB_mm a2 a3 b2 b3 hp2
        have c2 : binD (hp ns i2 s2 r2) .add (.lst (found.map enc)) (.lst [enc (min one en2, max one en2)]) = some (.lst ((found ++ [(min one en2, max one en2)]).map enc)) := add_lenc _ found [_] (by simp; omega)
        refine ⟨[some (.ref 0), some (.int most), some (.int p), some (.int (k : Int)), some (.int en'), some (.lst (found.map enc)), some (.bl (decide (ls = 0))), some (.int (x : Int)), o], [some (.ref 0), some (.int most), some (.int p), some (.int (k : Int)), some (.int en2), some (.lst ((found ++ [(min one en2, max one en2)]).map enc)), some (.bl (decide (ls = 0))), some (.int (x : Int)), some (.int one)], hp ns i2 s2 r2, by simp, ?_,
          en2, found ++ [(min one en2, max one en2)], _, _, i2, s2, r2, by simp [g1], ?_, b2, b3, b1, rfl, rfl⟩
        · simp [hl, a4, b4, law_bone_ok, c2, -List.map_append]
        · intro b hb
          rcases List.mem_append.mp hb with hb | hb
          · exact g2 b hb
          · rw [List.mem_singleton.mp hb]
            exact c1
      · obtain ⟨en2, i2, s2, r2, b1, b2, b3, b4⟩ := law_taken_ok (ht := ht) (W := W) n ns i s r p g5 (by omega) (by omega)
        have c1 := okB_mm g3 g4 b2 b3 hp2
        have c2 : binD (hp ns i2 s2 r2) .add (.lst (found.map enc)) (.lst [enc (min en' en2, max en' en2)]) = some (.lst ((found ++ [(min en' en2, max en' en2)]).map enc)) := add_lenc _ found [_] (by simp; omega)
        refine ⟨[some (.ref 0), some (.int most), some (.int p), some (.int (k : Int)), some (.int en'), some (.lst (found.map enc)), some (.bl (decide (ls = 0))), some (.int (x : Int)), o], [some (.ref 0), some (.int most), some (.int p), some (.int (k : Int)), some (.int en2), some (.lst ((found ++ [(min en' en2, max en' en2)]).map enc)), some (.bl (decide (ls = 0))), some (.int (x : Int)), some (.int en')], hp ns i2 s2 r2, by simp, ?_,
          en2, found ++ [(min en' en2, max en' en2)], _, _, i2, s2, r2, by simp [g1], ?_, b2, b3, b1, rfl, rfl⟩
        · simp [hl, b4, law_bone_ok, c2, -List.map_append]
        · intro b hb
          rcases List.mem_append.mp hb with hb | hb
          · exact g2 b hb
          · rw [List.mem_singleton.mp hb]
            exact c1)
  subst f6 f7
  simp only [List.length_range] at f1
  refine ⟨isort leE found, i4, s4, r4, f5, ⟨?_, ?_, isort_pw _⟩, ?_, ?_, ?_⟩
  · rw [(isort_perm found).length_eq]; omega
  · intro b hb; exact (f2 b ((isort_perm found).mem_iff.mp hb)).1
  · rw [(isort_perm found).length_eq]; omega
  · intro b hb; exact (f2 b ((isort_perm found).mem_iff.mp hb)).2
  · rw [callE_eq (d := ⟨3, 9, false, b__law_lot⟩) rfl]
    refine run_rt2 (env := [some (.ref 0), some (.int most), some (.int p), some (.int (k : Int)), some (.int en'), some (.lst (found.map enc)), some (.bl (decide (ls = 0))), t, o]) rfl ?_ rfl
    have es := sorted_enc (α := Bn) (by simp) (h := hp ns i4 s4 r4) (s := .lst (found.map enc)) (xs := found) rfl (soB_pair _) (by omega)
    simp [b__law_lot, e1, e2, e3, el, es]
end
/-! ### pieces, in plain words -/
theorem ext_pw {α : Type} {R : α → α → Prop} (asy : ∀ a b, R a b → R b a → False) : ∀ {l m : List α}, l.Pairwise R → m.Pairwise R → (∀ x, x ∈ l ↔ x ∈ m) → l = m
  | [], [], _, _, _ => rfl
  | [], b :: m, _, _, h => by simpa using h b
  | a :: l, [], _, _, h => by simpa using h a
  | a :: l, b :: m, h1, h2, h => by
    obtain ⟨p1, p2⟩ := List.pairwise_cons.mp h1
    obtain ⟨q1, q2⟩ := List.pairwise_cons.mp h2
    have e : a = b := by
      rcases List.mem_cons.mp ((h a).mp List.mem_cons_self) with r | r
      · exact r
      · rcases List.mem_cons.mp ((h b).mpr List.mem_cons_self) with s | s
        · exact s.symm
        · exact (asy _ _ (p1 b s) (q1 a r)).elim
    subst e
    congr 1
    refine ext_pw asy p2 q2 fun x => ⟨fun hx => ?_, fun hx => ?_⟩
    · rcases List.mem_cons.mp ((h x).mp (List.mem_cons_of_mem _ hx)) with r | r
      · subst r; exact (asy _ _ (p1 _ hx) (p1 _ hx)).elim
      · exact r
    · rcases List.mem_cons.mp ((h x).mpr (List.mem_cons_of_mem _ hx)) with r | r
      · subst r; exact (asy _ _ (q1 _ hx) (q1 _ hx)).elim
      · exact r
theorem mem_insU (x y : Int) : ∀ l : List Int, y ∈ insU x l ↔ y = x ∨ y ∈ l
  | [] => by simp [insU]
  | a :: l => by
    unfold insU
    split
    · simp
    · split
      · rename_i h; subst h; simp
      · simp only [List.mem_cons, mem_insU x y l]
        constructor
        · rintro (h | h | h) <;> simp [h]
        · rintro (h | h | h) <;> simp [h]
theorem insU_pw (x : Int) : ∀ l : List Int, l.Pairwise (· < ·) → (insU x l).Pairwise (· < ·)
  | [], _ => by simp [insU]
  | a :: l, h => by
    obtain ⟨h1, h2⟩ := List.pairwise_cons.mp h
    unfold insU
    split
    · rename_i hx
      refine List.pairwise_cons.mpr ⟨fun y hy => ?_, h⟩
      rcases List.mem_cons.mp hy with r | r
      · omega
      · have := h1 y r; omega
    · split
      · exact h
      · rename_i hx hn
        refine List.pairwise_cons.mpr ⟨fun y hy => ?_, insU_pw x l h2⟩
        rcases (mem_insU x y l).mp hy with r | r
        · omega
        · exact h1 y r
theorem mem_setI (y : Int) : ∀ l : List Int, y ∈ setI l ↔ y ∈ l
  | [] => by simp [setI]
  | a :: l => by
    have := mem_setI y l
    unfold setI at this ⊢
    simp only [List.foldr_cons, mem_insU, this, List.mem_cons]
theorem setI_pw : ∀ l : List Int, (setI l).Pairwise (· < ·)
  | [] => by simp [setI]
  | a :: l => by
    have := setI_pw l
    unfold setI at this ⊢
    exact insU_pw a _ this
theorem pw_len {lo hi : Int} : ∀ {l : List Int}, l.Pairwise (· < ·) → (∀ x ∈ l, lo ≤ x ∧ x < hi) → (l.length : Int) ≤ max 0 (hi - lo)
  | [], _, _ => by simp; omega
  | a :: l, h, hb => by
    obtain ⟨h1, h2⟩ := List.pairwise_cons.mp h
    have ha := hb a List.mem_cons_self
    have := pw_len (lo := a + 1) (hi := hi) h2 fun x hx => ⟨by have := h1 x hx; omega, (hb x (List.mem_cons_of_mem _ hx)).2⟩
    simp only [List.length_cons]
    omega
theorem insS_nil_len (x : Int) : ∀ l : List Int, x ∉ l → (insU x l).length = l.length + 1
  | [], _ => rfl
  | a :: l, h => by
    unfold insU
    split
    · rfl
    · split
      · rename_i e; subst e; simp at h
      · simp [insS_nil_len x l (fun q => h (List.mem_cons_of_mem _ q))]
theorem setI_len : ∀ l : List Int, l.Nodup → (setI l).length = l.length
  | [], _ => rfl
  | a :: l, h => by
    obtain ⟨h1, h2⟩ := List.nodup_cons.mp h
    have := setI_len l h2
    have h3 : a ∉ setI l := fun q => h1 ((mem_setI a l).mp q)
    unfold setI at this h3 ⊢
    rw [List.foldr_cons, insS_nil_len _ _ h3, this]; rfl
theorem nodup_len {l : List Int} (h : l.Nodup) (hb : ∀ x ∈ l, 0 ≤ x ∧ x ≤ 6) : l.length ≤ 7 := by
  rw [← setI_len l h]
  have := pw_len (lo := 0) (hi := 7) (setI_pw l) fun x hx => by have := hb x ((mem_setI x l).mp hx); omega
  omega
/-- joined by bones -/
def Conn (bs : List Bn) (x y : Int) : Prop := ∀ P : Int → Prop, (∀ b ∈ bs, P b.1 ↔ P b.2) → (P x ↔ P y)
theorem Conn.refl (bs : List Bn) (x : Int) : Conn bs x x := fun _ _ => Iff.rfl
theorem Conn.symm {bs : List Bn} {x y : Int} (h : Conn bs x y) : Conn bs y x := fun P hP => (h P hP).symm
theorem Conn.trans {bs : List Bn} {x y z : Int} (h : Conn bs x y) (g : Conn bs y z) : Conn bs x z := fun P hP => (h P hP).trans (g P hP)
theorem Conn.mono {bs cs : List Bn} {x y : Int} (h : Conn bs x y) (hs : ∀ b ∈ bs, b ∈ cs) : Conn cs x y := fun P hP => h P fun b hb => hP b (hs b hb)
theorem Conn.edge {bs : List Bn} {b : Bn} (hb : b ∈ bs) : Conn bs b.1 b.2 := fun _ hP => hP b hb
def Used (bs : List Bn) (x : Int) : Prop := ∃ b ∈ bs, x = b.1 ∨ x = b.2
structure Grp (bs : List Bn) (g : List Int) : Prop where
  srt : g.Pairwise (· < ·)
  ne : g ≠ []
  clo : ∀ b ∈ bs, b.1 ∈ g ↔ b.2 ∈ g
  con : ∀ x ∈ g, ∀ y ∈ g, Conn bs x y
theorem Grp.mem {bs : List Bn} {g : List Int} {x y : Int} (G : Grp bs g) (hx : x ∈ g) : y ∈ g ↔ Conn bs x y :=
  ⟨fun hy => G.con x hx y hy, fun h => (h (· ∈ g) G.clo).mp hx⟩
theorem Grp.eq {bs : List Bn} {g g' : List Int} {x : Int} (G : Grp bs g) (G' : Grp bs g') (h : x ∈ g) (h' : x ∈ g') : g = g' :=
  ext_pw (R := (· < ·)) (fun a b p q => by omega) G.srt G'.srt fun y => (G.mem h).trans (G'.mem h').symm
structure Pcs (bs : List Bn) (gs : List (List Int)) : Prop where
  grp : ∀ g ∈ gs, Grp bs g
  cov : ∀ x, Used bs x ↔ ∃ g ∈ gs, x ∈ g
  srt : gs.Pairwise fun a b => ltE a b = true
theorem ltE_asy {α : Type} [Enc α] (a b : α) (h1 : ltE a b = true) (h2 : ltE b a = true) : False := by
  obtain ⟨p1, p2⟩ := (ltE_iff a b).mp h1
  obtain ⟨q1, _⟩ := (ltE_iff b a).mp h2
  exact p2 (leE_anti a b p1 q1)
theorem Pcs.sub {bs : List Bn} {gs gs' : List (List Int)} (h : Pcs bs gs) (h' : Pcs bs gs') (g : List Int) (hg : g ∈ gs) : g ∈ gs' := by
  have G := h.grp g hg
  cases g with
  | nil => exact absurd rfl G.ne
  | cons x g =>
    have hu := (h.cov x).mpr ⟨_, hg, List.mem_cons_self⟩
    obtain ⟨g', hg', hx⟩ := (h'.cov x).mp hu
    rw [G.eq (h'.grp g' hg') List.mem_cons_self hx]
    exact hg'
theorem Pcs.uniq {bs : List Bn} {gs gs' : List (List Int)} (h : Pcs bs gs) (h' : Pcs bs gs') : gs = gs' :=
  ext_pw (R := fun a b => ltE a b = true) ltE_asy h.srt h'.srt fun g => ⟨h.sub h' g, h'.sub h g⟩
theorem ltE_heads {x y : Int} (h : x < y) (l m : List Int) : ltE (x :: l) (y :: m) = true := by
  have e : ∀ (z : Int) (k : List Int), PySem.W.keyToks (pd (z :: k)) = .inl 1 :: .inl z :: PySem.W.keyToksAll (k.map pd) := fun z k => by
    show PySem.W.keyToks (.tuple (.int z :: k.map pd)) = _
    simp [PySem.W.keyToks, PySem.W.keyToksAll]
  unfold ltE PySem.W.dataLt
  rw [e, e, lex_self, lex_diff (by intro q; cases q; omega)]
  exact decide_eq_true h
/-! the program's way -/
structure Gi (bs : List Bn) (a : Int) (group : List Int) (at' : Nat) : Prop where
  nd : group.Nodup
  ha : a ∈ group
  con : ∀ x ∈ group, Conn bs a x ∧ Used bs x
  done : ∀ i x, i < at' → group[i]? = some x → ∀ b ∈ bs, x ∈ [b.1, b.2] → b.1 ∈ group ∧ b.2 ∈ group
  le : at' ≤ group.length
theorem Gi.grp {bs : List Bn} {a : Int} {group : List Int} (h : Gi bs a group group.length) : Grp bs (setI group) where
  srt := setI_pw _
  ne := by
    intro e
    have := (mem_setI a group).mpr h.ha
    rw [e] at this; simp at this
  clo b hb := by
    rw [mem_setI, mem_setI]
    constructor
    · intro hx
      obtain ⟨i, hi, e⟩ := List.mem_iff_getElem.mp hx
      exact (h.done i _ hi (by rw [List.getElem?_eq_getElem hi]) b hb (by simp [e])).2
    · intro hx
      obtain ⟨i, hi, e⟩ := List.mem_iff_getElem.mp hx
      exact (h.done i _ hi (by rw [List.getElem?_eq_getElem hi]) b hb (by simp [e])).1
  con x hx y hy := (h.con x ((mem_setI _ _).mp hx)).1.symm.trans (h.con y ((mem_setI _ _).mp hy)).1
/-- what the bone adds -/
def addB (group : List Int) (x : Int) (b : Bn) : List Int := if x ∈ [b.1, b.2] then group ++ [b.1, b.2].filter (fun y => !decide (y ∈ group)) else group
/-- in the midst of a round of the bones -/
structure Gj (bs : List Bn) (a : Int) (g0 group : List Int) (x : Int) (j : Nat) : Prop where
  pre : g0 <+: group
  nd : group.Nodup
  con : ∀ x ∈ group, Conn bs a x ∧ Used bs x
  done : ∀ b ∈ bs.take j, x ∈ [b.1, b.2] → b.1 ∈ group ∧ b.2 ∈ group
theorem Gj.step {bs : List Bn} {a : Int} {g0 group : List Int} {x : Int} {j : Nat} {b : Bn} (h : Gj bs a g0 group x j) (hx : x ∈ g0) (hb : bs[j]? = some b) : Gj bs a g0 (addB group x b) x (j + 1) := by
  have hxg : x ∈ group := h.pre.subset hx
  have hbm : b ∈ bs := List.mem_of_getElem? hb
  have tk : bs.take (j + 1) = bs.take j ++ [b] := by rw [List.take_succ, hb]; rfl
  unfold addB
  by_cases hm : x ∈ [b.1, b.2]
  · rw [if_pos hm]
    have cx := (h.con x hxg).1
    have e12 : Conn bs b.1 b.2 := Conn.edge hbm
    have c1 : Conn bs a b.1 ∧ Conn bs a b.2 := by
      simp only [List.mem_cons, List.not_mem_nil, or_false] at hm
      rcases hm with q | q
      · rw [q] at cx; exact ⟨cx, cx.trans e12⟩
      · rw [q] at cx; exact ⟨cx.trans e12.symm, cx⟩
    have in1 : b.1 ∈ group ++ [b.1, b.2].filter (fun y => !decide (y ∈ group)) := by
      by_cases q : b.1 ∈ group
      · exact List.mem_append_left _ q
      · exact List.mem_append_right _ (by simp [q])
    have in2 : b.2 ∈ group ++ [b.1, b.2].filter (fun y => !decide (y ∈ group)) := by
      by_cases q : b.2 ∈ group
      · exact List.mem_append_left _ q
      · exact List.mem_append_right _ (by simp [q])
    refine ⟨h.pre.trans (List.prefix_append _ _), ?_, ?_, ?_⟩
    · refine List.nodup_append.mpr ⟨h.nd, ?_, ?_⟩
      · simp only [List.mem_cons, List.not_mem_nil, or_false] at hm
        rcases hm with q | q
        · have : b.1 ∈ group := q ▸ hxg
          by_cases r : b.2 ∈ group <;> simp [this, r]
        · have : b.2 ∈ group := q ▸ hxg
          by_cases r : b.1 ∈ group <;> simp [this, r]
      · intro y hy z hz e
        subst e
        simp [List.mem_filter] at hz
        exact hz.2 hy
    · intro y hy
      rcases List.mem_append.mp hy with hy | hy
      · exact h.con y hy
      · simp only [List.mem_filter, List.mem_cons, List.not_mem_nil, or_false] at hy
        rcases hy.1 with q | q
        · rw [q]; exact ⟨c1.1, b, hbm, .inl rfl⟩
        · rw [q]; exact ⟨c1.2, b, hbm, .inr rfl⟩
    · intro d hd hx'
      rw [tk] at hd
      rcases List.mem_append.mp hd with hd | hd
      · obtain ⟨q1, q2⟩ := h.done d hd hx'
        exact ⟨List.mem_append_left _ q1, List.mem_append_left _ q2⟩
      · rw [List.mem_singleton.mp hd]; exact ⟨in1, in2⟩
  · rw [if_neg hm]
    refine ⟨h.pre, h.nd, h.con, ?_⟩
    intro d hd hx'
    rw [tk] at hd
    rcases List.mem_append.mp hd with hd | hd
    · exact h.done d hd hx'
    · rw [List.mem_singleton.mp hd] at hx'; exact absurd hx' hm
theorem Gj.fin {bs : List Bn} {a : Int} {g0 group : List Int} {x : Int} {at' : Nat} (hx : g0[at']? = some x) (h0 : Gi bs a g0 at') (h : Gj bs a g0 group x bs.length) : Gi bs a group (at' + 1) where
  nd := h.nd
  ha := h.pre.subset h0.ha
  con := h.con
  done i y hi hy b hb hm := by
    have hl : at' < g0.length := (List.getElem?_eq_some_iff.mp hx).1
    have e : g0[i]? = some y := by
      rw [← hy]
      obtain ⟨t, rfl⟩ := h.pre
      rw [List.getElem?_append_left (by omega)]
    by_cases q : i = at'
    · subst q
      rw [hx] at e; cases e
      exact h.done b (by simpa using hb) hm
    · obtain ⟨q1, q2⟩ := h0.done i y (by omega) e b hb hm
      exact ⟨h.pre.subset q1, h.pre.subset q2⟩
  le := by
    have hl : at' < g0.length := (List.getElem?_eq_some_iff.mp hx).1
    have := h.pre.length_le
    omega
/-- the outer loop -/
structure Oi (bs : List Bn) (found : List (List Int)) (left : List Int) : Prop where
  grp : ∀ g ∈ found, Grp bs g
  use : ∀ g ∈ found, ∀ x ∈ g, Used bs x
  srt : found.Pairwise fun a b => ltE a b = true
  pw : left.Pairwise (· < ·)
  mem : ∀ x, x ∈ left ↔ Used bs x ∧ ∀ g ∈ found, x ∉ g
  hd : ∀ g ∈ found, ∃ y k, g = y :: k ∧ ∀ x ∈ left, y < x
theorem Oi.fin {bs : List Bn} {found : List (List Int)} (h : Oi bs found []) : Pcs bs found where
  grp := h.grp
  cov x := by
    constructor
    · intro hu
      refine Classical.byContradiction fun hn => ?_
      have := (h.mem x).mpr ⟨hu, fun g hg hx => hn ⟨g, hg, hx⟩⟩
      simp at this
    · rintro ⟨g, hg, hx⟩
      exact h.use g hg x hx
  srt := h.srt
theorem Oi.step {bs : List Bn} {found : List (List Int)} {a : Int} {left group : List Int} (h : Oi bs found (a :: left)) (hg : Gi bs a group group.length) : Oi bs (found ++ [setI group]) ((a :: left).filter fun x => !decide (x ∈ group)) := by
  have G := hg.grp
  have ha := (h.mem a).mp List.mem_cons_self
  obtain ⟨pw1, pw2⟩ := List.pairwise_cons.mp h.pw
  have inl : ∀ y ∈ group, y ∈ a :: left := fun y hy => by
    obtain ⟨c1, c2⟩ := hg.con y hy
    refine (h.mem y).mpr ⟨c2, fun g hg' hyg => ha.2 g hg' ?_⟩
    exact ((h.grp g hg').mem hyg).mpr c1.symm
  have hh : ∃ k, setI group = a :: k := by
    have hm : a ∈ setI group := (mem_setI _ _).mpr hg.ha
    have hp := G.srt
    cases e : setI group with
    | nil => rw [e] at hm; simp at hm
    | cons z k =>
      rw [e] at hm hp
      have hz : z ∈ group := (mem_setI _ _).mp (by rw [e]; exact List.mem_cons_self)
      have h1 : a ≤ z := by
        rcases List.mem_cons.mp (inl z hz) with q | q
        · omega
        · have := pw1 z q; omega
      rcases List.mem_cons.mp hm with q | q
      · exact ⟨k, by rw [q]⟩
      · have := (List.pairwise_cons.mp hp).1 a q; omega
  obtain ⟨k, hk⟩ := hh
  refine ⟨?_, ?_, ?_, h.pw.sublist List.filter_sublist, ?_, ?_⟩
  · intro g hg'
    rcases List.mem_append.mp hg' with q | q
    · exact h.grp g q
    · rw [List.mem_singleton.mp q]; exact G
  · intro g hg' x hx
    rcases List.mem_append.mp hg' with q | q
    · exact h.use g q x hx
    · rw [List.mem_singleton.mp q] at hx
      exact (hg.con x ((mem_setI _ _).mp hx)).2
  · refine List.pairwise_append.mpr ⟨h.srt, List.pairwise_singleton _ _, ?_⟩
    intro g hg' g2 hg2
    rw [List.mem_singleton.mp hg2, hk]
    obtain ⟨y, l, e, hy⟩ := h.hd g hg'
    rw [e]
    exact ltE_heads (hy a List.mem_cons_self) _ _
  · intro x
    rw [List.mem_filter, h.mem x]
    simp only [Bool.not_eq_true', decide_eq_false_iff_not, List.mem_append, List.mem_singleton]
    constructor
    · rintro ⟨⟨q1, q2⟩, q3⟩
      refine ⟨q1, fun g hg' => ?_⟩
      rcases hg' with r | r
      · exact q2 g r
      · rw [r, mem_setI]; exact q3
    · rintro ⟨q1, q2⟩
      exact ⟨⟨q1, fun g hg' => q2 g (.inl hg')⟩, fun hx => q2 _ (.inr rfl) ((mem_setI _ _).mpr hx)⟩
  · intro g hg'
    rcases List.mem_append.mp hg' with q | q
    · obtain ⟨y, l, e, hy⟩ := h.hd g q
      exact ⟨y, l, e, fun x hx => hy x (List.mem_filter.mp hx).1⟩
    · rw [List.mem_singleton.mp q, hk]
      refine ⟨a, k, rfl, fun x hx => ?_⟩
      obtain ⟨q1, q2⟩ := List.mem_filter.mp hx
      rcases List.mem_cons.mp q1 with r | r
      · subst r; simp [hg.ha] at q2
      · exact pw1 x r
/-! the law's way -/
structure Mi (ps : List Bn) (gs : List (List Int)) : Prop where
  grp : ∀ g ∈ gs, Grp ps g
  cov : ∀ x, Used ps x ↔ ∃ g ∈ gs, x ∈ g
  nd : gs.Nodup
def nearB (b : Bn) (g : List Int) : Bool := decide (b.1 ∈ g) || decide (b.2 ∈ g)
theorem nearB_iff {b : Bn} {g : List Int} : nearB b g = true ↔ b.1 ∈ g ∨ b.2 ∈ g := by simp [nearB]
def mergeB (gs : List (List Int)) (b : Bn) : List (List Int) := gs.filter (fun g => !decide (g ∈ gs.filter (nearB b))) ++ [setI ([b.1, b.2] ++ (gs.filter (nearB b)).flatten)]
theorem Mi.step {ps : List Bn} {gs : List (List Int)} (b : Bn) (h : Mi ps gs) : Mi (ps ++ [b]) (mergeB gs b) := by
  have hfar : ∀ g, g ∈ gs.filter (fun g => !decide (g ∈ gs.filter (nearB b))) ↔ g ∈ gs ∧ b.1 ∉ g ∧ b.2 ∉ g := by
    intro g
    simp only [List.mem_filter, Bool.not_eq_true', decide_eq_false_iff_not, nearB_iff]
    constructor
    · rintro ⟨q1, q2⟩
      exact ⟨q1, fun r => q2 ⟨q1, .inl r⟩, fun r => q2 ⟨q1, .inr r⟩⟩
    · rintro ⟨q1, q2, q3⟩
      exact ⟨q1, fun r => r.2.elim q2 q3⟩
  have hj : ∀ x, x ∈ setI ([b.1, b.2] ++ (gs.filter (nearB b)).flatten) ↔ x = b.1 ∨ x = b.2 ∨ ∃ g ∈ gs, (b.1 ∈ g ∨ b.2 ∈ g) ∧ x ∈ g := by
    intro x
    rw [mem_setI]
    simp only [List.mem_append, List.mem_cons, List.not_mem_nil, or_false, List.mem_flatten, List.mem_filter, nearB_iff]
    constructor
    · rintro ((q | q) | ⟨g, ⟨q1, q2⟩, q3⟩)
      · exact .inl q
      · exact .inr (.inl q)
      · exact .inr (.inr ⟨g, q1, q2, q3⟩)
    · rintro (q | q | ⟨g, q1, q2, q3⟩)
      · exact .inl (.inl q)
      · exact .inl (.inr q)
      · exact .inr ⟨g, ⟨q1, q2⟩, q3⟩
  have hE : Conn (ps ++ [b]) b.1 b.2 := Conn.edge (by simp)
  have hC1 : ∀ x, x ∈ setI ([b.1, b.2] ++ (gs.filter (nearB b)).flatten) → Conn (ps ++ [b]) b.1 x := by
    intro x hx
    rcases (hj x).mp hx with q | q | ⟨g, q1, q2, q3⟩
    · rw [q]; exact Conn.refl _ _
    · rw [q]; exact hE
    · rcases q2 with q2 | q2
      · exact ((h.grp g q1).con _ q2 _ q3).mono fun c hc => List.mem_append_left _ hc
      · exact hE.trans (((h.grp g q1).con _ q2 _ q3).mono fun c hc => List.mem_append_left _ hc)
  have usedOf : ∀ c ∈ ps, (∃ g ∈ gs, c.1 ∈ g ∧ c.2 ∈ g) := by
    intro c hc
    obtain ⟨g, hg, hx⟩ := (h.cov c.1).mp ⟨c, hc, .inl rfl⟩
    exact ⟨g, hg, hx, ((h.grp g hg).clo c hc).mp hx⟩
  refine ⟨?_, ?_, ?_⟩
  · intro g hg
    rcases List.mem_append.mp hg with q | q
    · obtain ⟨q1, q2, q3⟩ := (hfar g).mp q
      have G := h.grp g q1
      refine ⟨G.srt, G.ne, ?_, fun x hx y hy => (G.con x hx y hy).mono fun c hc => List.mem_append_left _ hc⟩
      intro c hc
      rcases List.mem_append.mp hc with r | r
      · exact G.clo c r
      · rw [List.mem_singleton.mp r]; exact ⟨fun z => absurd z q2, fun z => absurd z q3⟩
    · rw [List.mem_singleton.mp q]
      refine ⟨setI_pw _, ?_, ?_, fun x hx y hy => (hC1 x hx).symm.trans (hC1 y hy)⟩
      · intro e
        have := (hj b.1).mpr (.inl rfl)
        rw [e] at this; simp at this
      · intro c hc
        rcases List.mem_append.mp hc with r | r
        · obtain ⟨g', hg', u1, u2⟩ := usedOf c r
          have key : ∀ x, x ∈ g' → (x ∈ setI ([b.1, b.2] ++ (gs.filter (nearB b)).flatten) ↔ (b.1 ∈ g' ∨ b.2 ∈ g')) := by
            intro x hx
            rw [hj]
            constructor
            · rintro (q | q | ⟨g2, q1, q2, q3⟩)
              · exact .inl (q ▸ hx)
              · exact .inr (q ▸ hx)
              · rw [(h.grp g' hg').eq (h.grp g2 q1) hx q3]; exact q2
            · intro q; exact .inr (.inr ⟨g', hg', q, hx⟩)
          rw [key _ u1, key _ u2]
        · rw [List.mem_singleton.mp r, hj, hj]
          exact ⟨fun _ => .inr (.inl rfl), fun _ => .inl rfl⟩
  · intro x
    constructor
    · rintro ⟨c, hc, hx⟩
      rcases List.mem_append.mp hc with r | r
      · obtain ⟨g, hg, hxg⟩ := (h.cov x).mp ⟨c, r, hx⟩
        by_cases hn : b.1 ∈ g ∨ b.2 ∈ g
        · exact ⟨_, List.mem_append_right _ List.mem_cons_self, (hj x).mpr (.inr (.inr ⟨g, hg, hn, hxg⟩))⟩
        · exact ⟨g, List.mem_append_left _ ((hfar g).mpr ⟨hg, fun z => hn (.inl z), fun z => hn (.inr z)⟩), hxg⟩
      · rw [List.mem_singleton.mp r] at hx
        exact ⟨_, List.mem_append_right _ List.mem_cons_self, (hj x).mpr (hx.elim .inl fun z => .inr (.inl z))⟩
    · rintro ⟨g, hg, hx⟩
      have up : Used ps x → Used (ps ++ [b]) x := fun ⟨c, hc, q⟩ => ⟨c, List.mem_append_left _ hc, q⟩
      rcases List.mem_append.mp hg with q | q
      · exact up ((h.cov x).mpr ⟨g, ((hfar g).mp q).1, hx⟩)
      · rw [List.mem_singleton.mp q] at hx
        rcases (hj x).mp hx with r | r | ⟨g2, r1, r2, r3⟩
        · exact ⟨b, by simp, .inl r⟩
        · exact ⟨b, by simp, .inr r⟩
        · exact up ((h.cov x).mpr ⟨g2, r1, r3⟩)
  · refine List.nodup_append.mpr ⟨h.nd.sublist List.filter_sublist, by simp, ?_⟩
    intro g hg g2 hg2 e
    rw [List.mem_singleton.mp hg2] at e
    have := ((hfar g).mp hg).2.1
    rw [e] at this
    exact this ((hj _).mpr (.inl rfl))
section
variable {ht : List Hd} {W : Nat} {h : Oh}
theorem used_rng {bs : List Bn} (hb : ∀ b ∈ bs, okB b = true) {x : Int} (h : Used bs x) : 0 ≤ x ∧ x ≤ 6 := by
  obtain ⟨b, hb', e⟩ := h
  have := hb b hb'
  simp only [okB, Bool.and_eq_true, decide_eq_true_eq] at this
  omega
theorem cnt_used (bs : List Bn) (p : Int) : 0 < cnt bs p ↔ Used bs p := by
  unfold cnt Used
  induction bs with
  | nil => simp
  | cons b bs ih =>
    have b0 : ∀ k : Bool, 0 ≤ b2i k := by intro k; cases k <;> decide
    have nn : 0 ≤ (bs.map fun b => b2i (decide (b.1 = p)) + b2i (decide (b.2 = p))).sum := by
      clear ih
      induction bs with
      | nil => simp
      | cons c cs ih =>
        simp only [List.map_cons, List.sum_cons]
        have := b0 (decide (c.1 = p)); have := b0 (decide (c.2 = p))
        omega
    simp only [List.map_cons, List.sum_cons, List.mem_cons]
    have p1 := b0 (decide (b.1 = p)); have p2 := b0 (decide (b.2 = p))
    constructor
    · intro hp
      by_cases q : p = b.1 ∨ p = b.2
      · exact ⟨b, .inl rfl, q⟩
      · have h1 : b2i (decide (b.1 = p)) = 0 := by rw [decide_eq_false (fun z => q (.inl z.symm))]; rfl
        have h2 : b2i (decide (b.2 = p)) = 0 := by rw [decide_eq_false (fun z => q (.inr z.symm))]; rfl
        obtain ⟨c, hc, e⟩ := ih.mp (by omega)
        exact ⟨c, .inr hc, e⟩
    · rintro ⟨c, hc, e⟩
      rcases hc with rfl | hc
      · rcases e with e | e
        · have : b2i (decide (c.1 = p)) = 1 := by rw [decide_eq_true e.symm]; rfl
          omega
        · have : b2i (decide (c.2 = p)) = 1 := by rw [decide_eq_true e.symm]; rfl
          omega
      · have := ih.mpr ⟨c, hc, e⟩
        omega
theorem set_self {α : Type} {l : List α} {q : Nat} {a : α} (h : l[q]? = some a) : l.set q a = l := by
  obtain ⟨h1, rfl⟩ := List.getElem?_eq_some_iff.mp h
  exact List.set_getElem_self h1
def left0 (bs : List Bn) : List Int := pips.filter fun p => decide (0 < cnt bs p)
theorem oi0 {bs : List Bn} (hb : ∀ b ∈ bs, okB b = true) : Oi bs [] (left0 bs) where
  grp := by simp
  use := by simp
  srt := .nil
  pw := List.Pairwise.sublist List.filter_sublist (by decide)
  mem x := by
    simp only [left0, List.mem_filter, decide_eq_true_eq, cnt_used]
    constructor
    · rintro ⟨_, h⟩; exact ⟨h, by simp⟩
    · rintro ⟨h, _⟩
      have := used_rng hb h
      refine ⟨?_, h⟩
      have : x = 0 ∨ x = 1 ∨ x = 2 ∨ x = 3 ∨ x = 4 ∨ x = 5 ∨ x = 6 := by omega
      simpa [pips] using this
  hd := by simp
theorem gi0 {bs : List Bn} {a : Int} (h : Used bs a) : Gi bs a [a] 0 where
  nd := by simp
  ha := by simp
  con x hx := by rw [List.mem_singleton.mp hx]; exact ⟨Conn.refl _ _, h⟩
  done := by intro i x hi; omega
  le := by simp
theorem Gi.len {bs : List Bn} {a : Int} {g : List Int} {n : Nat} (hb : ∀ b ∈ bs, okB b = true) (h : Gi bs a g n) : g.length ≤ 7 := nodup_len h.nd fun x hx => used_rng hb (h.con x hx).2
/-- the round of the bones -/
theorem round_ok (n : Nat) {bs : List Bn} (hl : Lw bs) {a x : Int} {g0 : List Int} {at' : Nat} (hx : g0[at']? = some x) (h0 : Gi bs a g0 at') (v1 v2 v3 v6 v7 : Option D) (H : Oh) (q : Nat) (hq : H[q]? = some (.lst (g0.map enc))) :
    ∃ g v6', Gi bs a g (at' + 1) ∧ evS (callE df ht W n) ht W (.lop (.v 6) (.seq (.var 0)) [.iff (.cmp .isin (.ix (.var 4) (.var 5)) (.var 6)) [.ex (.ext (.var 4) (.lc (.v 7) (.seq (.var 6)) [.cmp .nin (.var 7) (.var 4)] [7] (.var 7)))] []]) [some (enc bs), v1, v2, v3, some (.ref q), some (.int at'), v6, v7] H
      = .ok (.nx, [some (enc bs), v1, v2, v3, some (.ref q), some (.int at'), v6', v7]) (H.set q (.lst (g.map enc))) := by
  have hxm : x ∈ g0 := List.mem_of_getElem? hx
  have hql : q < H.length := (List.getElem?_eq_some_iff.mp hq).1
  obtain ⟨env', h', e1, g, v6', e2, e3, e4⟩ := lop_inv (c := callE df ht W n) (ht := ht) (W := W) (env := [some (enc bs), v1, v2, v3, some (.ref q), some (.int at'), v6, v7]) (h := H) (t := .v 6)
    (walks_enc (e := .var 0) (xs := bs) (by simp) (by have := hl.len; omega))
    [.iff (.cmp .isin (.ix (.var 4) (.var 5)) (.var 6)) [.ex (.ext (.var 4) (.lc (.v 7) (.seq (.var 6)) [.cmp .nin (.var 7) (.var 4)] [7] (.var 7)))] []]
    (fun j env h => ∃ g v6', Gj bs a g0 g x j ∧ env = [some (enc bs), v1, v2, v3, some (.ref q), some (.int at'), v6', v7] ∧ h = H.set q (.lst (g.map enc)))
    ⟨g0, v6, ⟨List.prefix_refl _, h0.nd, h0.con, by simp⟩, rfl, (set_self hq).symm⟩
    (fun j env h _ => by simp [Wk.now, stays])
    (fun j env h b hb ⟨g, v6', hg, e2, e3⟩ => by
      subst e2 e3
      have hbm : b ∈ bs := List.mem_of_getElem? hb
      have hs := hg.step hxm hb
      have hgl : g.length ≤ 7 := nodup_len hg.nd fun x hx => used_rng hl.ok (hg.con x hx).2
      have hq2 : (H.set q (.lst (g.map enc)))[q]? = some (.lst (g.map enc)) := by simp [hql]
      have it := items_ref hq2
      have gx : g[at']? = some x := by
        obtain ⟨t, rfl⟩ := hg.pre
        rw [List.getElem?_append_left (List.getElem?_eq_some_iff.mp hx).1, hx]
      have i1 := ix_nat (i := at') (d := .int x) it (by intro z e; cases e) (by simp [gx])
      have c1 : cmpD (H.set q (.lst (g.map enc))) .isin (.int x) (enc b) = some (decide (x ∈ [b.1, b.2])) := cmp_in (α := Int) (a := x) (xs := [b.1, b.2]) (by simp) rfl
      refine ⟨[some (enc bs), v1, v2, v3, some (.ref q), some (.int at'), some (enc b), v7], [some (enc bs), v1, v2, v3, some (.ref q), some (.int at'), some (enc b), v7], _, by simp, ?_, addB g x b, _, hs, rfl, rfl⟩
      by_cases hm : x ∈ [b.1, b.2]
      · have a1 := lc_filI (c := callE df ht W n) (ht := ht) (env := [some (enc bs), v1, v2, v3, some (.ref q), some (.int at'), some (enc b), v7]) (h := H.set q (.lst (g.map enc))) (vs := [7]) (t := .v 7) (q := .cmp .nin (.var 7) (.var 4)) (e := .var 7)
          (walks_seq (e := .var 6) (s := enc b) (xs := [b.1, b.2]) (en := enc) (by simp) rfl (by simp))
          (fun y => [some (enc bs), v1, v2, v3, some (.ref q), some (.int at'), some (enc b), some (.int y)]) (fun y => !decide (y ∈ g)) (fun y hy => by simp) (fun y hy => by
            have := cmp_nin (α := Int) (a := y) (xs := g) (by simp) it
            rw [enc_int] at this
            simp [this]) (fun y hy _ => by simp)
        have x1 : extD (H.set q (.lst (g.map enc))) (.ref q) (.lst (([b.1, b.2].filter fun y => !decide (y ∈ g)).map enc)) = some (H.set q (.lst ((addB g x b).map enc))) := by
          have hfl : ([b.1, b.2].filter fun y => !decide (y ∈ g)).length ≤ 2 := by
            have := List.length_filter_le (fun y => !decide (y ∈ g)) [b.1, b.2]
            simpa using this
          unfold extD
          simp only [hq2, List.length_map]
          rw [if_pos (by omega)]
          simp only [addB, if_pos hm, List.set_set, List.map_append]
        have l1 : isLs (H.set q (.lst (g.map enc))) (.ref q) = true := by simp [isLs, hql]
        simp only [evSs_cons, evS_iff, evE_cmp, evE_ix, evE_vr, List.getElem?_cons_succ, List.getElem?_cons_zero, vr_some, bind_ok, i1, opt_some, cmpB_def, c1, Option.map_some, asB_bl, hm, decide_true, if_true, evS_ex, evE_ext, l1, Bool.not_true, Bool.false_eq_true, if_false, a1, x1, evSs_nil]
      · have e : addB g x b = g := by simp [addB, hm]
        rw [e]
        simp only [evSs_cons, evS_iff, evE_cmp, evE_ix, evE_vr, List.getElem?_cons_succ, List.getElem?_cons_zero, vr_some, bind_ok, i1, opt_some, cmpB_def, c1, Option.map_some, asB_bl, hm, decide_false, Bool.false_eq_true, if_false, evSs_nil])
  subst e3 e4
  exact ⟨g, v6', Gj.fin hx h0 e2, e1⟩
end
section
variable {ht : List Hd} {W : Nat} {h : Oh}
theorem len_ref {H : Oh} {q : Nat} {ds : List D} (hq : H[q]? = some (.lst ds)) : biD .len H [.ref q] = some (.int ds.length) := by
  show ((D.ref q).items H).map (fun ds => D.int (ds.length : Nat)) = _
  rw [items_ref hq]; rfl
theorem bfs_ok (n : Nat) {bs : List Bn} (hl : Lw bs) (hW : 20 ≤ W) {a : Int} (hu : Used bs a) (v1 v2 v3 v6 v7 : Option D) (H : Oh) (q : Nat) (hq : H[q]? = some (.lst [.int a])) :
    ∃ (g : List Int) (at' : Nat) (v6' : Option D), Gi bs a g g.length ∧ evS (callE df ht W n) ht W (.whl (.cmp .lt (.var 5) (.bi .len [.var 4])) [.lop (.v 6) (.seq (.var 0)) [.iff (.cmp .isin (.ix (.var 4) (.var 5)) (.var 6)) [.ex (.ext (.var 4) (.lc (.v 7) (.seq (.var 6)) [.cmp .nin (.var 7) (.var 4)] [7] (.var 7)))] []], .aug 5 .add (.cst (.int 1))]) [some (enc bs), v1, v2, v3, some (.ref q), some (.int 0), v6, v7] H
      = .ok (.nx, [some (enc bs), v1, v2, v3, some (.ref q), some (.int at'), v6', v7]) (H.set q (.lst (g.map enc))) := by
  have hql : q < H.length := (List.getElem?_eq_some_iff.mp hq).1
  obtain ⟨env', h', e1, g, at', v6', e2, e3, e4⟩ := whl_inv (c := callE df ht W n) (ht := ht) (W := W) (env := [some (enc bs), v1, v2, v3, some (.ref q), some (.int 0), v6, v7]) (h := H)
    (q := .cmp .lt (.var 5) (.bi .len [.var 4])) (b := [.lop (.v 6) (.seq (.var 0)) [.iff (.cmp .isin (.ix (.var 4) (.var 5)) (.var 6)) [.ex (.ext (.var 4) (.lc (.v 7) (.seq (.var 6)) [.cmp .nin (.var 7) (.var 4)] [7] (.var 7)))] []], .aug 5 .add (.cst (.int 1))])
    (fun k env h => ∃ (g : List Int) (at' : Nat) (v6' : Option D), Gi bs a g at' ∧ k = 7 - at' ∧ env = [some (enc bs), v1, v2, v3, some (.ref q), some (.int at'), v6', v7] ∧ h = H.set q (.lst (g.map enc)))
    (fun env h => ∃ (g : List Int) (at' : Nat) (v6' : Option D), Gi bs a g g.length ∧ env = [some (enc bs), v1, v2, v3, some (.ref q), some (.int at'), v6', v7] ∧ h = H.set q (.lst (g.map enc)))
    7 (by omega) ⟨[a], 0, v6, gi0 hu, rfl, rfl, (set_self hq).symm⟩
    (fun k env h ⟨g, at', v6', hg, hk, e2, e3⟩ => by
      subst e2 e3
      have hq2 : (H.set q (.lst (g.map enc)))[q]? = some (.lst (g.map enc)) := by simp [hql]
      have l1 := len_ref hq2
      have h7 := hg.len hl.ok
      have ht' : evE (callE df ht W n) ht (.cmp .lt (.var 5) (.bi .len [.var 4])) [some (enc bs), v1, v2, v3, some (.ref q), some (.int at'), v6', v7] (H.set q (.lst (g.map enc))) = .ok (.bl (decide (at' < g.length))) (H.set q (.lst (g.map enc))) := by
        simp [l1]
      rw [ht']
      by_cases hlt : at' < g.length
      · right
        obtain ⟨x, hx⟩ : ∃ x, g[at']? = some x := ⟨g[at'], List.getElem?_eq_getElem hlt⟩
        obtain ⟨g2, v62, r1, r2⟩ := round_ok (ht := ht) (W := W) n hl hx hg v1 v2 v3 v6' v7 _ q hq2
        refine ⟨by simp [hlt], [some (enc bs), v1, v2, v3, some (.ref q), some (.int ((at' : Int) + 1)), v62, v7], H.set q (.lst (g2.map enc)), 7 - (at' + 1), ?_, by omega, g2, at' + 1, v62, r1, rfl, rfl, rfl⟩
        rw [evSs_cons, r2]
        simp only [bind_ok, evSs_cons]
        rw [evS_aug (i := (at' : Int)) (j := 1) (h1 := (H.set q (.lst (g.map enc))).set q (.lst (g2.map enc))) (e1 := by simp) (e2 := by simp)]
        simp
      · left
        have : at' = g.length := by have := hg.le; omega
        subst this
        exact ⟨by simp, g, g.length, v6', hg, rfl, rfl⟩)
  subst e3 e4
  exact ⟨g, at', v6', e2, e1⟩
theorem mapO_enc {α : Type} [Enc α] {f : D → Option D} (hf : ∀ x : α, f (enc x) = some (enc x)) : ∀ xs : List α, mapO f (xs.map enc) = some (xs.map enc)
  | [] => rfl
  | x :: xs => by
    simp only [List.map_cons]
    unfold mapO
    rw [hf, mapO_enc hf xs]
theorem frz_int (H : Oh) (k m : Nat) (i : Int) : frz H k (m + 1) (enc i) = some (enc i) := rfl
theorem frz_list {α : Type} [Enc α] {H : Oh} {k m : Nat} (hf : ∀ x : α, frz H k m (enc x) = some (enc x)) (xs : List α) : frz H k (m + 1) (enc xs) = some (enc xs) := by
  show (mapO (frz H k m) (xs.map enc)).map D.tup = some (D.tup (xs.map enc))
  rw [mapO_enc hf]; rfl
/-- a list that a def made and returns -/
theorem fin_made {α : Type} [Enc α] {h : Oh} {rest : List Ob} {xs : List α} (hb : h.all (obBelow h.length) = true) (hf : ∀ (H : Oh) (x : α), frz H h.length 11 (enc x) = some (enc x)) : fin h.length (.ref h.length) (h ++ .lst (xs.map enc) :: rest) = .ok (.lst (xs.map enc)) h := by
  unfold fin
  rw [if_neg (by simp)]
  have e1 : (h ++ Ob.lst (xs.map enc) :: rest).take h.length = h := by simp
  rw [e1, if_pos hb]
  have e2 : below h.length (.ref h.length) = false := by simp [below]
  have e3 : frz (h ++ Ob.lst (xs.map enc) :: rest) h.length 12 (.ref h.length) = some (.lst (xs.map enc)) := by
    show (if h.length < h.length then some (D.ref h.length) else match (h ++ Ob.lst (xs.map enc) :: rest)[h.length]? with
      | some (.lst ds) => (mapO (frz (h ++ Ob.lst (xs.map enc) :: rest) h.length 11) ds).map D.lst
      | _ => none) = _
    rw [if_neg (by omega)]
    have : (h ++ Ob.lst (xs.map enc) :: rest)[h.length]? = some (.lst (xs.map enc)) := by simp
    rw [this]
    simp only
    rw [mapO_enc (hf _)]; rfl
  rw [e2, if_neg (by simp), e3]; rfl
theorem run_made {α : Type} [Enc α] {c : Nat → List D → Oh → Rs D} {xs : List D} {h : Oh} {rest : List Ob} {ys : List α} {np ns : Nat} {b : List Ev.St} {env : En} (hl : xs.length = np)
    (hb : evSs c ht W b (xs.map some ++ List.replicate (ns - np) none) h = .ok (.rt (.ref h.length), env) (h ++ .lst (ys.map enc) :: rest)) (hh : h.all (obBelow h.length) = true) (hf : ∀ (H : Oh) (x : α), frz H h.length 11 (enc x) = some (enc x)) :
    runD c ht W ⟨np, ns, false, b⟩ xs h = .ok (.lst (ys.map enc)) h := by
  unfold runD
  simp only [hl, if_true, hb]
  exact fin_made hh hf
theorem set_mid {α : Type} (h : List α) (x y : α) (rest : List α) : (h ++ x :: rest).set h.length y = h ++ y :: rest := by
  rw [List.set_append_right _ _ (Nat.le_refl _)]
  simp
theorem get_mid {α : Type} (h : List α) (x : α) (rest : List α) : (h ++ x :: rest)[h.length]? = some x := by simp
theorem pieces_in_ok (n : Nat) {bs : List Bn} (hl : Lw bs) (hW : 20 ≤ W) (hb : h.all (obBelow h.length) = true) : ∃ gs, Pcs bs gs ∧ callE df ht W (n + 2) 8 [enc bs] h = .ok (.lst (gs.map enc)) h := by
  have hl8 := hl.len
  have a1 := lc_filI (c := callE df ht W (n + 1)) (ht := ht) (env := [some (enc bs), none, none, none, none, none, none, none]) (h := h) (vs := [3]) (t := .v 3) (q := .cmp .gt (.call 6 [.var 0, .var 3]) (.cst (.int 0))) (e := .var 3)
    (walks_enc (xs := pips) (e := .cst (.tup [(.int 0), (.int 1), (.int 2), (.int 3), (.int 4), (.int 5), (.int 6)])) (by simp; rfl) (by decide))
    (fun x => [some (enc bs), none, none, some (.int x), none, none, none, none]) (fun p => decide (0 < cnt bs p)) (fun x hx => by simp) (fun x hx => by simp [ends_at_ok _ bs hl.len]) (fun x hx _ => by simp)
  obtain ⟨env', h', e1, found, x4, x5, x6, rest, e2, e3, e4⟩ := whl_inv (c := callE df ht W (n + 1)) (ht := ht) (W := W) (env := [some (enc bs), some (.lst ((left0 bs).map enc)), some (.ref h.length), none, none, none, none, none]) (h := h ++ [.lst []])
    (q := .cmp .gt (.bi .len [.var 1]) (.cst (.int 0))) (b := [.as (.t [.v 4, .v 5]) (.tup [.mk [.ix (.var 1) (.cst (.int 0))], .cst (.int 0)]), .whl (.cmp .lt (.var 5) (.bi .len [.var 4])) [.lop (.v 6) (.seq (.var 0)) [.iff (.cmp .isin (.ix (.var 4) (.var 5)) (.var 6)) [.ex (.ext (.var 4) (.lc (.v 7) (.seq (.var 6)) [.cmp .nin (.var 7) (.var 4)] [7] (.var 7)))] []], .aug 5 .add (.cst (.int 1))], .ex (.app (.var 2) (.bi .tuple [.sset (.var 4)])), .as (.v 1) (.lc (.v 7) (.seq (.var 1)) [.cmp .nin (.var 7) (.var 4)] [7] (.var 7))])
    (fun k env H => ∃ found left x4 x5 x6 rest, Oi bs found left ∧ found.length + left.length ≤ 7 ∧ k = left.length ∧ env = [some (enc bs), some (.lst (left.map enc)), some (.ref h.length), none, x4, x5, x6, none] ∧ H = h ++ .lst (found.map enc) :: rest)
    (fun env H => ∃ found x4 x5 x6 rest, Oi bs found [] ∧ env = [some (enc bs), some (.lst []), some (.ref h.length), none, x4, x5, x6, none] ∧ H = h ++ .lst (found.map enc) :: rest)
    (left0 bs).length (by have := List.length_filter_le (fun p => decide (0 < cnt bs p)) pips; simp only [left0]; simp [pips] at this ⊢; omega)
    ⟨[], left0 bs, none, none, none, [], oi0 hl.ok, by have := List.length_filter_le (fun p => decide (0 < cnt bs p)) pips; simp only [left0]; simp [pips] at this ⊢; omega, rfl, rfl, rfl⟩
    (fun k env H ⟨found, left, x4, x5, x6, rest, ho, h7, hk, e2, e3⟩ => by
      subst e2 e3 hk
      cases left with
      | nil => left; exact ⟨by simp, found, x4, x5, x6, rest, ho, rfl, rfl⟩
      | cons a left =>
        right
        have hu := ((ho.mem a).mp List.mem_cons_self).1
        let H1 : Oh := (h ++ .lst (found.map enc) :: rest) ++ [.lst [.int a]]
        have hH1 : H1[(h ++ .lst (found.map enc) :: rest).length]? = some (.lst [.int a]) := get_mid _ _ _
        obtain ⟨g, at', v6, hg, eb⟩ := bfs_ok (ht := ht) (W := W) (n + 1) hl hW hu (some (.lst ((a :: left).map enc))) (some (.ref h.length)) none x6 none H1 _ hH1
        have hset : H1.set (h ++ .lst (found.map enc) :: rest).length (.lst (g.map enc)) = h ++ .lst (found.map enc) :: (rest ++ [.lst (g.map enc)]) := by
          rw [set_mid]; simp
        rw [hset] at eb
        let q := (h ++ .lst (found.map enc) :: rest).length
        have hqq : (h ++ .lst (found.map enc) :: rest).length = q := rfl
        have hgq : (h ++ .lst (found.map enc) :: (rest ++ [.lst (g.map enc)]))[q]? = some (.lst (g.map enc)) := by
          have := get_mid (h ++ .lst (found.map enc) :: rest) (.lst (g.map enc)) []
          simpa [q] using this
        have it := items_ref hgq
        have g7 := hg.len hl.ok
        have es : ssetD (h ++ .lst (found.map enc) :: (rest ++ [.lst (g.map enc)])) (.ref q) = some (.lst ((setI g).map enc)) := by
          exact sset_ints it (by omega)
        have ea : appD (h ++ .lst (found.map enc) :: (rest ++ [.lst (g.map enc)])) (.ref h.length) (enc (setI g)) = some (h ++ .lst ((found ++ [setI g]).map enc) :: (rest ++ [.lst (g.map enc)])) := by
          unfold appD
          simp only [get_mid, List.length_map]
          simp only [List.length_cons] at h7
          rw [if_pos (by omega), set_mid, List.map_append]
          rfl
        have il : isLs (h ++ .lst (found.map enc) :: (rest ++ [.lst (g.map enc)])) (.ref h.length) = true := by simp [isLs]
        have hgq2 : (h ++ .lst ((found ++ [setI g]).map enc) :: (rest ++ [.lst (g.map enc)]))[q]? = some (.lst (g.map enc)) := by
          have := get_mid (h ++ .lst ((found ++ [setI g]).map enc) :: rest) (.lst (g.map enc)) []
          simpa [q] using this
        have it2 := items_ref hgq2
        have a2 := lc_filI (c := callE df ht W (n + 1)) (ht := ht) (env := [some (enc bs), some (.lst ((a :: left).map enc)), some (.ref h.length), none, some (.ref q), some (.int at'), v6, none]) (h := h ++ .lst ((found ++ [setI g]).map enc) :: (rest ++ [.lst (g.map enc)])) (vs := [7]) (t := .v 7) (q := .cmp .nin (.var 7) (.var 4)) (e := .var 7)
          (walks_lenc (e := .var 1) (xs := a :: left) (by simp) (by omega))
          (fun y => [some (enc bs), some (.lst ((a :: left).map enc)), some (.ref h.length), none, some (.ref q), some (.int at'), v6, some (.int y)]) (fun y => !decide (y ∈ g)) (fun y hy => by simp) (fun y hy => by
            have := cmp_nin (α := Int) (a := y) (xs := g) (by simp) it2
            rw [enc_int] at this
            simp [this, -List.map_append]) (fun y hy _ => by simp)
        have hlen : ((a :: left).filter fun x => !decide (x ∈ g)).length ≤ left.length := by
          rw [List.filter_cons]
          simp only [hg.ha, decide_true, Bool.not_true, Bool.false_eq_true, if_false]
          exact List.length_filter_le _ _
        refine ⟨by simp, [some (enc bs), some (.lst (((a :: left).filter fun x => !decide (x ∈ g)).map enc)), some (.ref h.length), none, some (.ref q), some (.int at'), v6, none], _, _, ?_, by simp only [List.length_cons]; omega,
          found ++ [setI g], (a :: left).filter fun x => !decide (x ∈ g), _, _, _, rest ++ [.lst (g.map enc)], ho.step hg, by simp only [List.length_append, List.length_cons, List.length_nil] at h7 ⊢; omega, rfl, rfl, rfl⟩
        have i0 : ixD (h ++ .lst (found.map enc) :: rest) (.lst ((a :: left).map enc)) (.int 0) = some (.int a) := ix_nat (i := 0) rfl (by intro z e; cases e) rfl
        have s1 : evS (callE df ht W (n + 1)) ht W (.as (.t [.v 4, .v 5]) (.tup [.mk [.ix (.var 1) (.cst (.int 0))], .cst (.int 0)])) [some (enc bs), some (.lst ((a :: left).map enc)), some (.ref h.length), none, x4, x5, x6, none] (h ++ .lst (found.map enc) :: rest) = .ok (.nx, [some (enc bs), some (.lst ((a :: left).map enc)), some (.ref h.length), none, some (.ref q), some (.int 0), x6, none]) H1 := by
          simp only [evS_as, evE_tup, evL_cons, evE_mk, evE_ix, evE_vr, List.getElem?_cons_succ, List.getElem?_cons_zero, vr_some, bind_ok, evE_cst, i0, opt_some, evL_nil]
          simp [q, H1]
        rw [evSs_cons, s1]
        simp only [bind_ok]
        rw [evSs_cons, eb]
        simp only [bind_ok, evSs_cons, evS_ex, evE_app, evE_vr, List.getElem?_cons_succ, List.getElem?_cons_zero, vr_some, il, Bool.not_true, Bool.false_eq_true, if_false, evE_bi, evL_cons, evL_nil, evE_sset, hqq, es, opt_some, tuple_enc, ea, evS_as, a2, bindT_v, evSs_nil]
        simp)
  subst e3 e4
  refine ⟨found, e2.fin, ?_⟩
  rw [callE_eq (d := ⟨1, 8, false, b_pieces_in⟩) rfl]
  have s1 : evS (callE df ht W (n + 1)) ht W (.as (.t [.v 1, .v 2]) (.tup [.lc (.v 3) (.seq (.cst (.tup [(.int 0), (.int 1), (.int 2), (.int 3), (.int 4), (.int 5), (.int 6)]))) [.cmp .gt (.call 6 [.var 0, .var 3]) (.cst (.int 0))] [3] (.var 3), .mk []])) [some (enc bs), none, none, none, none, none, none, none] h = .ok (.nx, [some (enc bs), some (.lst ((left0 bs).map enc)), some (.ref h.length), none, none, none, none, none]) (h ++ [.lst []]) := by
    simp only [evS_as, evE_tup, evL_cons, a1, bind_ok, evE_mk, evL_nil]
    simp [left0]
  have sb : evSs (callE df ht W (n + 1)) ht W b_pieces_in [some (enc bs), none, none, none, none, none, none, none] h = .ok (.rt (.ref h.length), [some (enc bs), some (.lst []), some (.ref h.length), none, x4, x5, x6, none]) (h ++ .lst (found.map enc) :: rest) := by
    unfold b_pieces_in
    rw [evSs_cons, s1]
    simp only [bind_ok]
    rw [evSs_cons, e1]
    simp
  exact run_made rfl sb hb fun H x => frz_list (fun i => frz_int _ _ _ i) x
end
section
variable {ht : List Hd} {W : Nat} {h : Oh}
theorem pieces_few {bs : List Bn} (hb : ∀ b ∈ bs, okB b = true) {gs : List (List Int)} (hg : Pcs bs gs) : gs.length ≤ 7 := by
  have hne' : ∀ g ∈ gs, ∃ x, g.head? = some x ∧ x ∈ g := by
    intro g hm
    cases g with
    | nil => exact absurd rfl (hg.grp _ hm).ne
    | cons x g => exact ⟨x, rfl, List.mem_cons_self⟩
  have hnd : gs.Nodup := hg.srt.imp fun {a b} h e => by subst e; exact ltE_asy _ _ h h
  have key : (gs.map fun g => g.headD 0).Nodup := by
    refine List.pairwise_map.mpr (hnd.imp_of_mem fun {a b} ha hb' hne e => hne ?_)
    obtain ⟨x, e1, e2⟩ := hne' a ha
    obtain ⟨y, e3, e4⟩ := hne' b hb'
    have e5 : x = y := by
      cases a with
      | nil => cases e1
      | cons p a =>
        cases b with
        | nil => cases e3
        | cons q b =>
          simp only [List.head?_cons, Option.some.injEq] at e1 e3
          simp only [List.headD_cons] at e
          omega
    exact (hg.grp a ha).eq (hg.grp b hb') e2 (e5 ▸ e4)
  have := nodup_len key fun x hx => by
    obtain ⟨g, hg', e⟩ := List.mem_map.mp hx
    obtain ⟨y, e1, e2⟩ := hne' g hg'
    have : x = y := by rw [← e]; cases g <;> simp_all
    rw [this]
    exact used_rng hb ((hg.cov y).mpr ⟨g, hg', e2⟩)
  simpa using this
/-! the law's pieces -/
theorem now_enc {α : Type} [Enc α] {H : Oh} {xs : List α} : (Wk.seq (enc xs) xs.length).now H = some (xs.map enc) := by simp [Wk.now, stays]
theorem now_lenc {α : Type} [Enc α] {H : Oh} {xs : List α} : (Wk.seq (.lst (xs.map enc)) xs.length).now H = some (xs.map enc) := by simp [Wk.now, stays]
def lsI (g : List Int) : Ls Int := ⟨g⟩
theorem lsI_inj : ∀ {a b : List Int}, lsI a = lsI b ↔ a = b := by intro a b; simp [lsI]
theorem mem_lsI (g : List Int) (gs : List (List Int)) : lsI g ∈ gs.map lsI ↔ g ∈ gs := by
  simp only [List.mem_map]
  constructor
  · rintro ⟨x, h1, h2⟩; rw [lsI_inj] at h2; rwa [← h2]
  · intro h; exact ⟨g, h, rfl⟩
theorem ltE_lsI (a b : List Int) : ltE (lsI a) (lsI b) = ltE a b := by
  unfold ltE PySem.W.dataLt
  congr 1 <;> (show PySem.W.keyToks (.list _) = PySem.W.keyToks (.tuple _); simp [PySem.W.keyToks])
theorem leE_lsI (a b : List Int) : leE (lsI a) (lsI b) = leE a b := by rw [leE_def, leE_def, ltE_lsI]
theorem flat_len {gs : List (List Int)} {m : Nat} (h : ∀ g ∈ gs, g.length ≤ m) : gs.flatten.length ≤ m * gs.length := by
  induction gs with
  | nil => simp
  | cons g gs ih =>
    have h1 := h g List.mem_cons_self
    have h2 := ih fun g hg => h g (List.mem_cons_of_mem _ hg)
    simp only [List.flatten_cons, List.length_append, List.length_cons, Nat.mul_add, Nat.mul_one]
    omega
theorem grp_len {ps : List Bn} (hb : ∀ b ∈ ps, okB b = true) {gs : List (List Int)} (h : Mi ps gs) {g : List Int} (hg : g ∈ gs) : g.length ≤ 7 := by
  have := pw_len (lo := 0) (hi := 7) (h.grp g hg).srt fun x hx => by have := used_rng hb ((h.cov x).mpr ⟨g, hg, hx⟩); omega
  omega
theorem mi_sorted {bs : List Bn} {gs : List (List Int)} (h : Mi bs gs) : Pcs bs (isort leE gs) where
  grp g hg := h.grp g ((isort_perm gs).mem_iff.mp hg)
  cov x := by
    rw [h.cov x]
    constructor
    · rintro ⟨g, h1, h2⟩; exact ⟨g, (isort_perm gs).mem_iff.mpr h1, h2⟩
    · rintro ⟨g, h1, h2⟩; exact ⟨g, (isort_perm gs).mem_iff.mp h1, h2⟩
  srt := by
    have h1 := isort_pw gs
    have h2 : (isort leE gs).Nodup := h.nd.perm (isort_perm gs).symm
    refine (h1.and h2).imp fun {a b} q => (ltE_iff a b).mpr q
theorem one_le {gs : List (List Int)} {ps : List Bn} (hm : Mi ps gs) (x : Int) : (gs.filter fun g => decide (x ∈ g)).length ≤ 1 := by
  have nd : (gs.filter fun g => decide (x ∈ g)).Nodup := hm.nd.sublist List.filter_sublist
  match e : gs.filter fun g => decide (x ∈ g), nd with
  | [], _ => simp
  | [_], _ => simp
  | g :: g' :: r, nd =>
    have h1 : g ∈ gs.filter fun g => decide (x ∈ g) := by rw [e]; simp
    have h2 : g' ∈ gs.filter fun g => decide (x ∈ g) := by rw [e]; simp
    simp only [List.mem_filter, decide_eq_true_eq] at h1 h2
    have := (hm.grp g h1.1).eq (hm.grp g' h2.1) h1.2 h2.2
    simp [this] at nd
theorem near_le {gs : List (List Int)} {ps : List Bn} (hm : Mi ps gs) (b : Bn) : (gs.filter (nearB b)).length ≤ 2 := by
  have h1 := one_le hm b.1
  have h2 := one_le hm b.2
  have : ∀ l : List (List Int), (l.filter (nearB b)).length ≤ (l.filter fun g => decide (b.1 ∈ g)).length + (l.filter fun g => decide (b.2 ∈ g)).length := by
    intro l
    induction l with
    | nil => simp
    | cons g l ih =>
      have e : nearB b g = (decide (b.1 ∈ g) || decide (b.2 ∈ g)) := rfl
      simp only [List.filter_cons, e]
      by_cases q1 : b.1 ∈ g <;> by_cases q2 : b.2 ∈ g <;> simp [q1, q2] <;> omega
  have := this gs
  omega
theorem law_pieces_ok (n : Nat) {bs : List Bn} (hl : Lw bs) : ∃ gs, Pcs bs gs ∧ callE df ht W (n + 1) 27 [enc bs] h = .ok (.lst ((gs.map lsI).map enc)) h := by
  have hl8 := hl.len
  obtain ⟨env', h', e1, gs, x2, x3, x4, x5, e2, e25, e3, e4⟩ := lop_inv (c := callE df ht W n) (ht := ht) (W := W) (env := [some (enc bs), some (.lst []), none, none, none, none]) (h := h) (t := .v 2)
    (walks_enc (e := .var 0) (xs := bs) (by simp) (by omega))
    [.as (.v 3) (.lc (.v 4) (.seq (.var 1)) [.or (.cmp .isin (.ix (.var 2) (.cst (.int 0))) (.var 4)) (.cmp .isin (.ix (.var 2) (.cst (.int 1))) (.var 4))] [4] (.var 4)), .as (.v 5) (.bi .list [.var 2]), .lop (.v 4) (.seq (.var 3)) [.as (.v 5) (.bin .add (.var 5) (.var 4))], .as (.v 1) (.bin .add (.lc (.v 4) (.seq (.var 1)) [.cmp .nin (.var 4) (.var 3)] [4] (.var 4)) (.lst [.sset (.var 5)]))]
    (fun j env H => ∃ gs x2 x3 x4 x5, Mi (bs.take j) gs ∧ gs.length ≤ j ∧ env = [some (enc bs), some (.lst ((gs.map lsI).map enc)), x2, x3, x4, x5] ∧ H = h)
    ⟨[], none, none, none, none, ⟨by simp, by simp [Used], by simp⟩, by simp, rfl, rfl⟩
    (fun j env H _ => now_enc)
    (fun j env H b hb ⟨gs, x2, x3, x4, x5, hm, hj, e2, e3⟩ => by
      subst e2 e3
      have hjl : j < bs.length := (List.getElem?_eq_some_iff.mp hb).1
      have hok : ∀ b ∈ bs.take j, okB b = true := fun b hb => hl.ok b (List.mem_of_mem_take hb)
      have tk : bs.take (j + 1) = bs.take j ++ [b] := by rw [List.take_succ, hb]; rfl
      have hm2 := hm.step b
      rw [← tk] at hm2
      let near := gs.filter (nearB b)
      have hnl : near.length ≤ 2 := near_le hm b
      -- near
      have a1 := lc_fil (c := callE df ht W n) (ht := ht) (env := [some (enc bs), some (.lst ((gs.map lsI).map enc)), some (enc b), x3, x4, x5]) (h := H) (vs := [4]) (t := .v 4) (q := .or (.cmp .isin (.ix (.var 2) (.cst (.int 0))) (.var 4)) (.cmp .isin (.ix (.var 2) (.cst (.int 1))) (.var 4))) (e := .var 4)
        (walks_seq (e := .var 1) (s := .lst ((gs.map lsI).map enc)) (xs := gs) (en := fun g => enc (lsI g)) (by simp [-List.map_map]) (by simp) (by omega))
        (fun g => [some (enc bs), some (.lst ((gs.map lsI).map enc)), some (enc b), x3, some (enc (lsI g)), x5]) (nearB b) (fun g => enc (lsI g)) (fun g hg => by simp) (fun g hg => by
          have c1 := cmp_in (α := Int) (h := H) (a := b.1) (xs := g) (s := enc (lsI g)) (by simp) rfl
          have c2 := cmp_in (α := Int) (h := H) (a := b.2) (xs := g) (s := enc (lsI g)) (by simp) rfl
          rw [enc_int] at c1 c2
          by_cases q : b.1 ∈ g <;> simp [c1, c2, nearB, q, -List.map_map]) (fun g hg _ => by simp [-List.map_map])
      have s1 : evS (callE df ht W n) ht W (.as (.v 3) (.lc (.v 4) (.seq (.var 1)) [.or (.cmp .isin (.ix (.var 2) (.cst (.int 0))) (.var 4)) (.cmp .isin (.ix (.var 2) (.cst (.int 1))) (.var 4))] [4] (.var 4))) [some (enc bs), some (.lst ((gs.map lsI).map enc)), some (enc b), x3, x4, x5] H = .ok (.nx, [some (enc bs), some (.lst ((gs.map lsI).map enc)), some (enc b), some (.lst ((near.map lsI).map enc)), x4, x5]) H := by
        rw [evS_as, a1, List.map_map]
        simp [near]
      have s2 : evS (callE df ht W n) ht W (.as (.v 5) (.bi .list [.var 2])) [some (enc bs), some (.lst ((gs.map lsI).map enc)), some (enc b), some (.lst ((near.map lsI).map enc)), x4, x5] H = .ok (.nx, [some (enc bs), some (.lst ((gs.map lsI).map enc)), some (enc b), some (.lst ((near.map lsI).map enc)), x4, some (.lst ([b.1, b.2].map enc))]) H := by
        have : biD .list H [enc b] = some (.lst ([b.1, b.2].map enc)) := rfl
        rw [evS_as]
        simp [this, -List.map_map, -List.map_cons, -List.map_nil]
      obtain ⟨env2, H2, f1, y4, f2, f3⟩ := lop_inv (c := callE df ht W n) (ht := ht) (W := W) (env := [some (enc bs), some (.lst ((gs.map lsI).map enc)), some (enc b), some (.lst ((near.map lsI).map enc)), x4, some (.lst ([b.1, b.2].map enc))]) (h := H) (t := .v 4)
        (walks_seq (e := .var 3) (s := .lst ((near.map lsI).map enc)) (xs := near) (en := fun g => enc (lsI g)) (by simp [-List.map_map]) (by simp) (by omega))
        [.as (.v 5) (.bin .add (.var 5) (.var 4))]
        (fun i env H' => ∃ y4, env = [some (enc bs), some (.lst ((gs.map lsI).map enc)), some (enc b), some (.lst ((near.map lsI).map enc)), y4, some (.lst (([b.1, b.2] ++ (near.take i).flatten).map enc))] ∧ H' = H)
        ⟨x4, by simp, rfl⟩
        (fun i env H' _ => by simp [Wk.now, stays])
        (fun i env H' g hg ⟨y4, f2, f3⟩ => by
          subst f2 f3
          have hgm : g ∈ near := List.mem_of_getElem? hg
          have hfl := flat_len (gs := near.take i) (m := 7) fun g hg => grp_len hok hm (List.mem_filter.mp (List.mem_of_mem_take hg)).1
          have htl : (near.take i).length ≤ 8 := by simp; omega
          have hgl := grp_len hok hm (List.mem_filter.mp hgm).1
          have ad := add_lenc H' ([b.1, b.2] ++ (near.take i).flatten) g (by simp only [List.length_append, List.length_cons, List.length_nil]; omega)
          have el : (enc (lsI g) : D) = .lst (g.map enc) := rfl
          refine ⟨[some (enc bs), some (.lst ((gs.map lsI).map enc)), some (enc b), some (.lst ((near.map lsI).map enc)), some (enc (lsI g)), some (.lst (([b.1, b.2] ++ (near.take i).flatten).map enc))], [some (enc bs), some (.lst ((gs.map lsI).map enc)), some (enc b), some (.lst ((near.map lsI).map enc)), some (enc (lsI g)), some (.lst ((([b.1, b.2] ++ (near.take i).flatten) ++ g).map enc))], H', by simp, ?_, some (enc (lsI g)), ?_, rfl⟩
          · rw [evSs_cons, evS_as, evE_bin]
            simp only [evE_vr, List.getElem?_cons_succ, List.getElem?_cons_zero, vr_some, bind_ok, el, ad, opt_some]
            simp only [evSs_nil, bindT_v, List.length_cons, List.length_nil]
            simp [-List.map_append, -List.map_map]
          · rw [List.take_succ, hg]
            simp)
      subst f2 f3
      simp only [List.take_length] at f1
      have hfl := flat_len (gs := near) (m := 7) fun g hg => grp_len hok hm (List.mem_filter.mp hg).1
      have a2 := lc_fil (c := callE df ht W n) (ht := ht) (env := [some (enc bs), some (.lst ((gs.map lsI).map enc)), some (enc b), some (.lst ((near.map lsI).map enc)), y4, some (.lst (([b.1, b.2] ++ near.flatten).map enc))]) (h := H2) (vs := [4]) (t := .v 4) (q := .cmp .nin (.var 4) (.var 3)) (e := .var 4)
        (walks_seq (e := .var 1) (s := .lst ((gs.map lsI).map enc)) (xs := gs) (en := fun g => enc (lsI g)) (by simp [-List.map_map]) (by simp) (by omega))
        (fun g => [some (enc bs), some (.lst ((gs.map lsI).map enc)), some (enc b), some (.lst ((near.map lsI).map enc)), some (enc (lsI g)), some (.lst (([b.1, b.2] ++ near.flatten).map enc))]) (fun g => !decide (g ∈ near)) (fun g => enc (lsI g)) (fun g hg => by simp) (fun g hg => by
          have c1 := cmp_nin (α := Ls Int) (h := H2) (a := lsI g) (xs := near.map lsI) (s := .lst ((near.map lsI).map enc)) (by simp) rfl
          simp [c1, mem_lsI, -List.map_map, -List.map_append]) (fun g hg _ => by simp [-List.map_map, -List.map_append])
      have es : ssetD H2 (.lst (([b.1, b.2] ++ near.flatten).map enc)) = some (enc (lsI (setI ([b.1, b.2] ++ near.flatten)))) := by
        exact sset_ints (ns := [b.1, b.2] ++ near.flatten) rfl (by simp only [List.length_append, List.length_cons, List.length_nil]; omega)
      have hfr : (gs.filter fun g => !decide (g ∈ near)).length ≤ 20 := by have := List.length_filter_le (fun g => !decide (g ∈ near)) gs; omega
      have ad := add_lenc H2 ((gs.filter fun g => !decide (g ∈ near)).map lsI) [lsI (setI ([b.1, b.2] ++ near.flatten))] (by simp only [List.length_map, List.length_cons, List.length_nil]; omega)
      have em : ((gs.filter fun g => !decide (g ∈ near)).map lsI) ++ [lsI (setI ([b.1, b.2] ++ near.flatten))] = (mergeB gs b).map lsI := by simp [mergeB, near]
      rw [em] at ad
      have s4 : evS (callE df ht W n) ht W (.as (.v 1) (.bin .add (.lc (.v 4) (.seq (.var 1)) [.cmp .nin (.var 4) (.var 3)] [4] (.var 4)) (.lst [.sset (.var 5)]))) [some (enc bs), some (.lst ((gs.map lsI).map enc)), some (enc b), some (.lst ((near.map lsI).map enc)), y4, some (.lst (([b.1, b.2] ++ near.flatten).map enc))] H2 = .ok (.nx, [some (enc bs), some (.lst (((mergeB gs b).map lsI).map enc)), some (enc b), some (.lst ((near.map lsI).map enc)), y4, some (.lst (([b.1, b.2] ++ near.flatten).map enc))]) H2 := by
        rw [evS_as, evE_bin, a2]
        simp only [bind_ok, evE_lst, evL_cons, evE_sset, evE_vr, List.getElem?_cons_succ, List.getElem?_cons_zero, vr_some, es, opt_some, evL_nil]
        rw [List.map_map] at ad
        erw [if_pos (by simp), bind_ok, ad]
        simp [-List.map_map, -List.map_append]
      have hml : (mergeB gs b).length ≤ j + 1 := by
        simp only [mergeB, List.length_append, List.length_cons, List.length_nil]
        have := List.length_filter_le (fun g => !decide (g ∈ gs.filter (nearB b))) gs
        omega
      refine ⟨[some (enc bs), some (.lst ((gs.map lsI).map enc)), some (enc b), x3, x4, x5], [some (enc bs), some (.lst (((mergeB gs b).map lsI).map enc)), some (enc b), some (.lst ((near.map lsI).map enc)), y4, some (.lst (([b.1, b.2] ++ near.flatten).map enc))], H2, by simp [-List.map_map], ?_, mergeB gs b, some (enc b), some (.lst ((near.map lsI).map enc)), y4, some (.lst (([b.1, b.2] ++ near.flatten).map enc)), hm2, hml, rfl, rfl⟩
      rw [evSs_cons, s1]
      simp only [bind_ok]
      rw [evSs_cons, s2]
      simp only [bind_ok]
      rw [evSs_cons, f1]
      simp only [bind_ok]
      rw [evSs_cons, s4]
      simp only [bind_ok, evSs_nil])
  subst e3
  rw [e4] at e1
  rw [List.take_length] at e2
  refine ⟨isort leE gs, mi_sorted e2, ?_⟩
  rw [callE_eq (d := ⟨1, 6, false, b__law_pieces⟩) rfl]
  refine run_rt (env := [some (enc bs), some (.lst ((gs.map lsI).map enc)), x2, x3, x4, x5]) rfl ?_
  have es := sorted_enc (α := Ls Int) (by simp) (h := h) (s := .lst ((gs.map lsI).map enc)) (xs := gs.map lsI) rfl (soB_ls _) (by simp; omega)
  rw [isort_map (le := leE) lsI leE_lsI] at es
  have s0 : evS (callE df ht W n) ht W (.as (.v 1) (.lst [])) [some (enc bs), none, none, none, none, none] h = .ok (.nx, [some (enc bs), some (.lst []), none, none, none, none]) h := by simp
  show evSs (callE df ht W n) ht W b__law_pieces [some (enc bs), none, none, none, none, none] h = _
  unfold b__law_pieces
  rw [evSs_cons, s0]
  simp only [bind_ok]
  rw [evSs_cons, e1]
  simp only [bind_ok]
  simp [es, -List.map_map]
end
theorem sd_int (m : Nat) (i : Int) : sd (m + 1) (enc i) = true := rfl
theorem sd_pair {α β : Type} [Enc α] [Enc β] {m : Nat} {p : α × β} (h1 : sd m (enc p.1) = true) (h2 : sd m (enc p.2) = true) : sd (m + 1) (enc p) = true := by
  show ([enc p.1, enc p.2].all (sd m) && decide ([enc p.1, enc p.2].length ≤ 16777216)) = true
  simp [h1, h2]
theorem sd_list {α : Type} [Enc α] {m : Nat} {xs : List α} (h : ∀ x ∈ xs, sd m (enc x) = true) (hl : xs.length ≤ 16777216) : sd (m + 1) (enc xs) = true := by
  show ((xs.map enc).all (sd m) && decide ((xs.map enc).length ≤ 16777216)) = true
  rw [Bool.and_eq_true]
  refine ⟨List.all_eq_true.mpr fun d hd => ?_, by simpa using hl⟩
  obtain ⟨x, hx, rfl⟩ := List.mem_map.mp hd
  exact h x hx
theorem sd_bone (m : Nat) (b : Bn) : sd (m + 2) (enc b) = true := sd_pair (sd_int _ _) (sd_int _ _)
theorem sd_bones (m : Nat) (bs : List Bn) (hl : bs.length ≤ 16777216) : sd (m + 3) (enc bs) = true := sd_list (fun b _ => sd_bone m b) hl
theorem sd_ints (m : Nat) (ns : List Int) (hl : ns.length ≤ 16777216) : sd (m + 2) (enc ns) = true := sd_list (fun b _ => sd_int m b) hl
theorem sd_lst2 {m : Nat} {a b : D} (h1 : sd m a = true) (h2 : sd m b = true) : sd (m + 1) (.lst [a, b]) = true := by simp [sd, h1, h2]
theorem sd_lst3 {m : Nat} {a b c : D} (h1 : sd m a = true) (h2 : sd m b = true) (h3 : sd m c = true) : sd (m + 1) (.lst [a, b, c]) = true := by simp [sd, h1, h2, h3]
theorem belowL_int (k : Nat) : ∀ ns : List Int, belowL k (ns.map .int) = true
  | [] => rfl
  | n :: ns => by simp only [List.map_cons, belowL, belowL_int k ns]; rfl
theorem hp_below (ns : List Int) (i s r : Int) : (hp ns i s r).all (obBelow (hp ns i s r).length) = true := by
  have := belowL_int 1 ns
  simp [hp, obBelow, belowL, below, this]
section
variable (ns : List Int) (i s r : Int)
def badL : List D := [.non, .lst [.tup [.int 0, .int 1]], .tup [.tup [.int 1, .int 0]], .tup [.tup [.int 0, .int 7]], .tup [.tup [.int 0, .int 1], .tup [.int 0, .int 0]], .tup [.tup [.bl true, .int 1]], .tup [.tup [.int 0, .int 1, .int 2]], .str "x",
  .tup [.tup [.int 0, .int 0], .tup [.int 0, .int 0], .tup [.int 0, .int 0], .tup [.int 0, .int 0], .tup [.int 0, .int 0], .tup [.int 0, .int 0], .tup [.int 0, .int 0], .tup [.int 0, .int 0], .tup [.int 0, .int 0]], .tup [.int 5], .tup [.tup [.int (-1), .int 0]]]
theorem bad_list (c : Nat → List D → Oh → Rs D) (env : En) (H : Oh) : evE c ht (.lst [.cst .non, .lst [.tup [.cst (.int 0), .cst (.int 1)]], .tup [.tup [.cst (.int 1), .cst (.int 0)]], .tup [.tup [.cst (.int 0), .cst (.int 7)]], .tup [.tup [.cst (.int 0), .cst (.int 1)], .tup [.cst (.int 0), .cst (.int 0)]], .tup [.tup [.cst (.bl true), .cst (.int 1)]], .tup [.tup [.cst (.int 0), .cst (.int 1), .cst (.int 2)]], .cst (.str "x"), .bin .mul (.tup [.tup [.cst (.int 0), .cst (.int 0)]]) (.cst (.int 9)), .tup [.cst (.int 5)], .tup [.tup [.neg (.cst (.int 1)), .cst (.int 0)]]]) env H = .ok (.lst badL) H := by kernel_rfl
theorem law_bad_ok (n : Nat) (hi : 0 ≤ i) : ∃ (d : D) (i' s' r' : Int), 0 ≤ i' ∧ d ∈ badL ∧ callE df ht 100 (n + 3) 32 [.ref 0] (hp ns i s r) = .ok d (hp ns i' s' r') := by
  obtain ⟨d, i', s', r', h1, h2, h3⟩ := law_pick_ok (ht := ht) (W := 100) n ns i s r badL hi (by simp [badL]) (by decide)
  refine ⟨d, i', s', r', h1, h2, ?_⟩
  rw [callE_eq (d := ⟨1, 1, false, b__law_bad_lot⟩) rfl]
  refine run_rt2 (env := [some (.ref 0)]) rfl ?_ rfl
  show evSs (callE df ht 100 (n + 2)) ht 100 b__law_bad_lot [some (.ref 0)] (hp ns i s r) = _
  unfold b__law_bad_lot
  rw [evSs_cons, evS_ret, evE_call, evL_cons]
  simp only [evE_vr, List.getElem?_cons_zero, vr_some, bind_ok]
  rw [evL_cons, bad_list]
  simp [h3]
end
end Lk10

set_option Elab.async false
set_option linter.all false
set_option maxRecDepth 100000
set_option maxHeartbeats 2000000
set_option autoImplicit false
namespace Lk10
open PySem PySem.Spec PyProof.Rows L2 GxR Ev
open Ev.Enc (enc pd)

/-! ### odd pips, even pieces, and what a bone changes -/
def odB (bs : List Bn) (x : Int) : Bool := decide ((cnt bs x).fmod 2 = 1)
theorem cnt_app (bs cs : List Bn) (x : Int) : cnt (bs ++ cs) x = cnt bs x + cnt cs x := by simp [cnt]
theorem cnt_one (b : Bn) (x : Int) : cnt [b] x = b2i (decide (b.1 = x)) + b2i (decide (b.2 = x)) := by simp [cnt]
theorem b2i_t : b2i true = 1 := rfl
theorem b2i_f : b2i false = 0 := rfl
theorem cnt_nn (bs : List Bn) (x : Int) : 0 ≤ cnt bs x := by
  unfold cnt
  induction bs with
  | nil => simp
  | cons c cs ih =>
    simp only [List.map_cons, List.sum_cons]
    have b0 : ∀ k : Bool, 0 ≤ b2i k := by intro k; cases k <;> decide
    have := b0 (decide (c.1 = x)); have := b0 (decide (c.2 = x))
    omega
theorem fm (x : Int) : x.fmod 2 = x % 2 := by rw [Int.fmod_eq_emod_of_nonneg _ (by decide)]
theorem odB_iff (bs : List Bn) (x : Int) : odB bs x = true ↔ cnt bs x % 2 = 1 := by unfold odB; rw [decide_eq_true_eq, fm]
theorem odB_false (bs : List Bn) (x : Int) : odB bs x = false ↔ cnt bs x % 2 = 0 := by
  unfold odB; rw [decide_eq_false_iff_not, fm]; omega
theorem odB_dbl {bs : List Bn} {b : Bn} (h : b.1 = b.2) (x : Int) : odB (bs ++ [b]) x = odB bs x := by
  rw [Bool.eq_iff_iff, odB_iff, odB_iff, cnt_app, cnt_one]
  by_cases q : b.1 = x
  · rw [← h]; simp only [q, decide_true, b2i_t]; omega
  · rw [← h]; simp only [q, decide_false, b2i_f]; omega
theorem odB_add {bs : List Bn} {b : Bn} (h : b.1 ≠ b.2) (x : Int) : odB (bs ++ [b]) x = if x = b.1 ∨ x = b.2 then !odB bs x else odB bs x := by
  by_cases q1 : b.1 = x
  · have q2 : ¬ b.2 = x := fun e => h (q1.trans e.symm)
    rw [if_pos (.inl q1.symm), Bool.eq_iff_iff, odB_iff, cnt_app, cnt_one]
    simp only [q1, q2, decide_true, decide_false, b2i_t, b2i_f, Bool.not_eq_true', odB_false]; omega
  · by_cases q2 : b.2 = x
    · rw [if_pos (.inr q2.symm), Bool.eq_iff_iff, odB_iff, cnt_app, cnt_one]
      simp only [q1, q2, decide_true, decide_false, b2i_t, b2i_f, Bool.not_eq_true', odB_false]; omega
    · rw [if_neg (by rintro (e | e); exact q1 e.symm; exact q2 e.symm), Bool.eq_iff_iff, odB_iff, odB_iff, cnt_app, cnt_one]
      simp only [q1, q2, decide_false, b2i_f]; omega
theorem flip_len {l : List Int} {p p' : Int → Bool} {a : Int} (hn : l.Nodup) (ha : a ∈ l) (hp : ∀ x, p' x = if x = a then !p x else p x) : (l.filter p').length + (if p a then 1 else 0) = (l.filter p).length + (if p a then 0 else 1) := by
  induction l with
  | nil => simp at ha
  | cons y l ih =>
    obtain ⟨n1, n2⟩ := List.nodup_cons.mp hn
    by_cases e : y = a
    · subst e
      have same : l.filter p' = l.filter p := List.filter_congr fun x hx => by rw [hp, if_neg (fun q : x = y => n1 (q ▸ hx))]
      have hy := hp y
      rw [if_pos rfl] at hy
      cases hq : p y <;> simp [List.filter_cons, hy, hq, same]
    · have ha' : a ∈ l := by
        rcases List.mem_cons.mp ha with q | q
        · exact absurd q.symm e
        · exact q
      have := ih n2 ha'
      have hy := hp y
      rw [if_neg e] at hy
      cases hq : p y <;> simp [List.filter_cons, hy, hq] <;> omega
theorem pips_nd : pips.Nodup := by decide
theorem mem_pips {x : Int} (h1 : 0 ≤ x) (h2 : x ≤ 6) : x ∈ pips := by
  have : x = 0 ∨ x = 1 ∨ x = 2 ∨ x = 3 ∨ x = 4 ∨ x = 5 ∨ x = 6 := by omega
  simpa [pips] using this
def On (bs : List Bn) : Nat := (pips.filter (odB bs)).length
def o1 (k : Bool) : Nat := if k then 1 else 0
/-- the odd pips, when a bone comes -/
theorem On_add {bs : List Bn} {b : Bn} (hb : okB b = true) (h : b.1 ≠ b.2) : On (bs ++ [b]) + 2 * o1 (odB bs b.1) + 2 * o1 (odB bs b.2) = On bs + 2 := by
  simp only [okB, Bool.and_eq_true, decide_eq_true_eq] at hb
  let p1 : Int → Bool := fun x => if x = b.1 then !odB bs x else odB bs x
  have f1 := flip_len (p := odB bs) (p' := p1) pips_nd (mem_pips hb.1.1 (by omega) : b.1 ∈ pips) (fun x => rfl)
  have f2 := flip_len (p := p1) (p' := odB (bs ++ [b])) pips_nd (mem_pips (by omega) hb.2 : b.2 ∈ pips) (fun x => by
    rw [odB_add h]
    by_cases q1 : x = b.1
    · have q2 : ¬ x = b.2 := fun e => h (q1.symm.trans e)
      simp only [p1, q1, true_or, if_true]
      rw [if_neg (fun e => h e)]
    · by_cases q2 : x = b.2 <;> simp [p1, q1, q2, h.symm])
  have e2 : p1 b.2 = odB bs b.2 := by simp only [p1]; rw [if_neg h.symm]
  rw [e2] at f2
  unfold On o1
  cases q1 : odB bs b.1 <;> cases q2 : odB bs b.2 <;> simp [q1, q2] at f1 f2 ⊢ <;> omega
theorem On_dbl {bs : List Bn} {b : Bn} (h : b.1 = b.2) : On (bs ++ [b]) = On bs := by
  unfold On
  rw [List.filter_congr fun x _ => odB_dbl h x]
/-- even groups -/
def evB (bs : List Bn) (g : List Int) : Bool := g.all fun x => !odB bs x
theorem evB_iff {bs : List Bn} {g : List Int} : evB bs g = true ↔ ∀ x ∈ g, odB bs x = false := by
  simp [evB]
theorem evB_not {bs : List Bn} {g : List Int} : evB bs g = false ↔ ∃ x ∈ g, odB bs x = true := by
  rw [← Bool.not_eq_true, evB_iff]
  constructor
  · intro h
    refine Classical.byContradiction fun z => h fun x hx => ?_
    cases q : odB bs x with
    | false => rfl
    | true => exact absurd ⟨x, hx, q⟩ z
  · rintro ⟨x, hx, q⟩ h
    rw [h x hx] at q; cases q
/-- of a group an even number of pips is odd -/
theorem sum_ind {g : List Int} (hn : g.Nodup) (a : Int) : (g.map fun x => b2i (decide (a = x))).sum = if a ∈ g then 1 else 0 := by
  induction g with
  | nil => rfl
  | cons y g ih =>
    obtain ⟨n1, n2⟩ := List.nodup_cons.mp hn
    simp only [List.map_cons, List.sum_cons, ih n2, List.mem_cons]
    by_cases e : a = y
    · subst e; simp [n1, b2i_t]
    · simp [e, b2i_f]
theorem sum_even {g : List Int} (hn : g.Nodup) : ∀ bs : List Bn, (∀ b ∈ bs, b.1 ∈ g ↔ b.2 ∈ g) → (g.map (cnt bs)).sum % 2 = 0
  | [], _ => by
    have : g.map (cnt []) = g.map fun _ => 0 := List.map_congr_left fun x _ => rfl
    rw [this]
    have : ∀ l : List Int, (l.map fun _ => (0 : Int)).sum = 0 := by intro l; induction l <;> simp_all
    rw [this]; rfl
  | b :: bs, h => by
    have ih := sum_even hn bs fun c hc => h c (List.mem_cons_of_mem _ hc)
    have e : ∀ g : List Int, (g.map (cnt (b :: bs))).sum = (g.map fun x => b2i (decide (b.1 = x))).sum + (g.map fun x => b2i (decide (b.2 = x))).sum + (g.map (cnt bs)).sum := by
      intro g
      induction g with
      | nil => rfl
      | cons y g ih2 =>
        have c : cnt (b :: bs) y = b2i (decide (b.1 = y)) + b2i (decide (b.2 = y)) + cnt bs y := by simp [cnt]
        simp only [List.map_cons, List.sum_cons, c, ih2]; omega
    rw [e, sum_ind hn, sum_ind hn]
    have := h b List.mem_cons_self
    by_cases q : b.1 ∈ g
    · rw [if_pos q, if_pos (this.mp q)]; omega
    · rw [if_neg q, if_neg (fun z => q (this.mpr z))]; omega
theorem par_sum {bs : List Bn} : ∀ g : List Int, (g.map (cnt bs)).sum % 2 = ((g.filter (odB bs)).length : Int) % 2
  | [] => rfl
  | y :: g => by
    have ih := par_sum (bs := bs) g
    simp only [List.map_cons, List.sum_cons, List.filter_cons]
    cases q : odB bs y with
    | false =>
      have := (odB_false bs y).mp q
      simp only [Bool.false_eq_true, if_false]; omega
    | true =>
      have := (odB_iff bs y).mp q
      simp only [if_true, List.length_cons, Int.natCast_add, Int.natCast_one]
      omega
theorem Grp.nd {bs : List Bn} {g : List Int} (G : Grp bs g) : g.Nodup := G.srt.imp fun h => by omega
theorem grp_even {bs : List Bn} {g : List Int} (G : Grp bs g) : (g.filter (odB bs)).length % 2 = 0 := by
  have h1 := sum_even G.nd bs G.clo
  have h2 := par_sum (bs := bs) g
  omega
theorem len_of_mem {α : Type} {l m : List α} (h1 : l.Nodup) (h2 : m.Nodup) (h : ∀ x, x ∈ l ↔ x ∈ m) : l.length = m.length := ((List.perm_ext_iff_of_nodup h1 h2).mpr h).length_eq
theorem len_split {α : Type} (p q : α → Bool) (l : List α) : (l.filter p).length = (l.filter fun x => p x && q x).length + (l.filter fun x => p x && !q x).length := by
  induction l with
  | nil => rfl
  | cons x l ih => cases hp : p x <;> cases hq : q x <;> simp [hp, hq, ih] <;> omega
theorem odd_other {bs : List Bn} {g : List Int} (G : Grp bs g) {a : Int} (ha : a ∈ g) (ho : odB bs a = true) : ∃ x ∈ g, x ≠ a ∧ odB bs x = true := by
  refine Classical.byContradiction fun z => ?_
  have : (g.filter (odB bs)).length = 1 := by
    refine len_of_mem (G.nd.sublist List.filter_sublist) (m := [a]) (by simp) fun x => ?_
    rw [List.mem_filter, List.mem_singleton]
    refine ⟨fun q => Classical.byContradiction fun hn => z ⟨x, q.1, hn, q.2⟩, fun q => by rw [q]; exact ⟨ha, ho⟩⟩
  have := grp_even G
  omega
theorem odd_used {bs : List Bn} {x : Int} (h : odB bs x = true) : Used bs x := by
  have h1 := (odB_iff bs x).mp h
  have h2 := cnt_nn bs x
  exact (cnt_used bs x).mp (by omega)
theorem not_used {bs : List Bn} {x : Int} (h : ¬ Used bs x) : odB bs x = false := by
  cases q : odB bs x with
  | false => rfl
  | true => exact absurd (odd_used q) h
def En (bs : List Bn) (gs : List (List Int)) : Nat := (gs.filter (evB bs)).length
section
variable {bs : List Bn} {gs : List (List Int)} (hok : ∀ b ∈ bs, okB b = true) (hm : Mi bs gs)
include hok hm
theorem odd_sum : On bs = (gs.map fun g => (g.filter (odB bs)).length).sum := by
  have nd : gs.flatten.Nodup := by
    refine List.pairwise_flatten.mpr ⟨fun g hg => (hm.grp g hg).nd, hm.nd.imp_of_mem fun {g g'} hg hg' hne x hx y hy e => hne ?_⟩
    exact (hm.grp g hg).eq (hm.grp g' hg') hx (e ▸ hy)
  have e : On bs = (gs.flatten.filter (odB bs)).length := by
    refine len_of_mem (pips_nd.sublist List.filter_sublist) (nd.sublist List.filter_sublist) fun x => ?_
    rw [List.mem_filter, List.mem_filter]
    constructor
    · rintro ⟨_, h⟩
      obtain ⟨g, hg, hx⟩ := (hm.cov x).mp (odd_used h)
      exact ⟨List.mem_flatten.mpr ⟨g, hg, hx⟩, h⟩
    · rintro ⟨hx, h⟩
      have := used_rng hok (odd_used h)
      exact ⟨mem_pips this.1 this.2, h⟩
  rw [e, List.filter_flatten, List.length_flatten, List.map_map]
  rfl
theorem term_ev {g : List Int} (hg : g ∈ gs) : (evB bs g = true → (g.filter (odB bs)).length = 0) ∧ (evB bs g = false → 2 ≤ (g.filter (odB bs)).length) := by
  constructor
  · intro h
    rw [List.length_eq_zero_iff, List.filter_eq_nil_iff]
    intro x hx
    rw [evB_iff.mp h x hx]; simp
  · intro h
    obtain ⟨x, hx, q⟩ := evB_not.mp h
    have h1 : 0 < (g.filter (odB bs)).length := List.length_pos_iff.mpr fun e => by
      have : x ∈ g.filter (odB bs) := List.mem_filter.mpr ⟨hx, q⟩
      rw [e] at this; simp at this
    have := grp_even (hm.grp g hg)
    omega
/-- the odd pips are even in number, and each piece that is not even has two at least -/
theorem odd_facts : On bs % 2 = 0 ∧ 2 * gs.length ≤ On bs + 2 * En bs gs ∧ (gs.length = 0 → On bs = 0 ∧ En bs gs = 0) ∧ (gs.length = 1 → (On bs = 0 ∧ En bs gs = 1) ∨ (2 ≤ On bs ∧ En bs gs = 0)) := by
  rw [odd_sum hok hm]
  have key : ∀ l : List (List Int), (∀ g ∈ l, g ∈ gs) → (l.map fun g => (g.filter (odB bs)).length).sum % 2 = 0 ∧ 2 * l.length ≤ (l.map fun g => (g.filter (odB bs)).length).sum + 2 * En bs l := by
    intro l
    induction l with
    | nil => intro _; simp
    | cons g l ih =>
      intro hl
      obtain ⟨i1, i2⟩ := ih fun x hx => hl x (List.mem_cons_of_mem _ hx)
      have hg := hl g List.mem_cons_self
      obtain ⟨t1, t2⟩ := term_ev hok hm hg
      have ge := grp_even (hm.grp g hg)
      unfold En at i2 ⊢
      simp only [List.map_cons, List.sum_cons, List.length_cons, List.filter_cons]
      cases q : evB bs g with
      | true => have := t1 q; simp only [if_true, List.length_cons]; omega
      | false => have := t2 q; simp only [Bool.false_eq_true, if_false]; omega
  obtain ⟨k1, k2⟩ := key gs fun g hg => hg
  refine ⟨k1, k2, fun h => ?_, fun h => ?_⟩
  · rw [List.length_eq_zero_iff.mp h]; simp [En]
  · obtain ⟨g, e⟩ := List.length_eq_one_iff.mp h
    have hg : g ∈ gs := by rw [e]; simp
    obtain ⟨t1, t2⟩ := term_ev hok hm hg
    rw [e]
    cases q : evB bs g with
    | true => left; have := t1 q; simp [En, q]; simpa using this
    | false => right; have := t2 q; simp [En, q]; omega
theorem near_one {x : Int} {g : List Int} (hg : g ∈ gs) (hx : x ∈ g) : ∀ g' ∈ gs, x ∈ g' → g' = g := fun g' hg' hx' => (hm.grp g' hg').eq (hm.grp g hg) hx' hx
variable {b : Bn} (hb : okB b = true)
include hb
/-- the numbers after a bone, by the pieces that it touches -/
theorem after : (mergeB gs b).length = (gs.filter fun g => !nearB b g).length + 1 ∧ gs.length = (gs.filter (nearB b)).length + (gs.filter fun g => !nearB b g).length ∧
    En bs gs = ((gs.filter (nearB b)).filter (evB bs)).length + En bs (gs.filter fun g => !nearB b g) ∧
    En (bs ++ [b]) (mergeB gs b) = En bs (gs.filter fun g => !nearB b g) + o1 (evB (bs ++ [b]) (setI ([b.1, b.2] ++ (gs.filter (nearB b)).flatten))) := by
  have ef : gs.filter (fun g => !decide (g ∈ gs.filter (nearB b))) = gs.filter fun g => !nearB b g := List.filter_congr fun g hg => by simp [List.mem_filter, hg]
  refine ⟨?_, ?_, ?_, ?_⟩
  · unfold mergeB; rw [ef, List.length_append]; rfl
  · have := len_split (fun _ => true) (nearB b) gs
    rw [List.filter_eq_self.mpr (fun _ _ => rfl)] at this
    simpa only [Bool.true_and] using this
  · unfold En
    rw [len_split (evB bs) (nearB b) gs, List.filter_filter, List.filter_filter]
  · unfold mergeB
    rw [ef]
    unfold En
    rw [List.filter_append, List.length_append]
    congr 1
    · congr 1
      refine List.filter_congr fun g hg => ?_
      have hfar := (List.mem_filter.mp hg).2
      have h1 : b.1 ∉ g ∧ b.2 ∉ g := by
        have : nearB b g = false := by simpa using hfar
        constructor
        · intro z; rw [nearB_iff.mpr (.inl z)] at this; cases this
        · intro z; rw [nearB_iff.mpr (.inr z)] at this; cases this
      have hx : ∀ x ∈ g, odB (bs ++ [b]) x = odB bs x := fun x hx => by
        by_cases e : b.1 = b.2
        · exact odB_dbl e x
        · rw [odB_add e, if_neg]
          rintro (q | q)
          · exact h1.1 (q ▸ hx)
          · exact h1.2 (q ▸ hx)
      rw [Bool.eq_iff_iff, evB_iff, evB_iff]
      exact ⟨fun h x q => by rw [← hx x q]; exact h x q, fun h x q => by rw [hx x q]; exact h x q⟩
    · generalize setI ([b.1, b.2] ++ (gs.filter (nearB b)).flatten) = nw
      cases q : evB (bs ++ [b]) nw <;> simp [q, o1]
theorem mem_new (x : Int) : x ∈ setI ([b.1, b.2] ++ (gs.filter (nearB b)).flatten) ↔ x = b.1 ∨ x = b.2 ∨ ∃ g ∈ gs, (b.1 ∈ g ∨ b.2 ∈ g) ∧ x ∈ g := by
  rw [mem_setI]
  simp only [List.mem_append, List.mem_cons, List.not_mem_nil, or_false, List.mem_flatten, List.mem_filter, nearB_iff]
  constructor
  · rintro ((q | q) | ⟨g, ⟨q1, q2⟩, q3⟩)
    · exact .inl q
    · exact .inr (.inl q)
    · exact .inr (.inr ⟨g, q1, q2, q3⟩)
  · rintro (q | q | ⟨g, q1, q2, q3⟩)
    · exact .inl (.inl q)
    · exact .inl (.inr q)
    · exact .inr ⟨g, ⟨q1, q2⟩, q3⟩
end
end Lk10

set_option Elab.async false
set_option linter.all false
set_option maxRecDepth 100000
set_option maxHeartbeats 2000000
set_option autoImplicit false
namespace Lk10
open PySem PySem.Spec PyProof.Rows L2 GxR Ev
open Ev.Enc (enc pd)
section
variable {bs : List Bn} {gs : List (List Int)} (hok : ∀ b ∈ bs, okB b = true) (hm : Mi bs gs) {b : Bn} (hb : okB b = true)
include hok hm hb
theorem not_ev {x : Int} (hx : x = b.1 ∨ x = b.2 ∨ ∃ g ∈ gs, (b.1 ∈ g ∨ b.2 ∈ g) ∧ x ∈ g) (ho : odB (bs ++ [b]) x = true) : evB (bs ++ [b]) (setI ([b.1, b.2] ++ (gs.filter (nearB b)).flatten)) = false :=
  evB_not.mpr ⟨x, (mem_new hok hm hb x).mpr hx, ho⟩
theorem nr_one {g : List Int} (hg : g ∈ gs) (h : ∀ g' ∈ gs, (b.1 ∈ g' ∨ b.2 ∈ g') ↔ g' = g) : gs.filter (nearB b) = [g] :=
  List.perm_singleton.mp ((List.perm_ext_iff_of_nodup (hm.nd.sublist List.filter_sublist) (by simp)).mpr fun g' => by
    rw [List.mem_filter, nearB_iff, List.mem_singleton]
    exact ⟨fun q => (h g' q.1).mp q.2, fun q => by rw [q]; exact ⟨hg, (h g hg).mpr rfl⟩⟩)
theorem two {g1 g2 : List Int} (hne : b.1 ≠ b.2) (h1 : g1 ∈ gs) (h2 : g2 ∈ gs) (h12 : g1 ≠ g2) (m1 : b.1 ∈ g1) (m2 : b.2 ∈ g2) :
    (mergeB gs b).length + 1 = gs.length ∧ En (bs ++ [b]) (mergeB gs b) + 1 ≤ (mergeB gs b).length ∧ En bs gs = En (bs ++ [b]) (mergeB gs b) + o1 (evB bs g1) + o1 (evB bs g2) ∧ On (bs ++ [b]) + 2 * o1 (odB bs b.1) + 2 * o1 (odB bs b.2) = On bs + 2 := by
  obtain ⟨a1, a2, a3, a4⟩ := after hok hm hb
  have u1 := near_one hok hm h1 m1
  have u2 := near_one hok hm h2 m2
  have pm : (gs.filter (nearB b)).Perm [g1, g2] := (List.perm_ext_iff_of_nodup (hm.nd.sublist List.filter_sublist) (by simp [h12])).mpr fun g => by
    rw [List.mem_filter, nearB_iff]
    simp only [List.mem_cons, List.not_mem_nil, or_false]
    constructor
    · rintro ⟨q, r | r⟩
      · exact .inl (u1 g q r)
      · exact .inr (u2 g q r)
    · rintro (q | q)
      · rw [q]; exact ⟨h1, .inl m1⟩
      · rw [q]; exact ⟨h2, .inr m2⟩
  have l2 := pm.length_eq
  have e2 : ((gs.filter (nearB b)).filter (evB bs)).length = o1 (evB bs g1) + o1 (evB bs g2) := by
    rw [(pm.filter (evB bs)).length_eq]
    cases q1 : evB bs g1 <;> cases q2 : evB bs g2 <;> simp [q1, q2, o1]
  have nv : evB (bs ++ [b]) (setI ([b.1, b.2] ++ (gs.filter (nearB b)).flatten)) = false := by
    cases o1' : odB bs b.1 with
    | false => exact not_ev hok hm hb (.inl rfl) (by rw [odB_add hne, if_pos (.inl rfl), o1']; rfl)
    | true =>
      cases o2' : odB bs b.2 with
      | false => exact not_ev hok hm hb (.inr (.inl rfl)) (by rw [odB_add hne, if_pos (.inr rfl), o2']; rfl)
      | true =>
        obtain ⟨x, hx, hxn, ho⟩ := odd_other (hm.grp g1 h1) m1 o1'
        refine not_ev hok hm hb (x := x) (.inr (.inr ⟨g1, h1, .inl m1, hx⟩)) ?_
        rw [odB_add hne, if_neg, ho]
        rintro (q | q)
        · exact hxn q
        · exact h12 (u2 g1 h1 (q ▸ hx))
  rw [nv] at a4
  have el : En bs (gs.filter fun g => !nearB b g) ≤ (gs.filter fun g => !nearB b g).length := List.length_filter_le _ _
  simp only [List.length_cons, List.length_nil] at l2
  have oz : o1 false = 0 := rfl
  refine ⟨by omega, by omega, by omega, On_add hb hne⟩
theorem same {g : List Int} (hne : b.1 ≠ b.2) (hg : g ∈ gs) (m1 : b.1 ∈ g) (m2 : b.2 ∈ g) :
    (mergeB gs b).length = gs.length ∧ ((odB bs b.1 = true ∧ odB bs b.2 = true ∧ On (bs ++ [b]) + 2 = On bs ∧ (En (bs ++ [b]) (mergeB gs b) = En bs gs ∨ En (bs ++ [b]) (mergeB gs b) = En bs gs + 1)) ∨
      (On (bs ++ [b]) = On bs ∧ En (bs ++ [b]) (mergeB gs b) = En bs gs) ∨ (On (bs ++ [b]) = On bs + 2 ∧ (En (bs ++ [b]) (mergeB gs b) = En bs gs ∨ En (bs ++ [b]) (mergeB gs b) + 1 = En bs gs))) := by
  obtain ⟨a1, a2, a3, a4⟩ := after hok hm hb
  have u1 := near_one hok hm hg m1
  have u2 := near_one hok hm hg m2
  have nr := nr_one hok hm hb hg fun g' hg' => ⟨fun q => q.elim (u1 g' hg') (u2 g' hg'), fun q => by rw [q]; exact .inl m1⟩
  have e2 : ((gs.filter (nearB b)).filter (evB bs)).length = o1 (evB bs g) := by rw [nr]; cases q : evB bs g <;> simp [q, o1]
  have l1 : (gs.filter (nearB b)).length = 1 := by rw [nr]; rfl
  have ha := On_add (bs := bs) hb hne
  refine ⟨by omega, ?_⟩
  have ot : o1 true = 1 := rfl
  have of : o1 false = 0 := rfl
  have le1 : ∀ k, o1 k ≤ 1 := by intro k; cases k <;> decide
  have l3 := le1 (evB (bs ++ [b]) (setI ([b.1, b.2] ++ (gs.filter (nearB b)).flatten)))
  have l4 := le1 (evB bs g)
  cases o1' : odB bs b.1 with
  | true =>
    have eg : evB bs g = false := evB_not.mpr ⟨b.1, m1, o1'⟩
    rw [eg] at e2
    cases o2' : odB bs b.2 with
    | true =>
      rw [o1', o2'] at ha
      exact .inl ⟨rfl, rfl, by omega, by omega⟩
    | false =>
      have nv := not_ev hok hm hb (x := b.2) (.inr (.inl rfl)) (by rw [odB_add hne, if_pos (.inr rfl), o2']; rfl)
      rw [nv] at a4
      rw [o1', o2'] at ha
      exact .inr (.inl ⟨by omega, by omega⟩)
  | false =>
    have nv := not_ev hok hm hb (x := b.1) (.inl rfl) (by rw [odB_add hne, if_pos (.inl rfl), o1']; rfl)
    rw [nv] at a4
    cases o2' : odB bs b.2 with
    | true =>
      have eg : evB bs g = false := evB_not.mpr ⟨b.2, m2, o2'⟩
      rw [eg] at e2
      rw [o1', o2'] at ha
      exact .inr (.inl ⟨by omega, by omega⟩)
    | false =>
      rw [o1', o2'] at ha
      exact .inr (.inr ⟨by omega, by omega⟩)
/-- one end touches, the other is new -/
theorem half {g : List Int} {x y : Int} (hxy : (b.1 = x ∧ b.2 = y) ∨ (b.1 = y ∧ b.2 = x)) (hne : b.1 ≠ b.2) (hg : g ∈ gs) (mx : x ∈ g) (uy : ¬ Used bs y) :
    (mergeB gs b).length = gs.length ∧ ((On (bs ++ [b]) = On bs ∧ En (bs ++ [b]) (mergeB gs b) = En bs gs) ∨ (On (bs ++ [b]) = On bs + 2 ∧ (En (bs ++ [b]) (mergeB gs b) = En bs gs ∨ En (bs ++ [b]) (mergeB gs b) + 1 = En bs gs))) := by
  obtain ⟨a1, a2, a3, a4⟩ := after hok hm hb
  have u1 := near_one hok hm hg mx
  have ny : ∀ g' ∈ gs, y ∉ g' := fun g' hg' q => uy ((hm.cov y).mpr ⟨g', hg', q⟩)
  have nr := nr_one hok hm hb hg fun g' hg' => by
    rcases hxy with ⟨e1, e2⟩ | ⟨e1, e2⟩
    · rw [e1, e2]; exact ⟨fun q => q.elim (u1 g' hg') (fun q => absurd q (ny g' hg')), fun q => by rw [q]; exact .inl mx⟩
    · rw [e1, e2]; exact ⟨fun q => q.elim (fun q => absurd q (ny g' hg')) (u1 g' hg'), fun q => by rw [q]; exact .inr mx⟩
  have e2 : ((gs.filter (nearB b)).filter (evB bs)).length = o1 (evB bs g) := by rw [nr]; cases q : evB bs g <;> simp [q, o1]
  have l1 : (gs.filter (nearB b)).length = 1 := by rw [nr]; rfl
  have ha := On_add (bs := bs) hb hne
  have oy := not_used uy
  have yb : y = b.1 ∨ y = b.2 := by rcases hxy with ⟨e1, e2⟩ | ⟨e1, e2⟩ <;> simp [e1, e2]
  have nv := not_ev hok hm hb (x := y) (yb.elim .inl fun q => .inr (.inl q)) (by rw [odB_add hne, if_pos yb, oy]; rfl)
  rw [nv] at a4
  have ot : o1 true = 1 := rfl
  have of : o1 false = 0 := rfl
  have le1 : ∀ k, o1 k ≤ 1 := by intro k; cases k <;> decide
  have l4 := le1 (evB bs g)
  have ha' : On (bs ++ [b]) + 2 * o1 (odB bs x) = On bs + 2 := by
    rcases hxy with ⟨e1, e2⟩ | ⟨e1, e2⟩ <;> rw [e1, e2, oy] at ha <;> omega
  refine ⟨by omega, ?_⟩
  cases ox : odB bs x with
  | true =>
    have eg : evB bs g = false := evB_not.mpr ⟨x, mx, ox⟩
    rw [eg] at e2
    rw [ox] at ha'
    exact .inl ⟨by omega, by omega⟩
  | false =>
    rw [ox] at ha'
    exact .inr ⟨by omega, by omega⟩
theorem none_in (h1 : ¬ Used bs b.1) (h2 : ¬ Used bs b.2) : (mergeB gs b).length = gs.length + 1 ∧ ((b.1 = b.2 ∧ On (bs ++ [b]) = On bs ∧ En (bs ++ [b]) (mergeB gs b) = En bs gs + 1) ∨ (b.1 ≠ b.2 ∧ On (bs ++ [b]) = On bs + 2 ∧ En (bs ++ [b]) (mergeB gs b) = En bs gs)) := by
  obtain ⟨a1, a2, a3, a4⟩ := after hok hm hb
  have nr : gs.filter (nearB b) = [] := by
    rw [List.filter_eq_nil_iff]
    intro g hg q
    rcases nearB_iff.mp q with r | r
    · exact h1 ((hm.cov _).mpr ⟨g, hg, r⟩)
    · exact h2 ((hm.cov _).mpr ⟨g, hg, r⟩)
  have l0 : (gs.filter (nearB b)).length = 0 := by rw [nr]; rfl
  have e0 : ((gs.filter (nearB b)).filter (evB bs)).length = 0 := by rw [nr]; rfl
  have ot : o1 true = 1 := rfl
  have of : o1 false = 0 := rfl
  refine ⟨by omega, ?_⟩
  by_cases e : b.1 = b.2
  · have ev : evB (bs ++ [b]) (setI ([b.1, b.2] ++ (gs.filter (nearB b)).flatten)) = true := evB_iff.mpr fun x hx => by
      rw [odB_dbl e]
      rcases (mem_new hok hm hb x).mp hx with q | q | ⟨g, q1, q2, q3⟩
      · rw [q]; exact not_used h1
      · rw [q]; exact not_used h2
      · rcases q2 with r | r
        · exact absurd ((hm.cov _).mpr ⟨g, q1, r⟩) h1
        · exact absurd ((hm.cov _).mpr ⟨g, q1, r⟩) h2
    rw [ev] at a4
    exact .inl ⟨e, On_dbl e, by omega⟩
  · have nv := not_ev hok hm hb (x := b.1) (.inl rfl) (by rw [odB_add e, if_pos (.inl rfl), not_used h1]; rfl)
    rw [nv] at a4
    have ha := On_add (bs := bs) hb e
    rw [not_used h1, not_used h2] at ha
    exact .inr ⟨e, by omega, by omega⟩
theorem dbl_in (e : b.1 = b.2) {g : List Int} (hg : g ∈ gs) (m1 : b.1 ∈ g) : (mergeB gs b).length = gs.length ∧ On (bs ++ [b]) = On bs ∧ En (bs ++ [b]) (mergeB gs b) = En bs gs := by
  obtain ⟨a1, a2, a3, a4⟩ := after hok hm hb
  have u1 := near_one hok hm hg m1
  have nr := nr_one hok hm hb hg fun g' hg' => ⟨fun q => q.elim (u1 g' hg') (fun q => u1 g' hg' (e ▸ q)), fun q => by rw [q]; exact .inl m1⟩
  have e2 : ((gs.filter (nearB b)).filter (evB bs)).length = o1 (evB bs g) := by rw [nr]; cases q : evB bs g <;> simp [q, o1]
  have l1 : (gs.filter (nearB b)).length = 1 := by rw [nr]; rfl
  have ev : evB (bs ++ [b]) (setI ([b.1, b.2] ++ (gs.filter (nearB b)).flatten)) = evB bs g := by
    rw [Bool.eq_iff_iff, evB_iff, evB_iff]
    constructor
    · intro h x hx
      rw [← odB_dbl e]
      exact h x ((mem_new hok hm hb x).mpr (.inr (.inr ⟨g, hg, .inl m1, hx⟩)))
    · intro h x hx
      rw [odB_dbl e]
      rcases (mem_new hok hm hb x).mp hx with q | q | ⟨g', q1, q2, q3⟩
      · rw [q]; exact h _ m1
      · rw [q, ← e]; exact h _ m1
      · have : g' = g := q2.elim (u1 g' q1) (fun q => u1 g' q1 (e ▸ q))
        exact h x (this ▸ q3)
  rw [ev] at a4
  exact ⟨by omega, On_dbl e, by omega⟩
/-- all that a bone can do -/
theorem trans : ((mergeB gs b).length = gs.length + 1 ∧ ((On (bs ++ [b]) = On bs ∧ En (bs ++ [b]) (mergeB gs b) = En bs gs + 1) ∨ (On (bs ++ [b]) = On bs + 2 ∧ En (bs ++ [b]) (mergeB gs b) = En bs gs))) ∨
    ((mergeB gs b).length = gs.length ∧ ((On (bs ++ [b]) = On bs ∧ En (bs ++ [b]) (mergeB gs b) = En bs gs) ∨ (On (bs ++ [b]) + 2 = On bs ∧ (En (bs ++ [b]) (mergeB gs b) = En bs gs ∨ En (bs ++ [b]) (mergeB gs b) = En bs gs + 1)) ∨ (On (bs ++ [b]) = On bs + 2 ∧ (En (bs ++ [b]) (mergeB gs b) = En bs gs ∨ En (bs ++ [b]) (mergeB gs b) + 1 = En bs gs)))) ∨
    ((mergeB gs b).length + 1 = gs.length ∧ En (bs ++ [b]) (mergeB gs b) + 1 ≤ (mergeB gs b).length ∧ ((On (bs ++ [b]) + 2 = On bs ∧ En (bs ++ [b]) (mergeB gs b) = En bs gs) ∨ (On (bs ++ [b]) = On bs ∧ (En (bs ++ [b]) (mergeB gs b) = En bs gs ∨ En (bs ++ [b]) (mergeB gs b) + 1 = En bs gs)) ∨ (On (bs ++ [b]) = On bs + 2 ∧ En (bs ++ [b]) (mergeB gs b) ≤ En bs gs ∧ En bs gs ≤ En (bs ++ [b]) (mergeB gs b) + 2))) := by
  have ot : o1 true = 1 := rfl
  have of : o1 false = 0 := rfl
  have le1 : ∀ k, o1 k ≤ 1 := by intro k; cases k <;> decide
  by_cases u1 : Used bs b.1
  · obtain ⟨g1, h1, m1⟩ := (hm.cov _).mp u1
    by_cases e : b.1 = b.2
    · have := dbl_in hok hm hb e h1 m1
      exact .inr (.inl ⟨this.1, .inl this.2⟩)
    · by_cases u2 : Used bs b.2
      · obtain ⟨g2, h2, m2⟩ := (hm.cov _).mp u2
        by_cases eg : g1 = g2
        · obtain ⟨s1, s2⟩ := same hok hm hb e h1 m1 (eg ▸ m2)
          refine .inr (.inl ⟨s1, ?_⟩)
          rcases s2 with ⟨_, _, q1, q2⟩ | q | q
          · exact .inr (.inl ⟨q1, q2⟩)
          · exact .inl q
          · exact .inr (.inr q)
        · obtain ⟨t1, t2, t3, t4⟩ := two hok hm hb e h1 h2 eg m1 m2
          refine .inr (.inr ⟨t1, t2, ?_⟩)
          have k1 := le1 (evB bs g1)
          have k2 := le1 (evB bs g2)
          cases o1' : odB bs b.1 with
          | true =>
            have e1 : evB bs g1 = false := evB_not.mpr ⟨b.1, m1, o1'⟩
            cases o2' : odB bs b.2 with
            | true =>
              have e2 : evB bs g2 = false := evB_not.mpr ⟨b.2, m2, o2'⟩
              rw [e1, e2] at t3; rw [o1', o2'] at t4
              exact .inl ⟨by omega, by omega⟩
            | false =>
              rw [e1] at t3; rw [o1', o2'] at t4
              exact .inr (.inl ⟨by omega, by omega⟩)
          | false =>
            cases o2' : odB bs b.2 with
            | true =>
              have e2 : evB bs g2 = false := evB_not.mpr ⟨b.2, m2, o2'⟩
              rw [e2] at t3; rw [o1', o2'] at t4
              exact .inr (.inl ⟨by omega, by omega⟩)
            | false =>
              rw [o1', o2'] at t4
              exact .inr (.inr ⟨by omega, by omega, by omega⟩)
      · obtain ⟨s1, s2⟩ := half hok hm hb (.inl ⟨rfl, rfl⟩) e h1 m1 u2
        exact .inr (.inl ⟨s1, s2.elim .inl fun q => .inr (.inr q)⟩)
  · by_cases u2 : Used bs b.2
    · obtain ⟨g2, h2, m2⟩ := (hm.cov _).mp u2
      have e : b.1 ≠ b.2 := fun e => u1 (e ▸ u2)
      obtain ⟨s1, s2⟩ := half hok hm hb (.inr ⟨rfl, rfl⟩) e h2 m2 u1
      exact .inr (.inl ⟨s1, s2.elim .inl fun q => .inr (.inr q)⟩)
    · obtain ⟨s1, s2⟩ := none_in hok hm hb u1 u2
      exact .inl ⟨s1, s2.elim (fun q => .inl q.2) fun q => .inr q.2⟩
end
end Lk10

set_option Elab.async false
set_option linter.all false
set_option maxRecDepth 100000
set_option maxHeartbeats 2000000
set_option autoImplicit false
namespace Lk10
open PySem PySem.Spec PyProof.Rows L2 GxR Ev
open Ev.Enc (enc pd)
def Mr (O E : Nat) : Nat := O / 2 + E - 1
def Mg (n O E : Nat) : Nat := if n ≤ 1 then O / 2 else O / 2 + E
def Mx (rd : Bool) (n O E : Nat) : Nat := if rd then Mg n O E else Mr O E
/-- the number of bones that are missing -/
def Ms (rd : Bool) (bs : List Bn) (k : Nat) : Prop := ∃ gs, Mi bs gs ∧ k = Mx rd gs.length (On bs) (En bs gs)
theorem snoc_ind {α : Type} {P : List α → Prop} (h0 : P []) (hs : ∀ l a, P l → P (l ++ [a])) : ∀ l, P l := fun l => by
  have : ∀ m : List α, P m.reverse := fun m => by
    induction m with
    | nil => exact h0
    | cons a m ih => rw [List.reverse_cons]; exact hs _ _ ih
  simpa using this l.reverse
theorem mi_ex : ∀ fs : List Bn, ∃ gs, Mi fs gs := by
  refine snoc_ind ⟨[], by simp, by simp [Used], by simp⟩ fun fs b ⟨gs, h⟩ => ⟨_, h.step b⟩
theorem mi_perm2 {fs : List Bn} {gs gs' : List (List Int)} (h : Mi fs gs) (h' : Mi fs gs') : gs.Perm gs' := by
  have e := (mi_sorted h).uniq (mi_sorted h')
  exact (isort_perm gs).symm.trans ((List.Perm.of_eq e).trans (isort_perm gs'))
theorem ms_ex (rd : Bool) (bs : List Bn) : ∃ k, Ms rd bs k := by
  obtain ⟨gs, h⟩ := mi_ex bs
  exact ⟨_, gs, h, rfl⟩
theorem ms_fun {rd : Bool} {bs : List Bn} {k k' : Nat} (h : Ms rd bs k) (h' : Ms rd bs k') : k = k' := by
  obtain ⟨gs, m, rfl⟩ := h
  obtain ⟨gs', m', rfl⟩ := h'
  have p := mi_perm2 m m'
  have e : En bs gs = En bs gs' := (p.filter (evB bs)).length_eq
  rw [p.length_eq, e]
theorem cnt_perm {bs cs : List Bn} (p : bs.Perm cs) (x : Int) : cnt bs x = cnt cs x := by
  unfold cnt
  induction p with
  | nil => rfl
  | cons _ _ ih => simp only [List.map_cons, List.sum_cons, ih]
  | swap _ _ _ => simp only [List.map_cons, List.sum_cons]; omega
  | trans _ _ i1 i2 => rw [i1, i2]
theorem odB_perm {bs cs : List Bn} (p : bs.Perm cs) (x : Int) : odB bs x = odB cs x := by unfold odB; rw [cnt_perm p]
theorem mi_perm {bs cs : List Bn} (p : bs.Perm cs) {gs : List (List Int)} (h : Mi bs gs) : Mi cs gs where
  grp g hg := by
    have G := h.grp g hg
    exact ⟨G.srt, G.ne, fun b hb => G.clo b (p.mem_iff.mpr hb), fun x hx y hy => (G.con x hx y hy).mono fun b hb => p.mem_iff.mp hb⟩
  cov x := by
    rw [← h.cov x]
    exact ⟨fun ⟨b, hb, e⟩ => ⟨b, p.mem_iff.mpr hb, e⟩, fun ⟨b, hb, e⟩ => ⟨b, p.mem_iff.mp hb, e⟩⟩
  nd := h.nd
theorem ms_perm {rd : Bool} {bs cs : List Bn} (p : bs.Perm cs) {k : Nat} (h : Ms rd bs k) : Ms rd cs k := by
  obtain ⟨gs, m, rfl⟩ := h
  refine ⟨gs, mi_perm p m, ?_⟩
  have e1 : On bs = On cs := by unfold On; rw [List.filter_congr fun x _ => odB_perm p x]
  have e2 : En bs gs = En cs gs := by
    unfold En
    rw [List.filter_congr fun g _ => show evB bs g = evB cs g from by
      rw [Bool.eq_iff_iff, evB_iff, evB_iff]
      exact ⟨fun h x hx => by rw [← odB_perm p]; exact h x hx, fun h x hx => by rw [odB_perm p]; exact h x hx⟩]
  rw [e1, e2]
def Oks (bs : List Bn) : Prop := ∀ b ∈ bs, okB b = true
theorem oks_snoc {bs : List Bn} {b : Bn} (h : Oks bs) (hb : okB b = true) : Oks (bs ++ [b]) := fun c hc => by
  rcases List.mem_append.mp hc with q | q
  · exact h c q
  · rw [List.mem_singleton.mp q]; exact hb
/-- whether it has a row or a ring, by the counts -/
def Has (rd : Bool) (bs : List Bn) : Prop := ∃ gs, Mi bs gs ∧ gs.length < 2 ∧ On bs < (if rd then 1 else 3)
theorem ms_zero {rd : Bool} {bs : List Bn} {k : Nat} (hok : Oks bs) (h : Ms rd bs k) : k = 0 ↔ Has rd bs := by
  obtain ⟨gs, m, rfl⟩ := h
  obtain ⟨f1, f2, f3, f4⟩ := odd_facts hok m
  have hh : Has rd bs ↔ gs.length < 2 ∧ On bs < (if rd then 1 else 3) := ⟨fun ⟨gs', m', q1, q2⟩ => ⟨by rw [(mi_perm2 m m').length_eq]; exact q1, q2⟩, fun ⟨q1, q2⟩ => ⟨gs, m, q1, q2⟩⟩
  rw [hh]
  unfold Mx Mg Mr
  cases rd with
  | true =>
    simp only [if_true]
    by_cases c : gs.length ≤ 1
    · rw [if_pos c]; omega
    · rw [if_neg c]; omega
  | false =>
    simp only [Bool.false_eq_true, if_false]
    have : gs.length = 0 ∨ gs.length = 1 ∨ 2 ≤ gs.length := by omega
    rcases this with c | c | c
    · have := f3 c; omega
    · have := f4 c; omega
    · omega
theorem ms_step {rd : Bool} {bs : List Bn} {b : Bn} {k k' : Nat} (hok : Oks bs) (hb : okB b = true) (h : Ms rd bs k) (h' : Ms rd (bs ++ [b]) k') : k ≤ k' + 1 := by
  obtain ⟨gs, m, rfl⟩ := h
  have e : k' = Mx rd (mergeB gs b).length (On (bs ++ [b])) (En (bs ++ [b]) (mergeB gs b)) := ms_fun h' ⟨_, m.step b, rfl⟩
  subst e
  obtain ⟨f1, f2, f3, f4⟩ := odd_facts hok m
  obtain ⟨g1, g2, g3, g4⟩ := odd_facts (oks_snoc hok hb) (m.step b)
  have t := trans hok m hb
  unfold Mx Mg Mr
  cases rd with
  | true =>
    simp only [if_true]
    by_cases c : gs.length ≤ 1
    · by_cases c' : (mergeB gs b).length ≤ 1
      · rw [if_pos c, if_pos c']; omega
      · rw [if_pos c, if_neg c']; omega
    · by_cases c' : (mergeB gs b).length ≤ 1
      · rw [if_neg c, if_pos c']; omega
      · rw [if_neg c, if_neg c']; omega
  | false => simp only [Bool.false_eq_true, if_false]; omega
theorem rep {bs : List Bn} {gs : List (List Int)} (m : Mi bs gs) {g : List Int} (hg : g ∈ gs) : ∃ x ∈ g, odB bs x = !evB bs g := by
  cases q : evB bs g with
  | true =>
    cases g with
    | nil => exact absurd rfl (m.grp _ hg).ne
    | cons x g => exact ⟨x, List.mem_cons_self, evB_iff.mp q x List.mem_cons_self⟩
  | false =>
    obtain ⟨x, hx, ho⟩ := evB_not.mp q
    exact ⟨x, hx, ho⟩
theorem okB_mm2 {x y : Int} (h1 : 0 ≤ x) (h2 : x ≤ 6) (h3 : 0 ≤ y) (h4 : y ≤ 6) : okB (min x y, max x y) = true := by
  simp only [okB, Bool.and_eq_true, decide_eq_true_eq]; omega
/-- a bone that helps -/
theorem ms_help {rd : Bool} {bs : List Bn} {k : Nat} (hok : Oks bs) (h : Ms rd bs k) (hk : 0 < k) : ∃ b, okB b = true ∧ Ms rd (bs ++ [b]) (k - 1) := by
  obtain ⟨gs, m, rfl⟩ := h
  obtain ⟨f1, f2, f3, f4⟩ := odd_facts hok m
  have rng : ∀ g ∈ gs, ∀ x ∈ g, 0 ≤ x ∧ x ≤ 6 := fun g hg x hx => used_rng hok ((m.cov x).mpr ⟨g, hg, hx⟩)
  have nn : ∀ k : Bool, o1 k + o1 (!k) = 1 := by intro k; cases k <;> rfl
  match hgs : gs with
  | [] =>
    have := f3 rfl
    exfalso
    unfold Mx Mg Mr at hk
    cases rd <;> simp at hk <;> omega
  | [g] =>
    have c := f4 rfl
    have hO : 2 ≤ On bs ∧ En bs [g] = 0 := by
      rcases c with c | c
      · exfalso
        unfold Mx Mg Mr at hk
        cases rd <;> simp at hk <;> omega
      · exact c
    obtain ⟨x, y, hx, hy, hxy⟩ : ∃ x y, odB bs x = true ∧ odB bs y = true ∧ x ≠ y := by
      have h2 : 2 ≤ (pips.filter (odB bs)).length := hO.1
      have nd : (pips.filter (odB bs)).Nodup := pips_nd.sublist List.filter_sublist
      match e : pips.filter (odB bs), h2, nd with
      | x :: y :: l, _, nd =>
        have a1 : x ∈ pips.filter (odB bs) := by rw [e]; simp
        have a2 : y ∈ pips.filter (odB bs) := by rw [e]; simp
        exact ⟨x, y, (List.mem_filter.mp a1).2, (List.mem_filter.mp a2).2, fun z => by simp [z] at nd⟩
    have mem : ∀ z, odB bs z = true → z ∈ g := fun z hz => by
      obtain ⟨g', hg', hz'⟩ := (m.cov z).mp (odd_used hz)
      rw [List.mem_singleton.mp hg'] at hz'; exact hz'
    have rx := rng g (by simp) x (mem x hx)
    have ry := rng g (by simp) y (mem y hy)
    have hb := okB_mm2 rx.1 rx.2 ry.1 ry.2
    have hne : (min x y, max x y).1 ≠ (min x y, max x y).2 := by simp only; omega
    have both : ∀ P : Int → Prop, P x → P y → P (min x y) ∧ P (max x y) := fun P p q => by
      by_cases c : x ≤ y
      · rw [Int.min_eq_left c, Int.max_eq_right c]; exact ⟨p, q⟩
      · rw [Int.min_eq_right (by omega), Int.max_eq_left (by omega)]; exact ⟨q, p⟩
    obtain ⟨m1, m2⟩ := both (· ∈ g) (mem x hx) (mem y hy)
    obtain ⟨d1, d2⟩ := both (fun z => odB bs z = true) hx hy
    obtain ⟨s1, s2⟩ := same hok m hb hne (List.mem_singleton.mpr rfl) m1 m2
    have ha := On_add (bs := bs) hb hne
    simp only [d1, d2, show o1 true = 1 from rfl] at ha
    obtain ⟨g1, g2, g3, g4⟩ := odd_facts (oks_snoc hok hb) (m.step (min x y, max x y))
    have c' := g4 (by rw [s1]; rfl)
    refine ⟨_, hb, _, m.step _, ?_⟩
    unfold Mx Mg Mr at hk ⊢
    rw [s1]
    cases rd with
    | true => simp at hk ⊢; omega
    | false => simp at hk ⊢; omega
  | ga :: gc :: rest =>
    have h1 : ga ∈ ga :: gc :: rest := by simp
    have h2 : gc ∈ ga :: gc :: rest := by simp
    have h12 : ga ≠ gc := fun e => by have := m.nd; simp [e] at this
    obtain ⟨x, hx, ox⟩ := rep m h1
    obtain ⟨y, hy, oy⟩ := rep m h2
    have rx := rng _ h1 x hx
    have ry := rng _ h2 y hy
    have hxy : x ≠ y := fun e => h12 ((m.grp _ h1).eq (m.grp _ h2) hx (e ▸ hy))
    have hb := okB_mm2 rx.1 rx.2 ry.1 ry.2
    have hne : (min x y, max x y).1 ≠ (min x y, max x y).2 := by simp only; omega
    have key : (mergeB (ga :: gc :: rest) (min x y, max x y)).length + 1 = (ga :: gc :: rest).length ∧ En (bs ++ [(min x y, max x y)]) (mergeB (ga :: gc :: rest) (min x y, max x y)) + 1 ≤ (mergeB (ga :: gc :: rest) (min x y, max x y)).length ∧
        En bs (ga :: gc :: rest) = En (bs ++ [(min x y, max x y)]) (mergeB (ga :: gc :: rest) (min x y, max x y)) + o1 (evB bs ga) + o1 (evB bs gc) ∧ On (bs ++ [(min x y, max x y)]) + 2 * o1 (odB bs x) + 2 * o1 (odB bs y) = On bs + 2 := by
      by_cases c : x ≤ y
      · have := two hok m hb hne h1 h2 h12 (by simp only [Int.min_eq_left c]; exact hx) (by simp only [Int.max_eq_right c]; exact hy)
        simp only [Int.min_eq_left c, Int.max_eq_right c] at this ⊢
        exact this
      · have c' : y ≤ x := by omega
        have := two hok m hb hne h2 h1 h12.symm (by simp only [Int.min_eq_right c']; exact hy) (by simp only [Int.max_eq_left c']; exact hx)
        simp only [Int.min_eq_right c', Int.max_eq_left c'] at this ⊢
        obtain ⟨q1, q2, q3, q4⟩ := this
        exact ⟨q1, q2, by omega, by omega⟩
    obtain ⟨k1, k2, k3, k4⟩ := key
    rw [ox, oy] at k4
    have n1 := nn (evB bs ga)
    have n2 := nn (evB bs gc)
    refine ⟨_, hb, _, m.step _, ?_⟩
    unfold Mx Mg Mr at hk ⊢
    have l2 : ¬ (ga :: gc :: rest).length ≤ 1 := by simp
    obtain ⟨g1, g2, g3, g4⟩ := odd_facts (oks_snoc hok hb) (m.step (min x y, max x y))
    cases rd with
    | true =>
      simp only [if_true] at hk ⊢
      rw [if_neg l2] at hk ⊢
      by_cases c : (mergeB (ga :: gc :: rest) (min x y, max x y)).length ≤ 1
      · rw [if_pos c]; omega
      · rw [if_neg c]; omega
    | false => simp only [Bool.false_eq_true, if_false] at hk ⊢; omega
end Lk10

set_option Elab.async false
set_option linter.all false
set_option maxRecDepth 100000
set_option maxHeartbeats 2000000
set_option autoImplicit false
namespace Lk10
open PySem PySem.Spec PyProof.Rows L2 GxR Ev
open Ev.Enc (enc pd)
section
variable {W : Nat} {h : Oh} {bs : List Bn}
/-! ### the walks -/
theorem bonesOf_odd (hok : Oks bs) {gs : List (List Int)} (m : Mi bs gs) {g : List Int} (hg : g ∈ gs) : decide ((oddL (bonesOf bs g)).length = 0) = evB bs g := by
  have G := m.grp g hg
  have c1 : ∀ x ∈ g, cnt (bonesOf bs g) x = cnt bs x := by
    intro x hx
    have : ∀ cs : List Bn, (∀ b ∈ cs, b ∈ bs) → cnt (cs.filter fun b => decide (b.1 ∈ g)) x = cnt cs x := by
      intro cs
      induction cs with
      | nil => intro _; rfl
      | cons c cs ih =>
        intro hc
        have i := ih fun b hb => hc b (List.mem_cons_of_mem _ hb)
        have cm := hc c List.mem_cons_self
        have e : cnt (c :: cs) x = b2i (decide (c.1 = x)) + b2i (decide (c.2 = x)) + cnt cs x := by simp [cnt]
        by_cases q : c.1 ∈ g
        · have e2 : cnt (c :: cs.filter fun b => decide (b.1 ∈ g)) x = b2i (decide (c.1 = x)) + b2i (decide (c.2 = x)) + cnt (cs.filter fun b => decide (b.1 ∈ g)) x := by simp [cnt]
          rw [List.filter_cons, if_pos (by simpa using q), e2, i, e]
        · have n1 : ¬ c.1 = x := fun z => q (z ▸ hx)
          have n2 : ¬ c.2 = x := fun z => q ((G.clo c cm).mpr (z ▸ hx))
          rw [List.filter_cons, if_neg (by simpa using q), i, e]
          simp [n1, n2, b2i_f]
    exact this bs fun b hb => hb
  have c2 : ∀ x, x ∉ g → odB (bonesOf bs g) x = false := by
    intro x hx
    refine not_used fun ⟨c, hc, e⟩ => ?_
    obtain ⟨q1, q2⟩ := List.mem_filter.mp hc
    have q2 : c.1 ∈ g := by simpa using q2
    rcases e with e | e
    · exact hx (e ▸ q2)
    · exact hx (e ▸ (G.clo c q1).mp q2)
  have oe : ∀ x ∈ g, odB (bonesOf bs g) x = odB bs x := fun x hx => by unfold odB; rw [c1 x hx]
  rw [Bool.eq_iff_iff, decide_eq_true_eq, evB_iff, List.length_eq_zero_iff]
  have ol : oddL (bonesOf bs g) = pips.filter (odB (bonesOf bs g)) := rfl
  rw [ol, List.filter_eq_nil_iff]
  constructor
  · intro hh x hx
    have hp := used_rng hok ((m.cov x).mpr ⟨g, hg, hx⟩)
    rw [← oe x hx]
    have := hh x (mem_pips hp.1 hp.2)
    simpa using this
  · intro hh x _
    by_cases q : x ∈ g
    · rw [oe x q, hh x q]; simp
    · rw [c2 x q]; simp
theorem even_pieces_ok (n : Nat) (hl : Lw bs) (hW : 20 ≤ W) (hh : h.all (obBelow h.length) = true) {gs : List (List Int)} (m : Mi bs gs) : callE df ht W (n + 4) 13 [enc bs] h = .ok (.int (En bs gs : Nat)) h := by
  rw [callE_eq (d := ⟨1, 2, false, b_even_pieces⟩) rfl]
  refine run_rt (env := [some (enc bs), none]) rfl ?_
  obtain ⟨gs', p1, p2⟩ := pieces_in_ok (ht := ht) (W := W) (h := h) (n + 1) hl hW hh
  have e := p1.uniq (mi_sorted m)
  have few := pieces_few hl.ok p1
  have pm : gs'.Perm gs := by rw [e]; exact isort_perm gs
  have hg : ∀ g ∈ gs', g ∈ gs := fun g hg => pm.mem_iff.mp hg
  have a1 := lc_filI (c := callE df ht W (n + 3)) (ht := ht) (env := [some (enc bs), none]) (h := h) (vs := [1]) (t := .v 1) (q := .cmp .eq (.bi .len [.call 7 [.call 9 [.var 0, .var 1]]]) (.cst (.int 0))) (e := .var 1)
    (walks_lenc (e := .call 8 [.var 0]) (xs := gs') (by simp [p2]) (by omega))
    (fun g => [some (enc bs), some (enc g)]) (evB bs) (fun x hx => by simp) (fun g hg' => by
      have b1 := bones_of_ok (ht := ht) (W := W) (h := h) (n + 2) bs hl.len g
      have lb : (bonesOf bs g).length ≤ 20 := Nat.le_trans (List.length_filter_le _ _) hl.len
      have b2 := odd_in_ok (ht := ht) (W := W) (h := h) (n + 1) (bonesOf bs g) lb
      have b3 := bonesOf_odd hl.ok m (hg g hg')
      rw [← b3]
      simp [b1, b2]) (fun x hx _ => by simp)
  have el : (gs'.filter (evB bs)).length = En bs gs := (pm.filter (evB bs)).length_eq
  simp [b_even_pieces, a1, el]
theorem fd2 (h : Oh) (k : Nat) : binD h .fdiv (.int k) (.int 2) = some (.int (k / 2 : Nat)) := by
  rw [fdiv_int h k 2 (by decide) (by decide)]
  have : (k : Int).fdiv 2 = ((k / 2 : Nat) : Int) := by
    rw [Int.fdiv_eq_ediv_of_nonneg _ (by decide)]; omega
  rw [this]
theorem row_ok (n : Nat) (hl : Lw bs) (hW : 20 ≤ W) (hh : h.all (obBelow h.length) = true) {gs : List (List Int)} (m : Mi bs gs) : callE df ht W (n + 5) 14 [enc bs] h = .ok (.int (Mr (On bs) (En bs gs) : Nat)) h := by
  rw [callE_eq (d := ⟨1, 1, false, b_many_for_row⟩) rfl]
  refine run_rt (env := [some (enc bs)]) rfl ?_
  have o := odd_in_ok (ht := ht) (W := W) (h := h) (n + 2) bs hl.len
  have ol : (oddL bs).length = On bs := rfl
  have e := even_pieces_ok n hl hW hh m
  have f := fd2 h (On bs)
  have mx : (if (0 : Int) < ((On bs / 2 : Nat) : Int) + (En bs gs : Int) - 1 then ((On bs / 2 : Nat) : Int) + (En bs gs : Int) - 1 else 0) = ((Mr (On bs) (En bs gs) : Nat) : Int) := by
    unfold Mr; split <;> omega
  rw [← mx]
  simp only [b_many_for_row, evSs_cons, evS_ret, evE_bi, evL_cons, evE_cst, evE_bin, evE_call, evE_vr, List.map_cons, List.map_nil, List.cons_append, List.nil_append, List.replicate, Nat.sub_self, List.getElem?_cons_zero, vr_some, bind_ok, evL_nil, o, len_lenc, ol, opt_some, f, e, Ev.add_int, Ev.sub_int, max_int]
theorem ring_ok (n : Nat) (hl : Lw bs) (hW : 20 ≤ W) (hh : h.all (obBelow h.length) = true) {gs : List (List Int)} (m : Mi bs gs) : callE df ht W (n + 5) 15 [enc bs] h = .ok (.int (Mg gs.length (On bs) (En bs gs) : Nat)) h := by
  rw [callE_eq (d := ⟨1, 2, false, b_many_for_ring⟩) rfl]
  refine run_rt (env := [some (enc bs), some (.int (On bs / 2 : Nat))]) rfl ?_
  have o := odd_in_ok (ht := ht) (W := W) (h := h) (n + 2) bs hl.len
  have ol : (oddL bs).length = On bs := rfl
  have e := even_pieces_ok n hl hW hh m
  have f := fd2 h (On bs)
  obtain ⟨gs', p1, p2⟩ := pieces_in_ok (ht := ht) (W := W) (h := h) (n + 2) hl hW hh
  have lg : gs'.length = gs.length := by rw [p1.uniq (mi_sorted m), (isort_perm gs).length_eq]
  have u1 : evS (callE df ht W (n + 4)) ht W (.as (.v 1) (.bin .fdiv (.bi .len [.call 7 [.var 0]]) (.cst (.int 2)))) [some (enc bs), none] h = .ok (.nx, [some (enc bs), some (.int (On bs / 2 : Nat))]) h := by
    simp only [evS_as, evE_bin, evE_bi, evL_cons, evE_call, evE_vr, List.getElem?_cons_zero, vr_some, bind_ok, evL_nil, o, len_lenc, ol, opt_some, evE_cst, f]
    simp
  show evSs (callE df ht W (n + 4)) ht W b_many_for_ring [some (enc bs), none] h = _
  unfold b_many_for_ring
  rw [ss_nx u1]
  unfold Mg
  clear u1 f
  generalize On bs / 2 = o2
  by_cases c : gs.length ≤ 1
  · rw [if_pos c]
    have c' : (gs.length : Int) ≤ 1 := by omega
    simp [p2, lg, c']
  · rw [if_neg c]
    have c' : ¬ (gs.length : Int) ≤ 1 := by omega
    simp [p2, lg, c', e]
theorem missing_number_ok (n : Nat) (hl : Lw bs) (hW : 20 ≤ W) (hh : h.all (obBelow h.length) = true) {rd : Bool} {k : Nat} (hk : Ms rd bs k) : callE df ht W (n + 6) 16 [enc bs, .bl rd] h = .ok (.int k) h := by
  obtain ⟨gs, m, rfl⟩ := hk
  rw [callE_eq (d := ⟨2, 2, false, b_missing_number⟩) rfl]
  refine run_rt (env := [some (enc bs), some (.bl rd)]) rfl ?_
  cases rd with
  | true => simp [b_missing_number, ring_ok n hl hW hh m, Mx]
  | false => simp [b_missing_number, row_ok n hl hW hh m, Mx]
theorem fewest_ok (n : Nat) (hl : Lot bs) (hW : 20 ≤ W) (hh : h.all (obBelow h.length) = true) {rd : Bool} {k : Nat} (hk : Ms rd bs k) : callE df ht W (n + 7) 17 [enc bs, .bl rd] h = .ok (.int k) h := by
  rw [callE_eq (d := ⟨2, 2, false, b_fewest_missing⟩) rfl]
  refine run_rt (env := [some (enc bs), some (.bl rd)]) rfl ?_
  simp [b_fewest_missing, check_lot_ok (n + 1) hl, isaD, tyOf, check_ok, missing_number_ok n hl.lw hW hh hk]
/-- all bones, in order -/
def allB : List Bn := (List.range 7).flatMap fun a => (List.range (7 - a)).map fun t : Nat => ((a : Int), (a : Int) + (t : Int))
theorem allB_ok : ∀ b : Bn, b ∈ allB ↔ okB b = true := by
  intro b
  unfold allB
  simp only [List.mem_flatMap, List.mem_map, List.mem_range, okB, Bool.and_eq_true, decide_eq_true_eq]
  constructor
  · rintro ⟨a, ha, t, ht', rfl⟩
    simp only; omega
  · rintro ⟨⟨h1, h2⟩, h3⟩
    refine ⟨b.1.toNat, by omega, (b.2 - b.1).toNat, by omega, ?_⟩
    refine Prod.ext ?_ ?_ <;> simp only <;> omega
theorem allB_len : allB.length = 28 := by decide
end
end Lk10

set_option Elab.async false
set_option linter.all false
set_option maxRecDepth 100000
set_option maxHeartbeats 2000000
set_option autoImplicit false
namespace Lk10
open PySem PySem.Spec PyProof.Rows L2 GxR Ev
open Ev.Enc (enc pd)

noncomputable def msF (rd : Bool) (bs : List Bn) : Nat := Classical.choose (ms_ex rd bs)
theorem msF_ok (rd : Bool) (bs : List Bn) : Ms rd bs (msF rd bs) := Classical.choose_spec (ms_ex rd bs)
theorem msF_eq {rd : Bool} {bs : List Bn} {k : Nat} (h : Ms rd bs k) : msF rd bs = k := ms_fun (msF_ok rd bs) h
theorem msF_perm {rd : Bool} {bs cs : List Bn} (p : bs.Perm cs) : msF rd bs = msF rd cs := msF_eq (ms_perm p.symm (msF_ok rd cs))
theorem withB_perm (bs : List Bn) (b : Bn) : (withB bs b).Perm (bs ++ [b]) := isort_perm _
theorem msF_step {rd : Bool} {bs : List Bn} {b : Bn} (hok : Oks bs) (hb : okB b = true) : msF rd bs ≤ msF rd (bs ++ [b]) + 1 := ms_step hok hb (msF_ok rd bs) (msF_ok rd _)
theorem msF_help {rd : Bool} {bs : List Bn} (hok : Oks bs) (h : 0 < msF rd bs) : ∃ b, okB b = true ∧ msF rd (bs ++ [b]) = msF rd bs - 1 := by
  obtain ⟨b, hb, hm⟩ := ms_help hok (msF_ok rd bs) h
  exact ⟨b, hb, msF_eq hm⟩
theorem msF_has {rd : Bool} {bs : List Bn} (hok : Oks bs) : msF rd bs = 0 ↔ Has rd bs := ms_zero hok (msF_ok rd bs)
/-- the bones that help, in order -/
noncomputable def helpL (rd : Bool) (bs : List Bn) : List Bn := allB.filter fun b => decide ((msF rd (bs ++ [b]) : Int) = (msF rd bs : Int) - 1)
theorem mem_help {rd : Bool} {bs : List Bn} {b : Bn} : b ∈ helpL rd bs ↔ okB b = true ∧ msF rd (bs ++ [b]) + 1 = msF rd bs := by
  unfold helpL
  rw [List.mem_filter, allB_ok, decide_eq_true_eq]
  exact and_congr Iff.rfl (by omega)
theorem allB_srt : allB.Pairwise fun a b => ltE a b = true := by
  have key : ∀ a b : Bn, (a.1 < b.1 ∨ (a.1 = b.1 ∧ a.2 < b.2)) → ltE a b = true := by
    intro a b h
    have e : ∀ (x y : Int), PySem.W.keyToks (pd (x, y)) = [.inl 1, .inl x, .inl 1, .inl y, .inl 0] := fun x y => by
      show PySem.W.keyToks (.tuple [.int x, .int y]) = _
      simp [PySem.W.keyToks, PySem.W.keyToksAll]
    obtain ⟨a1, a2⟩ := a
    obtain ⟨b1, b2⟩ := b
    unfold ltE PySem.W.dataLt
    rw [e, e, lex_self]
    rcases h with h | ⟨h1, h2⟩
    · rw [lex_diff (by intro q; cases q; simp at h)]
      exact decide_eq_true h
    · simp only at h1 h2
      subst h1
      rw [lex_self, lex_self, lex_diff (by intro q; cases q; omega)]
      exact decide_eq_true h2
  unfold allB
  refine List.pairwise_flatMap.mpr ⟨fun a _ => List.pairwise_map.mpr (List.pairwise_lt_range.imp fun {i j : Nat} h => key ((a : Int), (a : Int) + (i : Int)) ((a : Int), (a : Int) + (j : Int)) (.inr ⟨rfl, by show (a : Int) + (i : Int) < (a : Int) + (j : Int); omega⟩)), List.pairwise_lt_range.imp fun {i j : Nat} h x hx y hy => ?_⟩
  obtain ⟨s, _, rfl⟩ := List.mem_map.mp hx
  obtain ⟨t, _, rfl⟩ := List.mem_map.mp hy
  exact key _ _ (.inl (by simp only; omega))
theorem help_srt (rd : Bool) (bs : List Bn) : (helpL rd bs).Pairwise fun a b => ltE a b = true := allB_srt.sublist List.filter_sublist
/-- what the program lays -/
noncomputable def greedy (rd : Bool) : Nat → List Bn → List Bn
  | 0, _ => []
  | m + 1, own => match helpL rd own with
    | [] => []
    | b :: _ => b :: greedy rd m (withB own b)
theorem oks_with {bs : List Bn} {b : Bn} (h : Oks bs) (hb : okB b = true) : Oks (withB bs b) := fun c hc => oks_snoc h hb c ((withB_perm bs b).mem_iff.mp hc)
theorem help_cons {rd : Bool} {bs : List Bn} (hok : Oks bs) (h : 0 < msF rd bs) : ∃ b l, helpL rd bs = b :: l ∧ okB b = true ∧ msF rd (withB bs b) + 1 = msF rd bs := by
  obtain ⟨b, hb, e⟩ := msF_help hok h
  have hm : b ∈ helpL rd bs := mem_help.mpr ⟨hb, by omega⟩
  cases hh : helpL rd bs with
  | nil => rw [hh] at hm; simp at hm
  | cons c l =>
    have hc : c ∈ helpL rd bs := by rw [hh]; simp
    obtain ⟨q1, q2⟩ := mem_help.mp hc
    exact ⟨c, l, rfl, q1, by rw [msF_perm (withB_perm bs c)]; exact q2⟩
theorem greedy_facts (rd : Bool) : ∀ (m : Nat) (bs : List Bn), Oks bs → msF rd bs = m → (greedy rd m bs).length = m ∧ Oks (greedy rd m bs) ∧ msF rd (bs ++ greedy rd m bs) = 0
  | 0, bs, _, h => ⟨rfl, by intro b hb; simp [greedy] at hb, by simpa [greedy] using h⟩
  | m + 1, bs, hok, h => by
    obtain ⟨b, l, e, hb, hm⟩ := help_cons (rd := rd) hok (by omega)
    obtain ⟨i1, i2, i3⟩ := greedy_facts rd m (withB bs b) (oks_with hok hb) (by omega)
    have eg : greedy rd (m + 1) bs = b :: greedy rd m (withB bs b) := by rw [greedy, e]
    rw [eg]
    refine ⟨by simp [i1], fun c hc => ?_, ?_⟩
    · rcases List.mem_cons.mp hc with q | q
      · rw [q]; exact hb
      · exact i2 c q
    · rw [← i3]
      refine msF_perm ?_
      have := (withB_perm bs b).append_right (greedy rd m (withB bs b))
      simpa using this.symm
/-- .. it rises -/
theorem greedy_srt (rd : Bool) : ∀ (m : Nat) (bs : List Bn), Oks bs → msF rd bs = m → (greedy rd m bs).Pairwise (fun a b => leE a b = true) ∧ ∀ c ∈ greedy rd m bs, ∀ b l, helpL rd bs = b :: l → leE b c = true
  | 0, bs, _, _ => ⟨by simp [greedy], by intro c hc; simp [greedy] at hc⟩
  | m + 1, bs, hok, h => by
    obtain ⟨b, l, e, hb, hm⟩ := help_cons (rd := rd) hok (by omega)
    have eg : greedy rd (m + 1) bs = b :: greedy rd m (withB bs b) := by rw [greedy, e]
    obtain ⟨i1, i2⟩ := greedy_srt rd m (withB bs b) (oks_with hok hb) (by omega)
    have first : ∀ c ∈ greedy rd m (withB bs b), leE b c = true := by
      intro c hc
      cases m with
      | zero => simp [greedy] at hc
      | succ m =>
        obtain ⟨d, l', e', hd, hm'⟩ := help_cons (rd := rd) (oks_with hok hb) (show 0 < msF rd (withB bs b) by omega)
        have hdc := i2 c hc d l' e'
        have hbd : leE b d = true := by
          -- d helps bs too
          have s1 := msF_step (rd := rd) hok hd
          have s2 := msF_step (rd := rd) (oks_snoc hok hd) hb
          have pe : msF rd (bs ++ [d] ++ [b]) = msF rd (withB (withB bs b) d) := msF_perm (by
            refine List.Perm.trans ?_ (withB_perm (withB bs b) d).symm
            refine List.Perm.trans ?_ ((withB_perm bs b).append_right [d]).symm
            simp only [List.append_assoc]
            exact List.Perm.append_left bs (List.Perm.swap _ _ _))
          have hdm : d ∈ helpL rd bs := mem_help.mpr ⟨hd, by omega⟩
          rw [e] at hdm
          have hs := help_srt rd bs
          rw [e] at hs
          rcases List.mem_cons.mp hdm with q | q
          · rw [q]; exact leE_refl b
          · exact ((ltE_iff b d).mp ((List.pairwise_cons.mp hs).1 d q)).1
        exact leE_trans _ _ _ hbd hdc
    rw [eg]
    refine ⟨List.pairwise_cons.mpr ⟨first, i1⟩, fun c hc b' l2 e2 => ?_⟩
    rw [e] at e2
    have eb : b = b' := by cases e2; rfl
    rw [← eb]
    rcases List.mem_cons.mp hc with q | q
    · rw [q]; exact leE_refl b
    · exact first c q
/-- no more than ten are missing -/
theorem msF_le {rd : Bool} {bs : List Bn} (hok : Oks bs) : msF rd bs ≤ 10 := by
  obtain ⟨gs, m, e⟩ := msF_ok rd bs
  have f := pieces_few hok (mi_sorted m)
  rw [(isort_perm gs).length_eq] at f
  have o : On bs ≤ 7 := List.length_filter_le _ pips
  have en : En bs gs ≤ gs.length := List.length_filter_le _ _
  rw [e]
  unfold Mx Mg Mr
  split
  · split <;> omega
  · omega
end Lk10

set_option Elab.async false
set_option linter.all false
set_option maxRecDepth 100000
set_option maxHeartbeats 2000000
set_option autoImplicit false
namespace Lk10
open PySem PySem.Spec PyProof.Rows L2 GxR Ev
open Ev.Enc (enc pd)
section
variable {W : Nat} {h : Oh} {bs : List Bn}
theorem all_bones_ok (n : Nat) (hh : h.all (obBelow h.length) = true) : callE df ht W (n + 1) 18 [] h = .ok (.lst (allB.map enc)) h := by
  rw [callE_eq (d := ⟨0, 3, false, b_all_bones⟩) rfl]
  have dr : ∀ j : Nat, j < 7 → pips.drop j = (List.range (7 - j)).map fun t : Nat => (j : Int) + (t : Int) := by decide
  have pj : ∀ j : Nat, j < 7 → pips[j]? = some (j : Int) := by decide
  obtain ⟨env', h', e1, x1, e2, e3⟩ := lop_inv (c := callE df ht W n) (ht := ht) (W := W) (env := [some (.ref h.length), none, none]) (h := h ++ [.lst []]) (t := .v 1)
    (walks_enc (xs := pips) (e := .cst (.tup [(.int 0), (.int 1), (.int 2), (.int 3), (.int 4), (.int 5), (.int 6)])) (by simp; rfl) (by decide))
    [.ex (.ext (.var 0) (.lc (.v 2) (.seq (.sl (.cst (.tup [(.int 0), (.int 1), (.int 2), (.int 3), (.int 4), (.int 5), (.int 6)])) [.var 1] [])) [] [2] (.tup [.var 1, .var 2])))]
    (fun j env H => ∃ x1, env = [some (.ref h.length), x1, none] ∧ H = h ++ [.lst (((List.range j).flatMap fun a => (List.range (7 - a)).map fun t : Nat => ((a : Int), (a : Int) + (t : Int))).map enc)])
    ⟨none, rfl, rfl⟩
    (fun j env H _ => now_enc)
    (fun j env H x hx ⟨x1, f1, f2⟩ => by
      subst f1 f2
      have hj : j < 7 := (List.getElem?_eq_some_iff.mp hx).1
      have ex : x = (j : Int) := by rw [pj j hj] at hx; exact (Option.some.inj hx).symm
      subst ex
      have sl : slD (h ++ [.lst (((List.range j).flatMap fun a => (List.range (7 - a)).map fun t : Nat => ((a : Int), (a : Int) + (t : Int))).map enc)]) (.tup [(.int 0), (.int 1), (.int 2), (.int 3), (.int 4), (.int 5), (.int 6)]) (some (j : Int)) none = some (enc (pips.drop j)) := sl_from_enc _ pips j
      have a1 := lc_mapE (c := callE df ht W n) (ht := ht) (env := [some (.ref h.length), some (.int (j : Int)), none]) (h := h ++ [.lst (((List.range j).flatMap fun a => (List.range (7 - a)).map fun t : Nat => ((a : Int), (a : Int) + (t : Int))).map enc)]) (vs := [2]) (t := .v 2) (e := .tup [.var 1, .var 2])
        (walks_enc (e := .sl (.cst (.tup [(.int 0), (.int 1), (.int 2), (.int 3), (.int 4), (.int 5), (.int 6)])) [.var 1] []) (xs := pips.drop j) (by simp [sl]) (by rw [List.length_drop]; have : pips.length = 7 := rfl; omega))
        (fun y => [some (.ref h.length), some (.int (j : Int)), some (.int y)]) (fun y => ((j : Int), y)) (fun y hy => by simp) (fun y hy => by simp [enc_pair])
      have em : (pips.drop j).map (fun y => ((j : Int), y)) = (List.range (7 - j)).map fun t : Nat => ((j : Int), (j : Int) + (t : Int)) := by rw [dr j hj, List.map_map]; rfl
      rw [em] at a1
      have fl : ((List.range j).flatMap fun a => (List.range (7 - a)).map fun t : Nat => ((a : Int), (a : Int) + (t : Int))).length ≤ 49 := by
        have : ∀ j : Nat, j < 8 → ((List.range j).flatMap fun a => (List.range (7 - a)).map fun t : Nat => ((a : Int), (a : Int) + (t : Int))).length ≤ 49 := by decide
        exact this j (by omega)
      have ex := ext_last h ((List.range j).flatMap fun a => (List.range (7 - a)).map fun t : Nat => ((a : Int), (a : Int) + (t : Int))) ((List.range (7 - j)).map fun t : Nat => ((j : Int), (j : Int) + (t : Int))) (by rw [List.length_map, List.length_range]; omega)
      have il := isLs_last h (((List.range j).flatMap fun a => (List.range (7 - a)).map fun t : Nat => ((a : Int), (a : Int) + (t : Int))).map enc)
      refine ⟨[some (.ref h.length), some (.int (j : Int)), none], [some (.ref h.length), some (.int (j : Int)), none], _, by simp, ?_, some (.int (j : Int)), rfl, rfl⟩
      rw [evSs_cons, evS_ex, evE_ext]
      simp only [evE_vr, List.getElem?_cons_succ, List.getElem?_cons_zero, vr_some, bind_ok, il, Bool.not_true, Bool.false_eq_true, if_false, a1, ex, evSs_nil, List.range_succ, List.flatMap_append, List.flatMap_cons, List.flatMap_nil, List.append_nil])
  subst e2 e3
  refine run_made (rest := []) (ys := allB) (env := [some (.ref h.length), x1, none]) rfl ?_ hh fun H x => by
    show (mapO (frz H h.length 10) [enc x.1, enc x.2]).map D.tup = _
    rfl
  have s0 : evS (callE df ht W n) ht W (.as (.v 0) (.mk [])) [none, none, none] h = .ok (.nx, [some (.ref h.length), none, none]) (h ++ [.lst []]) := by simp
  show evSs (callE df ht W n) ht W b_all_bones [none, none, none] h = _
  unfold b_all_bones
  rw [ss_nx s0, ss_nx e1]
  simp
  rfl
theorem withB_lw (hl : Lw bs) (h19 : bs.length ≤ 19) {b : Bn} (hb : okB b = true) : Lw (withB bs b) := ⟨by rw [(withB_perm bs b).length_eq]; simp; omega, oks_with hl.ok hb⟩
theorem helping_in_ok (n : Nat) (hl : Lw bs) (h19 : bs.length ≤ 19) (hW : 20 ≤ W) (hh : h.all (obBelow h.length) = true) (rd : Bool) : callE df ht W (n + 7) 19 [enc bs, .bl rd] h = .ok (.lst ((helpL rd bs).map enc)) h := by
  rw [callE_eq (d := ⟨2, 4, false, b_helping_in⟩) rfl]
  refine run_rt (env := [some (enc bs), some (.bl rd), some (.int ((msF rd bs : Int) - 1)), none]) rfl ?_
  have m0 := missing_number_ok n hl hW hh (msF_ok rd bs)
  have al := all_bones_ok (W := W) (h := h) (n + 5) hh
  have a1 := lc_filI (c := callE df ht W (n + 6)) (ht := ht) (env := [some (enc bs), some (.bl rd), some (.int ((msF rd bs : Int) - 1)), none]) (h := h) (vs := [3]) (t := .v 3) (q := .cmp .eq (.call 16 [.call 10 [.var 0, .var 3], .var 1]) (.var 2)) (e := .var 3)
    (walks_lenc (e := .call 18 []) (xs := allB) (by simp [al]) (by rw [allB_len]; decide))
    (fun b => [some (enc bs), some (.bl rd), some (.int ((msF rd bs : Int) - 1)), some (enc b)]) (fun b => decide ((msF rd (bs ++ [b]) : Int) = (msF rd bs : Int) - 1)) (fun x hx => by simp) (fun b hb => by
      have hbk := (allB_ok b).mp hb
      have w := with_bone_ok (ht := ht) (W := W) (h := h) (n + 5) bs hl.len b
      have m1 := missing_number_ok n (withB_lw hl h19 hbk) hW hh (msF_ok rd (withB bs b))
      rw [msF_perm (withB_perm bs b)] at m1
      simp [w, m1]) (fun x hx _ => by simp)
  unfold helpL
  simp [b_helping_in, m0, a1]
theorem helping_ok (n : Nat) (hl : Lot bs) (hW : 20 ≤ W) (hh : h.all (obBelow h.length) = true) (rd : Bool) : callE df ht W (n + 8) 20 [enc bs, .bl rd] h = .ok (enc (helpL rd bs)) h := by
  have h8 := hl.len
  rw [callE_eq (d := ⟨2, 2, false, b_helping⟩) rfl]
  refine run_rt (env := [some (enc bs), some (.bl rd)]) rfl ?_
  simp [b_helping, check_lot_ok (n + 2) hl, isaD, tyOf, check_ok, helping_in_ok n hl.lw (by omega) hW hh rd]
open Classical in
theorem law_has_ok (n : Nat) (hl : Lw bs) (rd : Bool) : callE df ht W (n + 3) 30 [enc bs, .bl rd] h = .ok (.bl (decide (Has rd bs))) h := by
  rw [callE_eq (d := ⟨2, 2, false, b__law_has⟩) rfl]
  refine run_rt (env := [some (enc bs), some (.bl rd)]) rfl ?_
  obtain ⟨gs, p1, p2⟩ := law_pieces_ok (ht := ht) (W := W) (h := h) (n + 1) hl
  have o := law_odd_ok (ht := ht) (W := W) (h := h) n bs hl.len
  have ol : (oddL bs).length = On bs := rfl
  obtain ⟨gs', m⟩ := mi_ex bs
  have lg : gs.length = gs'.length := by rw [p1.uniq (mi_sorted m), (isort_perm gs').length_eq]
  have hh : Has rd bs ↔ gs.length < 2 ∧ On bs < (if rd then 1 else 3) := by
    rw [lg]
    exact ⟨fun ⟨gs2, m', q1, q2⟩ => ⟨by rw [(mi_perm2 m m').length_eq]; exact q1, q2⟩, fun ⟨q1, q2⟩ => ⟨gs', m, q1, q2⟩⟩
  have ll : biD .len h [.lst ((gs.map lsI).map enc)] = some (.int gs.length) := by rw [len_lenc, List.length_map]
  rw [show decide (Has rd bs) = decide (gs.length < 2 ∧ On bs < (if rd then 1 else 3)) from decide_eq_decide.mpr hh]
  by_cases c1 : gs.length < 2
  · cases rd with
    | true => simp [b__law_has, p2, ll, o, ol, c1, show (gs.length : Int) < 2 by omega, -List.map_map]; omega
    | false => simp [b__law_has, p2, ll, o, ol, c1, show (gs.length : Int) < 2 by omega, -List.map_map]; omega
  · simp [b__law_has, p2, ll, c1, show ¬ (gs.length : Int) < 2 by omega, -List.map_map]
open Classical in
theorem can_ok (n : Nat) (hl : Lw bs) (hW : 20 ≤ W) (hh : h.all (obBelow h.length) = true) (rd : Bool) : callE df ht W (n + 3) (if rd then 12 else 11) [enc bs] h = .ok (.bl (decide (Has rd bs))) h := by
  obtain ⟨gs, p1, p2⟩ := pieces_in_ok (ht := ht) (W := W) (h := h) n hl hW hh
  have o := odd_in_ok (ht := ht) (W := W) (h := h) n bs hl.len
  have ol : (oddL bs).length = On bs := rfl
  obtain ⟨gs', m⟩ := mi_ex bs
  have lg : gs.length = gs'.length := by rw [p1.uniq (mi_sorted m), (isort_perm gs').length_eq]
  have hH : Has rd bs ↔ gs.length < 2 ∧ On bs < (if rd then 1 else 3) := by
    rw [lg]
    exact ⟨fun ⟨gs2, m', q1, q2⟩ => ⟨by rw [(mi_perm2 m m').length_eq]; exact q1, q2⟩, fun ⟨q1, q2⟩ => ⟨gs', m, q1, q2⟩⟩
  rw [show decide (Has rd bs) = decide (gs.length < 2 ∧ On bs < (if rd then 1 else 3)) from decide_eq_decide.mpr hH]
  cases rd with
  | true =>
    show callE df ht W (n + 3) 12 [enc bs] h = _
    rw [callE_eq (d := ⟨1, 1, false, b_can_be_ring_in⟩) rfl]
    refine run_rt (env := [some (enc bs)]) rfl ?_
    by_cases c1 : gs.length ≤ 1
    · simp [b_can_be_ring_in, p2, o, ol, show (gs.length : Int) ≤ 1 by omega, show gs.length < 2 by omega]
    · simp [b_can_be_ring_in, p2, show ¬ (gs.length : Int) ≤ 1 by omega, show ¬ gs.length < 2 by omega]
  | false =>
    show callE df ht W (n + 3) 11 [enc bs] h = _
    rw [callE_eq (d := ⟨1, 1, false, b_can_be_row_in⟩) rfl]
    refine run_rt (env := [some (enc bs)]) rfl ?_
    by_cases c1 : gs.length ≤ 1
    · simp [b_can_be_row_in, p2, o, ol, show (gs.length : Int) ≤ 1 by omega, show gs.length < 2 by omega]; omega
    · simp [b_can_be_row_in, p2, show ¬ (gs.length : Int) ≤ 1 by omega, show ¬ gs.length < 2 by omega]
end
end Lk10

set_option Elab.async false
set_option linter.all false
set_option maxRecDepth 100000
set_option maxHeartbeats 2000000
set_option autoImplicit false
namespace Lk10
open PySem PySem.Spec PyProof.Rows L2 GxR Ev
open Ev.Enc (enc pd)
section
variable {W : Nat} {bs : List Bn} (ns : List Int) (i s r : Int)
theorem below_bn (k : Nat) (b : Bn) : below k (enc b) = true := rfl
theorem hp_below2 (f : List Bn) : (hp ns i s r ++ [Ob.lst (f.map enc)]).all (obBelow (hp ns i s r ++ [Ob.lst (f.map enc)]).length) = true := by
  have h1 := belowL_int 2 ns
  have h2 := belowL_map (k := 2) (below_bn 2) f
  simp [hp, obBelow, belowL, below, h1, h2]
theorem app_last (h : Oh) (xs : List Bn) (b : Bn) (hl : xs.length < 16777216) : appD (h ++ [.lst (xs.map enc)]) (.ref h.length) (enc b) = some (h ++ [.lst ((xs ++ [b]).map enc)]) := by
  unfold appD
  simp only [Ev.get_mid, List.length_map]
  rw [if_pos hl, Ev.set_mid, List.map_append]; rfl
theorem isa_bool (H : Oh) (b : Bool) : isaD [.bool] H (.bl b) = some true := rfl
theorem tup_ref (H : Oh) (n : Nat) : biD .tuple H [.ref n] = ((D.ref n).items H).map D.tup := rfl
theorem missing_ok (n : Nat) (hl : Lot bs) (hW : 20 ≤ W) (rd : Bool) : callE df ht W (n + 8) 21 [enc bs, .bl rd] (hp ns i s r) = .ok (enc (greedy rd (msF rd bs) bs)) (hp ns i s r) := by
  have h8 := hl.len
  rw [callE_eq (d := ⟨2, 5, false, b_missing⟩) rfl]
  have m10 := msF_le (rd := rd) hl.ok
  obtain ⟨env', h', e1, f, own, x4, e2, e3, e4⟩ := whl_inv (c := callE df ht W (n + 7)) (ht := ht) (W := W) (env := [some (enc bs), some (.bl rd), some (.ref (hp ns i s r).length), some (enc bs), none]) (h := hp ns i s r ++ [.lst []])
    (q := .cmp .gt (.call 16 [.var 3, .var 1]) (.cst (.int 0))) (b := [.as (.v 4) (.ix (.call 19 [.var 3, .var 1]) (.cst (.int 0))), .ex (.app (.var 2) (.var 4)), .as (.v 3) (.call 10 [.var 3, .var 4])])
    (fun k env H => ∃ f own x4, k = msF rd own ∧ Oks own ∧ own.length + msF rd own ≤ 18 ∧ f.length + msF rd own = msF rd bs ∧ f ++ greedy rd k own = greedy rd (msF rd bs) bs ∧ env = [some (enc bs), some (.bl rd), some (.ref (hp ns i s r).length), some (enc own), x4] ∧ H = hp ns i s r ++ [.lst (f.map enc)])
    (fun env H => ∃ f own x4, f = greedy rd (msF rd bs) bs ∧ env = [some (enc bs), some (.bl rd), some (.ref (hp ns i s r).length), some (enc own), x4] ∧ H = hp ns i s r ++ [.lst (f.map enc)])
    (msF rd bs) (by omega) ⟨[], bs, none, rfl, hl.ok, by omega, by simp, rfl, rfl, rfl⟩
    (fun k env H ⟨f, own, x4, hk, hok, hlen, hf, hg, e2, e3⟩ => by
      subst e2 e3 hk
      have hb2 := hp_below2 ns i s r f
      have lw : Lw own := ⟨by omega, hok⟩
      have mn := missing_number_ok (n + 1) lw hW hb2 (msF_ok rd own)
      have tst : evE (callE df ht W (n + 7)) ht (.cmp .gt (.call 16 [.var 3, .var 1]) (.cst (.int 0))) [some (enc bs), some (.bl rd), some (.ref (hp ns i s r).length), some (enc own), x4] (hp ns i s r ++ [.lst (f.map enc)]) = .ok (.bl (decide (0 < msF rd own))) (hp ns i s r ++ [.lst (f.map enc)]) := by
        simp [mn]
      rw [tst]
      by_cases c : 0 < msF rd own
      · right
        obtain ⟨b, l, eh, hb, hm⟩ := help_cons (rd := rd) hok c
        have hi := helping_in_ok n lw (by omega) hW hb2 rd
        rw [eh] at hi
        have ix := ix_l0 (hp ns i s r ++ [.lst (f.map enc)]) b l
        have ap := app_last (hp ns i s r) f b (by omega)
        have wb := with_bone_ok (ht := ht) (W := W) (h := hp ns i s r ++ [.lst ((f ++ [b]).map enc)]) (n + 6) own lw.len b
        have il := isLs_last (hp ns i s r) (f.map enc)
        have wl : (withB own b).length = own.length + 1 := by rw [(withB_perm own b).length_eq]; simp
        refine ⟨by simp [c], [some (enc bs), some (.bl rd), some (.ref (hp ns i s r).length), some (enc (withB own b)), some (enc b)], _, msF rd (withB own b), ?_, by omega, f ++ [b], withB own b, some (enc b), rfl, oks_with hok hb, by omega, by simp only [List.length_append, List.length_cons, List.length_nil]; omega, ?_, rfl, rfl⟩
        · rw [evSs_cons, evS_as, evE_ix, evE_call]
          simp only [evL_cons, evE_vr, List.getElem?_cons_succ, List.getElem?_cons_zero, vr_some, bind_ok, evL_nil, hi, evE_cst, ix, opt_some]
          simp only [bindT_v, List.length_cons, List.length_nil]
          simp [-List.map_append, -hp_len, il, ap, wb]
        · rw [← hg]
          obtain ⟨k, hk⟩ : ∃ k, msF rd own = k + 1 := ⟨msF rd own - 1, by omega⟩
          have e5 : greedy rd (msF rd own) own = b :: greedy rd k (withB own b) := by rw [hk, greedy, eh]
          rw [e5, show msF rd (withB own b) = k by omega]
          simp
      · left
        refine ⟨by simp [c], f, own, x4, ?_, rfl, rfl⟩
        rw [← hg, show msF rd own = 0 by omega]
        simp [greedy])
  subst e3 e4
  have gl : (greedy rd (msF rd bs) bs).length = msF rd bs := (greedy_facts rd _ bs hl.ok rfl).1
  rw [← e2]
  refine run_ext (env := [some (enc bs), some (.bl rd), some (.ref (hp ns i s r).length), some (enc own), x4]) (rest := [.lst (f.map enc)]) rfl ?_ (hp_below ns i s r) (below_list (below_bn _) _)
  have s1 : evS (callE df ht W (n + 7)) ht W (.ex (.call 5 [.var 0])) [some (enc bs), some (.bl rd), none, none, none] (hp ns i s r) = .ok (.nx, [some (enc bs), some (.bl rd), none, none, none]) (hp ns i s r) := by
    simp [check_lot_ok (n + 2) hl]
  have s2 : evS (callE df ht W (n + 7)) ht W (.ex (.call 1 [.isi [.bool] (.var 1), .cst (.str "is_round")])) [some (enc bs), some (.bl rd), none, none, none] (hp ns i s r) = .ok (.nx, [some (enc bs), some (.bl rd), none, none, none]) (hp ns i s r) := by
    simp [isaD, tyOf, check_ok]
  have s3 : evS (callE df ht W (n + 7)) ht W (.as (.t [.v 2, .v 3]) (.tup [.mk [], .var 0])) [some (enc bs), some (.bl rd), none, none, none] (hp ns i s r) = .ok (.nx, [some (enc bs), some (.bl rd), some (.ref (hp ns i s r).length), some (enc bs), none]) (hp ns i s r ++ [.lst []]) := by
    simp [-hp_len]
  have tu : biD .tuple (hp ns i s r ++ [.lst (f.map enc)]) [.ref (hp ns i s r).length] = some (enc f) := by
    rw [tup_ref, items_ref (Ev.get_mid _ _ _)]; rfl
  show evSs (callE df ht W (n + 7)) ht W b_missing [some (enc bs), some (.bl rd), none, none, none] (hp ns i s r) = _
  unfold b_missing
  rw [ss_nx s1, ss_nx s2, ss_nx s3, ss_nx e1]
  simp only [evSs_cons, evS_ret, evE_bi, evL_cons, evL_nil, evE_vr, List.getElem?_cons_succ, List.getElem?_cons_zero, vr_some, bind_ok, tu, opt_some]
end
section
variable {W : Nat} {h : Oh} {bs : List Bn}
open Classical in
theorem are_helping_ok (n : Nat) (hl : Lot bs) (hW : 20 ≤ W) (hh : h.all (obBelow h.length) = true) (rd : Bool) {vs : List Bn} (hv : Oks vs) (hs : vs.Pairwise fun a b => leE a b = true) (hlen : bs.length + vs.length ≤ 20) :
    callE df ht W (n + 6) 22 [enc bs, .bl rd, enc vs] h = .ok (.bl (decide (Has rd (isort leE (bs ++ vs))))) h := by
  rw [callE_eq (d := ⟨3, 7, false, b_are_helping⟩) rfl]
  refine run_rt (env := [some (enc bs), some (.bl rd), some (enc vs), none, none, none, some (enc (isort leE (bs ++ vs)))]) rfl ?_
  have lw : Lw (isort leE (bs ++ vs)) := ⟨by rw [(isort_perm _).length_eq, List.length_append]; exact hlen, fun b hb => by
    rcases List.mem_append.mp ((isort_perm _).mem_iff.mp hb) with q | q
    · exact hl.ok b q
    · exact hv b q⟩
  have a1 := al_all (c := callE df ht W (n + 5)) (ht := ht) (env := [some (enc bs), some (.bl rd), some (enc vs), none, none, none, none]) (h := h) (vs := [3]) (t := .v 3) (e := .call 3 [.var 3]) (walks_enc (e := .var 2) (xs := vs) (by simp) (by omega))
    (fun x => [some (enc bs), some (.bl rd), some (enc vs), some (enc x), none, none, none]) (fun _ => true) (fun x hx => by simp) (fun x hx => by simp [is_bone_ok (n + 2) x (hv x hx)])
  have e1 := sl_from_enc h vs 1
  have a2 := al_all (c := callE df ht W (n + 5)) (ht := ht) (env := [some (enc bs), some (.bl rd), some (enc vs), none, none, none, none]) (h := h) (vs := [4, 5]) (t := .t [.v 4, .v 5]) (e := .cmp .le (.var 4) (.var 5)) (walks_zip (a := .var 2) (b := .sl (.var 2) [.cst (.int 1)] []) (xs := vs) (ys := vs.drop 1) (en := enc) (en' := enc) (by simp; rfl) (by
      simp only [evE_sl, evE_vr, List.getElem?_cons_succ, List.getElem?_cons_zero, vr_some, bind_ok, evL_cons, evE_cst, evL_nil, asI_one, asI_nil]
      erw [e1]; rfl) (by omega))
    (fun x => [some (enc bs), some (.bl rd), some (enc vs), none, some (enc x.1), some (enc x.2), none]) (fun p => leE p.1 p.2) (fun x hx => by simp) (fun x hx => by simp [cmp_le])
  rw [chain_all hs] at a2
  rw [List.all_eq_true.mpr (fun _ _ => rfl)] at a1
  have ad := add_enc h bs vs (by omega)
  have so := sorted_enc (α := Bn) (by simp) (h := h) (s := enc (bs ++ vs)) (xs := bs ++ vs) rfl (soB_pair _) (by rw [List.length_append]; omega)
  have ca := can_ok (n + 2) lw hW hh rd
  cases rd with
  | true =>
    have ca' : callE df ht W (n + 2 + 3) 12 [enc (isort leE (bs ++ vs))] h = _ := ca
    simp [b_are_helping, check_lot_ok n hl, isa_bool, check_ok, a1, a2, ad, so, ca']
  | false =>
    have ca' : callE df ht W (n + 2 + 3) 11 [enc (isort leE (bs ++ vs))] h = _ := ca
    simp [b_are_helping, check_lot_ok n hl, isa_bool, check_ok, a1, a2, ad, so, ca']
end
end Lk10

set_option Elab.async false
set_option linter.all false
set_option maxRecDepth 100000
set_option maxHeartbeats 2000000
set_option autoImplicit false
namespace Lk10
open PySem PySem.Spec PyProof.Rows L2 GxR Ev
open Ev.Enc (enc pd)
/-! ### what the law tries -/
section
variable (rd : Bool) (bs : List Bn)
open Classical in
noncomputable def T1 : List (List Bn) := (allB.filter fun b => decide (Has rd (isort leE (bs ++ [b])))).map fun b => [b]
open Classical in
noncomputable def T2k (k : Nat) : List (List Bn) := ((allB.drop k).filter fun c => decide (Has rd (isort leE (bs ++ [allB.getD k (0, 0), c])))).map fun c => [allB.getD k (0, 0), c]
noncomputable def T2 : List (List Bn) := (List.range 28).flatMap (T2k rd bs)
open Classical in
noncomputable def triedL : List (List Bn) := if Has rd bs then [[]] else if T1 rd bs = [] then T2 rd bs else T1 rd bs
end
section
variable {rd : Bool} {bs : List Bn}
theorem has_iff {cs : List Bn} (hok : Oks cs) : Has rd (isort leE cs) ↔ msF rd cs = 0 := by
  rw [← msF_has (rd := rd) (bs := isort leE cs) fun b hb => hok b ((isort_perm cs).mem_iff.mp hb), msF_perm (isort_perm cs)]
theorem T1_eq (hok : Oks bs) : T1 rd bs = (allB.filter fun b => decide (msF rd (bs ++ [b]) = 0)).map fun b => [b] := by
  unfold T1
  congr 1
  refine List.filter_congr fun b hb => decide_eq_decide.mpr ?_
  exact has_iff (oks_snoc hok ((allB_ok b).mp hb))
theorem getD_ok {k : Nat} (hk : k < 28) : okB (allB.getD k (0, 0)) = true := by
  have hl : k < allB.length := by rw [allB_len]; exact hk
  rw [List.getD_eq_getElem?_getD, List.getElem?_eq_getElem hl]
  exact (allB_ok _).mp (List.getElem_mem hl)
theorem T2k_eq (hok : Oks bs) {k : Nat} (hk : k < 28) : T2k rd bs k = ((allB.drop k).filter fun c => decide (msF rd (bs ++ [allB.getD k (0, 0)] ++ [c]) = 0)).map fun c => [allB.getD k (0, 0), c] := by
  unfold T2k
  congr 1
  refine List.filter_congr fun c hc => decide_eq_decide.mpr ?_
  have hcb := (allB_ok c).mp (List.mem_of_mem_drop hc)
  have e : bs ++ [allB.getD k (0, 0), c] = bs ++ [allB.getD k (0, 0)] ++ [c] := by simp
  rw [e]
  exact has_iff (oks_snoc (oks_snoc hok (getD_ok hk)) hcb)
/-- helpers of what the first helper made stand behind it -/
theorem help_after (hok : Oks bs) {b : Bn} {l : List Bn} (e : helpL rd bs = b :: l) (h2 : 2 ≤ msF rd bs) {d : Bn} (hd : d ∈ helpL rd (withB bs b)) : leE b d = true := by
  have hbm : b ∈ helpL rd bs := by rw [e]; simp
  obtain ⟨hb, hm⟩ := mem_help.mp hbm
  obtain ⟨hdk, hdm⟩ := mem_help.mp hd
  have s1 := msF_step (rd := rd) hok hdk
  have s2 := msF_step (rd := rd) (oks_snoc hok hdk) hb
  have pe : msF rd (bs ++ [d] ++ [b]) = msF rd (withB bs b ++ [d]) := msF_perm (by
    refine List.Perm.trans ?_ ((withB_perm bs b).append_right [d]).symm
    simp only [List.append_assoc]
    exact List.Perm.append_left bs (List.Perm.swap _ _ _))
  have pw := msF_perm (rd := rd) (withB_perm bs b)
  have hdm2 : d ∈ helpL rd bs := mem_help.mpr ⟨hdk, by omega⟩
  rw [e] at hdm2
  have hs := help_srt rd bs
  rw [e] at hs
  rcases List.mem_cons.mp hdm2 with q | q
  · rw [q]; exact leE_refl b
  · exact ((ltE_iff b d).mp ((List.pairwise_cons.mp hs).1 d q)).1
theorem pw_at {α : Type} {R : α → α → Prop} {l : List α} (h : l.Pairwise R) {i k : Nat} {a b : α} (hi : l[i]? = some a) (hk : l[k]? = some b) (hik : i < k) : R a b := by
  obtain ⟨p1, e1⟩ := List.getElem?_eq_some_iff.mp hi
  obtain ⟨p2, e2⟩ := List.getElem?_eq_some_iff.mp hk
  have := List.pairwise_iff_getElem.mp h i k p1 p2 hik
  rwa [e1, e2] at this
theorem flat_head {α : Type} (f : Nat → List α) (n k : Nat) (hk : k < n) (h0 : ∀ i, i < k → f i = []) {x : α} {l : List α} (hx : f k = x :: l) : ∃ l', (List.range n).flatMap f = x :: l' := by
  obtain ⟨m, rfl⟩ : ∃ m, n = k + 1 + m := ⟨n - (k + 1), by omega⟩
  rw [List.range_add, List.flatMap_append, List.range_succ, List.flatMap_append, List.flatMap_singleton, hx]
  have : (List.range k).flatMap f = [] := by
    rw [List.flatMap_eq_nil_iff]
    intro i hi
    exact h0 i (List.mem_range.mp hi)
  rw [this]
  exact ⟨_, by simp only [List.nil_append, List.cons_append]; rfl⟩
theorem tried_ok (hok : Oks bs) : (triedL rd bs = [] ∧ 3 ≤ msF rd bs) ∨ ∃ l, triedL rd bs = greedy rd (msF rd bs) bs :: l := by
  unfold triedL
  by_cases h0 : Has rd bs
  · right
    rw [if_pos h0, (msF_has hok).mpr h0]
    exact ⟨[], rfl⟩
  · rw [if_neg h0]
    have hM : 0 < msF rd bs := Nat.pos_of_ne_zero fun z => h0 ((msF_has hok).mp z)
    obtain ⟨b, l, e, hb, hm⟩ := help_cons (rd := rd) hok hM
    by_cases h1 : msF rd bs = 1
    · have eT : T1 rd bs = (helpL rd bs).map fun b => [b] := by
        rw [T1_eq hok]
        unfold helpL
        congr 1
        refine List.filter_congr fun c _ => decide_eq_decide.mpr ?_
        omega
      rw [e] at eT
      right
      rw [if_neg (by rw [eT]; simp), eT, h1]
      have : greedy rd 1 bs = [b] := by rw [greedy, e]; rfl
      rw [this]
      exact ⟨_, rfl⟩
    · have nT : T1 rd bs = [] := by
        rw [T1_eq hok, List.map_eq_nil_iff, List.filter_eq_nil_iff]
        intro c hc
        have := msF_step (rd := rd) hok ((allB_ok c).mp hc)
        simp only [decide_eq_true_eq]; omega
      rw [if_pos nT]
      by_cases h2 : msF rd bs = 2
      · right
        have hbm : b ∈ allB := (allB_ok b).mpr hb
        obtain ⟨k, ek⟩ := List.mem_iff_getElem?.mp hbm
        have hk : k < allB.length := (List.getElem?_eq_some_iff.mp ek).1
        have hk28 : k < 28 := by rw [← allB_len]; exact hk
        have gk : allB.getD k (0, 0) = b := by rw [List.getD_eq_getElem?_getD, ek]; rfl
        have before : ∀ i, i < k → T2k rd bs i = [] := by
          intro i hi
          have hi28 : i < 28 := by omega
          have hil : i < allB.length := by rw [allB_len]; exact hi28
          rw [T2k_eq hok hi28, List.map_eq_nil_iff, List.filter_eq_nil_iff]
          intro c hc
          have oi := getD_ok hi28
          have gi : allB[i]? = some (allB.getD i (0, 0)) := by rw [List.getD_eq_getElem?_getD, List.getElem?_eq_getElem hil]; rfl
          have s1 := msF_step (rd := rd) hok oi
          have s2 := msF_step (rd := rd) (oks_snoc hok oi) ((allB_ok c).mp (List.mem_of_mem_drop hc))
          have notH : allB.getD i (0, 0) ∉ helpL rd bs := fun z => by
            rw [e] at z
            have hs := help_srt rd bs
            rw [e] at hs
            have lt := pw_at allB_srt gi ek hi
            rcases List.mem_cons.mp z with q | q
            · rw [q] at lt; exact ltE_asy _ _ lt lt
            · exact ltE_asy _ _ lt ((List.pairwise_cons.mp hs).1 _ q)
          have : ¬ msF rd (bs ++ [allB.getD i (0, 0)]) + 1 = msF rd bs := fun z => notH (mem_help.mpr ⟨oi, z⟩)
          simp only [decide_eq_true_eq]; omega
        obtain ⟨c, l2, e2, hc, hm2⟩ := help_cons (rd := rd) (oks_with hok hb) (show 0 < msF rd (withB bs b) by omega)
        have eq2 : allB.filter (fun c => decide (msF rd (bs ++ [b] ++ [c]) = 0)) = helpL rd (withB bs b) := by
          unfold helpL
          refine List.filter_congr fun d _ => decide_eq_decide.mpr ?_
          rw [msF_perm (rd := rd) ((withB_perm bs b).append_right [d])]
          omega
        have blk : (allB.drop k).filter (fun c => decide (msF rd (bs ++ [b] ++ [c]) = 0)) = helpL rd (withB bs b) := by
          rw [← eq2]
          have sp : allB.filter (fun c => decide (msF rd (bs ++ [b] ++ [c]) = 0)) = (allB.take k).filter (fun c => decide (msF rd (bs ++ [b] ++ [c]) = 0)) ++ (allB.drop k).filter (fun c => decide (msF rd (bs ++ [b] ++ [c]) = 0)) := by
            rw [← List.filter_append, List.take_append_drop]
          have nil : (allB.take k).filter (fun c => decide (msF rd (bs ++ [b] ++ [c]) = 0)) = [] := by
            rw [List.filter_eq_nil_iff]
            intro d hd q
            have hdm : d ∈ allB.filter (fun c => decide (msF rd (bs ++ [b] ++ [c]) = 0)) := List.mem_filter.mpr ⟨List.mem_of_mem_take hd, q⟩
            rw [eq2] at hdm
            have le := help_after hok e (by omega) hdm
            obtain ⟨j, ej⟩ := List.mem_iff_getElem?.mp hd
            have hjk : j < k := by have := (List.getElem?_eq_some_iff.mp ej).1; rw [List.length_take] at this; omega
            rw [List.getElem?_take, if_pos hjk] at ej
            obtain ⟨p1, p2⟩ := (ltE_iff d b).mp (pw_at allB_srt ej ek hjk)
            exact p2 (leE_anti d b p1 le)
          rw [sp, nil, List.nil_append]
        have hk' : T2k rd bs k = [b, c] :: l2.map fun c => [b, c] := by
          rw [T2k_eq hok hk28, gk, blk, e2]; rfl
        obtain ⟨l', hl'⟩ := flat_head (T2k rd bs) 28 k hk28 before hk'
        have g2 : greedy rd (msF rd bs) bs = [b, c] := by
          rw [h2, greedy, e]
          simp only
          rw [greedy, e2]
          rfl
        refine ⟨l', ?_⟩
        rw [g2]; exact hl'
      · left
        refine ⟨?_, by omega⟩
        unfold T2
        rw [List.flatMap_eq_nil_iff]
        intro k hk
        have hk28 := List.mem_range.mp hk
        rw [T2k_eq hok hk28, List.map_eq_nil_iff, List.filter_eq_nil_iff]
        intro c hc
        have s1 := msF_step (rd := rd) hok (getD_ok hk28)
        have s2 := msF_step (rd := rd) (oks_snoc hok (getD_ok hk28)) ((allB_ok c).mp (List.mem_of_mem_drop hc))
        simp only [decide_eq_true_eq]; omega
end
end Lk10

set_option Elab.async false
set_option linter.all false
set_option maxRecDepth 100000
set_option maxHeartbeats 2000000
set_option autoImplicit false
namespace Lk10
open PySem PySem.Spec PyProof.Rows L2 GxR Ev
open Ev.Enc (enc pd)
/-! ### the law's own body -/
theorem ls_enc {α : Type} [Enc α] (xs : List α) : (D.lst (xs.map enc)) = enc (Ls.mk xs) := rfl
theorem cmp_eq_nil {α : Type} [Enc α] [DecidableEq α] (hk : Enc.dep α ≤ 11) (h : Oh) (xs : List α) : cmpD h .eq (.lst (xs.map enc)) (.lst []) = some (decide (xs = [])) := by
  have e : (D.lst []) = enc (Ls.mk ([] : List α)) := rfl
  rw [ls_enc, e, cmp_eq (by rw [dep_ls]; omega)]
  congr 1
  exact decide_eq_decide.mpr ⟨fun q => by cases q; rfl, fun q => by rw [q]⟩
theorem cmp_ne_nil {α : Type} [Enc α] [DecidableEq α] (hk : Enc.dep α ≤ 11) (h : Oh) (xs : List α) : cmpD h .ne (.lst (xs.map enc)) (.lst []) = some (!decide (xs = [])) := by
  have e : (D.lst []) = enc (Ls.mk ([] : List α)) := rfl
  rw [ls_enc, e, cmp_ne (by rw [dep_ls]; omega)]
  congr 2
  exact decide_eq_decide.mpr ⟨fun q => by cases q; rfl, fun q => by rw [q]⟩
theorem oks_app {bs cs : List Bn} (h : Oks bs) (g : Oks cs) : Oks (bs ++ cs) := fun b hb => (List.mem_append.mp hb).elim (h b) (g b)
theorem lw_sorted {bs : List Bn} (hok : Oks bs) (hl : bs.length ≤ 20) : Lw (isort leE bs) := ⟨by rw [(isort_perm bs).length_eq]; exact hl, fun b hb => hok b ((isort_perm bs).mem_iff.mp hb)⟩
theorem lot_sorted {bs : List Bn} (hok : Oks bs) (hl : bs.length ≤ 8) : Lot (isort leE bs) := ⟨by rw [(isort_perm bs).length_eq]; exact hl, fun b hb => hok b ((isort_perm bs).mem_iff.mp hb), isort_pw bs⟩
section
variable {W : Nat} {h : Oh} {bs : List Bn}
variable (x0 x1 x2 x3 x4 x5 x6 x7 x8 x9 x10 x11 x12 x13 x14 x15 x16 x17 x18 : Option D)
theorem u3 (n : Nat) : ∃ y5, evS (callE df ht W n) ht W (.lop (.v 5) (.rng1 (.cst (.int 7))) [.as (.v 4) (.bin .add (.var 4) (.lc (.v 6) (.rng2 (.var 5) (.cst (.int 7))) [] [6] (.tup [.var 5, .var 6])))]) [x0, x1, x2, x3, some (.lst []), x5, x6, x7, x8, x9, x10, x11, x12, x13, x14, x15, x16, x17, x18] h = .ok (.nx, [x0, x1, x2, x3, some (.lst (allB.map enc)), y5, x6, x7, x8, x9, x10, x11, x12, x13, x14, x15, x16, x17, x18]) h := by
  obtain ⟨env', h', e1, y5, e2, e3⟩ := lop_inv (c := callE df ht W n) (ht := ht) (W := W) (env := [x0, x1, x2, x3, some (.lst []), x5, x6, x7, x8, x9, x10, x11, x12, x13, x14, x15, x16, x17, x18]) (h := h) (t := .v 5)
    (walks_rng1 (e := .cst (.int 7)) (k := 7) (by simp) (by decide))
    [.as (.v 4) (.bin .add (.var 4) (.lc (.v 6) (.rng2 (.var 5) (.cst (.int 7))) [] [6] (.tup [.var 5, .var 6])))]
    (fun j env H => ∃ y5, env = [x0, x1, x2, x3, some (.lst (((List.range j).flatMap fun a => (List.range (7 - a)).map fun t : Nat => ((a : Int), (a : Int) + (t : Int))).map enc)), y5, x6, x7, x8, x9, x10, x11, x12, x13, x14, x15, x16, x17, x18] ∧ H = h)
    ⟨x5, rfl, rfl⟩
    (fun j env H _ => now_rng)
    (fun j env H x hx ⟨y5, f1, f2⟩ => by
      subst f1
      rw [f2]
      have hj : j < 7 := by have := (List.getElem?_eq_some_iff.mp hx).1; rwa [List.length_range] at this
      have ex : x = j := by rw [List.getElem?_range hj] at hx; exact (Option.some.inj hx).symm
      subst ex
      have a1 := lc_mapE (c := callE df ht W n) (ht := ht) (env := [x0, x1, x2, x3, some (.lst (((List.range x).flatMap fun a => (List.range (7 - a)).map fun t : Nat => ((a : Int), (a : Int) + (t : Int))).map enc)), some (.int (x : Int)), x6, x7, x8, x9, x10, x11, x12, x13, x14, x15, x16, x17, x18]) (h := h) (vs := [6]) (t := .v 6) (e := .tup [.var 5, .var 6])
        (walks_rng2 (a := .var 5) (b := .cst (.int 7)) (i := (x : Int)) (j := 7) (by simp) (by simp) (by omega) (by omega) (by decide) (by decide))
        (fun t => [x0, x1, x2, x3, some (.lst (((List.range x).flatMap fun a => (List.range (7 - a)).map fun t : Nat => ((a : Int), (a : Int) + (t : Int))).map enc)), some (.int (x : Int)), some (.int ((x : Int) + (t : Int))), x7, x8, x9, x10, x11, x12, x13, x14, x15, x16, x17, x18]) (fun t : Nat => ((x : Int), (x : Int) + (t : Int))) (fun y hy => by simp) (fun y hy => by simp [enc_pair])
      rw [show (7 - (x : Int)).toNat = 7 - x by omega] at a1
      have fl : ((List.range x).flatMap fun a => (List.range (7 - a)).map fun t : Nat => ((a : Int), (a : Int) + (t : Int))).length ≤ 49 := by
        have : ∀ j : Nat, j < 8 → ((List.range j).flatMap fun a => (List.range (7 - a)).map fun t : Nat => ((a : Int), (a : Int) + (t : Int))).length ≤ 49 := by decide
        exact this x (by omega)
      have ad := add_lenc h ((List.range x).flatMap fun a => (List.range (7 - a)).map fun t : Nat => ((a : Int), (a : Int) + (t : Int))) ((List.range (7 - x)).map fun t : Nat => ((x : Int), (x : Int) + (t : Int))) (by rw [List.length_map, List.length_range]; omega)
      refine ⟨[x0, x1, x2, x3, some (.lst (((List.range x).flatMap fun a => (List.range (7 - a)).map fun t : Nat => ((a : Int), (a : Int) + (t : Int))).map enc)), some (.int (x : Int)), x6, x7, x8, x9, x10, x11, x12, x13, x14, x15, x16, x17, x18], [x0, x1, x2, x3, some (.lst (((List.range (x + 1)).flatMap fun a => (List.range (7 - a)).map fun t : Nat => ((a : Int), (a : Int) + (t : Int))).map enc)), some (.int (x : Int)), x6, x7, x8, x9, x10, x11, x12, x13, x14, x15, x16, x17, x18], h, by simp, ?_, some (.int (x : Int)), rfl, rfl⟩
      rw [evSs_cons, evS_as, evE_bin]
      simp only [evE_vr, List.getElem?_cons_succ, List.getElem?_cons_zero, vr_some, bind_ok, a1, ad, opt_some, List.range_succ, List.flatMap_append, List.flatMap_cons, List.flatMap_nil, List.append_nil]
      simp [-List.map_append])
  subst e2
  rw [e3] at e1
  exact ⟨y5, e1⟩
open Classical in
noncomputable def t1L (rd : Bool) (bs : List Bn) : List (List Bn) := if Has rd bs then [[]] else T1 rd bs
open Classical in
theorem u4 (n : Nat) (hl : Lot bs) (rd : Bool) : evS (callE df ht W (n + 3)) ht W (.as (.v 7) (.ite (.call 30 [.var 2, .var 3]) (.lst [.tup []]) (.lc (.v 8) (.seq (.var 4)) [.call 30 [.bi .tuple [.bi .sorted [.bin .add (.var 2) (.tup [.var 8])]], .var 3]] [8] (.tup [.var 8])))) [x0, x1, some (enc bs), some (.bl rd), some (.lst (allB.map enc)), x5, x6, x7, x8, x9, x10, x11, x12, x13, x14, x15, x16, x17, x18] h = .ok (.nx, [x0, x1, some (enc bs), some (.bl rd), some (.lst (allB.map enc)), x5, x6, some (.lst ((t1L rd bs).map enc)), x8, x9, x10, x11, x12, x13, x14, x15, x16, x17, x18]) h := by
  have h8 := hl.len
  have l0 := law_has_ok (W := W) (h := h) n hl.lw rd
  have a1 := lc_filE (c := callE df ht W (n + 3)) (ht := ht) (env := [x0, x1, some (enc bs), some (.bl rd), some (.lst (allB.map enc)), x5, x6, x7, x8, x9, x10, x11, x12, x13, x14, x15, x16, x17, x18]) (h := h) (vs := [8]) (t := .v 8) (q := .call 30 [.bi .tuple [.bi .sorted [.bin .add (.var 2) (.tup [.var 8])]], .var 3]) (e := .tup [.var 8])
    (walks_lenc (e := .var 4) (xs := allB) (by simp) (by rw [allB_len]; decide))
    (fun b => [x0, x1, some (enc bs), some (.bl rd), some (.lst (allB.map enc)), x5, x6, x7, some (enc b), x9, x10, x11, x12, x13, x14, x15, x16, x17, x18]) (fun b => decide (Has rd (isort leE (bs ++ [b])))) (fun b => [b]) (fun x hx => by simp) (fun b hb => by
      have hbk := (allB_ok b).mp hb
      have ad : binD h .add (enc bs) (.tup [enc b]) = some (enc (bs ++ [b])) := add_enc h bs [b] (by simp only [List.length_cons, List.length_nil]; omega)
      have so := sorted_enc (α := Bn) (by simp) (h := h) (s := enc (bs ++ [b])) (xs := bs ++ [b]) rfl (soB_pair _) (by rw [List.length_append]; simp only [List.length_cons, List.length_nil]; omega)
      have lh := law_has_ok (W := W) (h := h) n (lw_sorted (oks_snoc hl.ok hbk) (by rw [List.length_append]; simp only [List.length_cons, List.length_nil]; omega)) rd
      simp [ad, so, lh]) (fun x hx _ => by simp [enc_list])
  rw [evS_as, evE_ite]
  simp only [evE_call, evL_cons, evE_vr, List.getElem?_cons_succ, List.getElem?_cons_zero, vr_some, bind_ok, evL_nil, l0, asB_bl, a1]
  unfold t1L
  by_cases c : Has rd bs
  · simp [c, enc_list]
  · simp [c, T1]
theorem flat_len2 {α : Type} (f : Nat → List α) (k : Nat) (hf : ∀ i, (f i).length ≤ k) : ∀ n, ((List.range n).flatMap f).length ≤ n * k
  | 0 => by simp
  | n + 1 => by
    rw [List.range_succ, List.flatMap_append, List.length_append, List.flatMap_singleton, Nat.succ_mul]
    exact Nat.add_le_add (flat_len2 f k hf n) (hf n)
theorem T2k_len (rd : Bool) (bs : List Bn) (k : Nat) : (T2k rd bs k).length ≤ 28 := by
  unfold T2k
  rw [List.length_map]
  refine Nat.le_trans (List.length_filter_le _ _) ?_
  rw [List.length_drop, allB_len]; omega
theorem triedL_eq (rd : Bool) (bs : List Bn) : triedL rd bs = if t1L rd bs = [] then T2 rd bs else t1L rd bs := by
  unfold triedL t1L
  by_cases c : Has rd bs
  · simp [c]
  · simp only [c, if_false]
def b2l : Ev.St := .lop (.v 9) (.rng1 (.bi .len [.var 4])) [.as (.v 7) (.bin .add (.var 7) (.lc (.v 8) (.seq (.sl (.var 4) [.var 9] [])) [.call 30 [.bi .tuple [.bi .sorted [.bin .add (.var 2) (.tup [.ix (.var 4) (.var 9), .var 8])]], .var 3]] [8] (.tup [.ix (.var 4) (.var 9), .var 8])))]
open Classical in
theorem u5a (n : Nat) (hl : Lot bs) (rd : Bool) : ∃ y9, evS (callE df ht W (n + 3)) ht W b2l [x0, x1, some (enc bs), some (.bl rd), some (.lst (allB.map enc)), x5, x6, some (.lst []), x8, x9, x10, x11, x12, x13, x14, x15, x16, x17, x18] h = .ok (.nx, [x0, x1, some (enc bs), some (.bl rd), some (.lst (allB.map enc)), x5, x6, some (.lst ((T2 rd bs).map enc)), x8, y9, x10, x11, x12, x13, x14, x15, x16, x17, x18]) h := by
  have h8 := hl.len
  obtain ⟨env', h', e1, y9, e2, e3⟩ := lop_inv (c := callE df ht W (n + 3)) (ht := ht) (W := W) (env := [x0, x1, some (enc bs), some (.bl rd), some (.lst (allB.map enc)), x5, x6, some (.lst []), x8, x9, x10, x11, x12, x13, x14, x15, x16, x17, x18]) (h := h) (t := .v 9)
    (walks_rng1 (e := .bi .len [.var 4]) (k := 28) (by simp [allB_len]) (by decide))
    [.as (.v 7) (.bin .add (.var 7) (.lc (.v 8) (.seq (.sl (.var 4) [.var 9] [])) [.call 30 [.bi .tuple [.bi .sorted [.bin .add (.var 2) (.tup [.ix (.var 4) (.var 9), .var 8])]], .var 3]] [8] (.tup [.ix (.var 4) (.var 9), .var 8])))]
    (fun j env H => ∃ y9, env = [x0, x1, some (enc bs), some (.bl rd), some (.lst (allB.map enc)), x5, x6, some (.lst (((List.range j).flatMap (T2k rd bs)).map enc)), x8, y9, x10, x11, x12, x13, x14, x15, x16, x17, x18] ∧ H = h)
    ⟨x9, rfl, rfl⟩
    (fun j env H _ => now_rng)
    (fun j env H x hx ⟨y9, f1, f2⟩ => by
      subst f1
      rw [f2]
      have hj : j < 28 := by have := (List.getElem?_eq_some_iff.mp hx).1; rwa [List.length_range] at this
      have ex : x = j := by rw [List.getElem?_range hj] at hx; exact (Option.some.inj hx).symm
      subst ex
      have gk : allB[x]? = some (allB.getD x (0, 0)) := by rw [List.getD_eq_getElem?_getD, List.getElem?_eq_getElem (by rw [allB_len]; exact hj)]; rfl
      have ok0 := getD_ok hj
      have ixe := ix_lnat h allB x _ gk
      have sle := sl_from_l h allB x
      have a1 := lc_filE (c := callE df ht W (n + 3)) (ht := ht) (env := [x0, x1, some (enc bs), some (.bl rd), some (.lst (allB.map enc)), x5, x6, some (.lst (((List.range x).flatMap (T2k rd bs)).map enc)), x8, some (.int (x : Int)), x10, x11, x12, x13, x14, x15, x16, x17, x18]) (h := h) (vs := [8]) (t := .v 8) (q := .call 30 [.bi .tuple [.bi .sorted [.bin .add (.var 2) (.tup [.ix (.var 4) (.var 9), .var 8])]], .var 3]) (e := .tup [.ix (.var 4) (.var 9), .var 8])
        (walks_lenc (e := .sl (.var 4) [.var 9] []) (xs := allB.drop x) (by
          simp only [evE_sl, evE_vr, List.getElem?_cons_succ, List.getElem?_cons_zero, vr_some, bind_ok, evL_cons, evL_nil, asI_one, asI_nil, sle, opt_some]) (by rw [List.length_drop, allB_len]; omega))
        (fun b => [x0, x1, some (enc bs), some (.bl rd), some (.lst (allB.map enc)), x5, x6, some (.lst (((List.range x).flatMap (T2k rd bs)).map enc)), some (enc b), some (.int (x : Int)), x10, x11, x12, x13, x14, x15, x16, x17, x18]) (fun c => decide (Has rd (isort leE (bs ++ [allB.getD x (0, 0), c])))) (fun c => [allB.getD x (0, 0), c]) (fun x hx => by simp) (fun c hc => by
          have hck := (allB_ok c).mp (List.mem_of_mem_drop hc)
          have ad : binD h .add (enc bs) (.tup [enc (allB.getD x (0, 0)), enc c]) = some (enc (bs ++ [allB.getD x (0, 0), c])) := add_enc h bs [allB.getD x (0, 0), c] (by simp only [List.length_cons, List.length_nil]; omega)
          have so := sorted_enc (α := Bn) (by simp) (h := h) (s := enc (bs ++ [allB.getD x (0, 0), c])) (xs := bs ++ [allB.getD x (0, 0), c]) rfl (soB_pair _) (by rw [List.length_append]; simp only [List.length_cons, List.length_nil]; omega)
          have lh := law_has_ok (W := W) (h := h) n (lw_sorted (oks_app hl.ok (by
            intro d hd
            simp only [List.mem_cons, List.not_mem_nil, or_false] at hd
            rcases hd with q | q
            · rw [q]; exact ok0
            · rw [q]; exact hck : Oks [allB.getD x (0, 0), c])) (by rw [List.length_append]; simp only [List.length_cons, List.length_nil]; omega)) rd
          simp only [evE_call, evL_cons, evE_bi, evE_bin, evE_tup, evE_ix, evE_vr, List.getElem?_cons_succ, List.getElem?_cons_zero, vr_some, bind_ok, evL_nil, ixe, opt_some, List.length_cons, List.length_nil]
          simp [ad, so, lh, -List.getD_eq_getElem?_getD]) (fun c hc _ => by
          simp only [evE_tup, evL_cons, evE_ix, evE_vr, List.getElem?_cons_succ, List.getElem?_cons_zero, vr_some, bind_ok, evL_nil, ixe, opt_some, List.length_cons, List.length_nil]
          simp [enc_list, -List.getD_eq_getElem?_getD])
      have fl := flat_len2 (T2k rd bs) 28 (T2k_len rd bs) x
      have fk := T2k_len rd bs x
      have ad := add_lenc h ((List.range x).flatMap (T2k rd bs)) (T2k rd bs x) (by omega)
      refine ⟨[x0, x1, some (enc bs), some (.bl rd), some (.lst (allB.map enc)), x5, x6, some (.lst (((List.range x).flatMap (T2k rd bs)).map enc)), x8, some (.int (x : Int)), x10, x11, x12, x13, x14, x15, x16, x17, x18], [x0, x1, some (enc bs), some (.bl rd), some (.lst (allB.map enc)), x5, x6, some (.lst (((List.range (x + 1)).flatMap (T2k rd bs)).map enc)), x8, some (.int (x : Int)), x10, x11, x12, x13, x14, x15, x16, x17, x18], h, by simp, ?_, some (.int (x : Int)), rfl, rfl⟩
      have a2 : evE (callE df ht W (n + 3)) ht _ _ h = .ok (.lst ((T2k rd bs x).map enc)) h := a1
      rw [evSs_cons, evS_as, evE_bin]
      simp only [evE_vr, List.getElem?_cons_succ, List.getElem?_cons_zero, vr_some, bind_ok, a2, ad, opt_some, List.range_succ, List.flatMap_append, List.flatMap_cons, List.flatMap_nil, List.append_nil]
      simp [-List.map_append])
  subst e2
  rw [e3] at e1
  exact ⟨y9, e1⟩
theorem u5 (n : Nat) (hl : Lot bs) (rd : Bool) : ∃ y9, evS (callE df ht W (n + 3)) ht W (.iff (.cmp .eq (.var 7) (.lst [])) [b2l] []) [x0, x1, some (enc bs), some (.bl rd), some (.lst (allB.map enc)), x5, x6, some (.lst ((t1L rd bs).map enc)), x8, x9, x10, x11, x12, x13, x14, x15, x16, x17, x18] h = .ok (.nx, [x0, x1, some (enc bs), some (.bl rd), some (.lst (allB.map enc)), x5, x6, some (.lst ((triedL rd bs).map enc)), x8, y9, x10, x11, x12, x13, x14, x15, x16, x17, x18]) h := by
  have ce := cmp_eq_nil (α := List Bn) (by simp) h (t1L rd bs)
  rw [triedL_eq]
  rw [evS_iff, evE_cmp]
  simp only [evE_vr, List.getElem?_cons_succ, List.getElem?_cons_zero, vr_some, bind_ok, evE_lst, evL_nil, List.length_nil, Nat.zero_le, if_true, cmpB_def, ce, Option.map_some, opt_some, asB_bl]
  by_cases c : t1L rd bs = []
  · obtain ⟨y9, e⟩ := u5a (W := W) (h := h) x0 x1 x5 x6 x8 x9 x10 x11 x12 x13 x14 x15 x16 x17 x18 n hl rd
    refine ⟨y9, ?_⟩
    rw [c]
    simp only [decide_true, if_true, List.map_nil, evSs_cons, e, bind_ok, evSs_nil]
  · refine ⟨x9, ?_⟩
    simp only [c, decide_false, if_false, Bool.false_eq_true, evSs_nil]
end
end Lk10

set_option Elab.async false
set_option linter.all false
set_option maxRecDepth 100000
set_option maxHeartbeats 2000000
set_option autoImplicit false
namespace Lk10
open PySem PySem.Spec PyProof.Rows L2 GxR Ev
open Ev.Enc (enc pd)
section
variable {W : Nat} {bs : List Bn} (ns : List Int) (i s r : Int)
variable (x0 x1 x2 x3 x4 x5 x6 x7 x8 x9 x10 x11 x12 x13 x14 x15 x16 x17 x18 : Option D)
theorem u6 (n : Nat) (hl : Lot bs) (hW : 20 ≤ W) (rd : Bool) : evS (callE df ht W (n + 7)) ht W (.as (.v 10) (.call 17 [.var 2, .var 3])) [x0, x1, some (enc bs), some (.bl rd), x4, x5, x6, x7, x8, x9, x10, x11, x12, x13, x14, x15, x16, x17, x18] (hp ns i s r) = .ok (.nx, [x0, x1, some (enc bs), some (.bl rd), x4, x5, x6, x7, x8, x9, some (.int (msF rd bs)), x11, x12, x13, x14, x15, x16, x17, x18]) (hp ns i s r) := by
  simp [fewest_ok (h := hp ns i s r) n hl hW (hp_below ns i s r) (msF_ok rd bs)]
theorem u7 (C : Nat → List D → Oh → Rs D) (h : Oh) (hl : Lot bs) (rd : Bool) : evS C ht W (.iff (.or (.and (.cmp .ne (.var 7) (.lst [])) (.cmp .ne (.var 10) (.bi .len [.ix (.var 7) (.cst (.int 0))]))) (.and (.cmp .eq (.var 7) (.lst [])) (.cmp .lt (.var 10) (.cst (.int 3))))) [.ret (.cst (.bl false))] []) [x0, x1, x2, x3, x4, x5, x6, some (.lst ((triedL rd bs).map enc)), x8, x9, some (.int (msF rd bs)), x11, x12, x13, x14, x15, x16, x17, x18] h = .ok (.nx, [x0, x1, x2, x3, x4, x5, x6, some (.lst ((triedL rd bs).map enc)), x8, x9, some (.int (msF rd bs)), x11, x12, x13, x14, x15, x16, x17, x18]) h := by
  have ce := cmp_eq_nil (α := List Bn) (by simp) h (triedL rd bs)
  have cn := cmp_ne_nil (α := List Bn) (by simp) h (triedL rd bs)
  have gl : (greedy rd (msF rd bs) bs).length = msF rd bs := (greedy_facts rd _ bs hl.ok rfl).1
  rcases tried_ok (rd := rd) hl.ok with ⟨e, h3⟩ | ⟨l, e⟩
  · rw [show decide (triedL rd bs = []) = true from decide_eq_true e] at ce cn
    simp [ce, cn, show ¬ (msF rd bs : Int) < 3 by omega]
  · have ix : ixD h (.lst ((triedL rd bs).map enc)) (.int 0) = some (enc (greedy rd (msF rd bs) bs)) := by rw [e]; exact ix_l0 h (greedy rd (msF rd bs) bs) l
    rw [show decide (triedL rd bs = []) = false from decide_eq_false (by rw [e]; simp)] at ce cn
    simp [ce, cn, ix, gl]
theorem u8 (n : Nat) (hl : Lot bs) (hW : 20 ≤ W) (rd : Bool) : evS (callE df ht W (n + 8)) ht W (.as (.v 11) (.call 21 [.var 2, .var 3])) [x0, x1, some (enc bs), some (.bl rd), x4, x5, x6, x7, x8, x9, x10, x11, x12, x13, x14, x15, x16, x17, x18] (hp ns i s r) = .ok (.nx, [x0, x1, some (enc bs), some (.bl rd), x4, x5, x6, x7, x8, x9, x10, some (enc (greedy rd (msF rd bs) bs)), x12, x13, x14, x15, x16, x17, x18]) (hp ns i s r) := by
  simp [missing_ok ns i s r n hl hW rd]
theorem u9 (n : Nat) (h : Oh) (hl : Lot bs) (rd : Bool) : evS (callE df ht W (n + 8)) ht W (.iff (.and (.cmp .ne (.var 7) (.lst [])) (.not (.call 31 [.var 11, .ix (.var 7) (.cst (.int 0))]))) [.ret (.cst (.bl false))] []) [x0, x1, x2, x3, x4, x5, x6, some (.lst ((triedL rd bs).map enc)), x8, x9, x10, some (enc (greedy rd (msF rd bs) bs)), x12, x13, x14, x15, x16, x17, x18] h = .ok (.nx, [x0, x1, x2, x3, x4, x5, x6, some (.lst ((triedL rd bs).map enc)), x8, x9, x10, some (enc (greedy rd (msF rd bs) bs)), x12, x13, x14, x15, x16, x17, x18]) h := by
  have cn := cmp_ne_nil (α := List Bn) (by simp) h (triedL rd bs)
  have gl : (greedy rd (msF rd bs) bs).length = msF rd bs := (greedy_facts rd _ bs hl.ok rfl).1
  have m10 := msF_le (rd := rd) hl.ok
  have al := alike_self (ht := ht) (W := W) (h := h) (n + 4) 4 (enc (greedy rd (msF rd bs) bs)) (sd_bones 1 _ (by omega))
  rcases tried_ok (rd := rd) hl.ok with ⟨e, h3⟩ | ⟨l, e⟩
  · rw [show decide (triedL rd bs = []) = true from decide_eq_true e] at cn
    simp [cn]
  · have ix : ixD h (.lst ((triedL rd bs).map enc)) (.int 0) = some (enc (greedy rd (msF rd bs) bs)) := by rw [e]; exact ix_l0 h (greedy rd (msF rd bs) bs) l
    rw [show decide (triedL rd bs = []) = false from decide_eq_false (by rw [e]; simp)] at cn
    simp [cn, ix, al]
theorem has_found (hl : Lot bs) (rd : Bool) : Has rd (isort leE (bs ++ greedy rd (msF rd bs) bs)) := by
  obtain ⟨g1, g2, g3⟩ := greedy_facts rd _ bs hl.ok rfl
  exact (has_iff (oks_app hl.ok g2)).mpr g3
open Classical in
theorem u10 (n : Nat) (hl : Lot bs) (hW : 20 ≤ W) (rd : Bool) : evS (callE df ht W (n + 8)) ht W (.iff (.or (.cmp .ne (.bi .len [.var 11]) (.var 10)) (.or (.not (.call 30 [.bi .tuple [.bi .sorted [.bin .add (.var 2) (.var 11)]], .var 3])) (.cmp .isnn (.call 22 [.var 2, .var 3, .var 11]) (.cst (.bl true))))) [.ret (.cst (.bl false))] []) [x0, x1, some (enc bs), some (.bl rd), x4, x5, x6, x7, x8, x9, some (.int (msF rd bs)), some (enc (greedy rd (msF rd bs) bs)), x12, x13, x14, x15, x16, x17, x18] (hp ns i s r) = .ok (.nx, [x0, x1, some (enc bs), some (.bl rd), x4, x5, x6, x7, x8, x9, some (.int (msF rd bs)), some (enc (greedy rd (msF rd bs) bs)), x12, x13, x14, x15, x16, x17, x18]) (hp ns i s r) := by
  have h8 := hl.len
  have m10 := msF_le (rd := rd) hl.ok
  obtain ⟨g1, g2, g3⟩ := greedy_facts rd _ bs hl.ok rfl
  have hf := has_found hl rd
  have l0 := law_has_ok (W := W) (h := hp ns i s r) (n + 5) (lw_sorted (oks_app hl.ok g2) (by rw [List.length_append]; omega)) rd
  have ah := are_helping_ok (W := W) (h := hp ns i s r) (n + 2) hl hW (hp_below ns i s r) rd g2 (greedy_srt rd _ bs hl.ok rfl).1 (by omega)
  simp only [hf, decide_true] at l0 ah
  have ad := add_enc (hp ns i s r) bs (greedy rd (msF rd bs) bs) (by omega)
  have so := sorted_enc (α := Bn) (by simp) (h := hp ns i s r) (s := enc (bs ++ greedy rd (msF rd bs) bs)) (xs := bs ++ greedy rd (msF rd bs) bs) rfl (soB_pair _) (by rw [List.length_append]; omega)
  have nn : ∀ h : Oh, cmpD h .isnn (.bl true) (.bl true) = some false := fun _ => rfl
  simp [g1, l0, ah, ad, so, nn]
theorem u11 (n : Nat) (hl : Lot bs) (h5 : bs.length ≤ 7) (hW : 20 ≤ W) (rd : Bool) : evS (callE df ht W (n + 7)) ht W (.as (.v 12) (.lc (.v 8) (.seq (.var 4)) [.cmp .eq (.call 17 [.bi .tuple [.bi .sorted [.bin .add (.var 2) (.tup [.var 8])]], .var 3]) (.bin .sub (.var 10) (.cst (.int 1)))] [8] (.var 8))) [x0, x1, some (enc bs), some (.bl rd), some (.lst (allB.map enc)), x5, x6, x7, x8, x9, some (.int (msF rd bs)), x11, x12, x13, x14, x15, x16, x17, x18] (hp ns i s r) = .ok (.nx, [x0, x1, some (enc bs), some (.bl rd), some (.lst (allB.map enc)), x5, x6, x7, x8, x9, some (.int (msF rd bs)), x11, some (.lst ((helpL rd bs).map enc)), x13, x14, x15, x16, x17, x18]) (hp ns i s r) := by
  have a1 := lc_filI (c := callE df ht W (n + 7)) (ht := ht) (env := [x0, x1, some (enc bs), some (.bl rd), some (.lst (allB.map enc)), x5, x6, x7, x8, x9, some (.int (msF rd bs)), x11, x12, x13, x14, x15, x16, x17, x18]) (h := hp ns i s r) (vs := [8]) (t := .v 8) (q := .cmp .eq (.call 17 [.bi .tuple [.bi .sorted [.bin .add (.var 2) (.tup [.var 8])]], .var 3]) (.bin .sub (.var 10) (.cst (.int 1)))) (e := .var 8)
    (walks_lenc (e := .var 4) (xs := allB) (by simp) (by rw [allB_len]; decide))
    (fun b => [x0, x1, some (enc bs), some (.bl rd), some (.lst (allB.map enc)), x5, x6, x7, some (enc b), x9, some (.int (msF rd bs)), x11, x12, x13, x14, x15, x16, x17, x18]) (fun b => decide ((msF rd (bs ++ [b]) : Int) = (msF rd bs : Int) - 1)) (fun x hx => by simp) (fun b hb => by
      have hbk := (allB_ok b).mp hb
      have ad : binD (hp ns i s r) .add (enc bs) (.tup [enc b]) = some (enc (bs ++ [b])) := add_enc (hp ns i s r) bs [b] (by simp only [List.length_cons, List.length_nil]; omega)
      have so := sorted_enc (α := Bn) (by simp) (h := hp ns i s r) (s := enc (bs ++ [b])) (xs := bs ++ [b]) rfl (soB_pair _) (by rw [List.length_append]; simp only [List.length_cons, List.length_nil]; omega)
      have lh := fewest_ok (W := W) (h := hp ns i s r) n (lot_sorted (oks_snoc hl.ok hbk) (by rw [List.length_append]; simp only [List.length_cons, List.length_nil]; omega)) hW (hp_below ns i s r) (msF_ok rd (isort leE (bs ++ [b])))
      rw [msF_perm (isort_perm (bs ++ [b]))] at lh
      simp [ad, so, lh]) (fun x hx _ => by simp)
  rw [evS_as, a1]
  unfold helpL
  simp
theorem u12 (n : Nat) (hl : Lot bs) (hW : 20 ≤ W) (rd : Bool) : evS (callE df ht W (n + 8)) ht W (.iff (.or (.not (.call 31 [.call 20 [.var 2, .var 3], .bi .tuple [.var 12]])) (.and (.cmp .gt (.var 10) (.cst (.int 0))) (.cmp .ne (.ix (.var 12) (.cst (.int 0))) (.ix (.var 11) (.cst (.int 0)))))) [.ret (.cst (.bl false))] []) [x0, x1, some (enc bs), some (.bl rd), x4, x5, x6, x7, x8, x9, some (.int (msF rd bs)), some (enc (greedy rd (msF rd bs) bs)), some (.lst ((helpL rd bs).map enc)), x13, x14, x15, x16, x17, x18] (hp ns i s r) = .ok (.nx, [x0, x1, some (enc bs), some (.bl rd), x4, x5, x6, x7, x8, x9, some (.int (msF rd bs)), some (enc (greedy rd (msF rd bs) bs)), some (.lst ((helpL rd bs).map enc)), x13, x14, x15, x16, x17, x18]) (hp ns i s r) := by
  have hlen : (helpL rd bs).length ≤ 28 := by rw [← allB_len]; exact List.length_filter_le _ _
  have al := alike_self (ht := ht) (W := W) (h := hp ns i s r) (n + 4) 4 (enc (helpL rd bs)) (sd_bones 1 _ (by omega))
  have hk := helping_ok (h := hp ns i s r) n hl hW (hp_below ns i s r) rd
  rw [evS_iff]
  simp only [evE_or, evE_and, evE_not, evE_call, evL_cons, evE_bi, evE_vr, List.getElem?_cons_succ, List.getElem?_cons_zero, vr_some, bind_ok, evL_nil, hk, tuple_enc, opt_some, al, asB_bl, Bool.not_true, Bool.false_eq_true, if_false]
  by_cases c : 0 < msF rd bs
  · obtain ⟨b, l, e, hb, hm⟩ := help_cons (rd := rd) hl.ok c
    have ix := ix_l0 (hp ns i s r) b l
    obtain ⟨k, hk2⟩ : ∃ k, msF rd bs = k + 1 := ⟨msF rd bs - 1, by omega⟩
    have eg : greedy rd (msF rd bs) bs = b :: greedy rd k (withB bs b) := by rw [hk2, greedy, e]
    have ix2 := ix_t0 (hp ns i s r) b (greedy rd k (withB bs b))
    have nn := cmp_ne (α := Bn) (by simp) (hp ns i s r) b b
    rw [eg, e]
    simp only [evE_or, evE_and, evE_not, evE_cmp, evE_ix, evE_vr, List.getElem?_cons_succ, List.getElem?_cons_zero, vr_some, bind_ok, evE_cst, ix, ix2, opt_some, cmpB_def, nn, Option.map_some, asB_bl, cmp_gt_int, decide_true, Bool.not_true]
    simp
  · simp [c]
end
end Lk10

set_option Elab.async false
set_option linter.all false
set_option maxRecDepth 100000
set_option maxHeartbeats 2000000
set_option autoImplicit false
namespace Lk10
open PySem PySem.Spec PyProof.Rows L2 GxR Ev
open Ev.Enc (enc pd)
/-! ### a list comprehension whose body draws -/
theorem lcGo_draw {α : Type} [Enc α] {body : D → Oh → Rs (Option D)} {w : Wk} {ds : List D} (hw : ∀ h, w.now h = some ds) (I : Oh → Prop) (P : α → Prop) (hb : ∀ d h, I h → ∃ (x : α) (h' : Oh), P x ∧ I h' ∧ body d h = .ok (some (enc x)) h') :
    ∀ (m i : Nat) (h : Oh), i + m = ds.length → I h → ∃ (xs : List α) (h' : Oh), xs.length = m ∧ (∀ x ∈ xs, P x) ∧ I h' ∧ lcGo body w m i h = .ok (xs.map enc) h'
  | 0, i, h, e, hi => ⟨[], h, rfl, by simp, hi, by unfold lcGo; rw [hw]; rfl⟩
  | m + 1, i, h, e, hi => by
    have hl : i < ds.length := by omega
    obtain ⟨x, h1, p1, p2, p3⟩ := hb ds[i] h hi
    obtain ⟨xs, h2, q1, q2, q3, q4⟩ := lcGo_draw hw I P hb m (i + 1) h1 (by omega) p2
    refine ⟨x :: xs, h2, by simp [q1], ?_, q3, ?_⟩
    · intro y hy
      rcases List.mem_cons.mp hy with z | z
      · rw [z]; exact p1
      · exact q2 y z
    · unfold lcGo
      rw [hw, Option.bind_some, List.getElem?_eq_getElem hl]
      simp only [p3, noX_rs, bind_ok, q4]
      rfl
section
variable {bs : List Bn} (ns : List Int) (i s r : Int)
variable (x0 x1 x2 x3 x4 x5 x6 x7 x8 x9 x10 x11 x12 x13 x14 x15 x16 x17 x18 : Option D)
theorem draw_ok (n : Nat) (hi : 0 ≤ i) (W : Nat) : ∃ (vs : List Bn) (i' s' r' : Int), 0 ≤ i' ∧ Oks vs ∧ vs.length ≤ 3 ∧
    evE (callE df ht W (n + 2)) ht (.lc (.v 9) (.rng1 (.call 23 [.var 1, .cst (.int 4)])) [] [9] (.call 26 [.var 1, .var 4])) [x0, some (.ref 0), x2, x3, some (.lst (allB.map enc)), x5, x6, x7, x8, x9, x10, x11, x12, x13, x14, x15, x16, x17, x18] (hp ns i s r) = .ok (.lst (vs.map enc)) (hp ns i' s' r') := by
  obtain ⟨k, i1, s1, r1, h1, k1, k2, e1⟩ := law_taken_ok (ht := ht) (W := W) (n + 1) ns i s r 4 hi (by decide) (by decide)
  obtain ⟨kn, rfl⟩ : ∃ kn : Nat, k = kn := ⟨k.toNat, by omega⟩
  have hw : ∀ h, (Wk.rng 0 kn).now h = some ((List.range kn).map fun i : Nat => D.int (i : Int)) := fun h => now_rng
  rw [evE, evI]
  simp only [evE_call, evL_cons, evE_vr, List.getElem?_cons_succ, List.getElem?_cons_zero, vr_some, bind_ok, evE_cst, evL_nil]
  rw [e1]
  simp only [bind_ok]
  rw [if_pos (by simp; omega)]
  simp only [bind_ok, Int.toNat_natCast]
  obtain ⟨vs, h', q1, q2, ⟨i2, s2, r2, hi2, q3⟩, q4⟩ := lcGo_draw (α := Bn) (body := fun d h2 => match bindT (.v 9) d (wipeE [x0, some (.ref 0), x2, x3, some (.lst (allB.map enc)), x5, x6, x7, x8, x9, x10, x11, x12, x13, x14, x15, x16, x17, x18] [9]) with
      | none => .bad
      | some e2 => (evC (callE df ht W (n + 2)) ht [] e2 h2).bind fun b h3 => if b then (evE (callE df ht W (n + 2)) ht (.call 26 [.var 1, .var 4]) e2 h3).bind fun v h4 => .ok (some v) h4 else .ok none h3) hw
    (fun H => ∃ i s r : Int, 0 ≤ i ∧ H = hp ns i s r) (fun b => okB b = true) (fun d H ⟨i, s, r, hi, e⟩ => by
      subst e
      obtain ⟨d2, i', s', r', g1, g2, g3⟩ := law_pick_ok (ht := ht) (W := W) n ns i s r (allB.map enc) hi (by
        intro q
        have := congrArg List.length q
        rw [List.length_map, allB_len] at this
        simp at this) (by rw [List.length_map, allB_len]; decide)
      obtain ⟨b, hb, rfl⟩ := List.mem_map.mp g2
      refine ⟨b, _, (allB_ok b).mp hb, ⟨i', s', r', g1, rfl⟩, ?_⟩
      simp only [wipeE_cons, wipeE_nil, bindT_v, List.length_set, List.length_cons, List.length_nil]
      simp [g3]) kn 0 (hp ns i1 s1 r1) (by simp) ⟨i1, s1, r1, h1, rfl⟩
  subst q3
  refine ⟨vs, i2, s2, r2, hi2, q2, by omega, ?_⟩
  rw [show (Wk.rng 0 kn).len = kn from rfl]
  erw [q4]
  rfl
open Classical in
theorem turn_ok (n : Nat) {W : Nat} (hW : 20 ≤ W) (hl : Lot bs) (h5 : bs.length ≤ 7) (rd : Bool) (hi : 0 ≤ i) : ∃ (y14 : Option D) (i' s' r' : Int), 0 ≤ i' ∧
    evSs (callE df ht W (n + 8)) ht W [.as (.v 14) (.bi .tuple [.bi .sorted [.lc (.v 9) (.rng1 (.call 23 [.var 1, .cst (.int 4)])) [] [9] (.call 26 [.var 1, .var 4])]]), .iff (.not (.call 31 [.call 22 [.var 2, .var 3, .var 14], .call 30 [.bi .tuple [.bi .sorted [.bin .add (.var 2) (.var 14)]], .var 3]])) [.ret (.cst (.bl false))] []] [x0, some (.ref 0), some (enc bs), some (.bl rd), some (.lst (allB.map enc)), x5, x6, x7, x8, x9, x10, x11, x12, x13, x14, x15, x16, x17, x18] (hp ns i s r) = .ok (.nx, [x0, some (.ref 0), some (enc bs), some (.bl rd), some (.lst (allB.map enc)), x5, x6, x7, x8, x9, x10, x11, x12, x13, y14, x15, x16, x17, x18]) (hp ns i' s' r') := by
  obtain ⟨vs, i', s', r', hi', hv, hl3, e⟩ := draw_ok ns i s r x0 (some (enc bs)) (some (.bl rd)) x5 x6 x7 x8 x9 x10 x11 x12 x13 x14 x15 x16 x17 x18 (n + 6) hi W
  refine ⟨some (enc (isort leE vs)), i', s', r', hi', ?_⟩
  have so := sorted_enc (α := Bn) (by simp) (h := hp ns i' s' r') (s := .lst (vs.map enc)) (xs := vs) rfl (soB_pair _) (by omega)
  have ov : Oks (isort leE vs) := fun b hb => hv b ((isort_perm vs).mem_iff.mp hb)
  have lv : (isort leE vs).length ≤ 3 := by rw [(isort_perm vs).length_eq]; exact hl3
  have t1 : evS (callE df ht W (n + 8)) ht W (.as (.v 14) (.bi .tuple [.bi .sorted [.lc (.v 9) (.rng1 (.call 23 [.var 1, .cst (.int 4)])) [] [9] (.call 26 [.var 1, .var 4])]])) [x0, some (.ref 0), some (enc bs), some (.bl rd), some (.lst (allB.map enc)), x5, x6, x7, x8, x9, x10, x11, x12, x13, x14, x15, x16, x17, x18] (hp ns i s r) = .ok (.nx, [x0, some (.ref 0), some (enc bs), some (.bl rd), some (.lst (allB.map enc)), x5, x6, x7, x8, x9, x10, x11, x12, x13, some (enc (isort leE vs)), x15, x16, x17, x18]) (hp ns i' s' r') := by
    rw [evS_as, evE_bi, evL_cons, evE_bi, evL_cons, e]
    simp only [bind_ok, evL_nil, so, opt_some, tuple_enc]
    simp
  rw [ss_nx t1]
  have ah := are_helping_ok (W := W) (h := hp ns i' s' r') (n + 2) hl hW (hp_below ns i' s' r') rd ov (isort_pw vs) (by omega)
  have ad := add_enc (hp ns i' s' r') bs (isort leE vs) (by omega)
  have so2 := sorted_enc (α := Bn) (by simp) (h := hp ns i' s' r') (s := enc (bs ++ isort leE vs)) (xs := bs ++ isort leE vs) rfl (soB_pair _) (by rw [List.length_append]; omega)
  have lh := law_has_ok (W := W) (h := hp ns i' s' r') (n + 5) (lw_sorted (oks_app hl.ok ov) (by rw [List.length_append]; omega)) rd
  have al := alike_self (ht := ht) (W := W) (h := hp ns i' s' r') (n + 7) 1 (.bl (decide (Has rd (isort leE (bs ++ isort leE vs))))) rfl
  simp [ah, ad, so2, lh, al]
end
/-! ### bent arguments -/
def wrongL : List D := [.non, .int 1, .str "yes", .int 0]
def lastL : List D := [.non, .lst [], .tup [.tup [.int 1, .int 0]], .tup [.tup [.int 0, .int 1], .tup [.int 0, .int 0]], .str "x", .tup [.tup [.int 7, .int 7]]]
section
variable {bs : List Bn} (ns : List Int) (i s r : Int)
theorem bad21 : ∀ d ∈ badL, callE df ht 100 30 21 [d, .bl true] (hp ns i s r) = .exc 0 [.str "lot"] (hp ns i s r) := by
  intro d hd
  simp only [badL, List.mem_cons, List.not_mem_nil, or_false] at hd
  rcases hd with rfl | rfl | rfl | rfl | rfl | rfl | rfl | rfl | rfl | rfl | rfl <;> kernel_rfl
theorem bad20 : ∀ d ∈ badL, callE df ht 100 30 20 [d, .bl true] (hp ns i s r) = .exc 0 [.str "lot"] (hp ns i s r) := by
  intro d hd
  simp only [badL, List.mem_cons, List.not_mem_nil, or_false] at hd
  rcases hd with rfl | rfl | rfl | rfl | rfl | rfl | rfl | rfl | rfl | rfl | rfl <;> kernel_rfl
theorem wrong_isa (H : Oh) : ∀ d ∈ wrongL, isaD [.bool] H d = some false := by
  intro d hd
  simp only [wrongL, List.mem_cons, List.not_mem_nil, or_false] at hd
  rcases hd with rfl | rfl | rfl | rfl <;> rfl
theorem round_bad (n : Nat) (H : Oh) : callE df ht 100 (n + 1) 1 [.bl false, .str "is_round"] H = .exc 0 [.str "is_round"] H := check_bad n "is_round" (by decide)
theorem wr21 (n : Nat) (hl : Lot bs) (H : Oh) {d : D} (hd : d ∈ wrongL) : callE df ht 100 (n + 6) 21 [enc bs, d] H = .exc 0 [.str "is_round"] H := by
  have wi := wrong_isa H d hd
  rw [callE_eq (d := ⟨2, 5, false, b_missing⟩) rfl]
  refine run_exc rfl ?_
  simp [b_missing, check_lot_ok n hl, wi, round_bad]
theorem wr17 (n : Nat) (hl : Lot bs) (H : Oh) {d : D} (hd : d ∈ wrongL) : callE df ht 100 (n + 6) 17 [enc bs, d] H = .exc 0 [.str "is_round"] H := by
  have wi := wrong_isa H d hd
  rw [callE_eq (d := ⟨2, 2, false, b_fewest_missing⟩) rfl]
  refine run_exc rfl ?_
  simp [b_fewest_missing, check_lot_ok n hl, wi, round_bad]
theorem wr22 (n : Nat) (hl : Lot bs) (H : Oh) {d : D} (hd : d ∈ wrongL) (v : D) : callE df ht 100 (n + 6) 22 [enc bs, d, v] H = .exc 0 [.str "is_round"] H := by
  have wi := wrong_isa H d hd
  rw [callE_eq (d := ⟨3, 7, false, b_are_helping⟩) rfl]
  refine run_exc rfl ?_
  simp [b_are_helping, check_lot_ok n hl, wi, round_bad]
theorem last_q (x0 x1 : Option D) : ∀ d ∈ lastL, evSs (callE df ht 100 29) ht 100 [.iff (.or (.not (.isi [.tuple] (.var 2))) (.not (.al true (.v 3) (.seq (.var 2)) [] [3] (.call 3 [.var 3])))) [.ret (.cst (.bl false))] [],
    .iff (.not (.al true (.t [.v 4, .v 5]) (.zip (.var 2) (.sl (.var 2) [.cst (.int 1)] [])) [] [4, 5] (.cmp .le (.var 4) (.var 5)))) [.ret (.cst (.bl false))] [],
    .as (.v 6) (.bi .tuple [.bi .sorted [.bin .add (.var 0) (.var 2)]]),
    .ret (.ite (.var 1) (.call 12 [.var 6]) (.call 11 [.var 6]))] [x0, x1, some d, none, none, none, none] (hp ns i s r) = .ok (.rt (.bl false), [x0, x1, some d, none, none, none, none]) (hp ns i s r) := by
  intro d hd
  simp only [lastL, List.mem_cons, List.not_mem_nil, or_false] at hd
  rcases hd with rfl | rfl | rfl | rfl | rfl | rfl <;> kernel_rfl
theorem last22 (hl : Lot bs) (rd : Bool) {d : D} (hd : d ∈ lastL) : callE df ht 100 30 22 [enc bs, .bl rd, d] (hp ns i s r) = .ok (.bl false) (hp ns i s r) := by
  rw [show (30 : Nat) = 29 + 1 from rfl, callE_eq (d := ⟨3, 7, false, b_are_helping⟩) rfl]
  refine run_rt (env := [some (enc bs), some (.bl rd), some d, none, none, none, none]) rfl ?_
  show evSs (callE df ht 100 29) ht 100 b_are_helping [some (enc bs), some (.bl rd), some d, none, none, none, none] (hp ns i s r) = _
  have t1 : evS (callE df ht 100 29) ht 100 (.ex (.call 5 [.var 0])) [some (enc bs), some (.bl rd), some d, none, none, none, none] (hp ns i s r) = .ok (.nx, [some (enc bs), some (.bl rd), some d, none, none, none, none]) (hp ns i s r) := by
    have c5 : callE df ht 100 29 5 [enc bs] (hp ns i s r) = .ok .non (hp ns i s r) := check_lot_ok (ht := ht) (W := 100) (h := hp ns i s r) 24 hl
    simp [c5]
  have t2 : evS (callE df ht 100 29) ht 100 (.ex (.call 1 [.isi [.bool] (.var 1), .cst (.str "is_round")])) [some (enc bs), some (.bl rd), some d, none, none, none, none] (hp ns i s r) = .ok (.nx, [some (enc bs), some (.bl rd), some d, none, none, none, none]) (hp ns i s r) := by
    have c1 : callE df ht 100 29 1 [.bl true, .str "is_round"] (hp ns i s r) = .ok .non (hp ns i s r) := check_ok (ht := ht) (W := 100) (h := hp ns i s r) 28 (.str "is_round")
    simp [isa_bool, c1]
  unfold b_are_helping
  rw [ss_nx t1, ss_nx t2]
  exact last_q ns i s r _ _ d hd
end
end Lk10

set_option Elab.async false
set_option linter.all false
set_option maxRecDepth 100000
set_option maxHeartbeats 2000000
set_option autoImplicit false
namespace Lk10
open PySem PySem.Spec PyProof.Rows L2 GxR Ev
open Ev.Enc (enc pd)
def dueH : List D := [.tup [.str "bad", .str "lot", .bl true], .tup [.str "bad", .str "is_round", .bl true], .tup [.str "bad", .str "is_round", .bl true], .tup [.str "bad", .str "lot", .bl true], .tup [.str "bad", .str "is_round", .bl true]]
theorem due_ok (c : Nat → List D → Oh → Rs D) (x0 x1 x2 x3 x4 x5 x6 x7 x8 x9 x10 x11 x12 x13 x14 x15 x16 x17 : Option D) (H : Oh) : evE c ht (.lc (.v 18) (.seq (.tup [.cst (.str "lot"), .cst (.str "is_round"), .cst (.str "is_round"), .cst (.str "lot"), .cst (.str "is_round")])) [] [18] (.tup [.cst (.str "bad"), .var 18, .cst (.bl true)])) [x0, x1, x2, x3, x4, x5, x6, x7, x8, x9, x10, x11, x12, x13, x14, x15, x16, x17, none] H = .ok (.lst dueH) H := by kernel_rfl
theorem wrong_list (c : Nat → List D → Oh → Rs D) (env : Ev.En) (H : Oh) : evE c ht (.lst [.cst .non, .cst (.int 1), .cst (.str "yes"), .cst (.int 0)]) env H = .ok (.lst wrongL) H := by kernel_rfl
theorem last_list (c : Nat → List D → Oh → Rs D) (env : Ev.En) (H : Oh) : evE c ht (.lst [.cst .non, .lst [], .tup [.tup [.cst (.int 1), .cst (.int 0)]], .tup [.tup [.cst (.int 0), .cst (.int 1)], .tup [.cst (.int 0), .cst (.int 0)]], .cst (.str "x"), .tup [.tup [.cst (.int 7), .cst (.int 7)]]]) env H = .ok (.lst lastL) H := by kernel_rfl
theorem plain (ns : List Int) : ∃ h, lawE 100 30 ns = .ok (.bl true) h := by
  obtain ⟨p, i1, s1, r1, hi1, hp1, e1⟩ := law_pick_ok (ht := ht) (W := 100) 28 ns 0 82082010 0 [.int 3, .int 5, .int 7] (by omega) (by simp) (by decide)
  obtain ⟨q, rfl, hq1, hq2⟩ : ∃ q : Int, p = .int q ∧ 0 < q ∧ q ≤ 7 := by
    simp only [List.mem_cons, List.not_mem_nil, or_false] at hp1
    rcases hp1 with rfl | rfl | rfl
    · exact ⟨3, rfl, by decide, by decide⟩
    · exact ⟨5, rfl, by decide, by decide⟩
    · exact ⟨7, rfl, by decide, by decide⟩
  obtain ⟨bs, i2, s2, r2, hi2, hl, h5, _, e2⟩ := law_lot_ok (ht := ht) (W := 100) 28 ns i1 s1 r1 5 q hi1 (by decide) (by decide) hq1 hq2
  have h5' : bs.length ≤ 7 := by omega
  obtain ⟨z, i3, s3, r3, hi3, _, _, e3⟩ := law_taken_ok (ht := ht) (W := 100) 29 ns i2 s2 r2 2 hi2 (by decide) (by decide)
  obtain ⟨rd, hrd⟩ : ∃ rd : Bool, decide (z = 0) = rd := ⟨_, rfl⟩
  let x0 : Option D := some (.lk (ns.map .int))
  let x1 : Option D := some (.ref 0)
  let x2 : Option D := some (enc bs)
  let x3 : Option D := some (.bl rd)
  let x4 : Option D := some (.lst (allB.map enc))
  let x7 : Option D := some (.lst ((triedL rd bs).map enc))
  let x10 : Option D := some (.int (msF rd bs))
  let x11 : Option D := some (enc (greedy rd (msF rd bs) bs))
  let x12 : Option D := some (.lst ((helpL rd bs).map enc))
  let C := callE df ht 100 30
  have t0 : evS C ht 100 (.as (.v 1) (.mk [.var 0, .cst (.int 0), .cst (.int 82082010), .cst (.int 0)])) [x0, none, none, none, none, none, none, none, none, none, none, none, none, none, none, none, none, none, none] [] = .ok (.nx, [x0, x1, none, none, none, none, none, none, none, none, none, none, none, none, none, none, none, none, none]) (hp ns 0 82082010 0) := by
    rw [evS_as, evE_mk]
    simp [x0, x1]
    rfl
  have t1 : evS C ht 100 (.as (.t [.v 2, .v 3]) (.tup [.call 25 [.var 1, .cst (.int 5), .call 26 [.var 1, .lst [.cst (.int 3), .cst (.int 5), .cst (.int 7)]]], .cmp .eq (.call 23 [.var 1, .cst (.int 2)]) (.cst (.int 0))])) [x0, x1, none, none, none, none, none, none, none, none, none, none, none, none, none, none, none, none, none] (hp ns 0 82082010 0) = .ok (.nx, [x0, x1, x2, x3, none, none, none, none, none, none, none, none, none, none, none, none, none, none, none]) (hp ns i3 s3 r3) := by
    have e1' : C 26 [.ref 0, .lst [.int 3, .int 5, .int 7]] (hp ns 0 82082010 0) = .ok (.int q) (hp ns i1 s1 r1) := e1
    have e2' : C 25 [.ref 0, .int 5, .int q] (hp ns i1 s1 r1) = .ok (enc bs) (hp ns i2 s2 r2) := e2
    have e3' : C 23 [.ref 0, .int 2] (hp ns i2 s2 r2) = .ok (.int z) (hp ns i3 s3 r3) := e3
    simp [x1, x2, x3, e1', e2', e3', hrd]
  have t2 : evS C ht 100 (.as (.v 4) (.lst [])) [x0, x1, x2, x3, none, none, none, none, none, none, none, none, none, none, none, none, none, none, none] (hp ns i3 s3 r3) = .ok (.nx, [x0, x1, x2, x3, some (.lst []), none, none, none, none, none, none, none, none, none, none, none, none, none, none]) (hp ns i3 s3 r3) := by simp
  obtain ⟨y5, t3⟩ := u3 (W := 100) (h := hp ns i3 s3 r3) x0 x1 x2 x3 none none none none none none none none none none none none none none 30
  have t4 := u4 (W := 100) (h := hp ns i3 s3 r3) x0 x1 y5 none none none none none none none none none none none none none 27 hl rd
  obtain ⟨y9, t5⟩ := u5 (W := 100) (h := hp ns i3 s3 r3) x0 x1 y5 none none none none none none none none none none none none 27 hl rd
  have t6 := u6 (W := 100) ns i3 s3 r3 x0 x1 x4 y5 none x7 none y9 none none none none none none none none none 23 hl (by decide) rd
  have t7 := u7 (W := 100) x0 x1 x2 x3 x4 y5 none none y9 none none none none none none none none C (hp ns i3 s3 r3) hl rd
  have t8 := u8 (W := 100) ns i3 s3 r3 x0 x1 x4 y5 none x7 none y9 x10 none none none none none none none none 22 hl (by decide) rd
  have t9 := u9 (W := 100) x0 x1 x2 x3 x4 y5 none none y9 x10 none none none none none none none 22 (hp ns i3 s3 r3) hl rd
  have t10 := u10 (W := 100) ns i3 s3 r3 x0 x1 x4 y5 none x7 none y9 none none none none none none none 22 hl (by decide) rd
  have t11 := u11 (W := 100) ns i3 s3 r3 x0 x1 y5 none x7 none y9 x11 none none none none none none none 23 hl h5' (by decide) rd
  have t12 := u12 (W := 100) ns i3 s3 r3 x0 x1 x4 y5 none x7 none y9 none none none none none none 22 hl (by decide) rd
  obtain ⟨env', h', t13, y13, y14, i4, s4, r4, hi4, f1, f2⟩ := lop_inv (c := C) (ht := ht) (W := 100) (env := [x0, x1, x2, x3, x4, y5, none, x7, none, y9, x10, x11, x12, none, none, none, none, none, none]) (h := hp ns i3 s3 r3) (t := .v 13)
    (walks_rng1 (e := .cst (.int 6)) (k := 6) (by simp) (by decide)) [.as (.v 14) (.bi .tuple [.bi .sorted [.lc (.v 9) (.rng1 (.call 23 [.var 1, .cst (.int 4)])) [] [9] (.call 26 [.var 1, .var 4])]]), .iff (.not (.call 31 [.call 22 [.var 2, .var 3, .var 14], .call 30 [.bi .tuple [.bi .sorted [.bin .add (.var 2) (.var 14)]], .var 3]])) [.ret (.cst (.bl false))] []]
    (fun j env H => ∃ (y13 y14 : Option D) (i s r : Int), 0 ≤ i ∧ env = [x0, x1, x2, x3, x4, y5, none, x7, none, y9, x10, x11, x12, y13, y14, none, none, none, none] ∧ H = hp ns i s r)
    ⟨none, none, i3, s3, r3, hi3, rfl, rfl⟩
    (fun j env H _ => now_rng)
    (fun j env H x hx ⟨y13, y14, i, s, r, hi, f1, f2⟩ => by
      subst f1 f2
      obtain ⟨z14, i', s', r', hi', e⟩ := turn_ok ns i s r x0 y5 none x7 none y9 x10 x11 x12 (some (.int x)) y14 none none none none 22 (W := 100) (by decide) hl h5' rd hi
      exact ⟨[x0, x1, x2, x3, x4, y5, none, x7, none, y9, x10, x11, x12, some (.int x), y14, none, none, none, none], _, _, by simp, e, some (.int x), z14, i', s', r', hi', rfl, rfl⟩)
  subst f1 f2
  obtain ⟨bad, i5, s5, r5, hi5, hbad, e5⟩ := law_bad_ok ns i4 s4 r4 27 hi4
  obtain ⟨wr, i6, s6, r6, hi6, hwr, e6⟩ := law_pick_ok (ht := ht) (W := 100) 28 ns i5 s5 r5 wrongL hi5 (by simp [wrongL]) (by decide)
  have t14 : evS C ht 100 (.as (.t [.v 15, .v 16]) (.tup [.call 32 [.var 1], .call 26 [.var 1, .lst [.cst .non, .cst (.int 1), .cst (.str "yes"), .cst (.int 0)]]])) [x0, x1, x2, x3, x4, y5, none, x7, none, y9, x10, x11, x12, y13, y14, none, none, none, none] (hp ns i4 s4 r4) = .ok (.nx, [x0, x1, x2, x3, x4, y5, none, x7, none, y9, x10, x11, x12, y13, y14, some bad, some wr, none, none]) (hp ns i6 s6 r6) := by
    have e5' : C 32 [.ref 0] (hp ns i4 s4 r4) = _ := e5
    have e6' : C 26 [.ref 0, .lst wrongL] (hp ns i5 s5 r5) = _ := e6
    rw [evS_as, evE_tup, evL_cons, evE_call, evL_cons]
    simp only [evE_vr, List.getElem?_cons_succ, List.getElem?_cons_zero, vr_some, bind_ok, evL_nil, x1, e5']
    rw [evL_cons, evE_call, evL_cons, evE_vr]
    simp only [List.getElem?_cons_succ, List.getElem?_cons_zero, vr_some, bind_ok]
    rw [evL_cons, wrong_list]
    simp only [bind_ok, evL_nil, e6']
    simp
  let g1 := [x0, x1, x2, x3, x4, y5, none, x7, none, y9, x10, x11, x12, y13, y14, some bad, some wr, none, none]
  have H1 : heardD ht 0 [.str "lot"] = some (.tup [.str "bad", .str "lot", .bl true]) := rfl
  have H2 : heardD ht 0 [.str "is_round"] = some (.tup [.str "bad", .str "is_round", .bl true]) := rfl
  let P := hp ns i6 s6 r6
  have c21 : C 21 [bad, .bl true] P = .exc 0 [.str "lot"] P := bad21 ns i6 s6 r6 bad hbad
  have c20 : C 20 [bad, .bl true] P = .exc 0 [.str "lot"] P := bad20 ns i6 s6 r6 bad hbad
  have w21 : C 21 [enc bs, wr] P = .exc 0 [.str "is_round"] P := wr21 24 hl P hwr
  have w17 : C 17 [enc bs, wr] P = .exc 0 [.str "is_round"] P := wr17 24 hl P hwr
  have w22 : C 22 [enc bs, wr, .tup []] P = .exc 0 [.str "is_round"] P := wr22 24 hl P hwr (.tup [])
  have a1 : evE C ht (.heard (.call 21 [.var 15, .cst (.bl true)])) g1 P = .ok (.tup [.str "bad", .str "lot", .bl true]) P := by
    rw [heard_exc C ht _ P (e := .call 21 [.var 15, .cst (.bl true)]) (k := 0) (vs := [.str "lot"]) (h1 := P) (by simp [g1, c21]), H1, opt_some]
  have a2 : evE C ht (.heard (.call 21 [.var 2, .var 16])) g1 P = .ok (.tup [.str "bad", .str "is_round", .bl true]) P := by
    rw [heard_exc C ht _ P (e := .call 21 [.var 2, .var 16]) (k := 0) (vs := [.str "is_round"]) (h1 := P) (by simp [g1, x2, w21]), H2, opt_some]
  have a3 : evE C ht (.heard (.call 17 [.var 2, .var 16])) g1 P = .ok (.tup [.str "bad", .str "is_round", .bl true]) P := by
    rw [heard_exc C ht _ P (e := .call 17 [.var 2, .var 16]) (k := 0) (vs := [.str "is_round"]) (h1 := P) (by simp [g1, x2, w17]), H2, opt_some]
  have a4 : evE C ht (.heard (.call 20 [.var 15, .cst (.bl true)])) g1 P = .ok (.tup [.str "bad", .str "lot", .bl true]) P := by
    rw [heard_exc C ht _ P (e := .call 20 [.var 15, .cst (.bl true)]) (k := 0) (vs := [.str "lot"]) (h1 := P) (by simp [g1, c20]), H1, opt_some]
  have a5 : evE C ht (.heard (.call 22 [.var 2, .var 16, .tup []])) g1 P = .ok (.tup [.str "bad", .str "is_round", .bl true]) P := by
    rw [heard_exc C ht _ P (e := .call 22 [.var 2, .var 16, .tup []]) (k := 0) (vs := [.str "is_round"]) (h1 := P) (by simp [g1, x2, w22]), H2, opt_some]
  have t15 : evS C ht 100 (.as (.v 17) (.lst [.heard (.call 21 [.var 15, .cst (.bl true)]), .heard (.call 21 [.var 2, .var 16]), .heard (.call 17 [.var 2, .var 16]), .heard (.call 20 [.var 15, .cst (.bl true)]), .heard (.call 22 [.var 2, .var 16, .tup []])])) g1 P = .ok (.nx, [x0, x1, x2, x3, x4, y5, none, x7, none, y9, x10, x11, x12, y13, y14, some bad, some wr, some (.lst dueH), none]) P := by
    rw [evS_as, evE_lst]
    simp only [evL_cons, a1, a2, a3, a4, a5, bind_ok, evL_nil]
    simp [dueH, g1]
  obtain ⟨la, i7, s7, r7, hi7, hla, e7⟩ := law_pick_ok (ht := ht) (W := 100) 28 ns i6 s6 r6 lastL hi6 (by simp [lastL]) (by decide)
  have t16 : evS C ht 100 (.iff (.cmp .isnn (.call 22 [.var 2, .var 3, .call 26 [.var 1, .lst [.cst .non, .lst [], .tup [.tup [.cst (.int 1), .cst (.int 0)]], .tup [.tup [.cst (.int 0), .cst (.int 1)], .tup [.cst (.int 0), .cst (.int 0)]], .cst (.str "x"), .tup [.tup [.cst (.int 7), .cst (.int 7)]]]]]) (.cst (.bl false))) [.ret (.cst (.bl false))] []) [x0, x1, x2, x3, x4, y5, none, x7, none, y9, x10, x11, x12, y13, y14, some bad, some wr, some (.lst dueH), none] P = .ok (.nx, [x0, x1, x2, x3, x4, y5, none, x7, none, y9, x10, x11, x12, y13, y14, some bad, some wr, some (.lst dueH), none]) (hp ns i7 s7 r7) := by
    have e7' : C 26 [.ref 0, .lst lastL] P = _ := e7
    have l22 : C 22 [enc bs, .bl rd, la] (hp ns i7 s7 r7) = _ := last22 ns i7 s7 r7 hl rd hla
    have nn : ∀ h : Oh, cmpD h .isnn (.bl false) (.bl false) = some false := fun _ => rfl
    rw [evS_iff, evE_cmp, evE_call]
    simp only [evL_cons, evE_call, last_list, evE_vr, List.getElem?_cons_succ, List.getElem?_cons_zero, vr_some, bind_ok, x1, x2, x3]
    simp only [bind_ok, evL_nil, e7', l22, evE_cst, cmpB_def, nn, Option.map_some, opt_some, asB_bl]
    simp
  have t17 : evS C ht 100 (.ret (.call 31 [.var 17, .lc (.v 18) (.seq (.tup [.cst (.str "lot"), .cst (.str "is_round"), .cst (.str "is_round"), .cst (.str "lot"), .cst (.str "is_round")])) [] [18] (.tup [.cst (.str "bad"), .var 18, .cst (.bl true)])])) [x0, x1, x2, x3, x4, y5, none, x7, none, y9, x10, x11, x12, y13, y14, some bad, some wr, some (.lst dueH), none] (hp ns i7 s7 r7) = .ok (.rt (.bl true), [x0, x1, x2, x3, x4, y5, none, x7, none, y9, x10, x11, x12, y13, y14, some bad, some wr, some (.lst dueH), none]) (hp ns i7 s7 r7) := by
    have al : C 31 [.lst dueH, .lst dueH] (hp ns i7 s7 r7) = .ok (.bl true) (hp ns i7 s7 r7) := alike_self (ht := ht) (W := 100) (h := hp ns i7 s7 r7) 25 5 (.lst dueH) (by decide)
    rw [evS_ret, evE_call, evL_cons]
    simp only [evE_vr, List.getElem?_cons_succ, List.getElem?_cons_zero, vr_some, bind_ok]
    rw [evL_cons, due_ok]
    simp only [bind_ok, evL_nil, al]
  refine ⟨[], ?_⟩
  have run : evSs C ht 100 b_law [x0, none, none, none, none, none, none, none, none, none, none, none, none, none, none, none, none, none, none] [] = .ok (.rt (.bl true), [x0, x1, x2, x3, x4, y5, none, x7, none, y9, x10, x11, x12, y13, y14, some bad, some wr, some (.lst dueH), none]) (hp ns i7 s7 r7) := by
    unfold b_law
    refine (ss_nx t0).trans ((ss_nx t1).trans ((ss_nx t2).trans ((ss_nx t3).trans ((ss_nx t4).trans ((ss_nx t5).trans ((ss_nx t6).trans ((ss_nx t7).trans ((ss_nx t8).trans ((ss_nx t9).trans ((ss_nx t10).trans ((ss_nx t11).trans ((ss_nx t12).trans ((ss_nx t13).trans ((ss_nx t14).trans ((ss_nx t15).trans ((ss_nx t16).trans ?_))))))))))))))))
    rw [evSs_cons, t17, bind_ok]
  unfold lawE runD
  have e0 : (List.map some [D.lk (ns.map .int)] ++ List.replicate (19 - 1) none : Ev.En) = [x0, none, none, none, none, none, none, none, none, none, none, none, none, none, none, none, none, none, none] := rfl
  simp only [e0]
  have run' : evSs (callE df ht 100 30) ht 100 b_law [x0, none, none, none, none, none, none, none, none, none, none, none, none, none, none, none, none, none, none] [] = _ := run
  simp only [run']
  simp [fin, below]
end Lk10

theorem PySem.Challenge.cw_dominorows_k10_missing_bones_holds : PySem.Challenge.rw_dominorows_k10_missing_bones.Holds := by
  exact Lk10.holds (W := 100) fun ns _ _ => Lk10.plain ns

